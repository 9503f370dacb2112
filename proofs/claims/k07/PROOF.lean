import PyProof.Rows.All
import Wide.All
import OpenK.AllK
import Wide.FinOn
import HandS.ForMost
import HandS.Wide
import HandS.SortRule
import HandS.SortInts
import HandS.TryOnly
import HandS.IsInst
import HandS.TupAny
import HandS.Deep
import HandS.RaiseMore
import HandS.CallSlots
import HandS.Flow
import HandS.EndOwn
import HandS.Words
import HandS.Codes
import PySem.Challenge.RW_dialpack_k07_ways_and_joined_turns
set_option Elab.async false
set_option pp.maxSteps 400
set_option linter.all false
set_option maxRecDepth 100000
set_option maxHeartbeats 8000000
/-! DpA: data, the small language, its weakest precondition over data. -/
namespace DP

/-- data; a list's flag tells that it is this owner's alone (it may be changed) -/
inductive D where
  | non | bl (b : Bool) | int (i : Int) | str (s : PySem.Str)
  | tup (xs : List D) | lst (o : Bool) (xs : List D)

mutual
/-- nothing in it may be changed any more -/
def D.fz : D → D
  | .tup xs => .tup (fzL xs)
  | .lst _ xs => .lst false (fzL xs)
  | .non => .non
  | .bl b => .bl b
  | .int i => .int i
  | .str s => .str s
def fzL : List D → List D
  | [] => []
  | x :: xs => x.fz :: fzL xs
end
mutual
def D.isFz : D → Bool
  | .tup xs => isFzL xs
  | .lst o xs => !o && isFzL xs
  | .non => true
  | .bl _ => true
  | .int _ => true
  | .str _ => true
def isFzL : List D → Bool
  | [] => true
  | x :: xs => x.isFz && isFzL xs
end
mutual
def D.py : D → PySem.PyData
  | .non => .none
  | .bl b => .bool b
  | .int i => .int i
  | .str s => .str s
  | .tup xs => .tuple (pyL xs)
  | .lst _ xs => .list (pyL xs)
def pyL : List D → List PySem.PyData
  | [] => []
  | x :: xs => x.py :: pyL xs
end

structure Exc where
  cls : String
  arg : Option (String × D)

inductive Op | add | sub | mul | fdiv | mod | pow | shl | shr | band
  deriving DecidableEq
inductive CO | eq | ne | lt | le | gt | ge | isin | nin | is_ | isnt
  deriving DecidableEq
inductive BI | len | abs | min2 | max2 | minL | maxL | sum | all | any | sorted | list | tuple | str | int | repr | bool
  deriving DecidableEq

mutual
inductive E where
  | var (i : Nat) | mov (i : Nat) | con (d : D) | glo (x : String) (d : D)
  | bin (o : Op) (a b : E) | neg (a : E) | nt (a : E) | bo (isAnd : Bool) (as : Es)
  | cmp (o : CO) (a b : E) | chn (o p : CO) (a b c : E) | ife (c a b : E)
  | call (f : String) (as : Es) | calk (f : String) (as : Es) (ks : List String) (bs : Es)
  | bi (b : BI) (as : Es) | isi (a : E) (t : String)
  | sub (a i : E) | slc (a : E) (lo hi : Eo)
  | tup (as : Es) | lst (as : Es) | rpr (isTup : Bool) (as : Es)
  | lc (elt : E) (t : T) (it : I) (ifs : Es) (own : List Nat)
inductive Es where
  | nil | cons (a : E) (as : Es)
inductive Eo where
  | no | yes (a : E)
inductive T where
  | nm (i : Nat) | tp (ts : Ts)
inductive Ts where
  | nil | cons (t : T) (ts : Ts)
inductive I where
  | ex (a : E) | rng1 (a : E) | rng2 (a b : E) | rng3 (a b c : E) | zip2 (a b : E) | enum (a : E) | rev (a : E)
end
mutual
inductive S where
  | nev | asg (t : T) (e : E) | par (is : List Nat) (es : Es)
  | pst (i : Nat) (ix e : E) | aug (i : Nat) (o : Op) (e : E) | pag (i : Nat) (ix : E) (o : Op) (e : E)
  | app (i : Nat) (e : E) | exp (e : E)
  | ite (c : E) (a b : Ss) | for_ (t : T) (it : I) (b : Ss) | whl (c : E) (b : Ss)
  | ret (e : E) | rtn | brk | cnt | pas
inductive Ss where
  | nil | cons (a : S) (as : Ss)
end

def Es.len : Es → Nat
  | .nil => 0
  | .cons _ as => as.len + 1
abbrev Env := List (Option D)
/-- a def's promise over data: the arguments; what is wanted of the answer and of the arguments that may change; of an error -/
abbrev FSpec := List D → (D → List D → Prop) → (Exc → Prop) → Prop
structure Sig where
  sp : String → FSpec
  /-- which parameters may be changed by the def -/
  ios : String → List Bool
  ps : String → List String
  /-- the slots that the running def may change for its caller -/
  me : List Nat

abbrev KD := D → Env → Prop
abbrev KX := Exc → Env → Prop

/-- repeated -/
def repD (xs : List D) : Nat → List D
  | 0 => []
  | n + 1 => xs ++ repD xs n
def PowOk (i j : Int) : Prop := 0 ≤ j ∧ (PySem.Builtin.Int.intBits i : Int) * j ≤ 2 ^ 27
def binD : Op → D → D → (D → Prop) → Prop
  | .add, .int i, .int j, Q => Q (.int (i + j))
  | .add, .str a, .str b, Q => a.length + b.length ≤ PySem.sizeLine ∧ Q (.str (a ++ b))
  | .add, .lst _ a, .lst _ b, Q => a.length + b.length ≤ PySem.sizeLine ∧ Q (.lst true (a ++ b))
  | .add, .tup a, .tup b, Q => a ≠ [] ∧ b ≠ [] ∧ a.length + b.length ≤ PySem.sizeLine ∧ Q (.tup (a ++ b))
  | .sub, .int i, .int j, Q => Q (.int (i - j))
  | .mul, .int i, .int j, Q => L2.CMulW i j ∧ Q (.int (i * j))
  | .mul, .lst _ a, .int k, Q => -(2 ^ 63) ≤ k ∧ k < 2 ^ 63 ∧ a.length * k.toNat ≤ PySem.sizeLine ∧ Q (.lst true (repD (fzL a) k.toNat))
  | .fdiv, .int i, .int j, Q => L2.CDivW i j ∧ Q (.int (i / j))
  | .mod, .int i, .int j, Q => 0 < j ∧ Q (.int (i % j))
  | .pow, .int i, .int j, Q => PowOk i j ∧ Q (.int (i ^ j.toNat))
  | .shl, .int i, .int j, Q => L2.CPow i j ∧ Q (.int (i * 2 ^ j.toNat))
  | .shr, .int i, .int j, Q => 0 ≤ j ∧ Q (.int (i / 2 ^ j.toNat))
  | .band, .int i, .int j, Q => Q (.int (PySem.Builtin.bitAnd i j))
  | _, _, _, _ => False
/-- in place: ints alone -/
def augD : Op → D → D → (D → Prop) → Prop
  | .add, .int i, .int j, Q => Q (.int (i + j))
  | .sub, .int i, .int j, Q => Q (.int (i - j))
  | .mul, .int i, .int j, Q => L2.CMulW i j ∧ Q (.int (i * j))
  | .mod, .int i, .int j, Q => 0 < j ∧ Q (.int (i % j))
  | _, _, _, _ => False
def eqG (x y : D) (Q : Bool → Prop) : Prop := PySem.SeqAt.shaped x.py = true ∧ PySem.SeqAt.shaped y.py = true ∧ Q (PySem.PyData.eqv x.py y.py)
def eqD : D → D → (Bool → Prop) → Prop
  | .str a, .str b, Q => Q (decide (a = b))
  | x, y, Q => eqG x y Q
def D.isNon : D → Bool
  | .non => true
  | _ => false
def szD : D → Prop
  | .str z => z.length ≤ PySem.sizeLine
  | _ => True
def flatD : D → Bool
  | .non => true | .bl _ => true | .int _ => true | .str _ => true | _ => false
def inD (x : D) (xs : List D) : Bool := xs.any fun y => PySem.PyData.eqv y.py x.py
def cmpD : CO → D → D → (Bool → Prop) → Prop
  | .eq, x, y, Q => eqD x y Q
  | .ne, x, y, Q => eqD x y fun b => Q (!b)
  | .lt, .int i, .int j, Q => Q (decide (i < j))
  | .le, .int i, .int j, Q => Q (decide (i ≤ j))
  | .gt, .int i, .int j, Q => Q (decide (j < i))
  | .ge, .int i, .int j, Q => Q (decide (j ≤ i))
  | .is_, x, .non, Q => Q x.isNon
  | .isnt, x, .non, Q => Q (!x.isNon)
  | .isin, x, .lst _ ys, Q => PySem.SeqAt.shaped x.py = true ∧ PySem.SeqAt.shaped (.list (pyL ys)) = true ∧ Q (inD x ys)
  | .nin, x, .lst _ ys, Q => PySem.SeqAt.shaped x.py = true ∧ PySem.SeqAt.shaped (.list (pyL ys)) = true ∧ Q (!inD x ys)
  | .isin, x, .tup ys, Q => flatD x = true ∧ ys.all flatD = true ∧ Q (inD x ys)
  | .nin, x, .tup ys, Q => flatD x = true ∧ ys.all flatD = true ∧ Q (!inD x ys)
  | .isin, .str a, .str z, Q => ∃ c, a = ⟨#[c]⟩ ∧ Q (decide (c ∈ z.cps.toList))
  | .nin, .str a, .str z, Q => ∃ c, a = ⟨#[c]⟩ ∧ Q (!decide (c ∈ z.cps.toList))
  | _, _, _, _ => False
def truthD : D → Bool
  | .non => false | .bl b => b | .int i => i != 0 | .str s => s.length != 0 | .tup xs => !xs.isEmpty | .lst _ xs => !xs.isEmpty
/-- a value's truth is asked -/
def truD (d : D) (Q : Bool → Prop) : Prop := szD d ∧ Q (truthD d)
/-- x[k] -/
def subD : D → D → Option D
  | .lst _ xs, .int i => L2.atI xs i
  | .tup xs, .int i => L2.atI xs i
  | .str z, .int i => (L2.atI z.cps.toList i).map fun c => .str ⟨#[c]⟩
  | _, _ => none
def cutD (xs : List D) (lo hi : Option Int) : List D := (xs.drop (HT.sIx xs.length 0 lo)).take (HT.sIx xs.length xs.length hi - HT.sIx xs.length 0 lo)
/-- x[lo:hi] -/
def slcD : D → Option Int → Option Int → (D → Prop) → Prop
  | .lst _ xs, lo, hi, Q => Q (.lst true (fzL (cutD xs lo hi)))
  | .str z, lo, hi, Q => z.length ≤ PySem.sizeLine ∧ Q (.str (L2.cutS z lo hi))
  | .tup xs, lo, hi, Q => (cutD xs lo hi).length ≠ xs.length ∧ Q (.tup (fzL (cutD xs lo hi)))
  | _, _, _, _ => False
def iterD : D → Option (List D)
  | .lst _ xs => some xs
  | .tup xs => some xs
  | .str z => some (z.cps.toList.map fun c => .str ⟨#[c]⟩)
  | _ => none
def rngD (lo : Int) (n : Nat) (c : Int) : List D := (List.range n).map fun k => .int (lo + (k : Nat) * c)
def intsD : List D → Option (List Int)
  | [] => some []
  | .int i :: xs => (intsD xs).map (i :: ·)
  | _ :: _ => none
def blsD : List D → Option (List Bool)
  | [] => some []
  | .bl i :: xs => (blsD xs).map (i :: ·)
  | _ :: _ => none
def prsD : List D → Option (List (Int × Int))
  | [] => some []
  | .tup [.int i, .int j] :: xs => (prsD xs).map ((i, j) :: ·)
  | _ :: _ => none
def prD (p : Int × Int) : D := .tup [.int p.1, .int p.2]
def lexLe (p q : Int × Int) : Prop := p.1 < q.1 ∨ (p.1 = q.1 ∧ p.2 ≤ q.2)
def seqD : D → Option (List D)
  | .lst _ xs => some xs
  | .tup xs => some xs
  | _ => none
def lstD : D → Option (List D)
  | .lst _ xs => some xs
  | _ => none
def biD : BI → List D → (D → Prop) → Prop
  | .len, [.lst _ xs], Q => Q (.int xs.length)
  | .len, [.tup xs], Q => Q (.int xs.length)
  | .len, [.str s], Q => s.length ≤ PySem.sizeLine ∧ Q (.int s.length)
  | .abs, [.int i], Q => Q (.int (if i < 0 then -i else i))
  | .min2, [.int i, .int j], Q => Q (.int (if j < i then j else i))
  | .max2, [.int i, .int j], Q => Q (.int (if j > i then j else i))
  | .minL, [.lst _ xs], Q => ∃ ns, intsD xs = some ns ∧ 0 < ns.length ∧ ∀ m, m ∈ ns → (∀ y, y ∈ ns → m ≤ y) → Q (.int m)
  | .maxL, [.lst _ xs], Q => ∃ ns, intsD xs = some ns ∧ 0 < ns.length ∧ ∀ m, m ∈ ns → (∀ y, y ∈ ns → y ≤ m) → Q (.int m)
  | .sum, [.lst _ xs], Q => ∃ ns, intsD xs = some ns ∧ Q (.int ns.sum)
  | .all, [.lst _ xs], Q => ∃ bs, blsD xs = some bs ∧ Q (.bl (bs.all id))
  | .any, [.lst _ xs], Q => ∃ bs, blsD xs = some bs ∧ Q (.bl (bs.any id))
  | .sorted, [.lst _ xs], Q => (∃ ns, intsD xs = some ns ∧ ∀ ns' : List Int, ns'.Perm ns → ns'.Pairwise (· ≤ ·) → Q (.lst true (ns'.map .int))) ∨
      (∃ ps, prsD xs = some ps ∧ ∀ ps' : List (Int × Int), ps'.Perm ps → ps'.Pairwise lexLe → Q (.lst true (ps'.map prD)))
  | .list, [.lst _ xs], Q => isFzL xs = true ∧ Q (.lst true xs)
  | .list, [.tup xs], Q => isFzL xs = true ∧ Q (.lst true xs)
  | .tuple, [.lst _ xs], Q => isFzL xs = true ∧ Q (.tup xs)
  | .str, [.int i], Q => i.natAbs.log2 < 1920 ∧ Q (.str (toString i))
  | .str, [.str s], Q => Q (.str s)
  | .int, [.int i], Q => Q (.int i)
  | .int, [.bl b], Q => Q (.int (if b then 1 else 0))
  | .repr, [x], Q => x.py.showable = true ∧ x.py.depth ≤ 64 ∧ x.py.shown.length ≤ PySem.sizeLine ∧ Q (.str x.py.shown)
  | .bool, [.int i], Q => Q (.bl (i != 0))
  | .bool, [.bl b], Q => Q (.bl b)
  | _, _, _ => False
/-- the written builtin class t of a value -/
def isiD : D → String → Option Bool
  | .non, t => L2.kitB "NoneType" t
  | .bl _, t => L2.kitB "bool" t
  | .int _, t => L2.kitB "int" t
  | .str _, t => L2.kitB "str" t
  | .tup _, t => L2.kitB "tuple" t
  | .lst _ _, t => L2.kitB "list" t

def get (env : Env) (i : Nat) (Q : D → Prop) : Prop := match env[i]? with
  | some (some d) => Q d
  | _ => False
/-- a name that is only looked at -/
def bor (a : E) (w : KD → Prop) (env : Env) (Q : KD) : Prop := match a with
  | .var i => get env i fun d => Q d env
  | _ => w Q
def still (a : E) (x : D) (env : Env) : Prop := match a with
  | .var i => env[i]? = some (some x)
  | _ => True
def stills : Es → List D → Env → Prop
  | .cons a as, x :: xs, env => still a x env ∧ stills as xs env
  | .nil, [], _ => True
  | _, _, _ => False
/-- behind x[k]: the element is shared from now on -/
def shareAt (a : E) (x el : D) (env : Env) : Env := match a with
  | .var i => if el.isFz then env else env.set i (some x.fz)
  | _ => env
mutual
def setT (me : List Nat) : T → D → Env → (Env → Prop) → Prop
  | .nm i, d, env, Q => i ∉ me ∧ i < env.length ∧ Q (env.set i (some d))
  | .tp ts, .tup ds, env, Q => setTs me ts ds env Q
  | .tp ts, .lst _ ds, env, Q => setTs me ts ds env Q
  | .tp _, _, _, _ => False
def setTs (me : List Nat) : Ts → List D → Env → (Env → Prop) → Prop
  | .nil, [], env, Q => Q env
  | .cons t ts, d :: ds, env, Q => setT me t d env fun env' => setTs me ts ds env' Q
  | _, _, _, _ => False
end
def putAll : List Nat → List D → Env → Env
  | i :: is, d :: ds, env => putAll is ds (env.set i (some d))
  | _, _, env => env
def wipeE : List Nat → Env → Env
  | [], env => env
  | i :: is, env => (wipeE is env).set i none
/-- behind a comprehension: what its own names were, where nobody could change it -/
def backE (old : Env) : List Nat → Env → Env
  | [], env => env
  | i :: is, env => (backE old is env).set i (match old[i]? with
    | some (some d) => if d.isFz then some d else none
    | _ => none)
/-- where each parameter's value stands among the values by position, then those by keyword -/
def kwIx (ps ks : List String) (n : Nat) : Option (List Nat) := ((ps.drop n).mapM fun p => (ks.idxOf? p).map (n + ·)).map fun r => List.range n ++ r
def atAll {α : Type} (l : List α) (ix : List Nat) : List α := ix.filterMap fun j => l[j]?
mutual
def wpE (Γ : Sig) : E → Env → KD → KX → Prop
  | .var i, env, Q, _ => get env i fun d => Q d.fz (env.set i (some d.fz))
  | .mov i, env, Q, _ => i ∉ Γ.me ∧ get env i fun d => Q d (env.set i none)
  | .con d, env, Q, _ => Q d env
  | .glo _ d, env, Q, _ => Q d env
  | .bin o a b, env, Q, R => wpE Γ a env (fun x env1 => wpE Γ b env1 (fun y env2 => binD o x y fun d => Q d env2) R) R
  | .neg a, env, Q, R => wpE Γ a env (fun x env1 => ∃ i, x = .int i ∧ Q (.int (-i)) env1) R
  | .nt a, env, Q, R => wpE Γ a env (fun x env1 => truD x fun c => Q (.bl (!c)) env1) R
  | .bo k as, env, Q, R => wpBo Γ k as env Q R
  | .cmp o a b, env, Q, R => bor a (fun Q' => wpE Γ a env Q' R) env fun x env1 => bor b (fun Q' => wpE Γ b env1 Q' R) env1 fun y env2 => still a x env2 ∧ cmpD o x y fun c => Q (.bl c) env2
  | .chn o p a b c, env, Q, R => wpE Γ a env (fun x env1 => wpE Γ b env1 (fun y env2 => cmpD o x y fun k => if k = true then wpE Γ c env2 (fun z env3 => cmpD p y z fun k' => Q (.bl k') env3) R else Q (.bl false) env2) R) R
  | .ife c a b, env, Q, R => wpT Γ c env (fun k env1 => if k = true then wpE Γ a env1 Q R else wpE Γ b env1 Q R) R
  | .call f as, env, Q, R => wpA Γ as (Γ.ios f) env (fun ds tk env1 => Γ.sp f ds (fun r outs => outs.length = tk.length ∧ Q r (putAll tk outs env1)) fun x => R x env1) R
  | .calk f as ks bs, env, Q, R => wpEs Γ as env (fun ds env1 => wpEs Γ bs env1 (fun es env2 => (Γ.ios f).all (! ·) = true ∧ ∃ ix, kwIx (Γ.ps f) ks ds.length = some ix ∧ Γ.sp f (atAll (fzL (ds ++ es)) ix) (fun r outs => outs = [] ∧ Q r env2) fun x => R x env2) R) R
  | .bi b as, env, Q, R => wpBs Γ as env (fun ds env1 => stills as ds env1 ∧ biD b ds fun d => Q d env1) R
  | .isi a t, env, Q, R => bor a (fun Q' => wpE Γ a env Q' R) env fun x env1 => ∃ b, isiD x t = some b ∧ Q (.bl b) env1
  | .sub a i, env, Q, R => bor a (fun Q' => wpE Γ a env Q' R) env fun x env1 => wpE Γ i env1 (fun k env2 => still a x env2 ∧ szD x ∧ (∃ n, k = .int n) ∧ ∃ el, subD x k = some el ∧ Q el.fz (shareAt a x el env2)) R
  | .slc a lo hi, env, Q, R => wpE Γ a env (fun x env1 => wpO Γ lo env1 (fun l env2 => wpO Γ hi env2 (fun h env3 => slcD x l h fun d => Q d env3) R) R) R
  | .tup as, env, Q, R => wpEs Γ as env (fun ds env1 => ds.length ≤ PySem.sizeLine ∧ Q (.tup ds) env1) R
  | .lst as, env, Q, R => wpEs Γ as env (fun ds env1 => ds.length ≤ PySem.sizeLine ∧ Q (.lst true ds) env1) R
  | .rpr k as, env, Q, R => wpBs Γ as env (fun ds env1 => stills as ds env1 ∧ ds.length ≤ PySem.sizeLine ∧ biD .repr [if k = true then .tup ds else .lst true ds] fun d => Q d env1) R
  | .lc elt t it ifs own, env, Q, R => wpI Γ it env (fun items env1 =>
      (items.foldr (fun x k acc e => setT [] t x e fun e2 => wpTs Γ ifs e2 (fun b e3 => if b = true then wpE Γ elt e3 (fun d e4 => acc.length < PySem.sizeLine ∧ k (acc ++ [d]) (wipeE own e4)) (fun _ _ => False) else k acc (wipeE own e3)) (fun _ _ => False))
        (fun acc e => Q (.lst true acc) (backE env1 own e))) [] (wipeE own env1)) R
def wpEs (Γ : Sig) : Es → Env → (List D → Env → Prop) → KX → Prop
  | .nil, env, Q, _ => Q [] env
  | .cons a as, env, Q, R => wpE Γ a env (fun d env1 => wpEs Γ as env1 (fun ds env2 => Q (d :: ds) env2) R) R
def wpBs (Γ : Sig) : Es → Env → (List D → Env → Prop) → KX → Prop
  | .nil, env, Q, _ => Q [] env
  | .cons a as, env, Q, R => bor a (fun Q' => wpE Γ a env Q' R) env fun d env1 => wpBs Γ as env1 (fun ds env2 => Q (d :: ds) env2) R
def wpA (Γ : Sig) : Es → List Bool → Env → (List D → List Nat → Env → Prop) → KX → Prop
  | .nil, _, env, Q, _ => Q [] [] env
  | .cons (.var i) as, true :: bs, env, Q, R => get env i fun _ => wpA Γ as bs env (fun ds tk env2 => get env2 i fun d => Q (d :: ds) (i :: tk) (env2.set i none)) R
  | .cons _ _, true :: _, _, _, _ => False
  | .cons a as, false :: bs, env, Q, R => wpE Γ a env (fun d env1 => wpA Γ as bs env1 (fun ds tk env2 => Q (d.fz :: ds) tk env2) R) R
  | .cons a as, [], env, Q, R => wpE Γ a env (fun d env1 => wpA Γ as [] env1 (fun ds tk env2 => Q (d.fz :: ds) tk env2) R) R
def wpO (Γ : Sig) : Eo → Env → (Option Int → Env → Prop) → KX → Prop
  | .no, env, Q, _ => Q none env
  | .yes a, env, Q, R => wpE Γ a env (fun d env1 => ∃ i, d = .int i ∧ Q (some i) env1) R
def wpBo (Γ : Sig) (k : Bool) : Es → Env → KD → KX → Prop
  | .nil, _, _, _ => False
  | .cons a .nil, env, Q, R => wpE Γ a env Q R
  | .cons a as, env, Q, R => wpE Γ a env (fun x env1 => truD x fun c => if c = k then wpBo Γ k as env1 Q R else Q x env1) R
/-- a test -/
def wpT (Γ : Sig) : E → Env → (Bool → Env → Prop) → KX → Prop
  | .nt a, env, Q, R => wpT Γ a env (fun c env1 => Q (!c) env1) R
  | .bo k as, env, Q, R => wpTo Γ k as env Q R
  | .cmp o a b, env, Q, R => bor a (fun Q' => wpE Γ a env Q' R) env fun x env1 => bor b (fun Q' => wpE Γ b env1 Q' R) env1 fun y env2 => still a x env2 ∧ cmpD o x y fun c => Q c env2
  | .chn o p a b c, env, Q, R => wpE Γ a env (fun x env1 => wpE Γ b env1 (fun y env2 => cmpD o x y fun k => if k = true then wpE Γ c env2 (fun z env3 => cmpD p y z fun k' => Q k' env3) R else Q false env2) R) R
  | .isi a t, env, Q, R => bor a (fun Q' => wpE Γ a env Q' R) env fun x env1 => ∃ b, isiD x t = some b ∧ Q b env1
  | .call f as, env, Q, R => wpA Γ as (Γ.ios f) env (fun ds tk env1 => Γ.sp f ds (fun r outs => outs.length = tk.length ∧ truD r fun b => Q b (putAll tk outs env1)) fun x => R x env1) R
  | .var i, env, Q, _ => get env i fun d => truD d fun b => Q b env
  | .bi b as, env, Q, R => wpBs Γ as env (fun ds env1 => stills as ds env1 ∧ biD b ds fun d => truD d fun k => Q k env1) R
  | _, _, _, _ => False
def wpTo (Γ : Sig) (k : Bool) : Es → Env → (Bool → Env → Prop) → KX → Prop
  | .nil, _, _, _ => False
  | .cons a .nil, env, Q, R => wpT Γ a env Q R
  | .cons a as, env, Q, R => wpT Γ a env (fun c env1 => if c = k then wpTo Γ k as env1 Q R else Q (!k) env1) R
def wpTs (Γ : Sig) : Es → Env → (Bool → Env → Prop) → KX → Prop
  | .nil, env, Q, _ => Q true env
  | .cons a .nil, env, Q, R => wpT Γ a env Q R
  | .cons _ _, _, _, _ => False
def wpI (Γ : Sig) : I → Env → (List D → Env → Prop) → KX → Prop
  | .ex a, env, Q, R => wpE Γ a env (fun d env1 => ∃ xs, iterD d = some xs ∧ Q (fzL xs) env1) R
  | .rng1 a, env, Q, R => wpE Γ a env (fun d env1 => ∃ n, d = .int n ∧ -(2 ^ 62) ≤ n ∧ n < 2 ^ 62 ∧ Q (rngD 0 n.toNat 1) env1) R
  | .rng2 a b, env, Q, R => wpE Γ a env (fun d env1 => wpE Γ b env1 (fun e env2 => ∃ i j, d = .int i ∧ e = .int j ∧ (-(2 ^ 62) ≤ i ∧ i < 2 ^ 62 ∧ -(2 ^ 62) ≤ j ∧ j < 2 ^ 62) ∧ Q (rngD i (j - i).toNat 1) env2) R) R
  | .rng3 a b c, env, Q, R => wpE Γ a env (fun d env1 => wpE Γ b env1 (fun e env2 => wpE Γ c env2 (fun f env3 => ∃ i j s n, d = .int i ∧ e = .int j ∧ f = .int s ∧ L2.RgC i j s n ∧ Q (rngD i n s) env3) R) R) R
  | .zip2 a b, env, Q, R => wpE Γ a env (fun d env1 => wpE Γ b env1 (fun e env2 => ∃ xs ys, lstD d = some xs ∧ lstD e = some ys ∧ Q ((fzL xs).zipWith (fun x y => .tup [x, y]) (fzL ys)) env2) R) R
  | .enum a, env, Q, R => wpE Γ a env (fun d env1 => ∃ xs, lstD d = some xs ∧ Q ((fzL xs).zipIdx.map fun p => .tup [.int p.2, p.1]) env1) R
  | .rev a, env, Q, R => wpE Γ a env (fun d env1 => ∃ xs, lstD d = some xs ∧ Q (fzL xs).reverse env1) R
end

structure Con where
  nx : Env → Prop
  rt : D → Env → Prop
  bk : Env → Prop
  ct : Env → Prop
  ex : Exc → Env → Prop

mutual
def wpS (Γ : Sig) : S → Env → Con → Prop
  | .nev, _, _ => False
  | .asg t e, env, K => wpE Γ e env (fun d env1 => setT Γ.me t d env1 K.nx) K.ex
  | .par is es, env, K => wpEs Γ es env (fun ds env1 => ds.length = is.length ∧ is.all (fun i => decide (i ∉ Γ.me ∧ i < env1.length)) = true ∧ K.nx (putAll is ds env1)) K.ex
  | .pst i ix e, env, K => wpE Γ e env (fun d env1 => get env1 i fun _ => wpE Γ ix env1 (fun k env2 => get env2 i fun x => ∃ xs n j, x = .lst true xs ∧ k = .int n ∧ L2.ixN xs.length n = some j ∧ K.nx (env2.set i (some (.lst true (xs.set j d))))) K.ex) K.ex
  | .aug i o e, env, K => get env i fun x => flatD x = true ∧ i ∉ Γ.me ∧ wpE Γ e env (fun d env1 => augD o x d fun r => K.nx (env1.set i (some r))) K.ex
  | .pag i ix o e, env, K => get env i fun _ => wpE Γ ix env (fun k env1 => get env1 i fun x => ∃ xs n el, x = .lst true xs ∧ k = .int n ∧ L2.atI xs n = some el ∧ flatD el = true ∧ wpE Γ e env1 (fun d env2 => augD o el d fun r => get env2 i fun y => ∃ ys j, y = .lst true ys ∧ L2.ixN ys.length n = some j ∧ K.nx (env2.set i (some (.lst true (ys.set j r))))) K.ex) K.ex
  | .app i e, env, K => get env i fun x => (∃ xs, x = .lst true xs) ∧ wpE Γ e env (fun d env1 => get env1 i fun y => ∃ ys, y = .lst true ys ∧ ys.length < PySem.sizeLine ∧ K.nx (env1.set i (some (.lst true (ys ++ [d]))))) K.ex
  | .exp e, env, K => wpE Γ e env (fun _ env1 => K.nx env1) K.ex
  | .ite c a b, env, K => wpT Γ c env (fun k env1 => if k = true then wpSs Γ a env1 K else wpSs Γ b env1 K) K.ex
  | .for_ t it b, env, K => wpI Γ it env (fun items env1 =>
      (items.foldr (fun x k e => setT Γ.me t x e fun e2 => wpSs Γ b e2 { K with nx := k, ct := k, bk := K.nx }) K.nx) env1) K.ex
  | .whl c b, env, K => ∃ W : Nat → Env → Prop, (∃ m, W m env) ∧ ∀ m e, W m e → wpT Γ c e (fun k e1 => if k = true then wpSs Γ b e1 { K with nx := fun e2 => ∃ m', m' < m ∧ W m' e2, ct := fun e2 => ∃ m', m' < m ∧ W m' e2, bk := K.nx } else K.nx e1) K.ex
  | .ret e, env, K => wpE Γ e env K.rt K.ex
  | .rtn, env, K => K.rt .non env
  | .brk, env, K => K.bk env
  | .cnt, env, K => K.ct env
  | .pas, env, K => K.nx env
def wpSs (Γ : Sig) : Ss → Env → Con → Prop
  | .nil, env, K => K.nx env
  | .cons a as, env, K => wpS Γ a env { K with nx := fun e => wpSs Γ as e K }
end

/-- a def: its parameters, how many other local names, its body -/
structure FD where
  ps : List String
  loc : List String
  body : Ss
def outsOf (env : Env) : List Nat → Option (List D)
  | [] => some []
  | i :: is => match env[i]? with
    | some (some d) => (outsOf env is).map (d :: ·)
    | _ => none
def startE (f : FD) (ds : List D) : Env := ds.map some ++ f.loc.map fun _ => none
def meOf (l : List Bool) : List Nat := (l.zipIdx.filter (·.1)).map (·.2)
def wpF (Γ : Sig) (f : FD) (ds : List D) (Q : D → List D → Prop) (R : Exc → Prop) : Prop :=
  wpSs Γ f.body (startE f ds) { nx := fun env => ∃ o, outsOf env Γ.me = some o ∧ Q .non o, rt := fun d env => ∃ o, outsOf env Γ.me = some o ∧ Q d o, bk := fun _ => False, ct := fun _ => False, ex := fun x _ => R x }
end DP

/-! DpB: the kit's syntax against ours: chk. -/
namespace DP
open PySem (Str Scope NameKind Expr Stmt)

/-- where one stands: the names by slot, the scope that runs, the scope whose own names may be stored, the module's constants -/
structure SC where
  N : List Str
  sc : Scope
  st : Scope
  gl : List (String × D)
  kws : List (String × Nat × List String)
  fns : List (String × Nat)

def seen (c : SC) (i : Nat) (x : Str) : Bool := decide (c.N[i]? = some x) && (match c.sc.names.lookup x with
  | some .local => true | some .cell => true | some .free => true | _ => false) && !(x == ("__debug__" : Str)) && !(x == ("__classdict__" : Str))
def mine (c : SC) (i : Nat) (x : Str) : Bool := decide (c.N[i]? = some x) && (match c.st.names.lookup x with
  | some .local => true | some .cell => true | _ => false)
def glob (c : SC) (x : Str) : Bool := (match c.sc.names.lookup x with | some .globalImplicit => true | _ => false) && !(x == ("__debug__" : Str))
def atomEq : D → D → Bool
  | .int i, .int j => decide (i = j)
  | .str s, .str t => decide (s = t)
  | _, _ => false
def conD : D → PySem.Const → Bool
  | .non, .none => true
  | .bl b, .bool c => b == c
  | .int i, .int j => decide (i = j)
  | .str s, .str t => decide (s = t)
  | _, _ => false
def opOf : Op → PySem.Operator
  | .add => .Add | .sub => .Sub | .mul => .Mult | .fdiv => .FloorDiv | .mod => .Mod | .pow => .Pow | .shl => .LShift | .shr => .RShift | .band => .BitAnd
def cmpOf : CO → PySem.CmpOp
  | .eq => .Eq | .ne => .NotEq | .lt => .Lt | .le => .LtE | .gt => .Gt | .ge => .GtE | .isin => .In | .nin => .NotIn | .is_ => .Is | .isnt => .IsNot
def boOf (k : Bool) : PySem.BoolOp := if k then .And else .Or
def BI.name : BI → String
  | .len => "len" | .abs => "abs" | .min2 => "min" | .max2 => "max" | .minL => "min" | .maxL => "max" | .sum => "sum" | .all => "all" | .any => "any"
  | .sorted => "sorted" | .list => "list" | .tuple => "tuple" | .str => "str" | .int => "int" | .repr => "repr" | .bool => "bool"
def tyNames : List String := ["int", "bool", "str", "list", "tuple", "dict"]
def noSet : Expr → Bool
  | .Set _ _ _ => false
  | _ => true
def needTup : I → Bool
  | .zip2 _ _ => true
  | .enum _ => true
  | _ => false
def isTupE : Expr → Bool
  | .Tuple _ _ _ => true
  | _ => false
def ownP (c : SC) (own : List Nat) : List (Str × Nat) := own.map fun i => ((c.N[i]?).getD PySem.Str.empty, i)
def inner (c : SC) (scope : Scope) : SC := { N := c.N, sc := L2.relS scope c.sc, st := scope, gl := c.gl, kws := c.kws, fns := c.fns }

mutual
def chkE (c : SC) : E → Expr → Bool
  | .var i, .Name x _ => seen c i x
  | .mov i, .Name x _ => seen c i x
  | .con d, .Constant k _ _ => conD d k
  | .glo x d, .Name y _ => decide (y = PySem.Str.ofString x) && glob c y && c.gl.any fun p => p.1 == x && atomEq p.2 d
  | .bin o a b, .BinOp a' o' b' _ => decide (o' = opOf o) && chkE c a a' && chkE c b b'
  | .neg a, .UnaryOp .USub a' _ => chkE c a a'
  | .nt a, .UnaryOp .Not a' _ => chkE c a a'
  | .bo k as, .BoolOp o as' _ => decide (o = boOf k) && chkEs c as as'
  | .cmp o a b, .Compare a' [o'] [b'] _ => decide (o' = cmpOf o) && chkE c a a' && chkE c b b' && noSet b'
  | .chn o p a b d, .Compare a' [o', p'] [b', d'] _ => decide (o' = cmpOf o) && decide (p' = cmpOf p) && chkE c a a' && chkE c b b' && chkE c d d' && noSet b' && noSet d'
  | .ife d a b, .IfExp d' a' b' _ => chkE c d d' && chkE c a a' && chkE c b b'
  | .call f as, .Call (.Name x _) as' [] _ => decide (x = PySem.Str.ofString f) && glob c x && chkEs c as as' && c.fns.contains (f, as'.length)
  | .calk f as ks bs, .Call (.Name x _) as' ks' _ => decide (x = PySem.Str.ofString f) && glob c x && chkEs c as as' && chkK c ks bs ks' && c.kws.contains (f, as'.length, ks)
  | .bi b as, .Call (.Name x _) as' [] _ => decide (x = PySem.Str.ofString b.name) && glob c x && chkEs c as as'
  | .rpr true as, .Call (.Name x _) [.Tuple as' _ _] [] _ => decide (x = PySem.Str.ofString "repr") && glob c x && chkEs c as as'
  | .rpr false as, .Call (.Name x _) [.List as' _] [] _ => decide (x = PySem.Str.ofString "repr") && glob c x && chkEs c as as'
  | .isi a t, .Call (.Name x _) [a', .Name y _] [] _ => decide (x = PySem.Str.ofString "isinstance") && glob c x && chkE c a a' && decide (y = PySem.Str.ofString t) && glob c y && tyNames.contains t
  | .sub a i, .Subscript a' i' _ => chkE c a a' && chkE c i i'
  | .slc a lo hi, .Subscript a' (.Slice lo' hi' .none _) _ => chkE c a a' && chkO c lo lo' && chkO c hi hi'
  | .tup as, .Tuple as' _ _ => chkEs c as as'
  | .lst as, .List as' _ => chkEs c as as'
  | .lc elt t it ifs own, .ListComp elt' [⟨t', it', ifs', 0⟩] scope _ => chkI c it it' && noSet it' && (!needTup it || isTupE t') && L2.blkC c.N c.sc scope (ownP c own) && chkT (inner c scope) t t' && chkEs (inner c scope) ifs ifs' && chkE (inner c scope) elt elt' && tin own t
  | _, _ => false
def chkEs (c : SC) : Es → List Expr → Bool
  | .nil, [] => true
  | .cons a as, a' :: as' => chkE c a a' && chkEs c as as'
  | _, _ => false
def chkO (c : SC) : Eo → Option Expr → Bool
  | .no, none => true
  | .yes a, some a' => chkE c a a'
  | _, _ => false
def chkK (c : SC) : List String → Es → List PySem.Keyword → Bool
  | [], .nil, [] => true
  | k :: ks, .cons a as, ⟨some k', a', _⟩ :: as' => decide (k' = PySem.Str.ofString k) && chkE c a a' && chkK c ks as as'
  | _, _, _ => false
def chkT (c : SC) : T → Expr → Bool
  | .nm i, .Name x _ => mine c i x
  | .tp ts, .Tuple ts' _ _ => chkTs c ts ts'
  | _, _ => false
def chkTs (c : SC) : Ts → List Expr → Bool
  | .nil, [] => true
  | .cons t ts, t' :: ts' => chkT c t t' && chkTs c ts ts'
  | _, _ => false
def chkI (c : SC) : I → Expr → Bool
  | .ex a, e => chkE c a e
  | .rng1 a, .Call (.Name x _) [a'] [] _ => decide (x = PySem.Str.ofString "range") && glob c x && chkE c a a'
  | .rng2 a b, .Call (.Name x _) [a', b'] [] _ => decide (x = PySem.Str.ofString "range") && glob c x && chkE c a a' && chkE c b b'
  | .rng3 a b d, .Call (.Name x _) [a', b', d'] [] _ => decide (x = PySem.Str.ofString "range") && glob c x && chkE c a a' && chkE c b b' && chkE c d d'
  | .zip2 a b, .Call (.Name x _) [a', b'] [] _ => decide (x = PySem.Str.ofString "zip") && glob c x && chkE c a a' && chkE c b b'
  | .enum a, .Call (.Name x _) [a'] [] _ => decide (x = PySem.Str.ofString "enumerate") && glob c x && chkE c a a'
  | .rev a, .Call (.Name x _) [a'] [] _ => decide (x = PySem.Str.ofString "reversed") && glob c x && chkE c a a'
  | _, _ => false
/-- all names of a target are among these slots -/
def tin (own : List Nat) : T → Bool
  | .nm i => own.contains i
  | .tp ts => tins own ts
def tins (own : List Nat) : Ts → Bool
  | .nil => true
  | .cons t ts => tin own t && tins own ts
end

/-- how a, b = x, y stores: none: by a tuple; some names: these, from the last on -/
def isStar : Expr → Bool
  | .Starred .. => true
  | _ => false
def nmOn (sc : Scope) (line : Nat) : Expr → Option Str
  | .Name id pos => if sc.names.lookup id == some .local && pos.line == line then some id else none
  | _ => none
def swN (sc : Scope) (ts vs : List Expr) : Option (Option (List Str)) :=
  if !(ts.length == 2 || ts.length == 3) || vs.length != ts.length then some none
  else if vs.any isStar then some none
  else
    let names := ts.filterMap (nmOn sc ((ts.head?.map (·.pos.line)).getD 0))
    if names.length != ts.length || names.eraseDups.length != names.length then some none
    else if vs.all (PySem.foldedForSure 8) then some none
    else if vs.all (PySem.constantsAlone 8) then none
    else some (some names)
def nms (c : SC) : List Nat → List Expr → Bool
  | [], [] => true
  | i :: is, .Name x _ :: xs => mine c i x && nms c is xs
  | _, _ => false

mutual
def chkS (c : SC) : S → Stmt → Bool
  | .nev, _ => true
  | .asg t e, .Assign [t'] e' _ => chkT c t t' && chkE c e e' && (match t', e' with | .Tuple .., .Tuple .. => false | _, _ => true)
  | .par is es, .Assign [.Tuple ts _ _] (.Tuple vs _ _) _ => nms c is ts && chkEs c es vs && decide is.Nodup && decide (is.length ≤ 100) && decide (is.length = es.len) && (match swN c.sc ts vs with | some none => true | some (some l) => decide (l = is.filterMap fun i => c.N[i]?) | none => false)
  | .pst i ix e, .Assign [.Subscript (.Name x _) ix' _] e' _ => seen c i x && chkE c ix ix' && chkE c e e'
  | .aug i o e, .AugAssign (.Name x _) o' e' _ => mine c i x && decide (o' = opOf o) && chkE c e e'
  | .pag i ix o e, .AugAssign (.Subscript (.Name x _) ix' _) o' e' _ => seen c i x && chkE c ix ix' && decide (o' = opOf o) && chkE c e e'
  | .app i e, .Expr (.Call (.Attribute (.Name x _) m ap) [e'] [] cp) _ => seen c i x && decide (m = PySem.Str.ofString "append") && chkE c e e' && (ap.endLine == cp.line)
  | .exp e, .Expr e' _ => chkE c e e' && (match e' with | .ListComp .. => false | _ => true)
  | .ite d a b, .If d' a' b' _ => chkE c d d' && chkSs c a a' && chkSs c b b'
  | .for_ t it b, .For t' it' b' [] _ => chkT c t t' && chkI c it it' && noSet it' && (!needTup it || isTupE t') && chkSs c b b'
  | .whl d b, .While d' b' [] _ => chkE c d d' && chkSs c b b'
  | .ret e, .Return (some e') _ => chkE c e e'
  | .rtn, .Return none _ => true
  | .brk, .Break _ => true
  | .cnt, .Continue _ => true
  | .pas, .Pass _ => true
  | _, _ => false
def chkSs (c : SC) : Ss → List Stmt → Bool
  | .nil, [] => true
  | .cons a as, a' :: as' => chkS c a a' && chkSs c as as'
  | _, _ => false
end
end DP

/-! DpC: data in the abstract heap. F: what stays as it is; Own: the lists that may be changed, each with one owner. -/
namespace DP
open PySem (Addr sizeLine)
open L2 (V HO Hp upd upd_same upd_ne Rd St)

abbrev Own := List (Addr × HO)
abbrev ads (O : Own) : List Addr := O.map (·.1)
theorem ads_app (A B : Own) : ads (A ++ B) = ads A ++ ads B := List.map_append

mutual
inductive Rep (F : Hp) : D → V → Own → Prop where
  | non : Rep F .non .non []
  | bl (b : Bool) : Rep F (.bl b) (.bl b) []
  | int (i : Int) : Rep F (.int i) (.int i) []
  | str (s : PySem.Str) : Rep F (.str s) (.str s) []
  | tup {a : Addr} {vs : List V} {ds : List D} {O : Own} : F a = some (.tup vs) → RepL F ds vs O → Rep F (.tup ds) (.ref a) O
  | fro {a : Addr} {vs : List V} {ds : List D} : Rd F a (.lst vs) → RepL F ds vs [] → Rep F (.lst false ds) (.ref a) []
  | own {a : Addr} {vs : List V} {ds : List D} {O : Own} : RepL F ds vs O → Rep F (.lst true ds) (.ref a) ((a, .lst vs) :: O)
inductive RepL (F : Hp) : List D → List V → Own → Prop where
  | nil : RepL F [] [] []
  | cons {d : D} {v : V} {ds : List D} {vs : List V} {O1 O2 : Own} : Rep F d v O1 → RepL F ds vs O2 → RepL F (d :: ds) (v :: vs) (O1 ++ O2)
end

def Sub (F F' : Hp) : Prop := ∀ a u, F a = some u → F' a = some u
theorem Sub.refl (F : Hp) : Sub F F := fun _ _ h => h
theorem Sub.trans {F F' F'' : Hp} (h : Sub F F') (h' : Sub F' F'') : Sub F F'' := fun a u e => h' a u (h a u e)
theorem Sub.rd {F F' : Hp} (h : Sub F F') {a : Addr} {u : HO} (r : Rd F a u) : Rd F' a u := by
  rcases r with r | ⟨o, r⟩
  · exact .inl (h _ _ r)
  · exact .inr ⟨o, h _ _ r⟩

mutual
theorem Rep.mono {F F' : Hp} (s : Sub F F') : ∀ {d : D} {v : V} {O : Own}, Rep F d v O → Rep F' d v O
  | .non, _, _, .non => .non
  | .bl _, _, _, .bl b => .bl b
  | .int _, _, _, .int i => .int i
  | .str _, _, _, .str x => .str x
  | .tup _, _, _, .tup e r => .tup (s _ _ e) (RepL.mono s r)
  | .lst _ _, _, _, .fro e r => .fro (s.rd e) (RepL.mono s r)
  | .lst _ _, _, _, .own r => .own (RepL.mono s r)
theorem RepL.mono {F F' : Hp} (s : Sub F F') : ∀ {ds : List D} {vs : List V} {O : Own}, RepL F ds vs O → RepL F' ds vs O
  | [], _, _, .nil => .nil
  | _ :: _, _, _, .cons a b => .cons (Rep.mono s a) (RepL.mono s b)
end
theorem RepL.len {F : Hp} : ∀ {ds : List D} {vs : List V} {O : Own}, RepL F ds vs O → ds.length = vs.length
  | [], _, _, .nil => rfl
  | _ :: _, _, _, .cons _ b => by simp [RepL.len b]
mutual
theorem Rep.free {F : Hp} : ∀ {d : D} {v : V} {O : Own}, Rep F d v O → d.isFz = true → O = []
  | .non, _, _, .non, _ => rfl
  | .bl _, _, _, .bl b, _ => rfl
  | .int _, _, _, .int i, _ => rfl
  | .str _, _, _, .str x, _ => rfl
  | .tup _, _, _, .tup e r, h => RepL.free r (by simpa [D.isFz] using h)
  | .lst _ _, _, _, .fro e r, _ => rfl
  | .lst _ _, _, _, .own r, h => by simp [D.isFz] at h
theorem RepL.free {F : Hp} : ∀ {ds : List D} {vs : List V} {O : Own}, RepL F ds vs O → isFzL ds = true → O = []
  | [], _, _, .nil, _ => rfl
  | _ :: _, _, _, .cons a b, h => by
    simp only [isFzL, Bool.and_eq_true] at h
    rw [Rep.free a h.1, RepL.free b h.2]; rfl
end
mutual
theorem fz_fz : ∀ d : D, d.fz.fz = d.fz
  | .non => rfl | .bl _ => rfl | .int _ => rfl | .str _ => rfl
  | .tup xs => by simp only [D.fz, fzL_fzL xs]
  | .lst _ xs => by simp only [D.fz, fzL_fzL xs]
theorem fzL_fzL : ∀ ds : List D, fzL (fzL ds) = fzL ds
  | [] => rfl
  | x :: xs => by simp only [fzL, fz_fz x, fzL_fzL xs]
end
mutual
theorem isFz_fz : ∀ d : D, d.fz.isFz = true
  | .non => rfl | .bl _ => rfl | .int _ => rfl | .str _ => rfl
  | .tup xs => by simp only [D.fz, D.isFz, isFzL_fzL xs]
  | .lst _ xs => by simp only [D.fz, D.isFz, isFzL_fzL xs, Bool.not_false, Bool.true_and]
theorem isFzL_fzL : ∀ ds : List D, isFzL (fzL ds) = true
  | [] => rfl
  | x :: xs => by simp only [fzL, isFzL, isFz_fz x, isFzL_fzL xs, Bool.true_and]
end
mutual
theorem fz_of : ∀ d : D, d.isFz = true → d.fz = d
  | .non, _ => rfl | .bl _, _ => rfl | .int _, _ => rfl | .str _, _ => rfl
  | .tup xs, h => by simp only [D.fz, fzL_of xs (by simpa [D.isFz] using h)]
  | .lst o xs, h => by
    simp only [D.isFz, Bool.and_eq_true] at h
    have ho : o = false := by simpa using h.1
    simp only [D.fz, fzL_of xs h.2, ho]
theorem fzL_of : ∀ ds : List D, isFzL ds = true → fzL ds = ds
  | [], _ => rfl
  | x :: xs, h => by
    simp only [isFzL, Bool.and_eq_true] at h
    simp only [fzL, fz_of x h.1, fzL_of xs h.2]
end
theorem fzL_map (ds : List D) : fzL ds = ds.map D.fz := by
  induction ds with
  | nil => rfl
  | cons x xs ih => simp only [fzL, List.map_cons, ih]
theorem fzL_length (ds : List D) : (fzL ds).length = ds.length := by rw [fzL_map, List.length_map]
mutual
theorem py_fz : ∀ d : D, d.fz.py = d.py
  | .non => rfl | .bl _ => rfl | .int _ => rfl | .str _ => rfl
  | .tup xs => by simp only [D.fz, D.py, pyL_fzL xs]
  | .lst _ xs => by simp only [D.fz, D.py, pyL_fzL xs]
theorem pyL_fzL : ∀ ds : List D, pyL (fzL ds) = pyL ds
  | [] => rfl
  | x :: xs => by simp only [fzL, pyL, py_fz x, pyL_fzL xs]
end

/-! ### the heap: what is held -/
structure Held (F : Hp) (O : Own) (H : Hp) : Prop where
  f : Sub F H
  o : ∀ p ∈ O, H p.1 = some p.2
  nd : (ads O).Nodup
  dj : ∀ a ∈ ads O, F a = none
structure Next (F : Hp) (O : Own) (H F' : Hp) (O' : Own) (H' : Hp) : Prop where
  held : Held F' O' H'
  f : Sub F F'
  nf : ∀ a, F' a ≠ none → F a ≠ none ∨ a ∈ ads O ∨ H a = none
  no : ∀ a ∈ ads O', a ∈ ads O ∨ H a = none
  st : ∀ a u, H a = some u → a ∉ ads O → H' a = some u
  gr : ∀ a, H' a = none → H a = none
theorem Held.perm {F : Hp} {O O' : Own} {H : Hp} (h : Held F O H) (p : O.Perm O') : Held F O' H :=
  ⟨h.f, fun q hq => h.o q (p.mem_iff.mpr hq), (p.map _).nodup_iff.mp h.nd, fun a ha => h.dj a ((p.map _).mem_iff.mpr ha)⟩
theorem Held.right {F : Hp} {A B : Own} {H : Hp} (h : Held F (A ++ B) H) : Held F B H :=
  ⟨h.f, fun q hq => h.o q (List.mem_append_right _ hq), by have := h.nd; rw [ads_app, List.nodup_append] at this; exact this.2.1, fun a ha => h.dj a (by rw [ads_app]; exact List.mem_append_right _ ha)⟩
theorem Held.left {F : Hp} {A B : Own} {H : Hp} (h : Held F (A ++ B) H) : Held F A H := (h.perm List.perm_append_comm).right
theorem Next.refl {F : Hp} {O : Own} {H : Hp} (h : Held F O H) : Next F O H F O H :=
  ⟨h, Sub.refl _, fun _ z => .inl z, fun _ z => .inl z, fun _ _ e _ => e, fun _ e => e⟩
theorem Next.perm {F : Hp} {O : Own} {H F' : Hp} {O' O'' : Own} {H' : Hp} (n : Next F O H F' O' H') (p : O'.Perm O'') : Next F O H F' O'' H' :=
  ⟨n.held.perm p, n.f, n.nf, fun a ha => n.no a ((p.map _).mem_iff.mpr ha), n.st, n.gr⟩
theorem Next.perm_from {F : Hp} {O O0 : Own} {H F' : Hp} {O' : Own} {H' : Hp} (n : Next F O H F' O' H') (p : O.Perm O0) : Next F O0 H F' O' H' :=
  ⟨n.held, n.f, fun a z => (n.nf a z).imp id (Or.imp (fun q => (p.map _).mem_iff.mp q) id), fun a ha => (n.no a ha).imp (fun q => (p.map _).mem_iff.mp q) id, fun a u e z => n.st a u e fun q => z ((p.map _).mem_iff.mp q), n.gr⟩
theorem Next.drop {F : Hp} {O : Own} {H F' : Hp} {A B : Own} {H' : Hp} (n : Next F O H F' (A ++ B) H') : Next F O H F' B H' :=
  ⟨n.held.right, n.f, n.nf, fun a ha => n.no a (by rw [ads_app]; exact List.mem_append_right _ ha), n.st, n.gr⟩
theorem Next.trans {F : Hp} {O : Own} {H F1 : Hp} {O1 : Own} {H1 F2 : Hp} {O2 : Own} {H2 : Hp} (n : Next F O H F1 O1 H1) (m : Next F1 O1 H1 F2 O2 H2) : Next F O H F2 O2 H2 := by
  refine ⟨m.held, n.f.trans m.f, fun a z => ?_, fun a ha => ?_, fun a u e z => ?_, fun a e => n.gr a (m.gr a e)⟩
  · rcases m.nf a z with q | q | q
    · exact n.nf a q
    · exact .inr (n.no a q)
    · exact .inr (.inr (n.gr a q))
  · rcases m.no a ha with q | q
    · exact n.no a q
    · exact .inr (n.gr a q)
  · refine m.st a u (n.st a u e z) fun q => ?_
    rcases n.no a q with q | q
    · exact z q
    · rw [e] at q; cases q
/-- what is not touched stays -/
theorem Next.frame {F : Hp} {R O : Own} {H F' : Hp} {O' : Own} {H' : Hp} (h : Held F (R ++ O) H) (n : Next F O H F' O' H') : Next F (R ++ O) H F' (R ++ O') H' := by
  have hm : ads (R ++ O) = ads R ++ ads O := List.map_append
  have hm' : ads (R ++ O') = ads R ++ ads O' := List.map_append
  have nd := h.nd
  rw [hm, List.nodup_append] at nd
  have off : ∀ a ∈ ads R, a ∉ ads O := fun a ha hb => nd.2.2 a ha a hb rfl
  have inH : ∀ a ∈ ads R, ∃ u, H a = some u := fun a ha => by
    obtain ⟨p, hp, e⟩ := List.mem_map.mp ha
    exact ⟨p.2, by rw [← e]; exact h.o p (List.mem_append_left _ hp)⟩
  have off' : ∀ a ∈ ads R, a ∉ ads O' := fun a ha hb => by
    rcases n.no a hb with q | q
    · exact off a ha q
    · obtain ⟨u, e⟩ := inH a ha
      rw [e] at q; cases q
  refine ⟨⟨n.held.f, fun p hp => ?_, ?_, fun a ha => ?_⟩, n.f, fun a z => ?_, fun a ha => ?_, fun a u e z => ?_, n.gr⟩
  · rcases List.mem_append.mp hp with hp | hp
    · exact n.st _ _ (h.o p (List.mem_append_left _ hp)) (off _ (List.mem_map.mpr ⟨p, hp, rfl⟩))
    · exact n.held.o p hp
  · rw [hm', List.nodup_append]
    exact ⟨nd.1, n.held.nd, fun a ha b hb e => off' a ha (e ▸ hb)⟩
  · rw [hm'] at ha
    rcases List.mem_append.mp ha with ha | ha
    · cases q : F' a with
      | none => rfl
      | some u =>
        rcases n.nf a (by rw [q]; simp) with z | z | z
        · exact absurd (h.dj a (by rw [hm]; exact List.mem_append_left _ ha)) z
        · exact absurd z (off a ha)
        · obtain ⟨u', e⟩ := inH a ha
          rw [e] at z; cases z
    · exact n.held.dj a ha
  · rcases n.nf a z with q | q | q
    · exact .inl q
    · exact .inr (.inl (by rw [hm]; exact List.mem_append_right _ q))
    · exact .inr (.inr q)
  · rw [hm'] at ha
    rcases List.mem_append.mp ha with ha | ha
    · exact .inl (by rw [hm]; exact List.mem_append_left _ ha)
    · rcases n.no a ha with q | q
      · exact .inl (by rw [hm]; exact List.mem_append_right _ q)
      · exact .inr q
  · exact n.st a u e fun q => z (by rw [hm]; exact List.mem_append_right _ q)
theorem Held.fresh {F : Hp} {O : Own} {H : Hp} (h : Held F O H) {p : Addr} (e : H p = none) : F p = none ∧ p ∉ ads O := by
  refine ⟨?_, fun q => ?_⟩
  · cases z : F p with
    | none => rfl
    | some u => rw [h.f _ _ z] at e; cases e
  · obtain ⟨r, hr, z⟩ := List.mem_map.mp q
    have := h.o r hr
    rw [z, e] at this; cases this
/-- a new object that will never change -/
theorem Next.newF {F : Hp} {O : Own} {H : Hp} (h : Held F O H) {p : Addr} (e : H p = none) (u : HO) : Next F O H (upd F p u) O (upd H p u) := by
  obtain ⟨e1, e2⟩ := h.fresh e
  refine ⟨⟨fun a w z => ?_, fun q hq => ?_, h.nd, fun a ha => ?_⟩, fun a w z => ?_, fun a z => ?_, fun a ha => .inl ha, fun a w z _ => ?_, fun a z => ?_⟩
  · by_cases hb : a = p
    · subst hb; rw [upd_same] at z ⊢; exact z
    · rw [upd_ne hb] at z ⊢; exact h.f _ _ z
  · have hb : q.1 ≠ p := fun z => e2 (z ▸ List.mem_map.mpr ⟨q, hq, rfl⟩)
    rw [upd_ne hb]; exact h.o q hq
  · have hb : a ≠ p := fun z => e2 (z ▸ ha)
    rw [upd_ne hb]; exact h.dj a ha
  · have hb : a ≠ p := fun q => by rw [q, e1] at z; cases z
    rw [upd_ne hb]; exact z
  · by_cases hb : a = p
    · exact .inr (.inr (hb ▸ e))
    · rw [upd_ne hb] at z; exact .inl z
  · have hb : a ≠ p := fun q => by rw [q, e] at z; cases z
    rw [upd_ne hb]; exact z
  · by_cases hb : a = p
    · rw [hb]; exact e
    · rw [upd_ne hb] at z; exact z
/-- a new list that may be changed -/
theorem Next.newO {F : Hp} {O : Own} {H : Hp} (h : Held F O H) {p : Addr} (e : H p = none) (u : HO) : Next F O H F ((p, u) :: O) (upd H p u) := by
  obtain ⟨e1, e2⟩ := h.fresh e
  refine ⟨⟨fun a w z => ?_, fun q hq => ?_, ?_, fun a ha => ?_⟩, Sub.refl _, fun a z => .inl z, fun a ha => ?_, fun a w z _ => ?_, fun a z => ?_⟩
  · have hb : a ≠ p := fun q => by rw [q, e1] at z; cases z
    rw [upd_ne hb]; exact h.f _ _ z
  · rcases List.mem_cons.mp hq with rfl | hq
    · exact upd_same
    · have hb : q.1 ≠ p := fun z => e2 (z ▸ List.mem_map.mpr ⟨q, hq, rfl⟩)
      rw [upd_ne hb]; exact h.o q hq
  · show (p :: ads O).Nodup
    exact List.nodup_cons.mpr ⟨e2, h.nd⟩
  · rcases List.mem_cons.mp (show a ∈ p :: ads O from ha) with rfl | ha
    · exact e1
    · exact h.dj a ha
  · rcases List.mem_cons.mp (show a ∈ p :: ads O from ha) with rfl | ha
    · exact .inr e
    · exact .inl ha
  · have hb : a ≠ p := fun q => by rw [q, e] at z; cases z
    rw [upd_ne hb]; exact z
  · by_cases hb : a = p
    · rw [hb]; exact e
    · rw [upd_ne hb] at z; exact z
/-- a list of one's own is changed -/
theorem Next.write {F : Hp} {O : Own} {H : Hp} {a : Addr} {u : HO} (h : Held F ((a, u) :: O) H) (u' : HO) : Next F ((a, u) :: O) H F ((a, u') :: O) (upd H a u') := by
  have nd := h.nd
  have nd' : a ∉ ads O ∧ (ads O).Nodup := List.nodup_cons.mp nd
  have ha : F a = none := h.dj a (List.mem_cons_self)
  refine ⟨⟨fun b w z => ?_, fun q hq => ?_, nd, fun b hb => h.dj b hb⟩, Sub.refl _, fun b z => .inl z, fun b hb => .inl hb, fun b w z hb => ?_, fun b z => ?_⟩
  · have hb : b ≠ a := fun q => by rw [q, ha] at z; cases z
    rw [upd_ne hb]; exact h.f _ _ z
  · rcases List.mem_cons.mp hq with rfl | hq
    · exact upd_same
    · have hb : q.1 ≠ a := fun z => nd'.1 (z ▸ List.mem_map.mpr ⟨q, hq, rfl⟩)
      rw [upd_ne hb]; exact h.o q (List.mem_cons_of_mem _ hq)
  · have hn : b ≠ a := fun q => hb (q ▸ List.mem_cons_self)
    rw [upd_ne hn]; exact z
  · by_cases hb : b = a
    · rw [hb, upd_same] at z; cases z
    · rw [upd_ne hb] at z; exact z

/-! ### freezing -/
def addF (F : Hp) : Own → Hp
  | [] => F
  | p :: O => upd (addF F O) p.1 p.2
theorem addF_out {F : Hp} {a : Addr} : ∀ {O : Own}, a ∉ ads O → addF F O a = F a
  | [], _ => rfl
  | p :: O, h => by
    have h' : a ≠ p.1 ∧ a ∉ ads O := by simpa [ads] using h
    show upd (addF F O) p.1 p.2 a = F a
    rw [upd_ne h'.1, addF_out h'.2]
theorem addF_in {F : Hp} : ∀ {O : Own}, (ads O).Nodup → ∀ p ∈ O, addF F O p.1 = some p.2
  | [], _, p, h => by cases h
  | q :: O, nd, p, h => by
    have nd' : q.1 ∉ ads O ∧ (ads O).Nodup := List.nodup_cons.mp nd
    show upd (addF F O) q.1 q.2 p.1 = some p.2
    rcases List.mem_cons.mp h with e | h
    · rw [e]; exact upd_same
    · have hb : p.1 ≠ q.1 := fun z => nd'.1 (z ▸ List.mem_map.mpr ⟨p, h, rfl⟩)
      rw [upd_ne hb]; exact addF_in nd'.2 p h
theorem Next.freeze {F : Hp} {A B : Own} {H : Hp} (h : Held F (A ++ B) H) : Next F (A ++ B) H (addF F A) B H := by
  have hm : ads (A ++ B) = ads A ++ ads B := List.map_append
  have nd := h.nd
  rw [hm, List.nodup_append] at nd
  have cas : ∀ a, a ∈ ads A ∨ a ∉ ads A := fun a => Classical.em _
  refine ⟨⟨fun a u e => ?_, fun p hp => h.o p (List.mem_append_right _ hp), nd.2.1, fun a ha => ?_⟩, fun a u e => ?_, fun a z => ?_, fun a ha => .inl (by rw [hm]; exact List.mem_append_right _ ha), fun a u e _ => e, fun a e => e⟩
  · rcases cas a with q | q
    · obtain ⟨p, hp, z⟩ := List.mem_map.mp q
      have e1 := addF_in (F := F) nd.1 p hp
      rw [z] at e1
      rw [e1] at e; cases e
      rw [← z]; exact h.o p (List.mem_append_left _ hp)
    · rw [addF_out q] at e; exact h.f _ _ e
  · have q : a ∉ ads A := fun q => nd.2.2 a q a ha rfl
    rw [addF_out q]
    exact h.dj a (by rw [hm]; exact List.mem_append_right _ ha)
  · have q : a ∉ ads A := fun q => by
      have := h.dj a (by rw [hm]; exact List.mem_append_left _ q)
      rw [e] at this; cases this
    rw [addF_out q]; exact e
  · rcases cas a with q | q
    · exact .inr (.inl (by rw [hm]; exact List.mem_append_left _ q))
    · rw [addF_out q] at z; exact .inl z
mutual
/-- all that it owns is known to F' -/
theorem Rep.froz {F F' : Hp} (s : Sub F F') : ∀ {d : D} {v : V} {O : Own}, Rep F d v O → (∀ p ∈ O, F' p.1 = some p.2) → Rep F' d.fz v []
  | .non, _, _, .non, _ => .non
  | .bl _, _, _, .bl b, _ => .bl b
  | .int _, _, _, .int i, _ => .int i
  | .str _, _, _, .str x, _ => .str x
  | .tup _, _, _, .tup e r, h => by
    rw [D.fz]
    exact .tup (s _ _ e) (RepL.froz s r h)
  | .lst _ _, _, _, .fro e r, h => by
    rw [D.fz]
    exact .fro (s.rd e) (RepL.froz s r fun p hp => by cases hp)
  | .lst _ _, _, _, .own r, h => by
    rw [D.fz]
    exact .fro (.inl (h _ List.mem_cons_self)) (RepL.froz s r fun p hp => h p (List.mem_cons_of_mem _ hp))
theorem RepL.froz {F F' : Hp} (s : Sub F F') : ∀ {ds : List D} {vs : List V} {O : Own}, RepL F ds vs O → (∀ p ∈ O, F' p.1 = some p.2) → RepL F' (fzL ds) vs []
  | [], _, _, .nil, _ => .nil
  | _ :: _, _, _, .cons a b, h => by
    rw [fzL]
    exact RepL.cons (O1 := []) (O2 := []) (Rep.froz s a fun p hp => h p (List.mem_append_left _ hp)) (RepL.froz s b fun p hp => h p (List.mem_append_right _ hp))
end
theorem addF_sub {F : Hp} {A B : Own} {H : Hp} (h : Held F (A ++ B) H) : Sub F (addF F A) := (Next.freeze h).f
theorem Rep.frozen {F : Hp} {A B : Own} {H : Hp} {d : D} {v : V} (r : Rep F d v A) (h : Held F (A ++ B) H) : Rep (addF F A) d.fz v [] :=
  r.froz (addF_sub h) (addF_in h.left.nd)
theorem RepL.frozen {F : Hp} {A B : Own} {H : Hp} {ds : List D} {vs : List V} (r : RepL F ds vs A) (h : Held F (A ++ B) H) : RepL (addF F A) (fzL ds) vs [] :=
  r.froz (addF_sub h) (addF_in h.left.nd)

theorem RepL.append {F : Hp} : ∀ {ds : List D} {vs : List V} {O : Own} {es : List D} {us : List V} {P : Own}, RepL F ds vs O → RepL F es us P → RepL F (ds ++ es) (vs ++ us) (O ++ P)
  | [], _, _, _, _, _, .nil, s => s
  | _ :: _, _, _, _, _, _, .cons a b, s => by
    rw [List.append_assoc]
    exact .cons a (RepL.append b s)
/-- one item of a list: its part and the rest -/
theorem RepL.nth {F : Hp} : ∀ {ds : List D} {vs : List V} {O : Own} {j : Nat} {d : D}, RepL F ds vs O → ds[j]? = some d → ∃ v A B C, vs[j]? = some v ∧ Rep F d v B ∧ O = A ++ B ++ C ∧
    ∀ {F' : Hp} {d' : D} {v' : V} {B' : Own}, Sub F F' → Rep F' d' v' B' → RepL F' (ds.set j d') (vs.set j v') (A ++ B' ++ C)
  | [], _, _, _, _, .nil, e => by simp at e
  | x :: xs, _, _, 0, d, .cons (O1 := O1) (O2 := O2) a b, e => by
    simp at e; subst e
    refine ⟨_, [], O1, O2, rfl, a, by simp, fun {F' d' v' B'} s r => ?_⟩
    simp only [List.set_cons_zero, List.nil_append]
    exact .cons r (b.mono s)
  | x :: xs, _, _, j + 1, d, .cons (O1 := O1) (O2 := O2) a b, e => by
    obtain ⟨v, A, B, C, h1, h2, h3, h4⟩ := RepL.nth (j := j) b (by simpa using e)
    refine ⟨v, O1 ++ A, B, C, by simpa using h1, h2, by rw [h3]; simp [List.append_assoc], fun {F' d' v' B'} s r => ?_⟩
    simp only [List.set_cons_succ]
    have q := RepL.cons (a.mono s) (h4 s r)
    rw [show O1 ++ A ++ B' ++ C = O1 ++ (A ++ B' ++ C) by simp [List.append_assoc]]
    exact q
theorem RepL.nth_none {F : Hp} {ds : List D} {vs : List V} {O : Own} (r : RepL F ds vs O) {j : Nat} (e : ds[j]? = none) : vs[j]? = none := by
  rw [List.getElem?_eq_none_iff] at e ⊢
  rw [← r.len]; exact e

/-! ### names -/
inductive SimE (F : Hp) : Env → St → Own → Prop where
  | nil : SimE F [] [] []
  | no {env : Env} {σ : St} {O : Own} (s : Option V) : SimE F env σ O → SimE F (none :: env) (s :: σ) O
  | yes {d : D} {v : V} {env : Env} {σ : St} {O1 O2 : Own} : Rep F d v O1 → SimE F env σ O2 → SimE F (some d :: env) (some v :: σ) (O1 ++ O2)
theorem SimE.mono {F F' : Hp} (s : Sub F F') {env : Env} {σ : St} {O : Own} (h : SimE F env σ O) : SimE F' env σ O := by
  induction h with
  | nil => exact .nil
  | no t _ ih => exact .no t ih
  | yes r _ ih => exact .yes (r.mono s) ih
theorem SimE.len {F : Hp} {env : Env} {σ : St} {O : Own} (h : SimE F env σ O) : env.length = σ.length := by
  induction h with
  | nil => rfl
  | no t _ ih => simp [ih]
  | yes r _ ih => simp [ih]
theorem SimE.take {F : Hp} {env : Env} {σ : St} {O : Own} (h : SimE F env σ O) : ∀ {i : Nat} {d : D}, env[i]? = some (some d) → ∃ v A B, σ[i]? = some (some v) ∧ Rep F d v A ∧ SimE F (env.set i none) σ B ∧ O.Perm (A ++ B) := by
  induction h with
  | nil => intro i d e; simp at e
  | no t _ ih =>
    intro i d e
    cases i with
    | zero => simp at e
    | succ i =>
      obtain ⟨v, A, B, h1, h2, h3, h4⟩ := ih (i := i) (by simpa using e)
      exact ⟨v, A, B, by simpa using h1, h2, .no t h3, h4⟩
  | @yes d0 v0 env σ O1 O2 r hs ih =>
    intro i d e
    cases i with
    | zero =>
      simp at e; subst e
      exact ⟨v0, O1, O2, rfl, r, .no _ hs, List.Perm.refl _⟩
    | succ i =>
      obtain ⟨v, A, B, h1, h2, h3, h4⟩ := ih (i := i) (by simpa using e)
      refine ⟨v, A, O1 ++ B, by simpa using h1, h2, .yes r h3, ?_⟩
      have q : (O1 ++ O2).Perm (O1 ++ (A ++ B)) := h4.append_left _
      refine q.trans ?_
      rw [← List.append_assoc, ← List.append_assoc]
      exact List.perm_append_comm.append_right _
/-- a slot that holds nothing is filled, wherever its place in the frame may be -/
theorem SimE.put {F : Hp} {env : Env} {σ : St} {O : Own} (h : SimE F env σ O) : ∀ {i : Nat} {d : D} {v : V} {A : Own}, env[i]? = some none → Rep F d v A → ∃ B, SimE F (env.set i (some d)) (σ.set i (some v)) B ∧ B.Perm (A ++ O) := by
  induction h with
  | nil => intro i d v A e; simp at e
  | @no env σ O t hs ih =>
    intro i d v A e r
    cases i with
    | zero => exact ⟨A ++ O, .yes r hs, List.Perm.refl _⟩
    | succ i =>
      obtain ⟨B, h1, h2⟩ := ih (i := i) (by simpa using e) r
      exact ⟨B, .no t h1, h2⟩
  | @yes d0 v0 env σ O1 O2 r0 hs ih =>
    intro i d v A e r
    cases i with
    | zero => simp at e
    | succ i =>
      obtain ⟨B, h1, h2⟩ := ih (i := i) (by simpa using e) r
      refine ⟨O1 ++ B, .yes r0 h1, ?_⟩
      refine (h2.append_left _).trans ?_
      rw [← List.append_assoc, ← List.append_assoc]
      exact List.perm_append_comm.append_right _
theorem set_self {α : Type} {l : List α} {i : Nat} {a : α} (h : l[i]? = some a) : l.set i a = l := by
  apply List.ext_getElem?
  intro j
  by_cases e : i = j
  · subst e
    rw [List.getElem?_set_self (by have := (List.getElem?_eq_some_iff.mp h).1; exact this), h]
  · rw [List.getElem?_set_ne e]
/-- a slot is emptied -/
theorem SimE.wipe {F : Hp} {env : Env} {σ : St} {O : Own} (h : SimE F env σ O) (i : Nat) : ∃ A B, SimE F (env.set i none) σ B ∧ O.Perm (A ++ B) := by
  cases e : env[i]? with
  | none => 
    rw [List.set_eq_of_length_le (by simpa using e)]
    exact ⟨[], O, h, List.Perm.refl _⟩
  | some o =>
    cases o with
    | none => rw [set_self e]; exact ⟨[], O, h, List.Perm.refl _⟩
    | some d =>
      obtain ⟨v, A, B, _, _, h3, h4⟩ := h.take e
      exact ⟨A, B, h3, h4⟩
/-- an empty slot: the frame's value there doesn't matter -/
theorem SimE.any {F : Hp} {env : Env} {σ : St} {O : Own} (h : SimE F env σ O) : ∀ {i : Nat} (s : Option V), env[i]? = some none → SimE F env (σ.set i s) O := by
  induction h with
  | nil => intro i s e; simp at e
  | no t hs ih =>
    intro i s e
    cases i with
    | zero => exact .no s hs
    | succ i => exact .no t (ih s (by simpa using e))
  | yes r hs ih =>
    intro i s e
    cases i with
    | zero => simp at e
    | succ i => exact .yes r (ih s (by simpa using e))
/-- a name is stored -/
theorem SimE.store {F : Hp} {env : Env} {σ : St} {O : Own} (h : SimE F env σ O) {i : Nat} (hi : i < env.length) {d : D} {v : V} {A : Own} (r : Rep F d v A) : ∃ Z B C, SimE F (env.set i (some d)) (σ.set i (some v)) C ∧ O.Perm (Z ++ B) ∧ C.Perm (A ++ B) := by
  obtain ⟨Z, B, h1, h2⟩ := h.wipe i
  obtain ⟨C, h3, h4⟩ := h1.put (i := i) (by rw [List.getElem?_set_self hi]) r
  rw [List.set_set] at h3
  exact ⟨Z, B, C, h3, h2, h4⟩
end DP

/-! DpD: what operators do with data, against the rules by values. -/
namespace DP
open PySem (Addr sizeLine wpAny model Value Shared)
open L2

/-- some rule that holds -/
def anyR (X : Cx) (f : Value → Value → PySem.Sem Value) : R2 := fun x y H Q => ∃ r : R2, OpR X f r ∧ r x y H Q
theorem any_ok {X : Cx} {f : Value → Value → PySem.Sem Value} : OpR X f (anyR X f) := by
  intro pins s σ H x y v u Q I rx ry h
  obtain ⟨r, hr, q⟩ := h
  exact hr pins s σ H x y v u Q I rx ry q
def anyC (X : Cx) (f : Value) : List V → Hp → VK → Prop := fun xs H Q => ∃ r : List V → Hp → VK → Prop, CallR X f r ∧ r xs H Q
theorem anyC_ok {X : Cx} {f : Value} : CallR X f (anyC X f) := by
  intro pins s σ H xs us Q I rx h
  obtain ⟨r, hr, q⟩ := h
  exact hr pins s σ H xs us Q I rx q
def anyU (X : Cx) (f : Value → PySem.Sem Value) : V → Hp → VK → Prop := fun x H Q => ∃ r : V → Hp → VK → Prop, UnR X f r ∧ r x H Q
theorem anyU_ok {X : Cx} {f : Value → PySem.Sem Value} : UnR X f (anyU X f) := by
  intro pins s σ H x v Q I rx h
  obtain ⟨r, hr, q⟩ := h
  exact hr pins s σ H x v Q I rx q

/-- what is wanted of a result d: O was used up for it, Oe stands -/
def Res (F : Hp) (O Oe : Own) (H : Hp) (Qv : VK) (d : D) : Prop :=
  ∀ F' Od v H', Next F (O ++ Oe) H F' (Od ++ Oe) H' → Rep F' d v Od → Qv v H'
section
variable {F : Hp} {O Oe Z Od : Own} {H : Hp} {Qv : VK} {d : D} {v : V}
theorem Next.keep {O' : Own} (h : Held F O H) (p : O.Perm (Z ++ O')) : Next F O H F O' H := ((Next.refl h).perm p).drop
theorem Next.keep2 {O' : Own} (h : Held F (O ++ Oe) H) (p : O.Perm (Z ++ O')) : Next F (O ++ Oe) H F (O' ++ Oe) H :=
  Next.keep (Z := Z) h (by rw [← List.append_assoc]; exact p.append_right _)
theorem Res.at (q : Res F O Oe H Qv d) (h : Held F (O ++ Oe) H) (r : Rep F d v Od) (p : O.Perm (Z ++ Od)) : Qv v H := q F Od v H (Next.keep2 h p) r
theorem Res.atom (q : Res F O Oe H Qv d) (h : Held F (O ++ Oe) H) (r : Rep F d v []) : Qv v H := q.at h r (Z := O) (by simp)
theorem Res.int {i : Int} (q : Res F O Oe H Qv (.int i)) (h : Held F (O ++ Oe) H) : Qv (.int i) H := q.atom h (.int i)
theorem Res.bl {i : Bool} (q : Res F O Oe H Qv (.bl i)) (h : Held F (O ++ Oe) H) : Qv (.bl i) H := q.atom h (.bl i)
theorem Res.str {i : PySem.Str} (q : Res F O Oe H Qv (.str i)) (h : Held F (O ++ Oe) H) : Qv (.str i) H := q.atom h (.str i)
/-- a new list of items that were owned by what is used up -/
theorem Res.newL {ds : List D} {vs : List V} (q : Res F O Oe H Qv (.lst true ds)) (h : Held F (O ++ Oe) H) (r : RepL F ds vs Od) (p : O.Perm (Z ++ Od)) {a : Addr} (ha : H a = none) : Qv (.ref a) (upd H a (.lst vs)) := by
  have n1 := Next.keep2 h p
  have n2 := Next.newO n1.held ha (.lst vs)
  exact q F ((a, .lst vs) :: Od) (.ref a) _ (n1.trans n2) (.own r)
theorem Res.newT {ds : List D} {vs : List V} (q : Res F O Oe H Qv (.tup ds)) (h : Held F (O ++ Oe) H) (r : RepL F ds vs Od) (p : O.Perm (Z ++ Od)) {a : Addr} (ha : H a = none) : Qv (.ref a) (upd H a (.tup vs)) := by
  have n1 := Next.keep2 h p
  have n2 := Next.newF n1.held ha (.tup vs)
  exact q _ Od (.ref a) _ (n1.trans n2) (.tup upd_same (r.mono n2.f))

/-- a list, as the heap has it -/
theorem Rep.lstI {o : Bool} {ds : List D} (r : Rep F (.lst o ds) v O) (h : Held F (O ++ Oe) H) : ∃ a vs O', v = .ref a ∧ Rd H a (.lst vs) ∧ RepL F ds vs O' ∧ (∃ Z, O.Perm (Z ++ O')) ∧ (o = true → H a = some (.lst vs) ∧ O = (a, .lst vs) :: O') ∧ (o = false → O = [] ∧ O' = []) := by
  cases r with
  | fro e r => exact ⟨_, _, [], rfl, h.f.rd e, r, ⟨[], by simp⟩, fun z => by simp at z, fun _ => ⟨rfl, rfl⟩⟩
  | @own a vs ds O' r =>
    have e : H a = some (.lst vs) := h.o (a, .lst vs) (by simp)
    exact ⟨a, vs, O', rfl, .inl e, r, ⟨[(a, .lst vs)], by simp⟩, fun _ => ⟨e, rfl⟩, fun z => by simp at z⟩
theorem Rep.tupI {ds : List D} (r : Rep F (.tup ds) v O) (h : Held F (O ++ Oe) H) : ∃ a vs, v = .ref a ∧ F a = some (.tup vs) ∧ H a = some (.tup vs) ∧ RepL F ds vs O := by
  cases r with
  | tup e r => exact ⟨_, _, rfl, e, h.f _ _ e, r⟩
theorem Rep.intI {i : Int} (r : Rep F (.int i) v O) : v = .int i ∧ O = [] := by cases r; exact ⟨rfl, rfl⟩
theorem Rep.strI {i : PySem.Str} (r : Rep F (.str i) v O) : v = .str i ∧ O = [] := by cases r; exact ⟨rfl, rfl⟩
theorem Rep.blI {i : Bool} (r : Rep F (.bl i) v O) : v = .bl i ∧ O = [] := by cases r; exact ⟨rfl, rfl⟩
theorem Rep.nonI (r : Rep F .non v O) : v = .non ∧ O = [] := by cases r; exact ⟨rfl, rfl⟩
theorem SqL.rd {K : PySem.W.Frag} {a : Addr} {xs : List V} (r : Rd H a (.lst xs)) : SqL K H a xs := .inl r
end

section
variable {X : Cx}
/-- list + list, either may be the script -/
def rCat2 : R2 := fun x y H Q => ∃ l b xs zs, x = .ref l ∧ y = .ref b ∧ Rd H l (.lst xs) ∧ Rd H b (.lst zs) ∧ xs.length + zs.length ≤ sizeLine ∧ ∀ p, H p = none → Q (.ref p) (upd H p (.lst (xs ++ zs)))
theorem op_cat2 : OpR X (PySem.binaryOp .Add) rCat2 := by
  intro pins s σ H x y v u Q I rx ry h
  obtain ⟨l, b, xs, zs, rfl, rfl, hH, hB, hz, q⟩ := h
  cases rx; cases ry
  obtain ⟨z1, its1, n1, r1, e1⟩ := hH.ok I.hok
  obtain ⟨z2, its2, n2, r2, e2⟩ := hB.ok I.hok
  have hl1 := r1.length
  have hl2 := r2.length
  refine PySem.P.add_list e1 e2 ?_ (by simp only [List.size_toArray]; omega)
  rw [show its1.toArray ++ its2.toArray = (its1 ++ its2).toArray by simp]
  refine ⟨.ref s.heap.objs.size, upd H s.heap.objs.size (.lst (xs ++ zs)), ?_, rfl, q _ I.fresh⟩
  exact Inv.lnew (t' := s.toks) I (r1.append r2) (by rw [List.length_append]; exact hz)
/-- list * int, it may be the script -/
def rRep2 : R2 := fun x y H Q => ∃ l k xs, x = .ref l ∧ y = .int k ∧ Rd H l (.lst xs) ∧ -(2 ^ 63) ≤ k ∧ k < 2 ^ 63 ∧ xs.length * k.toNat ≤ sizeLine ∧ ∀ p, H p = none → Q (.ref p) (upd H p (.lst (List.replicate k.toNat xs).flatten))
theorem op_rep2 : OpR X (PySem.binaryOp .Mult) rRep2 := by
  intro pins s σ H x y v u Q I rx ry h
  obtain ⟨l, k, xs, rfl, rfl, hH, h1, h2, hz, q⟩ := h
  cases rx
  obtain ⟨t, rfl⟩ := ry
  obtain ⟨z, its, n, r, e⟩ := hH.ok I.hok
  have hl := r.length
  have few : its.toArray.size * k.toNat ≤ sizeLine := by rw [List.size_toArray, ← hl]; exact hz
  have cap : ¬ its.toArray.size * k.toNat > (2 ^ 63 - 1) / 8 := by
    have : (sizeLine : Nat) ≤ (2 ^ 63 - 1) / 8 := by decide
    omega
  have fit : ¬ (!PySem.Builtin.List.listFitsIndex k) = true := by
    rw [PySem.fitsIndex_both h1 h2]; simp
  have long : ¬ PySem.Builtin.List.listTooLong (its.toArray.size * k.toNat) = true := by
    rw [notLongL few]; simp
  have f0 : ∀ m : Nat, List.foldl (fun x1 x2 => x1 ++ x2) #[] (List.replicate m its.toArray) = (List.replicate m its).flatten.toArray := fun m => by
    have := foldl_rep its m []
    rw [List.nil_append] at this
    exact this
  have new : List.foldl (fun x1 x2 => x1 ++ x2) #[] (List.replicate (if its.toArray.isEmpty = true then 0 else k.toNat) its.toArray) = (List.replicate k.toNat its).flatten.toArray := by
    rw [f0]
    cases its with
    | nil => simp
    | cons a r' => rw [if_neg (by simp)]
  have ty : s.TypeIs (.ref l) "list" := ⟨_, e, rfl⟩
  refine PySem.wpAny_binaryOp_repeat_ref (T := "list") (U := "int") (by decide) ty (fun s' => PySem.typeIs_int s' k t) PySem.noFill_list_mul PySem.F.fills_int_mul PySem.F.slot_int_rmul PySem.repeat_list PySem.F.slot_int_index.lookup ?_
  refine PySem.call_meets PySem.F.slot_int_rmul (PySem.typeIs_int s k t) PySem.F.entry_int_rmul (PySem.F.args_int_rmul_2 _ _) (PySem.int___rmul___int_list k t l its.toArray n) ⟨e, rfl, ty, ?_⟩
  refine PySem.call_meets PySem.F.slot_list_mul ty PySem.F.entry_list_mul (PySem.F.args_list_mul_2 _ _) (PySem.AutoListH.list___mul___list_int_3 l its.toArray n k t fit cap long) ⟨e, ?_⟩
  rw [new]
  refine ⟨.ref s.heap.objs.size, upd H s.heap.objs.size (.lst (List.replicate k.toNat xs).flatten), ?_, rfl, q _ I.fresh⟩
  exact Inv.lnew (t' := s.toks) I (r.rep k.toNat) (by rw [PyProof.Rows.lm_len_rep_flat, Nat.mul_comm]; exact hz)
theorem op_powW : OpR X (PySem.binaryOp .Pow) (rI PowOk fun i j => .int (i ^ j.toNat)) := opI fun _ _ _ _ _ _ _ hc q => PyProof.Rows.pow_int hc.1 hc.2 q

theorem repL_rep {F : Hp} {ds : List D} {vs : List V} (r : RepL F ds vs []) : ∀ n : Nat, RepL F (repD ds n) (List.replicate n vs).flatten []
  | 0 => .nil
  | n + 1 => by
    rw [List.replicate_succ, List.flatten_cons]
    exact RepL.append (O := []) (P := []) r (repL_rep r n)

theorem bin_ok {o : Op} {d1 d2 : D} {Q : D → Prop} {F : Hp} {O1 O2 Oe : Own} {H : Hp} {v1 v2 : V} {Qv : VK} (w : binD o d1 d2 Q) (r1 : Rep F d1 v1 O1) (r2 : Rep F d2 v2 O2) (h : Held F ((O1 ++ O2) ++ Oe) H)
    (k : ∀ d, Q d → Res F (O1 ++ O2) Oe H Qv d) : anyR X (PySem.binaryOp (opOf o)) v1 v2 H Qv := by
  unfold binD at w
  split at w
  · obtain ⟨rfl, rfl⟩ := r1.intI; obtain ⟨rfl, rfl⟩ := r2.intI
    exact ⟨_, op_add, _, _, rfl, rfl, (k _ w).int h⟩
  · obtain ⟨rfl, rfl⟩ := r1.strI; obtain ⟨rfl, rfl⟩ := r2.strI
    exact ⟨_, op_add_str, _, _, rfl, rfl, w.1, (k _ w.2).str h⟩
  · obtain ⟨a, vs, O1', rfl, e1, q1, ⟨Z1, p1⟩, _⟩ := r1.lstI (Oe := O2 ++ Oe) (by rw [← List.append_assoc]; exact h)
    obtain ⟨b, us, O2', rfl, e2, q2, ⟨Z2, p2⟩, _⟩ := r2.lstI (Oe := O1 ++ Oe) (h.perm (by rw [← List.append_assoc]; exact List.perm_append_comm.append_right _))
    refine ⟨_, op_cat2, _, _, _, _, rfl, rfl, e1, e2, by rw [← q1.len, ← q2.len]; exact w.1, fun p hp => ?_⟩
    refine (k _ w.2).newL h (q1.append q2) (Z := Z1 ++ Z2) ?_ hp
    refine (p1.append p2).trans ?_
    rw [List.append_assoc, List.append_assoc]
    refine List.Perm.append_left _ ?_
    rw [← List.append_assoc, ← List.append_assoc]
    exact List.perm_append_comm.append_right _
  · obtain ⟨a, vs, rfl, _, e1, q1⟩ := r1.tupI (Oe := O2 ++ Oe) (by rw [← List.append_assoc]; exact h)
    obtain ⟨b, us, rfl, _, e2, q2⟩ := r2.tupI (Oe := O1 ++ Oe) (h.perm (by rw [← List.append_assoc]; exact List.perm_append_comm.append_right _))
    obtain ⟨w1, w2, w3, w4⟩ := w
    have n1 : vs ≠ [] := fun z => w1 (by have := q1.len; rw [z] at this; simpa using this)
    have n2 : us ≠ [] := fun z => w2 (by have := q2.len; rw [z] at this; simpa using this)
    refine ⟨_, op_catT, _, _, _, _, rfl, rfl, SqT.of e1, SqT.of e2, n1, by rw [← q1.len, ← q2.len]; exact w3, fun z => absurd z n2, fun _ p hp => ?_⟩
    exact (k _ w4).newT h (q1.append q2) (Z := []) (by simp) hp
  · obtain ⟨rfl, rfl⟩ := r1.intI; obtain ⟨rfl, rfl⟩ := r2.intI
    exact ⟨_, op_sub, _, _, rfl, rfl, (k _ w).int h⟩
  · obtain ⟨rfl, rfl⟩ := r1.intI; obtain ⟨rfl, rfl⟩ := r2.intI
    exact ⟨_, op_mulW, _, _, rfl, rfl, w.1, (k _ w.2).int h⟩
  · rename_i o' a n
    obtain ⟨rfl, rfl⟩ := r2.intI
    obtain ⟨w1, w2, w3, w4⟩ := w
    rw [List.append_nil] at h k
    obtain ⟨l, vs, O1', rfl, e1, q1, ⟨Z1, p1⟩, _⟩ := r1.lstI h
    have n0 := Next.keep2 h p1
    have n1 := n0.trans (Next.freeze n0.held)
    have rl := q1.frozen n0.held
    refine ⟨_, op_rep2, _, _, _, rfl, rfl, e1, w1, w2, by rw [← q1.len]; exact w3, fun p hp => ?_⟩
    have n2 := Next.newO n1.held hp (.lst (List.replicate n.toNat vs).flatten)
    exact k _ w4 _ [(p, .lst (List.replicate n.toNat vs).flatten)] (.ref p) _ (n1.trans n2) (.own (repL_rep rl _))
  · obtain ⟨rfl, rfl⟩ := r1.intI; obtain ⟨rfl, rfl⟩ := r2.intI
    exact ⟨_, op_fdivW, _, _, rfl, rfl, w.1, (k _ w.2).int h⟩
  · obtain ⟨rfl, rfl⟩ := r1.intI; obtain ⟨rfl, rfl⟩ := r2.intI
    exact ⟨_, op_mod, _, _, rfl, rfl, w.1, (k _ w.2).int h⟩
  · obtain ⟨rfl, rfl⟩ := r1.intI; obtain ⟨rfl, rfl⟩ := r2.intI
    exact ⟨_, op_powW, _, _, rfl, rfl, w.1, (k _ w.2).int h⟩
  · obtain ⟨rfl, rfl⟩ := r1.intI; obtain ⟨rfl, rfl⟩ := r2.intI
    exact ⟨_, op_shl, _, _, rfl, rfl, w.1, (k _ w.2).int h⟩
  · obtain ⟨rfl, rfl⟩ := r1.intI; obtain ⟨rfl, rfl⟩ := r2.intI
    exact ⟨_, op_shr, _, _, rfl, rfl, w.1, (k _ w.2).int h⟩
  · obtain ⟨rfl, rfl⟩ := r1.intI; obtain ⟨rfl, rfl⟩ := r2.intI
    exact ⟨_, op_and, _, _, rfl, rfl, (k _ w).int h⟩
  · exact w.elim
end
end DP

/-! DpE: comparisons, truth, items, slices, built-in functions. -/
namespace DP
open PySem (Addr sizeLine wpAny model Value Shared)
open L2

/-- all that r owns stands in H -/
def Own.inH (O : Own) (H : Hp) : Prop := ∀ p ∈ O, H p.1 = some p.2
theorem Own.inH.left {A B : Own} {H : Hp} (h : Own.inH (A ++ B) H) : Own.inH A H := fun p hp => h p (List.mem_append_left _ hp)
theorem Own.inH.right {A B : Own} {H : Hp} (h : Own.inH (A ++ B) H) : Own.inH B H := fun p hp => h p (List.mem_append_right _ hp)
mutual
theorem Rep.dp {K : PySem.W.Frag} {F H : Hp} (s : Sub F H) : ∀ {d : D} {v : V} {O : Own}, Rep F d v O → Own.inH O H → Dp K H v d.py
  | .non, _, _, .non, _ => .non
  | .bl _, _, _, .bl b, _ => .bl b
  | .int _, _, _, .int i, _ => .int i
  | .str _, _, _, .str x, _ => .str x
  | .tup _, _, _, .tup e r, h => by
    rw [D.py]
    exact .tup (SqT.of (s _ _ e)) (RepL.dp s r h)
  | .lst _ _, _, _, .fro e r, h => by
    rw [D.py]
    exact .lst (.inl (s.rd e)) (RepL.dp s r h)
  | .lst _ _, _, _, .own r, h => by
    rw [D.py]
    exact .lst (SqL.of (h _ List.mem_cons_self)) (RepL.dp s r fun p hp => h p (List.mem_cons_of_mem _ hp))
theorem RepL.dp {K : PySem.W.Frag} {F H : Hp} (s : Sub F H) : ∀ {ds : List D} {vs : List V} {O : Own}, RepL F ds vs O → Own.inH O H → DpAll K H vs (pyL ds)
  | [], _, _, .nil, _ => .nil
  | _ :: _, _, _, .cons a b, h => by
    rw [pyL]
    exact .cons (Rep.dp s a h.left) (RepL.dp s b h.right)
end
theorem pyL_map (ds : List D) : pyL ds = ds.map D.py := by
  induction ds with
  | nil => rfl
  | cons x xs ih => simp only [pyL, List.map_cons, ih]
theorem inD_py (x : D) (ys : List D) : inD x ys = (pyL ys).any fun z => PySem.PyData.eqv z x.py := by
  rw [pyL_map, List.any_map]; rfl
theorem eqV_py {F : Hp} {x y : D} {v u : V} {O P : Own} (fx : flatD x = true) (fy : flatD y = true) (rx : Rep F x v O) (ry : Rep F y u P) : eqV v u = PySem.PyData.eqv x.py y.py := by
  cases rx with
  | tup _ _ => simp [flatD] at fx
  | fro _ _ => simp [flatD] at fx
  | own _ => simp [flatD] at fx
  | non => cases ry <;> first | rfl | simp [flatD] at fy
  | bl b => cases ry <;> first | rfl | simp [flatD] at fy
  | int i => cases ry <;> first | rfl | simp [flatD] at fy
  | str s => cases ry <;> first | rfl | simp [flatD] at fy
theorem flatV_of {F : Hp} {x : D} {v : V} {O : Own} (fx : flatD x = true) (rx : Rep F x v O) : flatV v = true := by
  cases rx <;> first | rfl | simp [flatD] at fx
theorem flatL_of {F : Hp} : ∀ {ds : List D} {vs : List V} {O : Own}, RepL F ds vs O → ds.all flatD = true → vs.all flatV = true
  | [], _, _, .nil, _ => rfl
  | _ :: _, _, _, .cons a b, h => by
    rw [List.all_cons, Bool.and_eq_true] at h ⊢
    exact ⟨flatV_of h.1 a, flatL_of b h.2⟩
theorem inV_of {F : Hp} {x : D} {v : V} {P : Own} (fx : flatD x = true) (rx : Rep F x v P) : ∀ {ds : List D} {vs : List V} {O : Own}, RepL F ds vs O → ds.all flatD = true → inV v vs = inD x ds
  | [], _, _, .nil, _ => rfl
  | _ :: _, _, _, .cons a b, h => by
    rw [List.all_cons, Bool.and_eq_true] at h
    show (eqV _ v || inV v _) = (_ || inD x _)
    rw [eqV_py h.1 fx a rx, inV_of fx rx b h.2]

section
variable {X : Cx} {F : Hp} {O1 O2 : Own} {H : Hp} {v1 v2 : V} {Qv : VK} {x y : D}
theorem Rep.lstB {o : Bool} {ds : List D} {v : V} {O : Own} (r : Rep F (.lst o ds) v O) (s : Sub F H) (h : Own.inH O H) : ∃ a vs P, v = .ref a ∧ Rd H a (.lst vs) ∧ RepL F ds vs P ∧ Own.inH P H := by
  cases r with
  | fro e r => exact ⟨_, _, [], rfl, s.rd e, r, fun p hp => by cases hp⟩
  | own r => exact ⟨_, _, _, rfl, .inl (h _ List.mem_cons_self), r, fun p hp => h p (List.mem_cons_of_mem _ hp)⟩
theorem Rep.tupB {ds : List D} {v : V} {O : Own} (r : Rep F (.tup ds) v O) (s : Sub F H) : ∃ a vs, v = .ref a ∧ H a = some (.tup vs) ∧ RepL F ds vs O := by
  cases r with
  | tup e r => exact ⟨_, _, rfl, s _ _ e, r⟩
theorem Rep.non_iff {d : D} {v : V} {O : Own} (r : Rep F d v O) : decide (v = .non) = d.isNon := by
  cases r <;> rfl
theorem Rep.nnon_iff {d : D} {v : V} {O : Own} (r : Rep F d v O) : (!decide (v = .non)) = !d.isNon := by
  cases r <;> rfl

theorem cmp_ok {o : CO} {Q : Bool → Prop} (w : cmpD o x y Q) (r1 : Rep F x v1 O1) (r2 : Rep F y v2 O2) (s : Sub F H) (h1 : Own.inH O1 H) (h2 : Own.inH O2 H) (hu : X.A.units + 65 < PySem.cLine)
    (k : ∀ b, Q b → Qv (.bl b) H) : anyR X (PySem.compareOp (cmpOf o)) v1 v2 H Qv := by
  unfold cmpD at w
  split at w
  · unfold eqD at w
    split at w
    · obtain ⟨rfl, rfl⟩ := r1.strI; obtain ⟨rfl, rfl⟩ := r2.strI
      exact ⟨_, op_eq, rfl, by simpa only [V.str.injEq] using k _ w⟩
    · exact ⟨_, op_eqD (by omega), _, _, r1.dp s h1, r2.dp s h2, w.1, w.2.1, k _ w.2.2⟩
  · unfold eqD at w
    split at w
    · obtain ⟨rfl, rfl⟩ := r1.strI; obtain ⟨rfl, rfl⟩ := r2.strI
      exact ⟨_, op_ne, rfl, by simpa only [V.str.injEq] using k _ w⟩
    · exact ⟨_, op_neD (by omega), _, _, r1.dp s h1, r2.dp s h2, w.1, w.2.1, k _ w.2.2⟩
  · obtain ⟨rfl, rfl⟩ := r1.intI; obtain ⟨rfl, rfl⟩ := r2.intI
    exact ⟨_, op_lt, _, _, rfl, rfl, k _ w⟩
  · obtain ⟨rfl, rfl⟩ := r1.intI; obtain ⟨rfl, rfl⟩ := r2.intI
    exact ⟨_, op_le, _, _, rfl, rfl, k _ w⟩
  · obtain ⟨rfl, rfl⟩ := r1.intI; obtain ⟨rfl, rfl⟩ := r2.intI
    exact ⟨_, op_gt, _, _, rfl, rfl, k _ w⟩
  · obtain ⟨rfl, rfl⟩ := r1.intI; obtain ⟨rfl, rfl⟩ := r2.intI
    exact ⟨_, op_ge, _, _, rfl, rfl, k _ w⟩
  · obtain ⟨rfl, rfl⟩ := r2.nonI
    exact ⟨_, op_isN, rfl, by rw [r1.non_iff]; exact k _ w⟩
  · obtain ⟨rfl, rfl⟩ := r2.nonI
    exact ⟨_, op_notN, rfl, by rw [r1.nnon_iff]; exact k _ w⟩
  · rename_i d _ _ ys _
    have q := r2.dp (K := X.K) s h2
    rw [D.py] at q
    exact ⟨_, op_inD hu, _, _, r1.dp s h1, q, w.1, w.2.1, by rw [← inD_py]; exact k _ w.2.2⟩
  · have q := r2.dp (K := X.K) s h2
    rw [D.py] at q
    exact ⟨_, op_notInD hu, _, _, r1.dp s h1, q, w.1, w.2.1, by rw [← inD_py]; exact k _ w.2.2⟩
  · obtain ⟨a, vs, rfl, e, q⟩ := r2.tupB s
    exact ⟨_, op_in_seq, a, vs, rfl, .inr (SqT.of e), flatV_of w.1 r1, flatL_of q w.2.1, by rw [inV_of w.1 r1 q w.2.1]; exact k _ w.2.2⟩
  · obtain ⟨a, vs, rfl, e, q⟩ := r2.tupB s
    exact ⟨_, op_notIn_seq, a, vs, rfl, .inr (SqT.of e), flatV_of w.1 r1, flatL_of q w.2.1, by rw [inV_of w.1 r1 q w.2.1]; exact k _ w.2.2⟩
  · obtain ⟨rfl, rfl⟩ := r1.strI; obtain ⟨rfl, rfl⟩ := r2.strI
    obtain ⟨c, rfl, w⟩ := w
    exact ⟨_, op_in_sign, c, _, rfl, rfl, k _ w⟩
  · obtain ⟨rfl, rfl⟩ := r1.strI; obtain ⟨rfl, rfl⟩ := r2.strI
    obtain ⟨c, rfl, w⟩ := w
    exact ⟨_, op_notIn_sign, c, _, rfl, rfl, k _ w⟩
  · exact w.elim

theorem len_isEmpty {α β : Type} {xs : List α} {ys : List β} (h : xs.length = ys.length) : xs.isEmpty = ys.isEmpty := by
  cases xs <;> cases ys <;> simp_all
theorem tru_of {d : D} {v : V} {O : Own} {K : PySem.W.Frag} {Q : Bool → Prop} (w : truD d Q) (r : Rep F d v O) (s : Sub F H) (h : Own.inH O H) : TruV K v H (truthD d) ∧ Q (truthD d) := by
  refine ⟨?_, w.2⟩
  cases r with
  | non => rfl
  | bl b => rfl
  | int i => rfl
  | str z =>
    refine ⟨w.1, ?_⟩
    show (z.length != 0) = ((z.length : Int) != 0)
    cases z.length <;> rfl
  | tup e r => exact .inr (.inl ⟨_, SqT.of (s _ _ e), by rw [truthD, len_isEmpty r.len]⟩)
  | fro e r => exact .inl ⟨_, .inl (s.rd e), by rw [truthD, len_isEmpty r.len]⟩
  | own r => exact .inl ⟨_, SqL.of (h _ List.mem_cons_self), by rw [truthD, len_isEmpty r.len]⟩

/-- some rule of a subscript -/
def anyI (X : Cx) : R2 := fun x y H Q => ∃ r : R2, IxR X r ∧ r x y H Q
theorem anyI_ok {X : Cx} : IxR X (anyI X) := by
  intro value slice pins s σ H x y v u Q I rx ry h hs
  obtain ⟨r, hr, q⟩ := h
  exact hr value slice pins s σ H x y v u Q I rx ry q hs
theorem atI_rep : ∀ {ds : List D} {vs : List V} {O : Own} {i : Int} {el : D}, RepL F ds vs O → atI ds i = some el → ∃ j v A B C, ds[j]? = some el ∧ ixN ds.length i = some j ∧ atI vs i = some v ∧ Rep F el v B ∧ O = A ++ B ++ C := by
  intro ds vs O i el r e
  unfold atI at e
  cases q : ixN ds.length i with
  | none => rw [q] at e; cases e
  | some j =>
    rw [q] at e
    have e' : ds[j]? = some el := e
    obtain ⟨v, A, B, C, h1, h2, h3, _⟩ := r.nth e'
    refine ⟨j, v, A, B, C, e', rfl, ?_, h2, h3⟩
    unfold atI
    rw [← r.len, q]
    exact h1
theorem str_at {z : PySem.Str} {k : Int} {el : D} (e : (atI z.cps.toList k).map (fun c => D.str ⟨#[c]⟩) = some el) : ∃ c, atI z.cps.toList k = some c ∧ el = .str ⟨#[c]⟩ := by
  cases q : atI z.cps.toList k with
  | none => rw [q] at e; cases e
  | some c => rw [q] at e; cases e; exact ⟨c, rfl, rfl⟩
theorem sub_ok {k : Int} {el : D} (w : subD x (.int k) = some el) (r : Rep F x v1 O1) (s : Sub F H) (h : Own.inH O1 H) (hz : szD x)
    (q : ∀ v B, Rep F el v B → (∀ p ∈ B, p ∈ O1) → Qv v H) : anyI X v1 (.int k) H Qv := by
  unfold subD at w
  split at w
  · rename_i o xs i e
    cases e
    cases r with
    | @fro a vs ds e1 r1 =>
      obtain ⟨j, v, A, B, C, _, _, h3, h4, h5⟩ := atI_rep r1 w
      exact ⟨_, ix_list, a, vs, k, v, rfl, rfl, .inl (s.rd e1), h3, q v B h4 fun p hp => by rw [h5]; simp [hp]⟩
    | @own a vs ds O r1 =>
      obtain ⟨j, v, A, B, C, _, _, h3, h4, h5⟩ := atI_rep r1 w
      exact ⟨_, ix_list, a, vs, k, v, rfl, rfl, SqL.of (h _ List.mem_cons_self), h3, q v B h4 fun p hp => List.mem_cons_of_mem _ (by rw [h5]; simp [hp])⟩
  · rename_i xs i e
    cases e
    obtain ⟨a, vs, rfl, e1, r1⟩ := r.tupB s
    obtain ⟨j, v, A, B, C, _, _, h3, h4, h5⟩ := atI_rep r1 w
    exact ⟨_, ix_tup, a, vs, k, v, rfl, rfl, SqT.of e1, h3, q v B h4 fun p hp => by rw [h5]; simp [hp]⟩
  · rename_i z i e
    cases e
    obtain ⟨rfl, rfl⟩ := r.strI
    obtain ⟨c, e1, rfl⟩ := str_at w
    exact ⟨_, ix_str, z, k, c, rfl, rfl, hz, e1, q _ [] (.str _) fun p hp => by cases hp⟩
  · cases w

/-! ### lists that are known -/
theorem RepL.nil_cons {d : D} {ds : List D} {vs : List V} (r : RepL F (d :: ds) vs []) : ∃ v us, vs = v :: us ∧ Rep F d v [] ∧ RepL F ds us [] := by
  generalize e : ([] : Own) = O at r
  cases r with
  | cons a b =>
    obtain ⟨h1, h2⟩ := List.append_eq_nil_iff.mp e.symm
    subst h1 h2
    exact ⟨_, _, rfl, a, b⟩
theorem RepL.mk {d : D} {ds : List D} {v : V} {vs : List V} (a : Rep F d v []) (b : RepL F ds vs []) : RepL F (d :: ds) (v :: vs) [] := RepL.cons (O1 := []) (O2 := []) a b
theorem RepL.drop0 : ∀ {ds : List D} {vs : List V} (n : Nat), RepL F ds vs [] → RepL F (ds.drop n) (vs.drop n) []
  | ds, vs, 0, r => by simpa using r
  | [], vs, n + 1, r => by cases r; exact .nil
  | d :: ds, vs, n + 1, r => by
    obtain ⟨v, us, rfl, a, b⟩ := r.nil_cons
    simpa using RepL.drop0 n b
theorem RepL.take0 : ∀ {ds : List D} {vs : List V} (n : Nat), RepL F ds vs [] → RepL F (ds.take n) (vs.take n) []
  | ds, vs, 0, r => by simpa using RepL.nil
  | [], vs, n + 1, r => by cases r; exact .nil
  | d :: ds, vs, n + 1, r => by
    obtain ⟨v, us, rfl, a, b⟩ := r.nil_cons
    simpa using RepL.mk a (RepL.take0 n b)
theorem fzL_drop (xs : List D) (n : Nat) : fzL (xs.drop n) = (fzL xs).drop n := by simp only [fzL_map, List.map_drop]
theorem fzL_take (xs : List D) (n : Nat) : fzL (xs.take n) = (fzL xs).take n := by simp only [fzL_map, List.map_take]
theorem cutD_fz (xs : List D) (lo hi : Option Int) : fzL (cutD xs lo hi) = cutD (fzL xs) lo hi := by
  unfold cutD
  rw [fzL_take, fzL_drop, fzL_length]
theorem RepL.cut0 {ds : List D} {vs : List V} (r : RepL F ds vs []) (lo hi : Option Int) : RepL F (cutD ds lo hi) (cutV vs lo hi) [] := by
  unfold cutD cutV
  rw [← r.len]
  exact RepL.take0 _ (RepL.drop0 _ r)
/-- some rule of a slice -/
def anyS (X : Cx) : V → Option Int → Option Int → Hp → VK → Prop := fun x lo hi H Q => ∃ r : V → Option Int → Option Int → Hp → VK → Prop, SlR X r ∧ r x lo hi H Q
theorem anyS_ok {X : Cx} : SlR X (anyS X) := by
  intro pins s σ H x v vl vu lo hi sl Q I rx hs pl pu h
  obtain ⟨r, hr, q⟩ := h
  exact hr pins s σ H x v vl vu lo hi sl Q I rx hs pl pu q
/-- x[lo:hi] of what nobody changes -/
theorem slc_ok {lo hi : Option Int} {Q : D → Prop} (w : slcD x lo hi Q) (r : Rep F x.fz v1 []) (s : Sub F H)
    (k0 : ∀ d v, Q d → Rep F d v [] → Qv v H) (kL : ∀ ds vs p, Q (.lst true ds) → RepL F ds vs [] → H p = none → Qv (.ref p) (upd H p (.lst vs)))
    (kT : ∀ ds vs p, Q (.tup ds) → RepL F ds vs [] → H p = none → Qv (.ref p) (upd H p (.tup vs))) : anyS X v1 lo hi H Qv := by
  unfold slcD at w
  split at w
  · rename_i xs
    rw [D.fz] at r
    cases r with
    | @fro a vs ds e1 r1 =>
      exact ⟨_, sl_list, a, vs, rfl, .inl (s.rd e1), fun p hp => kL _ _ p w (by rw [cutD_fz]; exact r1.cut0 lo hi) hp⟩
  · rw [D.fz] at r
    obtain ⟨rfl, _⟩ := r.strI
    exact ⟨_, sl_str, _, rfl, w.1, k0 _ _ w.2 (.str _)⟩
  · rename_i xs
    rw [D.fz] at r
    obtain ⟨a, vs, rfl, e1, r1⟩ := r.tupB s
    refine ⟨_, sl_tupA, a, vs, rfl, SqT.of e1, fun z => absurd ?_ w.1, fun _ p hp => kT _ _ p w.2 (by rw [cutD_fz]; exact r1.cut0 lo hi) hp⟩
    have hl : vs.length = xs.length := by rw [← r1.len, fzL_length]
    unfold cutD
    rw [hl] at z
    rw [z.1, z.2]; simp
  · exact w.elim

/-! ### isinstance of a built-in class -/
theorem isi_ok {t : String} {b : Bool} (w : isiD x t = some b) (r : Rep F x v1 O1) (s : Sub F H) (h : Own.inH O1 H) (k : Qv (.bl b) H) : anyC X (.builtin "isinstance") [v1, .ty t] H Qv := by
  have go : ∀ {T : String}, TyX X.K H v1 (.type T) → kitB T t = some b → anyC X (.builtin "isinstance") [v1, .ty t] H Qv := fun ty e => ⟨_, call_isi, _, _, _, _, b, rfl, ClsV.ty t, ty, kit_ty e, k⟩
  cases r with
  | non => exact go (.base .non) w
  | bl c => exact go (.base (.bl c)) w
  | int c => exact go (.base (.int c)) w
  | str c => exact go (.base (.str c)) w
  | tup e _ => exact go (.base (.tup (s _ _ e))) w
  | fro e _ =>
    rcases s.rd e with e | ⟨o, e⟩
    · exact go (.base (.lst e)) w
    · exact go (.base (.frz e)) w
  | own _ => exact go (.base (.lst (h _ List.mem_cons_self))) w

/-! ### built-in functions -/
def BI.val : BI → Value
  | .len => .builtin "len" | .abs => .builtin "abs" | .min2 => .builtin "min" | .max2 => .builtin "max" | .minL => .builtin "min" | .maxL => .builtin "max" | .sum => .builtin "sum" | .all => .builtin "all" | .any => .builtin "any"
  | .sorted => .builtin "sorted" | .list => .type "list" | .tuple => .type "tuple" | .str => .type "str" | .int => .type "int" | .repr => .builtin "repr" | .bool => .type "bool"
theorem intsD_rep : ∀ {ds : List D} {vs : List V} {O : Own} {ns : List Int}, RepL F ds vs O → intsD ds = some ns → vs = ns.map V.int ∧ O = [] ∧ ds = ns.map D.int
  | [], _, _, _, .nil, e => by cases e; exact ⟨rfl, rfl, rfl⟩
  | d :: ds, _, _, ns, .cons a b, e => by
    cases d with
    | int i =>
      simp only [intsD] at e
      cases q : intsD ds with
      | none => rw [q] at e; cases e
      | some ms =>
        rw [q] at e; cases e
        obtain ⟨rfl, rfl⟩ := a.intI
        obtain ⟨rfl, rfl, rfl⟩ := intsD_rep b q
        exact ⟨rfl, rfl, rfl⟩
    | _ => cases e
theorem blsD_rep : ∀ {ds : List D} {vs : List V} {O : Own} {ns : List Bool}, RepL F ds vs O → blsD ds = some ns → vs = ns.map V.bl
  | [], _, _, _, .nil, e => by cases e; rfl
  | d :: ds, _, _, ns, .cons a b, e => by
    cases d with
    | bl i =>
      simp only [blsD] at e
      cases q : blsD ds with
      | none => rw [q] at e; cases e
      | some ms =>
        rw [q] at e; cases e
        obtain ⟨rfl, rfl⟩ := a.blI
        rw [blsD_rep b q]; rfl
    | _ => cases e
theorem repL_ints (ns : List Int) : RepL F (ns.map D.int) (ns.map V.int) [] := by
  induction ns with
  | nil => exact .nil
  | cons n ns ih => exact .mk (.int n) ih
def pairAt (H : Hp) : V → Int × Int
  | .ref t => (match H t with | some (.tup [.int i, .int j]) => (i, j) | _ => (0, 0))
  | _ => (0, 0)
theorem prsD_rep : ∀ {ds : List D} {vs : List V} {O : Own} {ps : List (Int × Int)}, RepL F ds vs O → prsD ds = some ps → Sub F H → vs.map (pairAt H) = ps ∧ ∀ v ∈ vs, ∃ t, v = .ref t ∧ F t = some (.tup [.int (pairAt H v).1, .int (pairAt H v).2])
  | [], _, _, _, .nil, e, _ => by cases e; exact ⟨rfl, fun v hv => by cases hv⟩
  | d :: ds, _, _, ps, .cons a b, e, s => by
    unfold prsD at e
    split at e
    · rename_i e1; cases e1
    · rename_i i j xs e1
      cases e1
      cases q : prsD ds with
      | none => rw [q] at e; cases e
      | some ms =>
        rw [q] at e; cases e
        cases a with
        | @tup t vs _ _ e2 r2 =>
          have ev : vs = [.int i, .int j] := by
            cases r2 with
            | cons a1 b1 =>
              cases b1 with
              | cons a2 b2 =>
                cases b2
                rw [a1.intI.1, a2.intI.1]
          subst ev
          obtain ⟨h1, h2⟩ := prsD_rep b q s
          have hp : pairAt H (.ref t) = (i, j) := by simp only [pairAt, s _ _ e2]
          refine ⟨by rw [List.map_cons, hp, h1], fun v hv => ?_⟩
          rcases List.mem_cons.mp hv with rfl | hv
          · exact ⟨t, rfl, by rw [hp]; exact e2⟩
          · exact h2 v hv
    · cases e
theorem repL_prs : ∀ {vs : List V}, (∀ v ∈ vs, ∃ t, v = .ref t ∧ F t = some (.tup [.int (pairAt H v).1, .int (pairAt H v).2])) → RepL F ((vs.map (pairAt H)).map prD) vs []
  | [], _ => .nil
  | v :: vs, h => by
    obtain ⟨t, e, h1⟩ := h v List.mem_cons_self
    subst e
    exact .mk (.tup h1 (.mk (.int _) (.mk (.int _) .nil))) (repL_prs fun u hu => h u (List.mem_cons_of_mem _ hu))
/-- repr of data -/
def rReprD (K : PySem.W.Frag) : List V → Hp → VK → Prop := fun xs H Q => ∃ x d, xs = [x] ∧ Dp K H x d ∧ d.showable = true ∧ d.hasDict = false ∧ d.depth ≤ 64 ∧ d.shown.length ≤ sizeLine ∧ Q (.str d.shown) H
theorem cr_repr (hg : X.A.guards = some []) (hu : X.A.units + 65 < PySem.cLine) : CallR X (.builtin "repr") (rReprD X.K) := by
  intro pins s σ H xs us Q I r h
  obtain ⟨x, d, rfl, hd, hs, hn, hp, hz, q⟩ := h
  obtain ⟨u, rfl, ru⟩ := vals1 r
  obtain ⟨as, rr⟩ := Dp.reads I d x u hd ru
  have fin : ∀ {h' : PySem.Heap} {t : Nat} {u' : PySem.Tok}, (∀ b o, s.heap.get? b = some o → h'.get? b = some o) → EP X pins σ Q (.str d.shown u') { s with heap := h', toks := t } := fun k => ⟨.str d.shown, H, I.kept k, ⟨_, rfl⟩, q⟩
  cases hd with
  | non => cases ru; exact PySem.P.repr_of_none (fin fun _ _ e => e)
  | bl b => cases ru; exact PySem.P.repr_of_bool (fin fun _ _ e => e)
  | int i => 
    obtain ⟨t, rfl⟩ := ru
    exact PySem.P.repr_of_int (by simpa [PySem.PyData.showable] using hs) (fin fun _ _ e => e)
  | str z =>
    obtain ⟨t, rfl⟩ := ru
    exact PySem.P.repr_of_str (fin fun _ _ e => e) hz
  | lst hq hl =>
    cases ru
    exact PySem.repr_of_reads' rr hs (PySem.PyData.noDict_hsm hn) hg (by omega) (fun _ _ e => e) (fun h' u tk k => fin k) hz
  | tup hq hl =>
    cases ru
    exact PySem.repr_of_reads' rr hs (PySem.PyData.noDict_hsm hn) hg (by omega) (fun _ _ e => e) (fun h' u tk k => fin k) hz
mutual
theorem py_noDict : ∀ d : D, d.py.hasDict = false
  | .non => rfl | .bl _ => rfl | .int _ => rfl | .str _ => rfl
  | .tup xs => by simp only [D.py, PySem.PyData.hasDict, pyL_noDict xs]
  | .lst _ xs => by simp only [D.py, PySem.PyData.hasDict, pyL_noDict xs]
theorem pyL_noDict : ∀ ds : List D, PySem.PyData.hasDictAll (pyL ds) = false
  | [] => rfl
  | x :: xs => by simp only [pyL, PySem.PyData.hasDictAll, py_noDict x, pyL_noDict xs, Bool.or_self]
end
end
end DP

/-! DpF: built-in functions by values; calls of defs (with the guards' stack known to be empty). -/
namespace DP
open PySem (Addr sizeLine wpAny model Value Shared Around FuncData BindsTo codeAny Str)
open PySem.W (Frag)
open L2

section
variable {X : Cx} {F : Hp} {O : Own} {H : Hp} {vs : List V} {ds : List D} {Qv : VK}
theorem bi_ok {b : BI} {Q : D → Prop} (w : biD b ds Q) (r : RepL F ds vs O) (s : Sub F H) (h : Own.inH O H) (hc : X.calm = true) (hg : X.A.guards = some []) (hu : X.A.units + 65 < PySem.cLine)
    (k0 : ∀ d v, Q d → Rep F d v [] → Qv v H) (kL : ∀ ds vs p, Q (.lst true ds) → RepL F ds vs [] → H p = none → Qv (.ref p) (upd H p (.lst vs)))
    (kT : ∀ ds vs p, Q (.tup ds) → RepL F ds vs [] → H p = none → Qv (.ref p) (upd H p (.tup vs))) : anyC X b.val vs H Qv := by
  have one : ∀ {d : D} {vs : List V} {O : Own}, RepL F [d] vs O → ∃ v, vs = [v] ∧ Rep F d v O := fun r => by
    cases r with
    | cons a b => cases b; exact ⟨_, rfl, by simpa using a⟩
  have two : ∀ {d e : D} {vs : List V} {O : Own}, RepL F [d, e] vs O → ∃ v u A B, vs = [v, u] ∧ Rep F d v A ∧ Rep F e u B := fun r => by
    cases r with
    | cons a b =>
      obtain ⟨u, rfl, c⟩ := one b
      exact ⟨_, u, _, _, rfl, a, c⟩
  unfold biD at w
  split at w
  · obtain ⟨v, rfl, q⟩ := one r
    obtain ⟨a, us, P, rfl, e, q1, _⟩ := q.lstB s h
    exact ⟨_, call_len, _, _, rfl, .inl ⟨us, .inl e, rfl⟩, by rw [← q1.len]; exact k0 _ _ w (.int _)⟩
  · obtain ⟨v, rfl, q⟩ := one r
    obtain ⟨a, us, rfl, e, q1⟩ := q.tupB s
    exact ⟨_, call_len, _, _, rfl, .inr ⟨us, SqT.of e, rfl⟩, by rw [← q1.len]; exact k0 _ _ w (.int _)⟩
  · obtain ⟨v, rfl, q⟩ := one r
    obtain ⟨rfl, rfl⟩ := q.strI
    exact ⟨_, call_len, _, _, rfl, ⟨w.1, rfl⟩, k0 _ _ w.2 (.int _)⟩
  · obtain ⟨v, rfl, q⟩ := one r
    obtain ⟨rfl, rfl⟩ := q.intI
    exact ⟨_, call_abs, _, rfl, k0 _ _ w (.int _)⟩
  · obtain ⟨v, u, A, B, rfl, q1, q2⟩ := two r
    obtain ⟨rfl, rfl⟩ := q1.intI; obtain ⟨rfl, rfl⟩ := q2.intI
    exact ⟨_, call_min2 hc, _, _, rfl, k0 _ _ w (.int _)⟩
  · obtain ⟨v, u, A, B, rfl, q1, q2⟩ := two r
    obtain ⟨rfl, rfl⟩ := q1.intI; obtain ⟨rfl, rfl⟩ := q2.intI
    exact ⟨_, call_max2 hc, _, _, rfl, k0 _ _ w (.int _)⟩
  · obtain ⟨v, rfl, q⟩ := one r
    obtain ⟨a, us, P, rfl, e, q1, _⟩ := q.lstB s h
    obtain ⟨ns, e1, e2, w⟩ := w
    obtain ⟨rfl, _, _⟩ := intsD_rep q1 e1
    exact ⟨_, cr_min hc, a, ns, rfl, .inl e, e2, fun m hm hy => k0 _ _ (w m hm hy) (.int _)⟩
  · obtain ⟨v, rfl, q⟩ := one r
    obtain ⟨a, us, P, rfl, e, q1, _⟩ := q.lstB s h
    obtain ⟨ns, e1, e2, w⟩ := w
    obtain ⟨rfl, _, _⟩ := intsD_rep q1 e1
    exact ⟨_, cr_max hc, a, ns, rfl, .inl e, e2, fun m hm hy => k0 _ _ (w m hm hy) (.int _)⟩
  · obtain ⟨v, rfl, q⟩ := one r
    obtain ⟨a, us, P, rfl, e, q1, _⟩ := q.lstB s h
    obtain ⟨ns, e1, w⟩ := w
    obtain ⟨rfl, _, _⟩ := intsD_rep q1 e1
    exact ⟨_, cr_sum hc, a, ns, rfl, .inl e, k0 _ _ w (.int _)⟩
  · obtain ⟨v, rfl, q⟩ := one r
    obtain ⟨a, us, P, rfl, e, q1, _⟩ := q.lstB s h
    obtain ⟨ns, e1, w⟩ := w
    have e2 := blsD_rep q1 e1
    subst e2
    exact ⟨_, cr_all hc, a, ns, rfl, .inl e, k0 _ _ w (.bl _)⟩
  · obtain ⟨v, rfl, q⟩ := one r
    obtain ⟨a, us, P, rfl, e, q1, _⟩ := q.lstB s h
    obtain ⟨ns, e1, w⟩ := w
    have e2 := blsD_rep q1 e1
    subst e2
    exact ⟨_, cr_any hc, a, ns, rfl, .inl e, k0 _ _ w (.bl _)⟩
  · obtain ⟨v, rfl, q⟩ := one r
    obtain ⟨a, us, P, rfl, e, q1, _⟩ := q.lstB s h
    rcases w with ⟨ns, e1, w⟩ | ⟨ps, e1, w⟩
    · obtain ⟨rfl, _, _⟩ := intsD_rep q1 e1
      exact ⟨_, cr_sortedI, a, ns, rfl, .inl e, fun ns' p hp hs hn => kL _ _ p (w ns' hp hs) (repL_ints ns') hn⟩
    · obtain ⟨e2, e3⟩ := prsD_rep q1 e1 s
      refine ⟨_, cr_sortedPO, a, us, pairAt H, rfl, .inl e, fun x hx => ?_, fun ys p hs hb hn => ?_⟩
      · obtain ⟨t, e4, e5⟩ := e3 x hx
        exact ⟨t, e4, s _ _ e5⟩
      · have hp : ys.Perm us := hb.perm
        refine kL _ _ p (w (ys.map (pairAt H)) (e2 ▸ hp.map _) ?_) (repL_prs fun y hy => e3 y (hp.mem_iff.mp hy)) hn
        refine List.pairwise_map.mpr (List.Pairwise.imp ?_ (show ys.Pairwise fun x y => ltP (pairAt H) y x = false from hs))
        intro x y q
        have q' := SrtO.lexB_no.mp q
        unfold lexLe
        omega
  · obtain ⟨v, rfl, q⟩ := one r
    obtain ⟨a, us, P, rfl, e, q1, _⟩ := q.lstB s h
    have e2 := q1.free w.1
    subst e2
    exact ⟨_, call_list_of, a, us, rfl, .inl (.inl e), fun p hp => kL _ _ p w.2 q1 hp⟩
  · obtain ⟨v, rfl, q⟩ := one r
    obtain ⟨a, us, rfl, e, q1⟩ := q.tupB s
    have e2 := q1.free w.1
    subst e2
    exact ⟨_, call_list_of, a, us, rfl, .inr (SqT.of e), fun p hp => kL _ _ p w.2 q1 hp⟩
  · obtain ⟨v, rfl, q⟩ := one r
    obtain ⟨a, us, P, rfl, e, q1, _⟩ := q.lstB s h
    have e2 := q1.free w.1
    subst e2
    exact ⟨_, call_tuple_of, a, us, rfl, .inl ⟨.inl e, fun p hp => kT _ _ p w.2 q1 hp⟩⟩
  · obtain ⟨v, rfl, q⟩ := one r
    obtain ⟨rfl, rfl⟩ := q.intI
    exact ⟨_, call_str_int, _, rfl, w.1, k0 _ _ w.2 (.str _)⟩
  · obtain ⟨v, rfl, q⟩ := one r
    obtain ⟨rfl, rfl⟩ := q.strI
    exact ⟨_, SkE.call_str_str, _, rfl, k0 _ _ w (.str _)⟩
  · obtain ⟨v, rfl, q⟩ := one r
    obtain ⟨rfl, rfl⟩ := q.intI
    exact ⟨_, call_int1, .inl ⟨_, rfl, k0 _ _ w (.int _)⟩⟩
  · obtain ⟨v, rfl, q⟩ := one r
    obtain ⟨rfl, rfl⟩ := q.blI
    exact ⟨_, call_int1, .inr ⟨_, rfl, k0 _ _ w (.int _)⟩⟩
  · obtain ⟨v, rfl, q⟩ := one r
    exact ⟨_, cr_repr hg hu, v, _, rfl, q.dp s h, w.1, py_noDict _, w.2.1, w.2.2.1, k0 _ _ w.2.2.2 (.str _)⟩
  · obtain ⟨v, rfl, q⟩ := one r
    obtain ⟨rfl, rfl⟩ := q.intI
    exact ⟨_, call_bool1, .inl ⟨_, rfl, k0 _ _ w (.bl _)⟩⟩
  · obtain ⟨v, rfl, q⟩ := one r
    obtain ⟨rfl, rfl⟩ := q.blI
    exact ⟨_, call_bool1, .inr ⟨_, rfl, k0 _ _ w (.bl _)⟩⟩
  · exact w.elim
end

/-! ### calls of defs -/
/-- as the layer's FnOk, where no repr is under way -/
structure FnG (P : PySem.Program) (w : PySem.World) (K : Frag) (mg : Str → Option Value) (base : PySem.Heap) (k : Nat) (f : Addr) (fd : FuncData) (n : Nat) (ps : List Str) (sp : Sp) : Prop where
  len : ∀ vs H Q E, sp vs H Q E → vs.length = n
  run : ∀ (A : Around) (outer : List PySem.Env) (s : Shared) (H : Hp) (args : PySem.Args) (us : List Value) (vs : List V) (Q : VK) (E : XK), A.guards = some [] → Room k A → Env0 P w K mg base A outer s H →
    BindsTo s fd args (ps.zip us) → Vals vs us → sp vs H Q E → codeAny (model P w) A (.call (.ref f) args) (CR (L2.CX P w) outer P w H s Q E) s
theorem FnG.mono {P : PySem.Program} {w : PySem.World} {K : Frag} {mg : Str → Option Value} {base : PySem.Heap} {j k : Nat} {f : Addr} {fd : FuncData} {n : Nat} {ps : List Str} {sp : Sp} (G : FnG P w K mg base j f fd n ps sp) (h : j ≤ k) :
    FnG P w K mg base k f fd n ps sp := ⟨G.len, fun A o s H a us vs Q E g r => G.run A o s H a us vs Q E g (r.mono h)⟩
section
variable {X : Cx} {k n : Nat} {f : Addr} {fd : FuncData} {ps : List Str} {sp : Sp} {W : WX} {x : Str} {p pos : PySem.Pos} {e : PySem.Expr} {es : List PySem.Expr} {kws : List PySem.Keyword} {t tk : TA}
def tCallG (sp : Sp) (W : WX) (t : TA) : TE := fun σ H Q => t σ H fun vs H1 => sp vs H1 Q fun cls d H2 => W cls d σ H2
theorem run_G {pins : List (Addr × PySem.Obj)} {σ : St} {H : Hp} {s : Shared} {Q : VK} {args : PySem.Args} {us : List Value} {vs : List V} (G : FnG X.prog X.w X.K X.mg X.base k f fd n ps sp) (hg : X.A.guards = some []) (hr : Room k X.A)
    (tk : Takes X W) (I : Inv X pins σ H s) (hb : BindsTo s fd args (ps.zip us)) (r : Vals vs us) (h : sp vs H Q fun cls d H2 => W cls d σ H2) : codeAny (model X.prog X.w) X.A (.call (.ref f) args) (fun rs s' => match rs with
      | .ok (.ret u) => EP X pins σ Q u s'
      | .ok _ => False
      | .error e => X.xe e s') s := by
  refine PySem.codeAny_mono (G.run X.A X.stack s H args us vs Q _ hg hr I.env0 hb r h) fun rs s' q => ?_
  cases rs with
  | error e => exact tk e s' (XE.of_call I (fun _ _ _ z => z) q)
  | ok fl =>
    cases fl with
    | ret u => exact I.after q
    | next => exact False.elim q
    | brk => exact False.elim q
    | cont => exact False.elim q
theorem run_G' {pins : List (Addr × PySem.Obj)} {σ : St} {H : Hp} {s : Shared} {Q : VK} {us ws : List Value} {ks : List Str} {as : List Value} {vs : List V} (G : FnG X.prog X.w X.K X.mg X.base k f fd n ps sp) (hg : X.A.guards = some []) (hr : Room k X.A)
    (tk : Takes X W) (I : Inv X pins σ H s) (hb : BindsTo s fd ⟨us, ks.zip ws⟩ (ps.zip as)) (r : Vals vs as) (h : sp vs H Q fun cls d H2 => W cls d σ H2) : wpAny (model X.prog X.w) X.A (PySem.call (.ref f) us (ks.zip ws)) (EP X pins σ Q) X.xe s := by
  refine PySem.wpAny_call (PySem.codeAny_mono (run_G G hg hr tk I hb r h) fun rs s' q => ?_)
  cases rs with
  | error e => exact q
  | ok fl =>
    cases fl with
    | ret u => exact q
    | next => exact False.elim q
    | brk => exact False.elim q
    | cont => exact False.elim q
theorem pe_callG (G : FnG X.prog X.w X.K X.mg X.base k f fd n ps sp) (hg : X.A.guards = some []) (hr : Room k X.A) (tk : Takes X W) (hx : Gl X x) (hm : X.mg x = some (.ref f)) (hk : PySem.W.keepIn X.K (.ref f) = true)
    (hb : ∀ (s : Shared) (us : List Value), us.length = n → BindsTo s fd ⟨us, []⟩ (ps.zip us)) (ha : PA X (e :: es) t) (hdb : (x == ("__debug__" : Str)) = false)
    (he : PySem.starEach (e :: es) X.env = (false, PySem.eval e X.env) :: PySem.starEach es X.env) (hpl : (PySem.backTo pos (PySem.starEach es X.env)).any (·.1) = false) : PE X (.Call (.Name x p) (e :: es) [] pos) (tCallG sp W t) := by
  refine ⟨fun pins s σ H Q I h => ?_⟩
  refine PySem.wpAny_Call_Name_kw (ld_glob I hx hm ?_ hdb)
  refine PySem.W.callWith_K (h₀ := X.base) I.ok.mod.kin hk (thn (ha.run pos pins s σ H _ I h) fun us s1 ⟨vs, H1, I1, r, q⟩ => ⟨I1.kIn, ?_⟩) he hpl
  exact run_G' (ks := []) (ws := []) G hg hr tk I1 (hb s1 us (by rw [← r.length]; exact G.len _ _ _ _ q)) r q
theorem pe_callG0 (G : FnG X.prog X.w X.K X.mg X.base k f fd n ps sp) (hg : X.A.guards = some []) (hr : Room k X.A) (tk : Takes X W) (hx : Gl X x) (hm : X.mg x = some (.ref f)) (hk : PySem.W.keepIn X.K (.ref f) = true)
    (hb : ∀ (s : Shared) (us : List Value), us.length = n → BindsTo s fd ⟨us, []⟩ (ps.zip us)) (hdb : (x == ("__debug__" : Str)) = false) : PE X (.Call (.Name x p) [] [] pos) (tCallG sp W tNil) := by
  refine ⟨fun pins s σ H Q I h => ?_⟩
  refine PySem.wpAny_Call_Name_kw (ld_glob I hx hm ?_ hdb)
  exact PySem.W.callWith_K0 I.kIn hk (run_G' (us := []) (ks := []) (ws := []) G hg hr tk I (hb s [] (G.len _ _ _ _ h)) .nil h)
end
end DP

/-! DpG: readings over data; what a def promises over data. -/
namespace DP
open PySem (Addr sizeLine wpAny model Value Shared Around FuncData BindsTo codeAny Str Paired)
open PySem.W (Frag)
open L2

def pick {α : Type} : List Bool → List α → List α
  | true :: bs, v :: vs => v :: pick bs vs
  | false :: bs, _ :: vs => pick bs vs
  | _, _ => []
/-- an error, as it lies in the heap -/
def RepX (mg : Str → Option Value) (F H : Hp) (x : Exc) (cls : Value) (dd : Option Addr) : Prop :=
  ∃ C : Addr, mg (Str.ofString x.cls) = some (.ref C) ∧ cls = .ref C ∧ match x.arg with
    | none => dd = none
    | some (f, d) => ∃ dx v, dd = some dx ∧ H dx = some (.xd [(Str.ofString f, v)]) ∧ Rep F d v []
/-- a def's promise by its promise over data -/
def spM (mg : Str → Option Value) (n : Nat) (ios : List Bool) (sp : FSpec) : Sp := fun vs H Q E => ∃ ds F O Qd Rd, RepL F ds vs O ∧ Held F O H ∧ ds.length = n ∧ sp ds Qd Rd ∧
  (∀ r outs, Qd r outs → ∀ F' Or Oo v H', Next F O H F' (Or ++ Oo) H' → Rep F' r v Or → RepL F' outs (pick ios vs) Oo → Q v H') ∧
  (∀ x, Rd x → ∀ F' O' cls dd H', Next F O H F' O' H' → RepX mg F' H' x cls dd → E cls dd H')

/-- what is known of a def by its name -/
structure Ent where
  nm : String
  ps : List String
  ios : List Bool
  sp : FSpec
  kws : List (Nat × List String)
def look (L : List Ent) (f : String) : Option Ent := L.find? fun e => e.nm == f
def sigOf (L : List Ent) (me : List Nat) : Sig where
  sp := fun f => match look L f with | some e => e.sp | none => fun _ _ _ => False
  ios := fun f => match look L f with | some e => e.ios | none => []
  ps := fun f => match look L f with | some e => e.ps | none => []
  me := me
/-- a def that is known: where it stands, what it promises, how its parameters are bound -/
structure KnE (P : PySem.Program) (w : PySem.World) (K : Frag) (mg : Str → Option Value) (base : PySem.Heap) (k : Nat) (e : Ent) : Prop where
  ok : ∃ (a : Addr) (fd : FuncData), mg (Str.ofString e.nm) = some (.ref a) ∧ PySem.W.keepIn K (.ref a) = true ∧ FnG P w K mg base k a fd e.ps.length (e.ps.map Str.ofString) (spM mg e.ps.length e.ios e.sp) ∧
    (∀ (s : Shared) (us : List Value), us.length = e.ps.length → BindsTo s fd ⟨us, []⟩ ((e.ps.map Str.ofString).zip us)) ∧
    (∀ kw ∈ e.kws, ∃ ix, kwIx e.ps kw.2 kw.1 = some ix ∧ ix.length = e.ps.length ∧ (∀ j ∈ ix, j < kw.1 + kw.2.length) ∧ ∀ (s : Shared) (us ws : List Value), us.length = kw.1 → ws.length = kw.2.length →
      BindsTo s fd ⟨us, (kw.2.map Str.ofString).zip ws⟩ ((e.ps.map Str.ofString).zip (atAll (us ++ ws) ix)))
def bnames : List String := ["len", "abs", "min", "max", "sum", "all", "any", "sorted", "list", "tuple", "str", "int", "repr", "bool", "isinstance", "range", "zip", "enumerate", "reversed", "set", "dict"]
structure Wd (L : List Ent) (gl : List (String × D)) (P : PySem.Program) (w : PySem.World) (K : Frag) (mg : Str → Option Value) (base : PySem.Heap) (k : Nat) : Prop where
  kn : ∀ e ∈ L, KnE P w K mg base k e
  bn : ∀ b ∈ bnames, mg (Str.ofString b) = none
  gl : ∀ p ∈ gl, ∃ u v, mg (Str.ofString p.1) = some u ∧ RelV v u ∧ ∀ F, Rep F p.2 v []
/-- where one stands is known -/
structure Cok (L : List Ent) (c : SC) (X : Cx) (W : WX) : Prop where
  N : X.N = c.N
  sc : X.env.scope = c.sc
  nd : X.N.Nodup
  calm : X.calm = true
  st : ∀ x, (c.st.names.lookup x = some .local ∨ c.st.names.lookup x = some .cell) → Loc X.env.scope x ∧ (X.fn x = true ∨ X.env.scope.names.lookup x = some .local)
  hg : X.A.guards = some []
  hu : X.A.units + 65 < PySem.cLine
  tk : Takes X W
  kw : ∀ q ∈ c.kws, ∃ e, look L q.1 = some e ∧ q.2 ∈ e.kws
  fn : ∀ q ∈ c.fns, ∃ e, look L q.1 = some e ∧ e.ps.length = q.2
  wd : ∃ k, Room k X.A ∧ Wd L c.gl X.prog X.w X.K X.mg X.base k

section
variable (mg : Str → Option Value) (W : WX) (F : Hp) (O : Own) (σ : St) (H : Hp)
def okE (Q : VK) (K : KD) : Prop := ∀ d env', K d env' → ∀ F' Od Oe v H', Next F O H F' (Od ++ Oe) H' → Rep F' d v Od → SimE F' env' σ Oe → Q v H'
def okX (R : KX) : Prop := ∀ x env', R x env' → ∀ F' O' cls dd H', Next F O H F' O' H' → SimE F' env' σ O' → RepX mg F' H' x cls dd → W cls dd σ H'
def okT (Q : Bool → Hp → Prop) (K : Bool → Env → Prop) : Prop := ∀ b env', K b env' → ∀ F' Oe H', Next F O H F' Oe H' → SimE F' env' σ Oe → Q b H'
def okL (n : Nat) (Q : List V → Hp → Prop) (K : List D → Env → Prop) : Prop := ∀ ds env', K ds env' → ds.length = n → ∀ F' Od Oe vs H', Next F O H F' (Od ++ Oe) H' → RepL F' ds vs Od → SimE F' env' σ Oe → Q vs H'
def okA (fl : List Bool) (n : Nat) (Q : List V → Hp → Prop) (K : List D → List Nat → Env → Prop) : Prop := ∀ ds tk env', K ds tk env' → ds.length = n → ∀ F' Od Oe vs H', Next F O H F' (Od ++ Oe) H' → RepL F' ds vs Od → SimE F' env' σ Oe →
  Paired (fun (i : Nat) (v : V) => σ[i]? = some (some v)) tk (pick fl vs) → Q vs H'
def okO (Q : Option Int → Hp → Prop) (K : Option Int → Env → Prop) : Prop := ∀ i env', K i env' → ∀ F' Oe H', Next F O H F' Oe H' → SimE F' env' σ Oe → Q i H'
end
variable {mg : Str → Option Value} {W : WX} {F F1 F2 : Hp} {O O1 O2 : Own} {σ : St} {H H1 H2 : Hp}
theorem okE.step {Q : VK} {K : KD} (h : okE F O σ H Q K) (n : Next F O H F1 O1 H1) : okE F1 O1 σ H1 Q K := fun d e k F2 Od Oe v H2 m => h d e k F2 Od Oe v H2 (n.trans m)
theorem okT.step {Q : Bool → Hp → Prop} {K : Bool → Env → Prop} (h : okT F O σ H Q K) (n : Next F O H F1 O1 H1) : okT F1 O1 σ H1 Q K := fun d e k F2 Oe H2 m => h d e k F2 Oe H2 (n.trans m)
theorem okX.step {R : KX} (h : okX mg W F O σ H R) (n : Next F O H F1 O1 H1) : okX mg W F1 O1 σ H1 R := fun x env' r F' O' cls dd H' m s q => h x env' r F' O' cls dd H' (n.trans m) s q

def tE (Γ : Sig) (mg : Str → Option Value) (W : WX) (e : E) : TE := fun σ H Q => ∃ env F O K R, SimE F env σ O ∧ Held F O H ∧ wpE Γ e env K R ∧ okE F O σ H Q K ∧ okX mg W F O σ H R
def tT (Γ : Sig) (mg : Str → Option Value) (W : WX) (e : E) : TT := fun σ H Q => ∃ env F O K R, SimE F env σ O ∧ Held F O H ∧ wpT Γ e env K R ∧ okT F O σ H Q K ∧ okX mg W F O σ H R
def tTo (Γ : Sig) (mg : Str → Option Value) (W : WX) (k : Bool) (es : Es) : TT := fun σ H Q => ∃ env F O K R, SimE F env σ O ∧ Held F O H ∧ wpTo Γ k es env K R ∧ okT F O σ H Q K ∧ okX mg W F O σ H R
def tTs (Γ : Sig) (mg : Str → Option Value) (W : WX) (es : Es) : TT := fun σ H Q => ∃ env F O K R, SimE F env σ O ∧ Held F O H ∧ wpTs Γ es env K R ∧ okT F O σ H Q K ∧ okX mg W F O σ H R
def tBo (Γ : Sig) (mg : Str → Option Value) (W : WX) (k : Bool) (es : Es) : TE := fun σ H Q => ∃ env F O K R, SimE F env σ O ∧ Held F O H ∧ wpBo Γ k es env K R ∧ okE F O σ H Q K ∧ okX mg W F O σ H R
def tEs (Γ : Sig) (mg : Str → Option Value) (W : WX) (es : Es) : TA := fun σ H Q => ∃ env F O K R, SimE F env σ O ∧ Held F O H ∧ wpEs Γ es env K R ∧ okL F O σ H es.len Q K ∧ okX mg W F O σ H R
def tA (Γ : Sig) (mg : Str → Option Value) (W : WX) (fl : List Bool) (es : Es) : TA := fun σ H Q => ∃ env F O K R, SimE F env σ O ∧ Held F O H ∧ wpA Γ es fl env K R ∧ okA F O σ H fl es.len Q K ∧ okX mg W F O σ H R
def tOpt (Γ : Sig) (mg : Str → Option Value) (W : WX) (o : Eo) : TO := fun σ H Q => ∃ env F O K R, SimE F env σ O ∧ Held F O H ∧ wpO Γ o env K R ∧ okO F O σ H Q K ∧ okX mg W F O σ H R

/-- a looked-at value: it is the name's own, or a passing one -/
def BorOk (a : E) (F : Hp) (d : D) (v : V) (Od : Own) (env : Env) (σ : St) : Prop := match a with
  | .var i => Od = [] ∧ env[i]? = some (some d) ∧ σ[i]? = some (some v)
  | _ => Rep F d v Od
def okB (a : E) (F : Hp) (O : Own) (σ : St) (H : Hp) (Q : VK) (K : KD) : Prop := ∀ d env', K d env' → ∀ F' Od Oe v H', Next F O H F' (Od ++ Oe) H' → BorOk a F' d v Od env' σ → SimE F' env' σ Oe → Q v H'
def tB (Γ : Sig) (mg : Str → Option Value) (W : WX) (a : E) : TE := fun σ H Q => ∃ env F O K R, SimE F env σ O ∧ Held F O H ∧ bor a (fun Q' => wpE Γ a env Q' R) env K ∧ okB a F O σ H Q K ∧ okX mg W F O σ H R
/-- several looked-at values; those that pass are owned by Od -/
def BorsOk : Es → Hp → List D → List V → Own → St → Prop
  | .cons a as, F, d :: ds, v :: vs, Od, σ => ∃ A B, Od = A ++ B ∧ (match a with
      | .var i => A = [] ∧ σ[i]? = some (some v)
      | _ => Rep F d v A) ∧ BorsOk as F ds vs B σ
  | .nil, _, [], [], Od, _ => Od = []
  | _, _, _, _, _, _ => False
def okBs (as : Es) (F : Hp) (O : Own) (σ : St) (H : Hp) (Q : List V → Hp → Prop) (K : List D → Env → Prop) : Prop := ∀ ds env', K ds env' → ∀ F' Od Oe vs H', Next F O H F' (Od ++ Oe) H' → BorsOk as F' ds vs Od σ → SimE F' env' σ Oe → Q vs H'
def tBs (Γ : Sig) (mg : Str → Option Value) (W : WX) (as : Es) : TA := fun σ H Q => ∃ env F O K R, SimE F env σ O ∧ Held F O H ∧ wpBs Γ as env K R ∧ okBs as F O σ H Q K ∧ okX mg W F O σ H R

theorem get_iff {env : Env} {i : Nat} {Q : D → Prop} (h : get env i Q) : ∃ d, env[i]? = some (some d) ∧ Q d := by
  unfold get at h
  split at h
  · rename_i d e; exact ⟨d, e, h⟩
  · exact h.elim
/-- the walks of a loop: the items are known, nothing is changed -/
def Walk (F : Hp) (items : List D) (J : It) : Prop := ∀ F0 O0 H i, Held F0 O0 H → Sub F F0 →
  (∀ d, items[i]? = some d → J.go i H ∧ ∀ x H'', J.yld i H x H'' → ∃ F2, Next F0 O0 H F2 O0 H'' ∧ Rep F2 d x []) ∧ (items.length ≤ i → J.stop i H)
def okI (F : Hp) (O : Own) (σ : St) (H : Hp) (Q : It → Hp → Prop) (K : List D → Env → Prop) : Prop := ∀ items env', K items env' → ∀ F' Oe J H', Next F O H F' Oe H' → SimE F' env' σ Oe → Walk F' items J → Q J H'
def tI (Γ : Sig) (mg : Str → Option Value) (W : WX) (it : I) : TI := fun σ H Q => ∃ env F O K R, SimE F env σ O ∧ Held F O H ∧ wpI Γ it env K R ∧ okI F O σ H Q K ∧ okX mg W F O σ H R

mutual
def slots : T → List Nat
  | .nm i => [i]
  | .tp ts => slotsL ts
def slotsL : Ts → List Nat
  | .nil => []
  | .cons t ts => slots t ++ slotsL ts
end
/-- the frame may have changed at these slots alone, none of them the caller's -/
def Chg (me l : List Nat) (σ σ' : St) : Prop := σ'.length = σ.length ∧ (∀ j, j ∉ l → σ'[j]? = σ[j]?) ∧ ∀ j ∈ me, σ'[j]? = σ[j]?
theorem Chg.refl (me l : List Nat) (σ : St) : Chg me l σ σ := ⟨rfl, fun _ _ => rfl, fun _ _ => rfl⟩
theorem Chg.trans {me l : List Nat} {σ σ1 σ2 : St} (a : Chg me l σ σ1) (b : Chg me l σ1 σ2) : Chg me l σ σ2 := ⟨b.1.trans a.1, fun j h => (b.2.1 j h).trans (a.2.1 j h), fun j h => (b.2.2 j h).trans (a.2.2 j h)⟩
theorem Chg.wide {me l l' : List Nat} {σ σ1 : St} (a : Chg me l σ σ1) (h : ∀ j ∈ l, j ∈ l') : Chg me l' σ σ1 := ⟨a.1, fun j q => a.2.1 j fun z => q (h j z), a.2.2⟩
theorem Chg.one {me : List Nat} {σ : St} {i : Nat} {o : Option V} (h : i ∉ me) : Chg me [i] σ (σ.set i o) := by
  refine ⟨List.length_set, fun j q => List.getElem?_set_ne (by simpa using fun z => q (by simp [z])), fun j q => List.getElem?_set_ne (fun z => h (by rw [z]; exact q))⟩
def okG (me l : List Nat) (F : Hp) (O : Own) (σ : St) (H : Hp) (Q : St → Hp → Prop) (K : Env → Prop) : Prop := ∀ env', K env' → ∀ F' O' σ' H', Next F O H F' O' H' → SimE F' env' σ' O' → Chg me l σ σ' → Q σ' H'
def gT (me : List Nat) (t : T) : TG := fun v σ H Q => ∃ env F Od Oe d K, SimE F env σ Oe ∧ Held F (Od ++ Oe) H ∧ Rep F d v Od ∧ setT me t d env K ∧ okG me (slots t) F (Od ++ Oe) σ H Q K
def gTs (me : List Nat) (ts : Ts) : TGs := fun vs σ H Q => ∃ env F Od Oe ds K, SimE F env σ Oe ∧ Held F (Od ++ Oe) H ∧ RepL F ds vs Od ∧ setTs me ts ds env K ∧ okG me (slotsL ts) F (Od ++ Oe) σ H Q K

/-- a name's value is shared from now on -/
theorem freezeSlot {env : Env} (s : SimE F env σ O) (h : Held F O H) {i : Nat} {d : D} (e : env[i]? = some (some d)) :
    ∃ v F' O', σ[i]? = some (some v) ∧ Next F O H F' O' H ∧ Rep F' d.fz v [] ∧ SimE F' (env.set i (some d.fz)) σ O' := by
  obtain ⟨v, A, B, h1, h2, h3, h4⟩ := s.take e
  have hh := h.perm h4
  have n := Next.freeze hh
  have r := h2.frozen hh
  have hi : i < env.length := (List.getElem?_eq_some_iff.mp e).1
  obtain ⟨C, h5, h6⟩ := (h3.mono n.f).put (i := i) (by rw [List.getElem?_set_self hi]) r
  rw [List.set_set, set_self h1] at h5
  exact ⟨v, addF F A, C, h1, (n.perm_from h4.symm).perm h6.symm, r, h5⟩
/-- a name's value is looked at -/
theorem borUse {a : E} {d : D} {v : V} {Od Oe2 : Own} {env1 env2 : Env} (b : BorOk a F1 d v Od env1 σ) (st : still a d env2) (sub : Sub F1 F2) (s : SimE F2 env2 σ Oe2) (h : Held F2 (Od ++ Oe2) H2) :
    ∃ A, Rep F2 d v A ∧ Own.inH A H2 := by
  have gen : Rep F1 d v Od → ∃ A, Rep F2 d v A ∧ Own.inH A H2 := fun r => ⟨Od, r.mono sub, fun p hp => h.o p (List.mem_append_left _ hp)⟩
  cases a with
  | var i =>
    obtain ⟨rfl, _, e2⟩ := b
    obtain ⟨v', A, B, h1, h2, h3, h4⟩ := s.take (show env2[i]? = some (some d) from st)
    rw [e2] at h1; cases h1
    exact ⟨A, h2, fun p hp => h.right.o p (h4.mem_iff.mpr (List.mem_append_left _ hp))⟩
  | _ => exact gen b
theorem borsUse {env2 : Env} (s : SimE F2 env2 σ O2) : ∀ {as : Es} {ds : List D} {vs : List V} {Od : Own}, BorsOk as F1 ds vs Od σ → stills as ds env2 → Sub F1 F2 → Held F2 (Od ++ O2) H2 → ∃ A, RepL F2 ds vs A ∧ Own.inH A H2 := by
  intro as
  induction as using Es.rec (motive_1 := fun _ => True) (motive_3 := fun _ => True) (motive_4 := fun _ => True) (motive_5 := fun _ => True) (motive_6 := fun _ => True) with
  | nil =>
    intro ds vs Od b st sub h
    cases ds with
    | nil => cases vs with
      | nil => exact ⟨[], .nil, fun p hp => by cases hp⟩
      | cons _ _ => exact b.elim
    | cons _ _ => cases vs <;> exact b.elim
  | cons a as _ ih =>
    intro ds vs Od b st sub h
    cases ds with
    | nil => cases vs <;> exact b.elim
    | cons d ds =>
      cases vs with
      | nil => exact b.elim
      | cons v vs =>
        obtain ⟨A, B, rfl, q, b'⟩ := b
        have h' : Held F2 (B ++ O2) H2 := by rw [List.append_assoc] at h; exact h.right
        have hA : Held F2 (A ++ O2) H2 := h.perm (by rw [List.append_assoc]; exact (List.Perm.append_left A List.perm_append_comm).trans (by rw [← List.append_assoc])) |>.left
        obtain ⟨Q, q1, q2⟩ := ih b' st.2 sub h'
        obtain ⟨P, p1, p2⟩ : ∃ P, Rep F2 d v P ∧ Own.inH P H2 := by
          have gen : Rep F1 d v A → ∃ P, Rep F2 d v P ∧ Own.inH P H2 := fun r => ⟨A, r.mono sub, fun p hp => hA.o p (List.mem_append_left _ hp)⟩
          cases a with
          | var i =>
            obtain ⟨_, e2⟩ := q
            obtain ⟨v', A', B', h1, h2, h3, h4⟩ := s.take (show env2[i]? = some (some d) from st.1)
            rw [e2] at h1; cases h1
            exact ⟨A', h2, fun p hp => h'.right.o p (h4.mem_iff.mpr (List.mem_append_left _ hp))⟩
          | _ => exact gen q
        exact ⟨P ++ Q, .cons p1 q1, fun p hp => (List.mem_append.mp hp).elim (p2 p) (q2 p)⟩
  | _ => trivial
/-- the arguments that may have changed are given back -/
theorem putSim : ∀ {tk : List Nat} {outs : List D} {vs : List V} {env : Env} {O Oo : Own}, SimE F env σ O → RepL F outs vs Oo → Paired (fun (i : Nat) (v : V) => σ[i]? = some (some v)) tk vs →
    ∃ Z B C, SimE F (putAll tk outs env) σ C ∧ O.Perm (Z ++ B) ∧ ∃ Y, (Oo ++ B).Perm (Y ++ C)
  | [], [], _, env, O, _, s, .nil, _ => ⟨[], O, O, s, by simp, [], by simp⟩
  | [], _ :: _, _ :: _, _, _, _, _, .cons _ _, h => nomatch h
  | _ :: _, [], [], _, _, _, _, .nil, h => nomatch h
  | i :: tk, o :: outs, v :: vs, env, O, _, s, .cons (O1 := A) (O2 := A2) r rs, .cons e es => by
    have hi : i < env.length := by rw [s.len]; exact (List.getElem?_eq_some_iff.mp e).1
    obtain ⟨Z, B, C, h1, h2, h3⟩ := s.store hi r
    rw [set_self e] at h1
    obtain ⟨Z2, B2, C2, k1, k2, Y, k3⟩ := putSim (tk := tk) h1 rs es
    -- C ~ A ++ B ~ Z2 ++ B2; A2 ++ B2 ~ Y ++ C2
    refine ⟨Z, B, C2, k1, h2, Z2 ++ Y, ?_⟩
    have q1 : (A ++ A2 ++ B).Perm (A2 ++ (Z2 ++ B2)) := by
      refine List.Perm.trans ?_ (List.Perm.append_left A2 (h3.symm.trans k2))
      rw [← List.append_assoc]
      exact List.perm_append_comm.append_right _
    refine q1.trans ?_
    rw [List.append_assoc]
    refine List.Perm.trans ?_ (List.Perm.append_left Z2 k3)
    rw [← List.append_assoc, ← List.append_assoc]
    exact List.perm_append_comm.append_right _
end DP

/-! DpH: small facts of the kit's syntax; what loops walk. -/
namespace DP
open PySem (Addr sizeLine wpAny model Value Shared Around FuncData BindsTo codeAny Str Paired Expr)
open PySem.W (Frag)
open L2

section
variable {X : Cx} {e : Expr} {es : List Expr}
theorem PE.weak {t t' : TE} (h : PE X e t) (k : ∀ σ H Q, t' σ H Q → t σ H Q) : PE X e t' := ⟨fun pins s σ H Q I q => h.run pins s σ H Q I (k σ H Q q)⟩
theorem PT.weak {t t' : TT} (h : PT X e t) (k : ∀ σ H Q, t' σ H Q → t σ H Q) : PT X e t' := ⟨fun pins s σ H Q I q => h.run pins s σ H Q I (k σ H Q q)⟩
theorem PW.weak {t t' : TT} (h : PW X e t) (k : ∀ σ H Q, t' σ H Q → t σ H Q) : PW X e t' := ⟨fun wh pins s σ H Q I q => h.run wh pins s σ H Q I (k σ H Q q)⟩
theorem PA.weak {t t' : TA} (h : PA X es t) (k : ∀ σ H Q, t' σ H Q → t σ H Q) : PA X es t' := ⟨fun pos pins s σ H Q I q => h.run pos pins s σ H Q I (k σ H Q q)⟩
theorem PTs.weak {t t' : TT} (h : PTs X es t) (k : ∀ σ H Q, t' σ H Q → t σ H Q) : PTs X es t' := ⟨fun pins s σ H Q I q => h.run pins s σ H Q I (k σ H Q q)⟩
theorem PI.weak {tg it : Expr} {t t' : TI} (h : PI X tg it t) (k : ∀ σ H Q, t' σ H Q → t σ H Q) : PI X tg it t' := ⟨fun pins s σ H R I q => h.run pins s σ H R I (k σ H R q)⟩
theorem PG.weak {tg : Expr} {t t' : TG} (h : PG X tg t) (k : ∀ v σ H Q, t' v σ H Q → t v σ H Q) : PG X tg t' := ⟨fun pins s σ H v u Q I r q => h.run pins s σ H v u Q I r (k v σ H Q q)⟩
theorem PGs.weak {tg : List Expr} {t t' : TGs} (h : PGs X tg t) (k : ∀ v σ H Q, t' v σ H Q → t v σ H Q) : PGs X tg t' := ⟨fun pins s σ H v u Q I r q => h.run pins s σ H v u Q I r (k v σ H Q q)⟩
end

theorem star_cons {e : Expr} {es : List Expr} {env : PySem.Env} (h : isStar e = false) : PySem.starEach (e :: es) env = (false, PySem.eval e env) :: PySem.starEach es env := by
  cases e <;> first | rfl | (simp [isStar] at h)
theorem chk_star {c : SC} {e : E} {ex : Expr} (h : chkE c e ex = true) : isStar ex = false := by
  cases ex <;> first | rfl | (cases e <;> simp [chkE] at h)
theorem chk_slice {c : SC} {e : E} {ex : Expr} (h : chkE c e ex = true) : PlainIx ex := by
  intro o i
  cases ex <;> first | rfl | (cases e <;> simp [chkE] at h)
theorem plain_all {c : SC} {env : PySem.Env} {pos : PySem.Pos} : ∀ {as : Es} {es : List Expr}, chkEs c as es = true → (PySem.backTo pos (PySem.starEach es env)).any (·.1) = false
  | .nil, [], _ => rfl
  | .cons a as, e :: es, h => by
    simp only [chkEs, Bool.and_eq_true] at h
    rw [star_cons (chk_star h.1)]
    show (false || (PySem.backTo pos (PySem.starEach es env)).any (·.1)) = false
    rw [plain_all h.2]; rfl
  | .nil, _ :: _, h => by simp [chkEs] at h
  | .cons _ _, [], h => by simp [chkEs] at h
theorem noSet_ok {e : Expr} {env : PySem.Env} (h : noSet e = true) : ∀ x, PySem.foldedSetIterable e env x = pure x := by
  intro x
  cases e <;> first | rfl | (simp [noSet] at h)
theorem noSet_mark {e : Expr} {op : PySem.CmpOp} (h : noSet e = true) : PySem.behindInMarks op e = false := by
  cases e <;> first | rfl | (simp [noSet] at h)

/-! ### what loops walk -/
section
variable {K : Frag} {F : Hp}
theorem Walk.list {a : Addr} {vs : List V} {items : List D} (e : Rd F a (.lst vs)) (r : RepL F items vs []) : Walk F items (Itl K a) := by
  intro F0 O0 H i h s
  have eH : SqL K H a vs := .inl ((s.trans h.f).rd e)
  have uni : ∀ xs, SqL K H a xs → Rd H a (.lst vs) → True := fun _ _ _ => trivial
  refine ⟨fun d hd => ?_, fun hi => ⟨vs, eH, by rw [← r.len]; exact hi⟩⟩
  obtain ⟨v, A, B, C, h1, h2, h3, _⟩ := r.nth hd
  have hB : B = [] := by
    have : A ++ B ++ C = [] := h3.symm
    simp at this; exact this.2.1
  subst hB
  refine ⟨⟨vs, v, eH, h1⟩, fun x H'' y => ?_⟩
  obtain ⟨rfl, y⟩ := y
  have := y vs eH
  rw [h1] at this; cases this
  exact ⟨F0, Next.refl h, h2.mono s⟩
theorem Walk.tup {a : Addr} {vs : List V} {items : List D} (e : F a = some (.tup vs)) (r : RepL F items vs []) : Walk F items (Itt K a) := by
  intro F0 O0 H i h s
  have eH : SqT K H a vs := SqT.of (h.f _ _ (s _ _ e))
  refine ⟨fun d hd => ?_, fun hi => ⟨vs, eH, by rw [← r.len]; exact hi⟩⟩
  obtain ⟨v, A, B, C, h1, h2, h3, _⟩ := r.nth hd
  have hB : B = [] := by
    have : A ++ B ++ C = [] := h3.symm
    simp at this; exact this.2.1
  subst hB
  refine ⟨⟨vs, v, eH, h1⟩, fun x H'' y => ?_⟩
  obtain ⟨rfl, y⟩ := y
  have := y vs eH
  rw [h1] at this; cases this
  exact ⟨F0, Next.refl h, h2.mono s⟩
theorem Walk.str {z : Str} : Walk F (z.cps.toList.map fun c => .str ⟨#[c]⟩) (Its z) := by
  intro F0 O0 H i h s
  refine ⟨fun d hd => ?_, fun hi => ?_⟩
  · rw [List.getElem?_map] at hd
    cases q : z.cps.toList[i]? with
    | none => rw [q] at hd; cases hd
    | some c =>
      rw [q] at hd; cases hd
      have q' : z.cps[i]? = some c := by rw [← Array.getElem?_toList]; exact q
      refine ⟨(Array.getElem?_eq_some_iff.mp q').1, fun x H'' y => ?_⟩
      obtain ⟨rfl, c', e1, rfl⟩ := y
      rw [q'] at e1; cases e1
      exact ⟨F0, Next.refl h, .str _⟩
  · show z.cps.size ≤ i
    simpa using hi
theorem rng_at {lo c : Int} {n i : Nat} {d : D} (h : (rngD lo n c)[i]? = some d) : i < n ∧ d = .int (lo + (i : Nat) * c) := by
  unfold rngD at h
  rw [List.getElem?_map] at h
  by_cases hi : i < n
  · rw [List.getElem?_range hi] at h
    cases h
    exact ⟨hi, rfl⟩
  · rw [List.getElem?_eq_none (by simp; omega)] at h; cases h
theorem Walk.rng {lo : Int} {n : Nat} : Walk F (rngD lo n 1) (Itr lo n) := by
  intro F0 O0 H i h s
  refine ⟨fun d hd => ?_, fun hi => ?_⟩
  · obtain ⟨h1, rfl⟩ := rng_at hd
    refine ⟨h1, fun x H'' y => ?_⟩
    obtain ⟨rfl, rfl⟩ := y
    rw [Int.mul_one]
    exact ⟨F0, Next.refl h, .int _⟩
  · show n ≤ i
    simpa [rngD] using hi
theorem Walk.rngC {lo c : Int} {n : Nat} : Walk F (rngD lo n c) (Itc lo c n) := by
  intro F0 O0 H i h s
  refine ⟨fun d hd => ?_, fun hi => ?_⟩
  · obtain ⟨h1, rfl⟩ := rng_at hd
    refine ⟨h1, fun x H'' y => ?_⟩
    obtain ⟨rfl, rfl⟩ := y
    exact ⟨F0, Next.refl h, .int _⟩
  · show n ≤ i
    simpa [rngD] using hi
theorem RepL.nth0 {ds : List D} {vs : List V} (r : RepL F ds vs []) {j : Nat} {d : D} (e : ds[j]? = some d) : ∃ v, vs[j]? = some v ∧ Rep F d v [] := by
  obtain ⟨v, A, B, C, h1, h2, h3, _⟩ := r.nth e
  have hB : B = [] := by
    have : A ++ B ++ C = [] := h3.symm
    simp at this; exact this.2.1
  subst hB
  exact ⟨v, h1, h2⟩
theorem Walk.zip {a b : Addr} {vs us : List V} {xs ys : List D} (e : Rd F a (.lst vs)) (r : RepL F xs vs []) (e' : Rd F b (.lst us)) (r' : RepL F ys us []) : Walk F (xs.zipWith (fun x y => .tup [x, y]) ys) (Itz K a b) := by
  intro F0 O0 H i h s
  have eH : SqL K H a vs := .inl ((s.trans h.f).rd e)
  have eH' : SqL K H b us := .inl ((s.trans h.f).rd e')
  refine ⟨fun d hd => ?_, fun hi => ⟨vs, us, eH, eH', ?_⟩⟩
  · rw [List.getElem?_zipWith] at hd
    cases q1 : xs[i]? with
    | none => rw [q1] at hd; cases hd
    | some x =>
      cases q2 : ys[i]? with
      | none => rw [q1, q2] at hd; cases hd
      | some y =>
        rw [q1, q2] at hd; cases hd
        obtain ⟨v, h1, h2⟩ := r.nth0 q1
        obtain ⟨u, k1, k2⟩ := r'.nth0 q2
        refine ⟨⟨vs, us, v, u, eH, eH', h1, k1⟩, fun z H'' w => ?_⟩
        obtain ⟨T, p, p', rfl, hT, rfl, w1, w2⟩ := w
        have z1 := w1 vs eH
        have z2 := w2 us eH'
        rw [h1] at z1; rw [k1] at z2; cases z1; cases z2
        have n := Next.newF h hT (.tup [v, u])
        exact ⟨_, n, .tup upd_same (.mk ((h2.mono s).mono n.f) (.mk ((k2.mono s).mono n.f) .nil))⟩
  · rw [List.length_zipWith] at hi
    rw [← r.len, ← r'.len]
    omega
theorem Walk.enum {a : Addr} {vs : List V} {xs : List D} (e : Rd F a (.lst vs)) (r : RepL F xs vs []) : Walk F (xs.zipIdx.map fun p => .tup [.int p.2, p.1]) (Ite K a) := by
  intro F0 O0 H i h s
  have eH : SqL K H a vs := .inl ((s.trans h.f).rd e)
  refine ⟨fun d hd => ?_, fun hi => ⟨vs, eH, by rw [← r.len]; simpa using hi⟩⟩
  rw [List.getElem?_map, List.getElem?_zipIdx] at hd
  cases q1 : xs[i]? with
  | none => rw [q1] at hd; cases hd
  | some x =>
    rw [q1] at hd
    simp only [Option.map_some, Nat.zero_add] at hd
    cases hd
    obtain ⟨v, h1, h2⟩ := r.nth0 q1
    refine ⟨⟨vs, v, eH, h1⟩, fun z H'' w => ?_⟩
    obtain ⟨T, p, rfl, hT, rfl, w1⟩ := w
    have z1 := w1 vs eH
    rw [h1] at z1; cases z1
    have n := Next.newF h hT (.tup [.int (i : Nat), v])
    exact ⟨_, n, .tup upd_same (.mk (.int _) (.mk ((h2.mono s).mono n.f) .nil))⟩
theorem Walk.rev {a : Addr} {vs : List V} {xs : List D} (e : Rd F a (.lst vs)) (r : RepL F xs vs []) : Walk F xs.reverse (Itv K a vs.length) := by
  intro F0 O0 H i h s
  have eH : SqL K H a vs := .inl ((s.trans h.f).rd e)
  refine ⟨fun d hd => ?_, fun hi => by show vs.length ≤ i; rw [← r.len]; simpa using hi⟩
  have hl : i < xs.length := by have := (List.getElem?_eq_some_iff.mp hd).1; simpa using this
  rw [List.getElem?_reverse hl] at hd
  obtain ⟨v, h1, h2⟩ := r.nth0 hd
  rw [r.len] at h1 hl
  refine ⟨⟨hl, vs, v, eH, h1⟩, fun z H'' w => ?_⟩
  obtain ⟨rfl, w1⟩ := w
  have z1 := w1 vs eH
  rw [h1] at z1; cases z1
  exact ⟨F0, Next.refl h, h2.mono s⟩
end
section
variable {X : Cx} {tg : Expr} {pins : List (Addr × PySem.Obj)} {σ : St} {H : Hp} {s : Shared} {R : It → Hp → Prop} {E : Value → Shared → Prop}
theorem iter_list {a : Addr} {xs : List V} (I : Inv X pins σ H s) (hq : SqL X.K H a xs) (q : R (Itl X.K a) H) : wpAny (model X.prog X.w) X.A (PySem.pyIter (.ref a)) (PIE X pins σ tg R) E s := by
  obtain ⟨its, rv, p, hz⟩ := I.list hq
  exact PySem.wpAny_pyIter_list p.isList (pi_one (tk := s.toks) I _ (turn_list a _) ⟨_, PySem.Heap.get?_push_size _ rfl, rfl, rfl⟩ q)
theorem iter_tup {a : Addr} {xs : List V} (I : Inv X pins σ H s) (hq : SqT X.K H a xs) (q : R (Itt X.K a) H) : wpAny (model X.prog X.w) X.A (PySem.pyIter (.ref a)) (PIE X pins σ tg R) E s := by
  obtain ⟨its, rv, p, hz⟩ := I.tuple hq
  exact PySem.wpAny_pyIter_tuple (show s.heap.IsTuple a its.toArray from p) (pi_one (tk := s.toks) I _ (turn_tuple a _) ⟨_, PySem.Heap.get?_push_size _ rfl, rfl, rfl⟩ q)
theorem iter_str {x : Str} {t : PySem.Tok} (I : Inv X pins σ H s) (q : R (Its x) H) : wpAny (model X.prog X.w) X.A (PySem.pyIter (.str x t)) (PIE X pins σ tg R) E s := by
  cases ha : x.cps.all (· < 128)
  · exact PySem.wpAny_pyIter_wide ha (pi_one (tk := s.toks) I _ (turn_str _ x t "str_iterator" (.inr rfl)) ⟨_, PySem.Heap.get?_push_size _ rfl, rfl, rfl⟩ q)
  · exact PySem.wpAny_pyIter_ascii ha (pi_one (tk := s.toks) I _ (turn_str _ x t "str_ascii_iterator" (.inl rfl)) ⟨_, PySem.Heap.get?_push_size _ rfl, rfl, rfl⟩ q)
end
end DP

/-! DpI: every expression of the small language runs as its data say. -/
namespace DP
open PySem (Addr sizeLine wpAny model Value Shared Around FuncData BindsTo codeAny Str Paired Expr)
open PySem.W (Frag)
open L2

section
variable {X : Cx} {k n : Nat} {f : Addr} {fd : FuncData} {ps ks : List Str} {sp : Sp} {W : WX} {x : Str} {p pos : PySem.Pos} {e : Expr} {es : List Expr} {kws : List PySem.Keyword} {t tk : TA} {m : Nat} {gV : List V → List V → List V} {g : List Value → List Value → List Value}
def tCallGK (m : Nat) (ks : List Str) (sp : Sp) (W : WX) (gV : List V → List V → List V) (t tk : TA) : TE := fun σ H Q => t σ H fun vs H1 => tk σ H1 fun zs H2 => vs.length = m ∧ zs.length = ks.length ∧ sp (gV vs zs) H2 Q fun cls d H3 => W cls d σ H3
theorem kw_fin (G : FnG X.prog X.w X.K X.mg X.base k f fd n ps sp) (hg : X.A.guards = some []) (hr : Room k X.A) (hT : Takes X W)
    (hb : ∀ (s : Shared) (us ws : List Value) (vs zs : List V), Vals vs us → Vals zs ws → vs.length = m → zs.length = ks.length → (gV vs zs).length = n → Vals (gV vs zs) (g us ws) ∧ BindsTo s fd ⟨us, ks.zip ws⟩ (ps.zip (g us ws))) (hkw : PK X kws tk)
    (hks : (PySem.backToKw pos (PySem.keywordEach kws X.env)).filterMap (·.1) = ks) {pins : List (Addr × PySem.Obj)} {σ : St} {Q : VK} {us : List Value} {s1 : Shared} {vs : List V} {H1 : Hp} (I1 : Inv X pins σ H1 s1) (r : Vals vs us)
    (q : tk σ H1 fun zs H2 => vs.length = m ∧ zs.length = ks.length ∧ sp (gV vs zs) H2 Q fun cls d H3 => W cls d σ H3) :
    wpAny (model X.prog X.w) X.A (PySem.evalAll ((PySem.backToKw pos (PySem.keywordEach kws X.env)).map (·.2))) (fun ws s2 => X.K.In s2.heap ∧ wpAny (model X.prog X.w) X.A (PySem.call (.ref f) us (((PySem.backToKw pos (PySem.keywordEach kws X.env)).filterMap (·.1)).zip ws)) (EP X pins σ Q) X.xe s2) X.xe s1 := by
  refine thn (hkw.run pos pins s1 σ H1 _ I1 q) fun ws s2 ⟨zs, H2, I2, rz, q2⟩ => ⟨I2.kIn, ?_⟩
  rw [hks]
  obtain ⟨l1, l2, q2⟩ := q2
  obtain ⟨b1, b2⟩ := hb s2 us ws vs zs r rz l1 l2 (G.len _ _ _ _ q2)
  exact run_G' G hg hr hT I2 b2 b1 q2
theorem pe_callGK (G : FnG X.prog X.w X.K X.mg X.base k f fd n ps sp) (hg : X.A.guards = some []) (hr : Room k X.A) (hT : Takes X W) (hx : Gl X x) (hm : X.mg x = some (.ref f)) (hk : PySem.W.keepIn X.K (.ref f) = true)
    (hb : ∀ (s : Shared) (us ws : List Value) (vs zs : List V), Vals vs us → Vals zs ws → vs.length = m → zs.length = ks.length → (gV vs zs).length = n → Vals (gV vs zs) (g us ws) ∧ BindsTo s fd ⟨us, ks.zip ws⟩ (ps.zip (g us ws))) (ha : PA X (e :: es) t) (hkw : PK X kws tk)
    (hall : (PySem.backToKw pos (PySem.keywordEach kws X.env)).all (·.1.isSome) = true) (hks : (PySem.backToKw pos (PySem.keywordEach kws X.env)).filterMap (·.1) = ks) (hdb : (x == ("__debug__" : Str)) = false) (he : PySem.starEach (e :: es) X.env = (false, PySem.eval e X.env) :: PySem.starEach es X.env)
    (hpl : ((PySem.backTo pos (PySem.starEach (e :: es) X.env)).any (·.1) || (PySem.backToKw pos (PySem.keywordEach kws X.env)).any (·.1.isNone)) = false) : PE X (.Call (.Name x p) (e :: es) kws pos) (tCallGK m ks sp W gV t tk) := by
  refine ⟨fun pins s σ H Q I h => ?_⟩
  refine PySem.wpAny_Call_Name_kw (ld_glob I hx hm ?_ hdb)
  exact PySem.W.callWith_KW (h₀ := X.base) (first := []) I.ok.mod.kin hk hall (thn (ha.run pos pins s σ H _ I h) fun us s1 ⟨vs, H1, I1, r, q⟩ => kw_fin G hg hr hT hb hkw hks I1 r q) hpl he
theorem pe_callGK0 (G : FnG X.prog X.w X.K X.mg X.base k f fd n ps sp) (hg : X.A.guards = some []) (hr : Room k X.A) (hT : Takes X W) (hx : Gl X x) (hm : X.mg x = some (.ref f)) (hk : PySem.W.keepIn X.K (.ref f) = true)
    (hb : ∀ (s : Shared) (us ws : List Value) (vs zs : List V), Vals vs us → Vals zs ws → vs.length = m → zs.length = ks.length → (gV vs zs).length = n → Vals (gV vs zs) (g us ws) ∧ BindsTo s fd ⟨us, ks.zip ws⟩ (ps.zip (g us ws))) (hkw : PK X kws tk)
    (hall : (PySem.backToKw pos (PySem.keywordEach kws X.env)).all (·.1.isSome) = true) (hks : (PySem.backToKw pos (PySem.keywordEach kws X.env)).filterMap (·.1) = ks) (hdb : (x == ("__debug__" : Str)) = false)
    (hpl : ((PySem.backTo pos (PySem.starEach [] X.env)).any (·.1) || (PySem.backToKw pos (PySem.keywordEach kws X.env)).any (·.1.isNone)) = false) : PE X (.Call (.Name x p) [] kws pos) (tCallGK m ks sp W gV tNil tk) := by
  refine ⟨fun pins s σ H Q I h => ?_⟩
  refine PySem.wpAny_Call_Name_kw (ld_glob I hx hm ?_ hdb)
  exact PySem.W.callWith_KW0 (h₀ := X.base) (first := []) I.ok.mod.kin hk hall (kw_fin (us := []) G hg hr hT hb hkw hks I .nil h) hpl
end

/-! ### what chk gives -/
section
variable {L : List Ent} {c : SC} {X : Cx} {W : WX}
theorem Cok.seen (C : Cok L c X W) {i : Nat} {x : Str} (h : seen c i x = true) : X.N[i]? = some x ∧ Vis X.env.scope x ∧ (x == ("__debug__" : Str)) = false ∧ (x == ("__classdict__" : Str)) = false := by
  unfold DP.seen at h
  simp only [Bool.and_eq_true, decide_eq_true_eq, Bool.not_eq_true'] at h
  obtain ⟨⟨⟨h1, h2⟩, h3⟩, h4⟩ := h
  refine ⟨by rw [C.N]; exact h1, ?_, h3, h4⟩
  rw [C.sc]
  unfold Vis
  split at h2
  · exact .inl (by assumption)
  · exact .inr (.inl (by assumption))
  · exact .inr (.inr (by assumption))
  · cases h2
theorem Cok.mine (C : Cok L c X W) {i : Nat} {x : Str} (h : mine c i x = true) : X.N[i]? = some x ∧ Loc X.env.scope x ∧ (X.fn x = true ∨ X.env.scope.names.lookup x = some .local) := by
  unfold DP.mine at h
  simp only [Bool.and_eq_true, decide_eq_true_eq] at h
  obtain ⟨h1, h2⟩ := h
  refine ⟨by rw [C.N]; exact h1, C.st x ?_⟩
  split at h2
  · exact .inl (by assumption)
  · exact .inr (by assumption)
  · cases h2
theorem Cok.glob (C : Cok L c X W) {x : Str} (h : glob c x = true) : Gl X x ∧ (x == ("__debug__" : Str)) = false := by
  unfold DP.glob at h
  simp only [Bool.and_eq_true, Bool.not_eq_true'] at h
  refine ⟨?_, h.2⟩
  unfold Gl
  show X.env.scope.names.lookup x = some .globalImplicit
  rw [C.sc]
  have h1 := h.1
  split at h1
  · assumption
  · cases h1
theorem Cok.bn (C : Cok L c X W) {b : String} (h : b ∈ bnames) : X.mg (Str.ofString b) = none := by
  obtain ⟨k, _, w⟩ := C.wd
  exact w.bn b h
theorem BI.name_mem (b : BI) : b.name ∈ bnames := by cases b <;> decide
theorem BI.boot (b : BI) : PySem.bootBuiltins (Str.ofString b.name) = some b.val := by cases b <;> decide +kernel
theorem BI.nn (b : BI) : Str.ofString b.name ≠ "__name__" := by cases b <;> decide
/-- the callee -/
theorem Cok.ent (C : Cok L c X W) {f : String} {n : Nat} (me : List Nat) (h : c.fns.contains (f, n) = true) :
    ∃ e k, e.nm = f ∧ e.ps.length = n ∧ Room k X.A ∧ KnE X.prog X.w X.K X.mg X.base k e ∧ (sigOf L me).sp f = e.sp ∧ (sigOf L me).ios f = e.ios ∧ (sigOf L me).ps f = e.ps := by
  obtain ⟨e, q, hn⟩ := C.fn (f, n) (by simpa using h)
  obtain ⟨k, hr, w⟩ := C.wd
  have q' : look L f = some e := q
  have hm : e ∈ L := List.mem_of_find?_eq_some q'
  have hf : e.nm = f := by have := List.find?_some q'; simpa using this
  refine ⟨e, k, hf, hn, hr, w.kn e hm, ?_, ?_, ?_⟩ <;> (unfold sigOf; simp only [q'])
theorem Cok.entK (C : Cok L c X W) {f : String} {n : Nat} {ks : List String} (me : List Nat) (h : c.kws.contains (f, n, ks) = true) :
    ∃ e k, e.nm = f ∧ (n, ks) ∈ e.kws ∧ Room k X.A ∧ KnE X.prog X.w X.K X.mg X.base k e ∧ (sigOf L me).sp f = e.sp ∧ (sigOf L me).ios f = e.ios ∧ (sigOf L me).ps f = e.ps := by
  obtain ⟨e, q, hn⟩ := C.kw (f, n, ks) (by simpa using h)
  obtain ⟨k, hr, w⟩ := C.wd
  have q' : look L f = some e := q
  have hm : e ∈ L := List.mem_of_find?_eq_some q'
  have hf : e.nm = f := by have := List.find?_some q'; simpa using this
  refine ⟨e, k, hf, hn, hr, w.kn e hm, ?_, ?_, ?_⟩ <;> (unfold sigOf; simp only [q'])
theorem blk_cok (C : Cok L c X W) {scope : PySem.Scope} {s : Shared} {H : Hp} {C' : Addr} {cl : List (Str × Addr)} {fp : List Addr} : Cok L (inner c scope) (X.blk s H scope (PySem.compEnvC scope cl C' X.env) fp) (fun _ _ _ _ => False) := by
  refine ⟨C.N, ?_, C.nd, C.calm, fun x h => ?_, C.hg, C.hu, fun u s' ⟨_, _, _, _, _, _, _, _, _, _, _, _, _, _, _, _, w⟩ => w.elim, C.kw, C.fn, C.wd⟩
  · show relS scope X.env.scope = relS scope c.sc
    rw [C.sc]
  · have h' : scope.names.lookup x = some .local ∨ scope.names.lookup x = some .cell := h
    rcases h' with h' | h'
    · have q : (relS scope X.env.scope).names.lookup x = some .local := lookup_relS_keep (by decide) h'
      exact ⟨.inl q, .inr q⟩
    · have q : (relS scope X.env.scope).names.lookup x = some .cell := lookup_relS_keep (by decide) h'
      exact ⟨.inr q, .inl (by show (scope.names.lookup x == some .cell) = true; rw [h']; rfl)⟩
end

/-! ### names of a comprehension -/
section
variable {F F1 F2 : Hp} {O : Own} {σ : St}
theorem wipeSim {env : Env} (s : SimE F env σ O) : ∀ own : List Nat, ∃ Z B, SimE F (wipeE own env) (wipe σ own) B ∧ O.Perm (Z ++ B)
  | [] => ⟨[], O, s, by simp⟩
  | i :: own => by
    obtain ⟨Z, B, h1, h2⟩ := wipeSim s own
    obtain ⟨Z2, B2, h3, h4⟩ := h1.wipe i
    refine ⟨Z ++ Z2, B2, ?_, h2.trans (by rw [List.append_assoc]; exact h4.append_left _)⟩
    show SimE F ((wipeE own env).set i none) ((wipe σ own).set i none) B2
    by_cases hi : i < (wipeE own env).length
    · exact h3.any none (by rw [List.getElem?_set_self hi])
    · have e1 : (wipeE own env).set i none = wipeE own env := List.set_eq_of_length_le (by omega)
      have e2 : (wipe σ own).set i none = wipe σ own := List.set_eq_of_length_le (by rw [← h1.len]; omega)
      rw [e2]; exact h3
theorem backE_set {old : Env} : ∀ {is : List Nat} {env : Env} {i : Nat} {a b : Option D}, (backE old is (env.set i a)).set i b = (backE old is env).set i b
  | [], env, i, a, b => by simp [backE, List.set_set]
  | j :: is, env, i, a, b => by
    unfold backE
    by_cases e : j = i
    · subst e
      rw [List.set_set, List.set_set]
      exact backE_set
    · rw [List.set_comm _ _ e, List.set_comm _ _ e, backE_set]
theorem backSim {old : Env} {Oold : Own} (so : SimE F1 old σ Oold) (sub : Sub F1 F2) : ∀ (own : List Nat) {env : Env} {O : Own}, SimE F2 env (wipe σ own) O → ∃ Z B, SimE F2 (backE old own env) σ B ∧ O.Perm (Z ++ B)
  | [], env, O, s => ⟨[], O, s, by simp⟩
  | i :: own, env, O, s => by
    have s' : SimE F2 env ((wipe σ own).set i none) O := s
    have hl : env.length = (wipe σ own).length := by rw [s'.len, List.length_set]
    by_cases hi : i < env.length
    · obtain ⟨Z, B, h1, h2⟩ := s'.wipe i
      have e0 : (env.set i none)[i]? = some none := by rw [List.getElem?_set_self hi]
      have h3 := h1.any ((wipe σ own)[i]'(by omega)) e0
      rw [List.set_set, set_self (l := wipe σ own) (by rw [List.getElem?_eq_getElem])] at h3
      obtain ⟨Z2, B2, h4, h5⟩ := backSim so sub own h3
      have hp : O.Perm ((Z ++ Z2) ++ B2) := h2.trans (by rw [List.append_assoc]; exact h5.append_left _)
      show ∃ Z B, SimE F2 ((backE old own env).set i _) σ B ∧ O.Perm (Z ++ B)
      rw [← backE_set (a := none)]
      have none_case : ∃ Z B, SimE F2 ((backE old own (env.set i none)).set i none) σ B ∧ O.Perm (Z ++ B) := by
        obtain ⟨Z3, B3, h6, h7⟩ := h4.wipe i
        exact ⟨Z ++ Z2 ++ Z3, B3, h6, hp.trans (by have q := h7.append_left (Z ++ Z2); rw [← List.append_assoc] at q; exact q)⟩
      split
      · rename_i d e
        by_cases q : d.isFz = true
        · rw [if_pos q]
          obtain ⟨v, A, _, k1, k2, _, _⟩ := so.take e
          have hA := k2.free q
          subst hA
          have hi2 : i < (backE old own (env.set i none)).length := by rw [h4.len, ← so.len]; exact (List.getElem?_eq_some_iff.mp e).1
          obtain ⟨Z3, B3, C3, h6, h7, h8⟩ := h4.store hi2 (k2.mono sub)
          rw [set_self k1] at h6
          exact ⟨Z ++ Z2 ++ Z3, C3, h6, hp.trans (by have q := (h7.trans (h8.symm.append_left Z3)).append_left (Z ++ Z2); rw [← List.append_assoc] at q; exact q)⟩
        · rw [if_neg q]; exact none_case
      · exact none_case
    · have e2 : (wipe σ own).set i none = wipe σ own := List.set_eq_of_length_le (by omega)
      rw [e2] at s'
      obtain ⟨Z, B, h1, h2⟩ := backSim so sub own s'
      refine ⟨Z, B, ?_, h2⟩
      show SimE F2 ((backE old own env).set i _) σ B
      rw [List.set_eq_of_length_le (by rw [h1.len, ← so.len] <;> (have := so.len; have := h1.len; rw [wipe_length] at hl; omega))]
      exact h1
end
end DP

/-! DpJ: what a passed chk tells of the kit's expression. -/
namespace DP
open PySem (Str Expr Pos)

section
variable {c : SC} {ex : Expr}
theorem chk_var {i : Nat} (h : chkE c (.var i) ex = true) : ∃ x p, ex = .Name x p ∧ seen c i x = true := by
  cases ex <;> first | (simp [chkE] at h; done) | exact ⟨_, _, rfl, by simpa [chkE] using h⟩
theorem chk_mov {i : Nat} (h : chkE c (.mov i) ex = true) : ∃ x p, ex = .Name x p ∧ seen c i x = true := by
  cases ex <;> first | (simp [chkE] at h; done) | exact ⟨_, _, rfl, by simpa [chkE] using h⟩
theorem chk_con {d : D} (h : chkE c (.con d) ex = true) : ∃ k j p, ex = .Constant k j p ∧ conD d k = true := by
  cases ex <;> first | (simp [chkE] at h; done) | exact ⟨_, _, _, rfl, by simpa [chkE] using h⟩
theorem chk_glo {x : String} {d : D} (h : chkE c (.glo x d) ex = true) : ∃ p, ex = .Name (Str.ofString x) p ∧ glob c (Str.ofString x) = true ∧ ∃ q ∈ c.gl, q.1 = x ∧ atomEq q.2 d = true := by
  cases ex with
  | Name y p =>
    simp only [chkE, Bool.and_eq_true, decide_eq_true_eq, List.any_eq_true, beq_iff_eq] at h
    obtain ⟨⟨rfl, h2⟩, q, hq, h3, h4⟩ := h
    exact ⟨p, rfl, h2, q, hq, h3, h4⟩
  | _ => simp [chkE] at h
theorem chk_bin {o : Op} {a b : E} (h : chkE c (.bin o a b) ex = true) : ∃ a' b' p, ex = .BinOp a' (opOf o) b' p ∧ chkE c a a' = true ∧ chkE c b b' = true := by
  cases ex with
  | BinOp a' o' b' p =>
    simp only [chkE, Bool.and_eq_true, decide_eq_true_eq] at h
    obtain ⟨⟨rfl, h2⟩, h3⟩ := h
    exact ⟨a', b', p, rfl, h2, h3⟩
  | _ => simp [chkE] at h
theorem chk_neg {a : E} (h : chkE c (.neg a) ex = true) : ∃ a' p, ex = .UnaryOp .USub a' p ∧ chkE c a a' = true := by
  cases ex with
  | UnaryOp o a' p => cases o <;> first | (simp [chkE] at h; done) | exact ⟨a', p, rfl, by simpa [chkE] using h⟩
  | _ => simp [chkE] at h
theorem chk_nt {a : E} (h : chkE c (.nt a) ex = true) : ∃ a' p, ex = .UnaryOp .Not a' p ∧ chkE c a a' = true := by
  cases ex with
  | UnaryOp o a' p => cases o <;> first | (simp [chkE] at h; done) | exact ⟨a', p, rfl, by simpa [chkE] using h⟩
  | _ => simp [chkE] at h
theorem chk_bo {k : Bool} {as : Es} (h : chkE c (.bo k as) ex = true) : ∃ as' p, ex = .BoolOp (boOf k) as' p ∧ chkEs c as as' = true := by
  cases ex with
  | BoolOp o as' p =>
    simp only [chkE, Bool.and_eq_true, decide_eq_true_eq] at h
    obtain ⟨rfl, h2⟩ := h
    exact ⟨as', p, rfl, h2⟩
  | _ => simp [chkE] at h
theorem chk_cmp {o : CO} {a b : E} (h : chkE c (.cmp o a b) ex = true) : ∃ a' b' p, ex = .Compare a' [cmpOf o] [b'] p ∧ chkE c a a' = true ∧ chkE c b b' = true ∧ noSet b' = true := by
  cases ex with
  | Compare a' os bs p =>
    match os, bs with
    | [o'], [b'] =>
      simp only [chkE, Bool.and_eq_true, decide_eq_true_eq] at h
      obtain ⟨⟨⟨rfl, h2⟩, h3⟩, h4⟩ := h
      exact ⟨a', b', p, rfl, h2, h3, h4⟩
    | [], _ => simp [chkE] at h
    | _ :: _ :: _, _ => simp [chkE] at h
    | [_], [] => simp [chkE] at h
    | [_], _ :: _ :: _ => simp [chkE] at h
  | _ => simp [chkE] at h
theorem chk_chn {o q : CO} {a b d : E} (h : chkE c (.chn o q a b d) ex = true) : ∃ a' b' d' p, ex = .Compare a' [cmpOf o, cmpOf q] [b', d'] p ∧ chkE c a a' = true ∧ chkE c b b' = true ∧ chkE c d d' = true ∧ noSet b' = true ∧ noSet d' = true := by
  cases ex with
  | Compare a' os bs p =>
    match os, bs with
    | [o', q'], [b', d'] =>
      simp only [chkE, Bool.and_eq_true, decide_eq_true_eq] at h
      obtain ⟨⟨⟨⟨⟨⟨rfl, rfl⟩, h2⟩, h3⟩, h4⟩, h5⟩, h6⟩ := h
      exact ⟨a', b', d', p, rfl, h2, h3, h4, h5, h6⟩
    | [], _ => simp [chkE] at h
    | [_], _ => simp [chkE] at h
    | _ :: _ :: _ :: _, _ => simp [chkE] at h
    | [_, _], [] => simp [chkE] at h
    | [_, _], [_] => simp [chkE] at h
    | [_, _], _ :: _ :: _ :: _ => simp [chkE] at h
  | _ => simp [chkE] at h
theorem chk_ife {d a b : E} (h : chkE c (.ife d a b) ex = true) : ∃ d' a' b' p, ex = .IfExp d' a' b' p ∧ chkE c d d' = true ∧ chkE c a a' = true ∧ chkE c b b' = true := by
  cases ex with
  | IfExp d' a' b' p =>
    simp only [chkE, Bool.and_eq_true] at h
    exact ⟨d', a', b', p, rfl, h.1.1, h.1.2, h.2⟩
  | _ => simp [chkE] at h
theorem chk_call {f : String} {as : Es} (h : chkE c (.call f as) ex = true) : ∃ as' q p, ex = .Call (.Name (Str.ofString f) q) as' [] p ∧ glob c (Str.ofString f) = true ∧ chkEs c as as' = true ∧ c.fns.contains (f, as'.length) = true := by
  cases ex with
  | Call fn as' ks p =>
    cases ks with
    | nil =>
      cases fn with
      | Name x q =>
        simp only [chkE, Bool.and_eq_true, decide_eq_true_eq] at h
        obtain ⟨⟨⟨rfl, h2⟩, h3⟩, h4⟩ := h
        exact ⟨as', q, p, rfl, h2, h3, h4⟩
      | _ => simp [chkE] at h
    | cons _ _ => cases fn <;> simp [chkE] at h
  | _ => simp [chkE] at h
theorem chk_calk {f : String} {as bs : Es} {ks : List String} (h : chkE c (.calk f as ks bs) ex = true) : ∃ as' ks' q p, ex = .Call (.Name (Str.ofString f) q) as' ks' p ∧ glob c (Str.ofString f) = true ∧ chkEs c as as' = true ∧ chkK c ks bs ks' = true ∧ c.kws.contains (f, as'.length, ks) = true := by
  cases ex with
  | Call fn as' ks' p =>
    cases fn with
    | Name x q =>
      simp only [chkE, Bool.and_eq_true, decide_eq_true_eq] at h
      obtain ⟨⟨⟨⟨rfl, h2⟩, h3⟩, h4⟩, h5⟩ := h
      exact ⟨as', ks', q, p, rfl, h2, h3, h4, h5⟩
    | _ => simp [chkE] at h
  | _ => simp [chkE] at h
theorem chk_bi {b : BI} {as : Es} (h : chkE c (.bi b as) ex = true) : ∃ as' q p, ex = .Call (.Name (Str.ofString b.name) q) as' [] p ∧ glob c (Str.ofString b.name) = true ∧ chkEs c as as' = true := by
  cases ex with
  | Call fn as' ks p =>
    cases ks with
    | nil =>
      cases fn with
      | Name x q =>
        simp only [chkE, Bool.and_eq_true, decide_eq_true_eq] at h
        obtain ⟨⟨rfl, h2⟩, h3⟩ := h
        exact ⟨as', q, p, rfl, h2, h3⟩
      | _ => simp [chkE] at h
    | cons _ _ => cases fn <;> simp [chkE] at h
  | _ => simp [chkE] at h
theorem chk_rprT {as : Es} (h : chkE c (.rpr true as) ex = true) : ∃ as' q p k r, ex = .Call (.Name (Str.ofString "repr") q) [.Tuple as' k r] [] p ∧ glob c (Str.ofString "repr") = true ∧ chkEs c as as' = true := by
  cases ex with
  | Call fn as' ks p =>
    cases ks with
    | nil =>
      cases fn with
      | Name x q =>
        match as' with
        | [a'] =>
          cases a' with
          | Tuple es k r =>
            simp only [chkE, Bool.and_eq_true, decide_eq_true_eq] at h
            obtain ⟨⟨rfl, h2⟩, h3⟩ := h
            exact ⟨es, q, p, k, r, rfl, h2, h3⟩
          | _ => simp [chkE] at h
        | [] => simp [chkE] at h
        | _ :: _ :: _ => simp [chkE] at h
      | _ => simp [chkE] at h
    | cons _ _ => cases fn <;> simp [chkE] at h
  | _ => simp [chkE] at h
theorem chk_rprL {as : Es} (h : chkE c (.rpr false as) ex = true) : ∃ as' q p r, ex = .Call (.Name (Str.ofString "repr") q) [.List as' r] [] p ∧ glob c (Str.ofString "repr") = true ∧ chkEs c as as' = true := by
  cases ex with
  | Call fn as' ks p =>
    cases ks with
    | nil =>
      cases fn with
      | Name x q =>
        match as' with
        | [a'] =>
          cases a' with
          | List es r =>
            simp only [chkE, Bool.and_eq_true, decide_eq_true_eq] at h
            obtain ⟨⟨rfl, h2⟩, h3⟩ := h
            exact ⟨es, q, p, r, rfl, h2, h3⟩
          | _ => simp [chkE] at h
        | [] => simp [chkE] at h
        | _ :: _ :: _ => simp [chkE] at h
      | _ => simp [chkE] at h
    | cons _ _ => cases fn <;> simp [chkE] at h
  | _ => simp [chkE] at h
theorem chk_isi {a : E} {t : String} (h : chkE c (.isi a t) ex = true) : ∃ a' q r p, ex = .Call (.Name (Str.ofString "isinstance") q) [a', .Name (Str.ofString t) r] [] p ∧ glob c (Str.ofString "isinstance") = true ∧ chkE c a a' = true ∧ glob c (Str.ofString t) = true ∧ tyNames.contains t = true := by
  cases ex with
  | Call fn as' ks p =>
    cases ks with
    | nil =>
      cases fn with
      | Name x q =>
        match as' with
        | [a', y] =>
          cases y with
          | Name y r =>
            simp only [chkE, Bool.and_eq_true, decide_eq_true_eq] at h
            obtain ⟨⟨⟨⟨⟨rfl, h2⟩, h3⟩, rfl⟩, h5⟩, h6⟩ := h
            exact ⟨a', q, r, p, rfl, h2, h3, h5, h6⟩
          | _ => simp [chkE] at h
        | [] => simp [chkE] at h
        | [_] => simp [chkE] at h
        | _ :: _ :: _ :: _ => simp [chkE] at h
      | _ => simp [chkE] at h
    | cons _ _ => cases fn <;> simp [chkE] at h
  | _ => simp [chkE] at h
theorem chk_sub {a i : E} (h : chkE c (.sub a i) ex = true) : ∃ a' i' p, ex = .Subscript a' i' p ∧ chkE c a a' = true ∧ chkE c i i' = true := by
  cases ex with
  | Subscript a' i' p =>
    simp only [chkE, Bool.and_eq_true] at h
    exact ⟨a', i', p, rfl, h.1, h.2⟩
  | _ => simp [chkE] at h
theorem chk_slc {a : E} {lo hi : Eo} (h : chkE c (.slc a lo hi) ex = true) : ∃ a' lo' hi' q p, ex = .Subscript a' (.Slice lo' hi' .none q) p ∧ chkE c a a' = true ∧ chkO c lo lo' = true ∧ chkO c hi hi' = true := by
  cases ex with
  | Subscript a' i' p =>
    cases i' with
    | Slice lo' hi' st q =>
      cases st with
      | none =>
        simp only [chkE, Bool.and_eq_true] at h
        exact ⟨a', lo', hi', q, p, rfl, h.1.1, h.1.2, h.2⟩
      | some _ => simp [chkE] at h
    | _ => simp [chkE] at h
  | _ => simp [chkE] at h
theorem chk_tup {as : Es} (h : chkE c (.tup as) ex = true) : ∃ as' k p, ex = .Tuple as' k p ∧ chkEs c as as' = true := by
  cases ex <;> first | (simp [chkE] at h; done) | exact ⟨_, _, _, rfl, by simpa [chkE] using h⟩
theorem chk_lst {as : Es} (h : chkE c (.lst as) ex = true) : ∃ as' p, ex = .List as' p ∧ chkEs c as as' = true := by
  cases ex <;> first | (simp [chkE] at h; done) | exact ⟨_, _, rfl, by simpa [chkE] using h⟩
theorem chk_lc {elt : E} {t : T} {it : I} {ifs : Es} {own : List Nat} (h : chkE c (.lc elt t it ifs own) ex = true) : ∃ elt' t' it' ifs' scope p, ex = .ListComp elt' [⟨t', it', ifs', 0⟩] scope p ∧
    chkI c it it' = true ∧ noSet it' = true ∧ (needTup it = true → isTupE t' = true) ∧ L2.blkC c.N c.sc scope (ownP c own) = true ∧ chkT (inner c scope) t t' = true ∧ chkEs (inner c scope) ifs ifs' = true ∧ chkE (inner c scope) elt elt' = true ∧ tin own t = true := by
  cases ex with
  | ListComp elt' gs scope p =>
    match gs with
    | [⟨t', it', ifs', ay⟩] =>
      by_cases ha : ay = 0
      · subst ha
        simp only [chkE, Bool.and_eq_true, Bool.or_eq_true, Bool.not_eq_true'] at h
        obtain ⟨⟨⟨⟨⟨⟨⟨h1, h2⟩, h3⟩, h4⟩, h5⟩, h6⟩, h7⟩, h8⟩ := h
        refine ⟨elt', t', it', ifs', scope, p, rfl, h1, h2, fun z => ?_, h4, h5, h6, h7, h8⟩
        rcases h3 with q | q
        · rw [z] at q; cases q
        · exact q
      · exfalso
        unfold chkE at h
        split at h
        all_goals first | (cases h; done) | simp_all
    | [] => simp [chkE] at h
    | _ :: _ :: _ => simp [chkE] at h
  | _ => simp [chkE] at h
theorem chkEs_len : ∀ {as : Es} {es : List Expr}, chkEs c as es = true → as.len = es.length
  | .nil, [], _ => rfl
  | .cons a as, e :: es, h => by
    simp only [chkEs, Bool.and_eq_true] at h
    show as.len + 1 = es.length + 1
    rw [chkEs_len h.2]
  | .nil, _ :: _, h => by simp [chkEs] at h
  | .cons _ _, [], h => by simp [chkEs] at h
theorem chkEs_nil {es : List Expr} (h : chkEs c .nil es = true) : es = [] := by
  cases es with
  | nil => rfl
  | cons _ _ => simp [chkEs] at h
theorem chkEs_cons {a : E} {as : Es} {es : List Expr} (h : chkEs c (.cons a as) es = true) : ∃ e es', es = e :: es' ∧ chkE c a e = true ∧ chkEs c as es' = true := by
  cases es with
  | nil => simp [chkEs] at h
  | cons e es' =>
    simp only [chkEs, Bool.and_eq_true] at h
    exact ⟨e, es', rfl, h.1, h.2⟩
end
end DP

/-! DpK: the steps of each construct, from its parts. -/
namespace DP
open PySem (Addr sizeLine wpAny model Value Shared Around FuncData BindsTo codeAny Str Paired Expr)
open PySem.W (Frag)
open L2

section
variable {L : List Ent} {c : SC} {X : Cx} {W : WX} {me : List Nat}
theorem PE.never {e : Expr} : PE X e (fun _ _ _ => False) := ⟨fun _ _ _ _ _ _ h => h.elim⟩
theorem next_left {F : Hp} {A B : Own} {H F' : Hp} {O' : Own} {H' : Hp} (h : Held F (A ++ B) H) (n : Next F A H F' O' H') : Next F (A ++ B) H F' (O' ++ B) H' :=
  (Next.frame (h.perm List.perm_append_comm) n).perm_from List.perm_append_comm |>.perm List.perm_append_comm
theorem perm3 {A B C : Own} : (A ++ (B ++ C)).Perm (B ++ (A ++ C)) := by
  rw [← List.append_assoc, ← List.append_assoc]
  exact List.perm_append_comm.append_right _
theorem chkEs_cons' {c : SC} {as : Es} {e : Expr} {es : List Expr} (h : chkEs c as (e :: es) = true) : ∃ a as2, as = .cons a as2 ∧ chkE c a e = true ∧ chkEs c as2 es = true := by
  cases as with
  | nil => simp [chkEs] at h
  | cons a as2 =>
    simp only [chkEs, Bool.and_eq_true] at h
    exact ⟨a, as2, rfl, h.1, h.2⟩
/-- a looked-at value, just read -/
theorem borNow {F : Hp} {a : E} {d : D} {v : V} {Od Oe : Own} {env : Env} {σ : St} {H : Hp} (b : BorOk a F d v Od env σ) (s : SimE F env σ Oe) (h : Held F (Od ++ Oe) H) : ∃ A, Rep F d v A ∧ Own.inH A H := by
  refine borUse b ?_ (Sub.refl F) s h
  cases a <;> first | trivial | exact b.2.1
theorem sB {a : E} {ex : Expr} (hE : PE X ex (tE (sigOf L me) X.mg W a)) (C : Cok L c X W) (h : chkE c a ex = true) : PE X ex (tB (sigOf L me) X.mg W a) := by
  cases a with
  | var i =>
    obtain ⟨x, p, rfl, h⟩ := chk_var h
    obtain ⟨h1, h2, h3, h4⟩ := C.seen h
    refine PE.weak (pe_var h1 h2 h3 h4) fun σ H Q ⟨env, F, O, K, R, s, hh, w, ok, ox⟩ => ?_
    obtain ⟨d, e, hk⟩ := get_iff w
    obtain ⟨v, A, B, k1, k2, k3, k4⟩ := s.take e
    exact ⟨v, k1, ok d env hk F [] O v H (Next.refl hh) ⟨rfl, e, k1⟩ s⟩
  | _ => exact PE.weak hE fun _ _ _ q => q
theorem st_bin {o : Op} {a b : E} {a' b' : Expr} {p : PySem.Pos} (ha : PE X a' (tE (sigOf L me) X.mg W a)) (hb : PE X b' (tE (sigOf L me) X.mg W b)) : PE X (.BinOp a' (opOf o) b' p) (tE (sigOf L me) X.mg W (.bin o a b)) := by
  refine PE.weak (pe_op any_ok ha hb) fun σ H Q ⟨env, F, O, K, R, s, hh, w, ok, ox⟩ => ?_
  simp only [wpE] at w
  refine ⟨env, F, O, _, R, s, hh, w, fun d1 env1 w1 F1 Od1 Oe1 v1 H1 n1 r1 s1 => ?_, ox⟩
  refine ⟨env1, F1, Oe1, _, R, s1, n1.held.right, w1, fun d2 env2 w2 F2 Od2 Oe2 v2 H2 n2 r2 s2 => ?_, ox.step n1.drop⟩
  have nf := Next.frame n1.held n2
  rw [← List.append_assoc] at nf
  exact bin_ok w2 (r1.mono n2.f) r2 nf.held fun d hd F3 Od v H3 n3 r3 => ok d env2 hd F3 Od Oe2 v H3 ((n1.trans nf).trans n3) r3 (s2.mono n3.f)
theorem st_neg {a : E} {a' : Expr} {p : PySem.Pos} (ha : PE X a' (tE (sigOf L me) X.mg W a)) : PE X (.UnaryOp .USub a' p) (tE (sigOf L me) X.mg W (.neg a)) := by
  refine PE.weak (pe_un un_neg ha) fun σ H Q ⟨env, F, O, K, R, s, hh, w, ok, ox⟩ => ?_
  simp only [wpE] at w
  refine ⟨env, F, O, _, R, s, hh, w, fun d1 env1 w1 F1 Od1 Oe1 v1 H1 n1 r1 s1 => ?_, ox⟩
  obtain ⟨i, rfl, hk⟩ := w1
  obtain ⟨rfl, rfl⟩ := r1.intI
  exact ⟨i, rfl, ok _ env1 hk F1 [] Oe1 _ H1 n1 (.int _) s1⟩
theorem st_nt {a : E} {a' : Expr} {p : PySem.Pos} (ha : PE X a' (tE (sigOf L me) X.mg W a)) : PE X (.UnaryOp .Not a' p) (tE (sigOf L me) X.mg W (.nt a)) := by
  refine PE.weak (pe_notT ha) fun σ H Q ⟨env, F, O, K, R, s, hh, w, ok, ox⟩ => ?_
  simp only [wpE] at w
  refine ⟨env, F, O, _, R, s, hh, w, fun d1 env1 w1 F1 Od1 Oe1 v1 H1 n1 r1 s1 => ?_, ox⟩
  obtain ⟨t1, t2⟩ := tru_of (K := X.K) w1 r1 n1.held.f n1.held.left.o
  exact ⟨_, t1, ok _ env1 t2 F1 [] Oe1 _ H1 n1.drop (.bl _) s1⟩
theorem st_cmp {o : CO} {a b : E} {a' b' : Expr} {p : PySem.Pos} (C : Cok L c X W) (ha : PE X a' (tB (sigOf L me) X.mg W a)) (hb : PE X b' (tB (sigOf L me) X.mg W b)) (hn : noSet b' = true) : PE X (.Compare a' [cmpOf o] [b'] p) (tE (sigOf L me) X.mg W (.cmp o a b)) := by
  refine PE.weak (pe_cmpR any_ok ha hb (noSet_mark hn)) fun σ H Q ⟨env, F, O, K, R, s, hh, w, ok, ox⟩ => ?_
  simp only [wpE] at w
  refine ⟨env, F, O, _, R, s, hh, w, fun d1 env1 w1 F1 Od1 Oe1 v1 H1 n1 b1 s1 => ?_, ox⟩
  refine ⟨env1, F1, Oe1, _, R, s1, n1.held.right, w1, fun d2 env2 w2 F2 Od2 Oe2 v2 H2 n2 b2 s2 => ?_, ox.step n1.drop⟩
  have nf := Next.frame n1.held n2
  obtain ⟨A1, r1, i1⟩ := borUse b1 w2.1 n2.f s2 (nf.held.perm (by rw [← List.append_assoc]; exact (List.perm_append_comm (l₁ := Od1) (l₂ := Od2)).append_right _ |>.trans (by rw [List.append_assoc]))).right
  obtain ⟨A2, r2, i2⟩ := borNow b2 s2 n2.held
  exact cmp_ok w2.2 r1 r2 n2.held.f i1 i2 C.hu fun k hk => ok _ env2 hk F2 [] Oe2 _ H2 ((n1.trans nf).drop.drop) (.bl k) s2
theorem tt_cmp {o : CO} {a b : E} {a' b' : Expr} {p : PySem.Pos} (C : Cok L c X W) (ha : PE X a' (tB (sigOf L me) X.mg W a)) (hb : PE X b' (tB (sigOf L me) X.mg W b)) (hn : noSet b' = true) : PT X (.Compare a' [cmpOf o] [b'] p) (tT (sigOf L me) X.mg W (.cmp o a b)) := by
  refine PT.weak (pt_cmpR any_ok ha hb (noSet_mark hn)) fun σ H Q ⟨env, F, O, K, R, s, hh, w, ok, ox⟩ => ?_
  simp only [wpT] at w
  refine ⟨env, F, O, _, R, s, hh, w, fun d1 env1 w1 F1 Od1 Oe1 v1 H1 n1 b1 s1 => ?_, ox⟩
  refine ⟨env1, F1, Oe1, _, R, s1, n1.held.right, w1, fun d2 env2 w2 F2 Od2 Oe2 v2 H2 n2 b2 s2 => ?_, ox.step n1.drop⟩
  have nf := Next.frame n1.held n2
  obtain ⟨A1, r1, i1⟩ := borUse b1 w2.1 n2.f s2 (nf.held.perm (by rw [← List.append_assoc]; exact (List.perm_append_comm (l₁ := Od1) (l₂ := Od2)).append_right _ |>.trans (by rw [List.append_assoc]))).right
  obtain ⟨A2, r2, i2⟩ := borNow b2 s2 n2.held
  exact cmp_ok w2.2 r1 r2 n2.held.f i1 i2 C.hu fun k hk => ⟨k, rfl, ok _ env2 hk F2 Oe2 H2 ((n1.trans nf).drop.drop) s2⟩
theorem marks {op op' : PySem.CmpOp} {b d : Expr} (h : noSet d = true) : PySem.lastMarks [op, op'] [b, d] = false := by
  show PySem.behindInMarks op' d = false
  exact noSet_mark h
theorem st_chn {o q : CO} {a b d : E} {a' b' d' : Expr} {p : PySem.Pos} (C : Cok L c X W) (ha : PE X a' (tE (sigOf L me) X.mg W a)) (hb : PE X b' (tE (sigOf L me) X.mg W b)) (hd : PE X d' (tE (sigOf L me) X.mg W d)) (hn : noSet d' = true) :
    PE X (.Compare a' [cmpOf o, cmpOf q] [b', d'] p) (tE (sigOf L me) X.mg W (.chn o q a b d)) := by
  refine PE.weak (pe_chain any_ok any_ok ha hb hd (marks hn)) fun σ H Q ⟨env, F, O, K, R, s, hh, w, ok, ox⟩ => ?_
  simp only [wpE] at w
  refine ⟨env, F, O, _, R, s, hh, w, fun d1 env1 w1 F1 Od1 Oe1 v1 H1 n1 r1 s1 => ?_, ox⟩
  refine ⟨env1, F1, Oe1, _, R, s1, n1.held.right, w1, fun d2 env2 w2 F2 Od2 Oe2 v2 H2 n2 r2 s2 => ?_, ox.step n1.drop⟩
  have nf := Next.frame n1.held n2
  refine cmp_ok w2 (r1.mono n2.f) r2 n2.held.f nf.held.left.o n2.held.left.o C.hu fun k hk => ⟨k, rfl, ?_⟩
  have n12 := (n1.trans nf).drop
  cases k with
  | false => exact ok _ env2 hk F2 [] Oe2 _ H2 n12.drop (.bl _) s2
  | true =>
    refine ⟨env2, F2, Oe2, _, R, s2, n12.held.right, hk, fun d3 env3 w3 F3 Od3 Oe3 v3 H3 n3 r3 s3 => ?_, ox.step n12.drop⟩
    have ng := Next.frame n12.held n3
    exact cmp_ok w3 (r2.mono n3.f) r3 n3.held.f ng.held.left.o n3.held.left.o C.hu fun k' hk' => ok _ env3 hk' F3 [] Oe3 _ H3 (n12.trans ng).drop.drop (.bl _) s3
theorem tt_chn {o q : CO} {a b d : E} {a' b' d' : Expr} {p : PySem.Pos} (C : Cok L c X W) (ha : PE X a' (tE (sigOf L me) X.mg W a)) (hb : PE X b' (tE (sigOf L me) X.mg W b)) (hd : PE X d' (tE (sigOf L me) X.mg W d)) (hn : noSet d' = true) :
    PT X (.Compare a' [cmpOf o, cmpOf q] [b', d'] p) (tT (sigOf L me) X.mg W (.chn o q a b d)) := by
  refine PT.weak (pt_chain any_ok any_ok ha hb hd (marks hn)) fun σ H Q ⟨env, F, O, K, R, s, hh, w, ok, ox⟩ => ?_
  simp only [wpT] at w
  refine ⟨env, F, O, _, R, s, hh, w, fun d1 env1 w1 F1 Od1 Oe1 v1 H1 n1 r1 s1 => ?_, ox⟩
  refine ⟨env1, F1, Oe1, _, R, s1, n1.held.right, w1, fun d2 env2 w2 F2 Od2 Oe2 v2 H2 n2 r2 s2 => ?_, ox.step n1.drop⟩
  have nf := Next.frame n1.held n2
  refine cmp_ok w2 (r1.mono n2.f) r2 n2.held.f nf.held.left.o n2.held.left.o C.hu fun k hk => ⟨k, rfl, ?_⟩
  have n12 := (n1.trans nf).drop
  cases k with
  | false => exact ⟨_, rfl, ok _ env2 hk F2 Oe2 H2 n12.drop s2⟩
  | true =>
    refine ⟨env2, F2, Oe2, _, R, s2, n12.held.right, hk, fun d3 env3 w3 F3 Od3 Oe3 v3 H3 n3 r3 s3 => ?_, ox.step n12.drop⟩
    have ng := Next.frame n12.held n3
    exact cmp_ok w3 (r2.mono n3.f) r3 n3.held.f ng.held.left.o n3.held.left.o C.hu fun k' hk' => ⟨_, rfl, ok _ env3 hk' F3 Oe3 H3 (n12.trans ng).drop.drop s3⟩
theorem st_ife {d a b : E} {d' a' b' : Expr} {p : PySem.Pos} (hd : PT X d' (tT (sigOf L me) X.mg W d)) (ha : PE X a' (tE (sigOf L me) X.mg W a)) (hb : PE X b' (tE (sigOf L me) X.mg W b)) : PE X (.IfExp d' a' b' p) (tE (sigOf L me) X.mg W (.ife d a b)) := by
  refine PE.weak (pe_ifExp hd ha hb) fun σ H Q ⟨env, F, O, K, R, s, hh, w, ok, ox⟩ => ?_
  simp only [wpE] at w
  refine ⟨env, F, O, _, R, s, hh, w, fun k env1 w1 F1 Oe1 H1 n1 s1 => ?_, ox⟩
  cases k with
  | true => exact ⟨env1, F1, Oe1, _, R, s1, n1.held, w1, ok.step n1, ox.step n1⟩
  | false => exact ⟨env1, F1, Oe1, _, R, s1, n1.held, w1, ok.step n1, ox.step n1⟩

/-! ### a call of a def -/
/-- behind the call -/
theorem call_post {F F1 : Hp} {O Od Oe : Own} {σ : St} {H H1 : Hp} {env1 : Env} {tk : List Nat} {vs : List V} {ios : List Bool} (n1 : Next F O H F1 (Od ++ Oe) H1) (s1 : SimE F1 env1 σ Oe)
    (tko : Paired (fun (i : Nat) (v : V) => σ[i]? = some (some v)) tk (pick ios vs)) {F2 : Hp} {Or Oo : Own} {H2 : Hp} {outs : List D} (n2 : Next F1 Od H1 F2 (Or ++ Oo) H2) (ro : RepL F2 outs (pick ios vs) Oo) :
    ∃ C, Next F O H F2 (Or ++ C) H2 ∧ SimE F2 (putAll tk outs env1) σ C := by
  have n3 := next_left n1.held n2
  obtain ⟨Z, B, C, k1, k2, Y, k3⟩ := putSim (s1.mono n2.f) ro tko
  refine ⟨C, ?_, k1⟩
  refine ((n1.trans n3).perm (O'' := (Z ++ Y) ++ (Or ++ C)) ?_).drop
  have q1 : (Or ++ Oo ++ Oe).Perm (Or ++ (Z ++ (Oo ++ B))) := by
    rw [List.append_assoc]
    refine List.Perm.append_left Or ((List.Perm.append_left Oo k2).trans ?_)
    rw [← List.append_assoc, ← List.append_assoc]
    exact List.perm_append_comm.append_right _
  refine q1.trans ?_
  refine (List.Perm.append_left Or (List.Perm.append_left Z k3)).trans ?_
  rw [← List.append_assoc Z Y C]
  exact perm3
theorem st_call {f : String} {as : Es} {es : List Expr} {q p : PySem.Pos} (C : Cok L c X W) (hx : glob c (Str.ofString f) = true) (hc : chkEs c as es = true) (hf : c.fns.contains (f, es.length) = true)
    (ha : ∀ fl, PA X es (tA (sigOf L me) X.mg W fl as)) : ∃ (t : TE), PE X (.Call (.Name (Str.ofString f) q) es [] p) t ∧ ∀ (F : Hp) (O : Own) (σ : St) (H : Hp) (Q : VK) (env : Env) (K : KD) (R : KX), SimE F env σ O → Held F O H →
      wpA (sigOf L me) as ((sigOf L me).ios f) env (fun ds tk env1 => (sigOf L me).sp f ds (fun r outs => outs.length = tk.length ∧ K r (putAll tk outs env1)) fun x => R x env1) R → okE F O σ H Q K → okX X.mg W F O σ H R → t σ H Q := by
  obtain ⟨e, k, en, el, hr, KE, e1, e2, e3⟩ := C.ent me hf
  obtain ⟨a, fd, m1, m2, G, b1, b2⟩ := KE.ok
  obtain ⟨g1, g2⟩ := C.glob hx
  have m1' : X.mg (Str.ofString f) = some (.ref a) := by rw [← en]; exact m1
  refine ⟨tCallG (spM X.mg e.ps.length e.ios e.sp) W (tA (sigOf L me) X.mg W e.ios as), ?_, fun F O σ H Q env K R s hh w ok ox => ?_⟩
  · cases es with
    | nil =>
      have hn : as = .nil := by cases as with
        | nil => rfl
        | cons _ _ => simp [chkEs] at hc
      refine PE.weak (pe_callG0 (W := W) G C.hg hr C.tk g1 m1' m2 b1 g2) fun σ H Q h => ?_
      obtain ⟨env, F, O, K, R, s, hh, w, ok, ox⟩ := h
      subst hn
      simp only [wpA] at w
      exact ok [] [] env w rfl F [] O [] H (Next.refl hh) .nil s (by cases e.ios with | nil => exact .nil | cons b _ => cases b <;> exact .nil)
    | cons e' es' =>
      obtain ⟨a2, as2, _, c1, c2⟩ := chkEs_cons' hc
      exact pe_callG (W := W) G C.hg hr C.tk g1 m1' m2 b1 (ha e.ios) g2 (star_cons (chk_star c1)) (plain_all c2)
  · rw [e1, e2] at w
    refine ⟨env, F, O, _, R, s, hh, w, fun ds tk env1 w1 hl F1 Od Oe vs H1 n1 r1 s1 tko => ?_, ox⟩
    refine ⟨ds, F1, Od, _, _, r1, n1.held.left, by rw [hl, chkEs_len hc, el], w1, fun r outs hk F2 Or Oo v H2 n2 r2 ro => ?_, fun x rx F2 O2 cls dd H2 n2 rep => ?_⟩
    · obtain ⟨C', n3, s3⟩ := call_post n1 s1 tko n2 ro
      exact ok r _ hk.2 F2 Or C' v H2 n3 r2 s3
    · have n3 := n1.trans (next_left n1.held n2)
      exact ox x env1 rx F2 Oe cls dd H2 n3.drop (s1.mono n2.f) rep

/-! ### subscripts -/
theorem st_sub {a i : E} {a' i' : Expr} {p : PySem.Pos} (ha : PE X a' (tB (sigOf L me) X.mg W a)) (hi : PE X i' (tE (sigOf L me) X.mg W i)) (hp : PlainIx i') : PE X (.Subscript a' i' p) (tE (sigOf L me) X.mg W (.sub a i)) := by
  refine PE.weak (pe_ix anyI_ok ha hi hp) fun σ H Q ⟨env, F, O, K, R, s, hh, w, ok, ox⟩ => ?_
  simp only [wpE] at w
  refine ⟨env, F, O, _, R, s, hh, w, fun d1 env1 w1 F1 Od1 Oe1 v1 H1 n1 b1 s1 => ?_, ox⟩
  refine ⟨env1, F1, Oe1, _, R, s1, n1.held.right, w1, fun d2 env2 w2 F2 Od2 Oe2 v2 H2 n2 r2 s2 => ?_, ox.step n1.drop⟩
  have nf := n1.trans (Next.frame n1.held n2)
  obtain ⟨st, sz, ⟨m, rfl⟩, el, e1, hk⟩ := w2
  obtain ⟨rfl, rfl⟩ := r2.intI
  have tmp : Rep F1 d1 v1 Od1 → K el.fz env2 → anyI X v1 (.int m) H2 Q := fun r1 hk => by
    have h2 : Held F2 (Od1 ++ Oe2) H2 := nf.held
    have r1' := r1.mono n2.f
    have n3 := Next.freeze h2
    exact sub_ok e1 r1' h2.f h2.left.o sz fun v B rB mB => ok el.fz env2 hk _ [] Oe2 v H2 (nf.trans n3) (rB.froz n3.f fun p hp => addF_in h2.left.nd p (mB p hp)) (s2.mono n3.f)
  cases a with
  | var j =>
    obtain ⟨rfl, _, b3⟩ := b1
    have st' : env2[j]? = some (some d1) := st
    obtain ⟨v', A, B', k1, k2, k3, k4⟩ := s2.take st'
    rw [b3] at k1; cases k1
    have h2 : Held F2 (A ++ B') H2 := n2.held.perm k4
    refine sub_ok e1 k2 h2.f h2.left.o sz fun v B rB mB => ?_
    by_cases q : el.isFz = true
    · have hB := rB.free q
      subst hB
      have hk' : K el.fz env2 := by
        have : shareAt (.var j) d1 el env2 = env2 := by
          show (if el.isFz = true then env2 else env2.set j (some d1.fz)) = _
          rw [if_pos q]
        rw [this] at hk; exact hk
      exact ok el.fz env2 hk' F2 [] Oe2 v H2 nf (by rw [fz_of el q]; exact rB) s2
    · have hk' : K el.fz (env2.set j (some d1.fz)) := by
        have : shareAt (.var j) d1 el env2 = env2.set j (some d1.fz) := by
          show (if el.isFz = true then env2 else env2.set j (some d1.fz)) = _
          rw [if_neg q]
        rw [this] at hk; exact hk
      have n3 := Next.freeze h2
      have hj : j < env2.length := (List.getElem?_eq_some_iff.mp st').1
      obtain ⟨C3, h5, h6⟩ := (k3.mono n3.f).put (i := j) (by rw [List.getElem?_set_self hj]) (k2.frozen h2)
      rw [List.set_set, set_self b3] at h5
      exact ok el.fz _ hk' _ [] C3 v H2 (nf.trans ((n3.perm_from k4.symm).perm h6.symm)) (rB.froz n3.f fun p hp => addF_in h2.left.nd p (mB p hp)) h5
  | _ => exact tmp b1 hk
theorem st_slc {a : E} {lo hi : Eo} {a' : Expr} {lo' hi' : Option Expr} {q p : PySem.Pos} (ha : PE X a' (tE (sigOf L me) X.mg W a)) (hl : PO X lo' (tOpt (sigOf L me) X.mg W lo)) (hh' : PO X hi' (tOpt (sigOf L me) X.mg W hi)) :
    PE X (.Subscript a' (.Slice lo' hi' .none q) p) (tE (sigOf L me) X.mg W (.slc a lo hi)) := by
  refine PE.weak (pe_slice anyS_ok ha hl hh') fun σ H Q ⟨env, F, O, K, R, s, hh, w, ok, ox⟩ => ?_
  simp only [wpE] at w
  refine ⟨env, F, O, _, R, s, hh, w, fun d1 env1 w1 F1 Od1 Oe1 v1 H1 n1 r1 s1 => ?_, ox⟩
  refine ⟨env1, F1, Oe1, _, R, s1, n1.held.right, w1, fun l env2 w2 F2 Oe2 H2 n2 s2 => ?_, ox.step n1.drop⟩
  have nf := n1.trans (Next.frame n1.held n2)
  refine ⟨env2, F2, Oe2, _, R, s2, n2.held, w2, fun h env3 w3 F3 Oe3 H3 n3 s3 => ?_, ox.step nf.drop⟩
  have ng := nf.trans (Next.frame nf.held n3)
  have r3 := (r1.mono n2.f).mono n3.f
  have nz := Next.freeze ng.held
  have rz := r3.frozen ng.held
  have nn := ng.trans nz
  refine slc_ok w3 rz nn.held.f (fun d v hd r => ok d env3 hd _ [] Oe3 v H3 nn r (s3.mono nz.f)) (fun ds vs p hd r hp => ?_) fun ds vs p hd r hp => ?_
  · exact ok _ env3 hd _ [(p, .lst vs)] Oe3 _ _ (nn.trans (Next.newO nn.held hp (.lst vs))) (.own r) (s3.mono nz.f)
  · have n5 := Next.newF nn.held hp (.tup vs)
    exact ok _ env3 hd _ [] Oe3 _ _ (nn.trans n5) (.tup upd_same (r.mono n5.f)) ((s3.mono nz.f).mono n5.f)
theorem st_tup {as : Es} {es : List Expr} {k : Nat} {p : PySem.Pos} (ha : PA X es (tEs (sigOf L me) X.mg W as)) : PE X (.Tuple es k p) (tE (sigOf L me) X.mg W (.tup as)) := by
  refine PE.weak (pe_tup ha) fun σ H Q ⟨env, F, O, K, R, s, hh, w, ok, ox⟩ => ?_
  simp only [wpE] at w
  refine ⟨env, F, O, _, R, s, hh, w, fun ds env1 w1 hl F1 Od Oe vs H1 n1 r1 s1 => ⟨by rw [← r1.len]; exact w1.1, fun a ha => ?_⟩, ox⟩
  have n5 := Next.newF n1.held ha (.tup vs)
  exact ok _ env1 w1.2 _ Od Oe _ _ (n1.trans n5) (.tup upd_same (r1.mono n5.f)) (s1.mono n5.f)
theorem st_lst {as : Es} {es : List Expr} {p : PySem.Pos} (ha : PA X es (tEs (sigOf L me) X.mg W as)) : PE X (.List es p) (tE (sigOf L me) X.mg W (.lst as)) := by
  refine PE.weak (pe_lst ha) fun σ H Q ⟨env, F, O, K, R, s, hh, w, ok, ox⟩ => ?_
  simp only [wpE] at w
  refine ⟨env, F, O, _, R, s, hh, w, fun ds env1 w1 hl F1 Od Oe vs H1 n1 r1 s1 => ⟨by rw [← r1.len]; exact w1.1, fun a ha => ?_⟩, ox⟩
  exact ok _ env1 w1.2 F1 ((a, .lst vs) :: Od) Oe _ _ (n1.trans (Next.newO n1.held ha (.lst vs))) (.own r1) s1

/-! ### built-in functions -/
theorem pe_bi {b : BI} {e : Expr} {es : List Expr} {q p : PySem.Pos} {t : TA} (C : Cok L c X W) (hx : glob c (Str.ofString b.name) = true) (ha : PA X (e :: es) t) (hs : PySem.starEach (e :: es) X.env = (false, PySem.eval e X.env) :: PySem.starEach es X.env)
    (hpl : (PySem.backTo p (PySem.starEach es X.env)).any (·.1) = false) : PE X (.Call (.Name (Str.ofString b.name) q) (e :: es) [] p) (tCB (anyC X b.val) t) := by
  obtain ⟨g1, g2⟩ := C.glob hx
  have m := C.bn b.name_mem
  have nn := b.nn
  have bb := b.boot
  cases b <;> first
    | exact pe_callB anyC_ok g1 m bb ha nn g2 hs hpl
    | exact pe_callTy anyC_ok g1 m bb ha nn g2 hs hpl
theorem st_bi {b : BI} {as : Es} {es : List Expr} {q p : PySem.Pos} (C : Cok L c X W) (hx : glob c (Str.ofString b.name) = true) (hc : chkEs c as es = true) (ha : PA X es (tBs (sigOf L me) X.mg W as)) :
    PE X (.Call (.Name (Str.ofString b.name) q) es [] p) (tE (sigOf L me) X.mg W (.bi b as)) ∧ PE X (.Call (.Name (Str.ofString b.name) q) es [] p) (fun σ H Q => ∃ env F O K R, SimE F env σ O ∧ Held F O H ∧ wpT (sigOf L me) (.bi b as) env K R ∧
      (∀ d env', (truD d fun k => K k env') → ∀ F' Od Oe v H', Next F O H F' (Od ++ Oe) H' → Rep F' d v Od → SimE F' env' σ Oe → Q v H') ∧ okX X.mg W F O σ H R) := by
  have main : ∀ (K : KD) (R : KX) (env : Env) (F : Hp) (O : Own) (σ : St) (H : Hp) (Q : VK), SimE F env σ O → Held F O H → wpBs (sigOf L me) as env (fun ds env1 => stills as ds env1 ∧ biD b ds fun d => K d env1) R → okE F O σ H Q K → okX X.mg W F O σ H R →
      tCB (anyC X b.val) (tBs (sigOf L me) X.mg W as) σ H Q := fun K R env F O σ H Q s hh w ok ox => by
    refine ⟨env, F, O, _, R, s, hh, w, fun ds env1 w1 F1 Od Oe vs H1 n1 b1 s1 => ?_, ox⟩
    obtain ⟨A, rA, iA⟩ := borsUse s1 b1 w1.1 (Sub.refl _) n1.held
    refine bi_ok w1.2 rA n1.held.f iA C.calm C.hg C.hu (fun d v hd r => ok d env1 hd F1 [] Oe v H1 n1.drop r s1) (fun ds' vs' p' hd r hp => ?_) fun ds' vs' p' hd r hp => ?_
    · exact ok _ env1 hd _ [(p', .lst vs')] Oe _ _ (n1.drop.trans (Next.newO n1.held.right hp (.lst vs'))) (.own r) s1
    · have n5 := Next.newF n1.held.right hp (.tup vs')
      exact ok _ env1 hd _ [] Oe _ _ (n1.drop.trans n5) (.tup upd_same (r.mono n5.f)) (s1.mono n5.f)
  cases es with
  | nil =>
    have hn : as = .nil := by cases as with
      | nil => rfl
      | cons _ _ => simp [chkEs] at hc
    subst hn
    refine ⟨PE.weak PE.never fun σ H Q ⟨env, F, O, K, R, s, hh, w, ok, ox⟩ => ?_, PE.weak PE.never fun σ H Q ⟨env, F, O, K, R, s, hh, w, ok, ox⟩ => ?_⟩
    · simp only [wpE, wpBs] at w
      have := w.2
      cases b <;> simp [biD] at this
    · simp only [wpT, wpBs] at w
      have := w.2
      cases b <;> simp [biD] at this
  | cons e es' =>
    have hcc : ∃ a as2, as = .cons a as2 ∧ chkE c a e = true ∧ chkEs c as2 es' = true := by
      cases as with
      | nil => simp [chkEs] at hc
      | cons a as2 => simp only [chkEs, Bool.and_eq_true] at hc; exact ⟨a, as2, rfl, hc.1, hc.2⟩
    obtain ⟨a, as2, rfl, c1, c2⟩ := hcc
    have pe := pe_bi (q := q) (p := p) (b := b) C hx ha (star_cons (chk_star c1)) (plain_all c2)
    refine ⟨PE.weak pe fun σ H Q ⟨env, F, O, K, R, s, hh, w, ok, ox⟩ => ?_, PE.weak pe fun σ H Q ⟨env, F, O, K, R, s, hh, w, ok, ox⟩ => ?_⟩
    · simp only [wpE] at w
      exact main K R env F O σ H Q s hh w ok ox
    · simp only [wpT] at w
      exact main (fun d env' => truD d fun k => K k env') R env F O σ H Q s hh w ok ox
/-- repr of a display whose items are only looked at -/
theorem st_rprL {as : Es} {es : List Expr} {q p r : PySem.Pos} (C : Cok L c X W) (hx : glob c (Str.ofString "repr") = true) (ha : PA X es (tBs (sigOf L me) X.mg W as)) : PE X (.Call (.Name (Str.ofString "repr") q) [.List es r] [] p) (tE (sigOf L me) X.mg W (.rpr false as)) := by
  obtain ⟨g1, g2⟩ := C.glob hx
  have cb : CallR X (.builtin "repr") (anyC X (.builtin "repr")) := anyC_ok
  have pe := pe_callB (pos := p) (p := q) cb g1 (C.bn (by decide)) (by decide +kernel) (pa_cons (pe_lst (pos := r) ha) pa_nil rfl) (by decide) g2 rfl rfl
  refine PE.weak pe fun σ H Q ⟨env, F, O, K, R, s, hh, w, ok, ox⟩ => ?_
  simp only [wpE] at w
  refine ⟨env, F, O, _, R, s, hh, w, fun ds env1 w1 F1 Od Oe vs H1 n1 b1 s1 => ?_, ox⟩
  obtain ⟨st, hz, h1, h2, h3, hk⟩ := w1
  obtain ⟨A, rA, iA⟩ := borsUse s1 b1 st (Sub.refl _) n1.held
  refine ⟨by rw [← rA.len]; exact hz, fun a hn => ?_⟩
  have n5 := Next.newF n1.held hn (.lst vs)
  have iA' : Own.inH A (upd H1 a (.lst vs)) := fun x hx => by
    have e := iA x hx
    rw [upd_ne (fun z => by rw [z, hn] at e; cases e)]; exact e
  have dp : Dp X.K (upd H1 a (.lst vs)) (.ref a) (D.lst true ds).py := by
    rw [D.py]
    exact .lst (SqL.of upd_same) (rA.dp (n1.held.f.trans (fun b u e => by
      rw [upd_ne (fun z => by rw [z, hn] at e; cases e)]; exact e)) iA')
  exact ⟨_, cr_repr C.hg C.hu, _, _, rfl, dp, h1, py_noDict _, h2, h3, ok _ env1 hk _ [] Oe _ _ (n1.trans n5).drop (.str _) (s1.mono n5.f)⟩
theorem st_rprT {as : Es} {es : List Expr} {k : Nat} {q p r : PySem.Pos} (C : Cok L c X W) (hx : glob c (Str.ofString "repr") = true) (ha : PA X es (tBs (sigOf L me) X.mg W as)) : PE X (.Call (.Name (Str.ofString "repr") q) [.Tuple es k r] [] p) (tE (sigOf L me) X.mg W (.rpr true as)) := by
  obtain ⟨g1, g2⟩ := C.glob hx
  have cb : CallR X (.builtin "repr") (anyC X (.builtin "repr")) := anyC_ok
  have pe := pe_callB (pos := p) (p := q) cb g1 (C.bn (by decide)) (by decide +kernel) (pa_cons (show PE X (.Tuple es k r) _ from pe_tup ha) pa_nil rfl) (by decide) g2 rfl rfl
  refine PE.weak pe fun σ H Q ⟨env, F, O, K, R, s, hh, w, ok, ox⟩ => ?_
  simp only [wpE] at w
  refine ⟨env, F, O, _, R, s, hh, w, fun ds env1 w1 F1 Od Oe vs H1 n1 b1 s1 => ?_, ox⟩
  obtain ⟨st, hz, h1, h2, h3, hk⟩ := w1
  obtain ⟨A, rA, iA⟩ := borsUse s1 b1 st (Sub.refl _) n1.held
  refine ⟨by rw [← rA.len]; exact hz, fun a hn => ?_⟩
  have n5 := Next.newF n1.held hn (.tup vs)
  have iA' : Own.inH A (upd H1 a (.tup vs)) := fun x hx => by
    have e := iA x hx
    rw [upd_ne (fun z => by rw [z, hn] at e; cases e)]; exact e
  have dp : Dp X.K (upd H1 a (.tup vs)) (.ref a) (D.tup ds).py := by
    rw [D.py]
    exact .tup (SqT.of upd_same) (rA.dp (n1.held.f.trans (fun b u e => by
      rw [upd_ne (fun z => by rw [z, hn] at e; cases e)]; exact e)) iA')
  exact ⟨_, cr_repr C.hg C.hu, _, _, rfl, dp, h1, py_noDict _, h2, h3, ok _ env1 hk _ [] Oe _ _ (n1.trans n5).drop (.str _) (s1.mono n5.f)⟩
theorem st_isi {a : E} {t : String} {a' : Expr} {q r p : PySem.Pos} (C : Cok L c X W) (hx : glob c (Str.ofString "isinstance") = true) (hy : glob c (Str.ofString t) = true) (ht : tyNames.contains t = true) (hc : chkE c a a' = true)
    (ha : PE X a' (tB (sigOf L me) X.mg W a)) : PE X (.Call (.Name (Str.ofString "isinstance") q) [a', .Name (Str.ofString t) r] [] p) (fun σ H Q => ∃ (env : Env) (F : Hp) (O : Own) (R : KX) (K : Bool → Env → Prop), SimE F env σ O ∧ Held F O H ∧ (bor a (fun Q' => wpE (sigOf L me) a env Q' R) env fun x env1 => ∃ b, isiD x t = some b ∧ K b env1) ∧
      (∀ b env', K b env' → ∀ F' Oe H', Next F O H F' Oe H' → SimE F' env' σ Oe → Q (.bl b) H') ∧ okX X.mg W F O σ H R) := by
  obtain ⟨g1, g2⟩ := C.glob hx
  obtain ⟨g3, g4⟩ := C.glob hy
  have tn : t ∈ tyNames := by simpa using ht
  have tb : t ∈ bnames ∧ PySem.bootBuiltins (Str.ofString t) = some (.type t) ∧ Str.ofString t ≠ "__name__" := by
    have h6 : t = "int" ∨ t = "bool" ∨ t = "str" ∨ t = "list" ∨ t = "tuple" ∨ t = "dict" := by simpa [tyNames] using tn
    rcases h6 with rfl | rfl | rfl | rfl | rfl | rfl <;> exact ⟨by decide, by decide +kernel, by decide⟩
  have tyE : PE X (.Name (Str.ofString t) r) (tC (.ty t)) := pe_bltn g3 (C.bn tb.1) tb.2.1 rfl tb.2.2 g4
  have cb : CallR X (.builtin "isinstance") (anyC X (.builtin "isinstance")) := anyC_ok
  have pe := pe_callB (pos := p) (p := q) cb g1 (C.bn (by decide)) (by decide +kernel) (pa_cons ha (pa_cons tyE pa_nil) (star_cons (chk_star hc))) (by decide) g2 (star_cons (chk_star hc)) (by rfl)
  refine PE.weak pe fun σ H Q ⟨env, F, O, R, K, s, hh, w, ok, ox⟩ => ?_
  refine ⟨env, F, O, _, R, s, hh, w, fun d1 env1 w1 F1 Od1 Oe1 v1 H1 n1 b1 s1 => ?_, ox⟩
  obtain ⟨b, e1, hk⟩ := w1
  obtain ⟨A, rA, iA⟩ := borNow b1 s1 n1.held
  exact isi_ok e1 rA n1.held.f iA (ok b env1 hk F1 Oe1 H1 n1.drop s1)
end
end DP

/-! DpL: targets, iterators, comprehensions, keyword calls: the steps. -/
namespace DP
open PySem (Addr sizeLine wpAny model Value Shared Around FuncData BindsTo codeAny Str Paired Expr)
open PySem.W (Frag)
open L2

section
variable {L : List Ent} {c : SC} {X : Cx} {W : WX} {me : List Nat}
/-! ### targets -/
theorem PG.or {tg : Expr} {t u : TG} (h : PG X tg t) (k : PG X tg u) : PG X tg (fun v σ H Q => t v σ H Q ∨ u v σ H Q) := ⟨fun pins s σ H v x Q I r q => q.elim (h.run pins s σ H v x Q I r) (k.run pins s σ H v x Q I r)⟩
theorem chkT_ae {t : T} {e : Expr} {es : List Expr} {env : PySem.Env} (h : chkT c t e = true) : PySem.assignEach (e :: es) env = (false, PySem.assign e env) :: PySem.assignEach es env := by
  cases e <;> first | rfl | (cases t <;> simp [chkT] at h)
def Ts.len : Ts → Nat
  | .nil => 0
  | .cons _ ts => ts.len + 1
theorem chkTs_ae {env : PySem.Env} : ∀ {ts : Ts} {es : List Expr}, chkTs c ts es = true → (PySem.assignEach es env).length = ts.len ∧ (PySem.assignEach es env).findIdx? (·.1) = none
  | .nil, [], _ => ⟨rfl, rfl⟩
  | .cons t ts, e :: es, h => by
    simp only [chkTs, Bool.and_eq_true] at h
    rw [chkT_ae h.1]
    obtain ⟨h1, h2⟩ := chkTs_ae (env := env) h.2
    refine ⟨by rw [List.length_cons, h1]; rfl, ?_⟩
    rw [List.findIdx?_cons, h2]; rfl
  | .nil, _ :: _, h => by simp [chkTs] at h
  | .cons _ _, [], h => by simp [chkTs] at h
mutual
theorem setT_ex : ∀ {t : T} {d : D} {env : Env} {P : Env → Prop}, setT me t d env P → ∃ e, P e
  | .nm i, d, env, P, h => ⟨_, h.2.2⟩
  | .tp ts, .tup ds, env, P, h => (setTs_ex (ts := ts) h).2
  | .tp ts, .lst _ ds, env, P, h => (setTs_ex (ts := ts) h).2
  | .tp _, .non, _, _, h => by simp only [setT] at h
  | .tp _, .bl _, _, _, h => by simp only [setT] at h
  | .tp _, .int _, _, _, h => by simp only [setT] at h
  | .tp _, .str _, _, _, h => by simp only [setT] at h
theorem setTs_ex : ∀ {ts : Ts} {ds : List D} {env : Env} {P : Env → Prop}, setTs me ts ds env P → ds.length = ts.len ∧ ∃ e, P e
  | .nil, [], env, P, h => ⟨rfl, _, h⟩
  | .cons t ts, d :: ds, env, P, h => by
    obtain ⟨e, h2⟩ := setT_ex (t := t) h
    obtain ⟨l, e2⟩ := setTs_ex (ts := ts) h2
    exact ⟨by rw [List.length_cons, l]; rfl, e2⟩
  | .nil, _ :: _, _, _, h => by simp only [setTs] at h
  | .cons _ _, [], _, _, h => by simp only [setTs] at h
end
theorem Chg.nm {σ : St} {i : Nat} {o : Option V} (h : i ∉ me) : Chg me [i] σ (σ.set i o) := Chg.one h
theorem gs_name {i : Nat} {x : Str} {p : PySem.Pos} (C : Cok L c X W) (h : mine c i x = true) : PG X (.Name x p) (gT me (.nm i)) := by
  obtain ⟨h1, h2, h3⟩ := C.mine h
  refine PG.weak (pg_name C.nd h1 h2 h3) fun v σ H Q ⟨env, F, Od, Oe, d, K, s, hh, r, w, ok⟩ => ?_
  obtain ⟨w1, w2, w3⟩ := w
  obtain ⟨Z, B, C', k1, k2, k3⟩ := s.store w2 r
  refine ok _ w3 F C' _ H (Next.keep (Z := Z) hh ?_) k1 (Chg.one w1)
  exact ((List.Perm.append_left Od k2).trans perm3).trans (List.Perm.append_left Z k3.symm)
theorem gs_nil : PGs X [] (gTs me .nil) := by
  refine PGs.weak pgs_nil fun vs σ H Q ⟨env, F, Od, Oe, ds, K, s, hh, r, w, ok⟩ => ?_
  cases ds with
  | nil => cases r; exact ⟨rfl, ok env w F Oe σ H (Next.refl hh) s (Chg.refl _ _ _)⟩
  | cons _ _ => exact w.elim
theorem gs_cons {t : T} {ts : Ts} {e : Expr} {es : List Expr} (h1 : PG X e (gT me t)) (h2 : PGs X es (gTs me ts)) (hc : chkT c t e = true) : PGs X (e :: es) (gTs me (.cons t ts)) := by
  refine PGs.weak (pgs_cons h1 h2 (by rw [chkT_ae hc]; rfl)) fun vs σ H Q ⟨env, F, Od, Oe, ds, K, s, hh, r, w, ok⟩ => ?_
  cases ds with
  | nil => exact w.elim
  | cons d ds =>
    cases r with
    | @cons _ v _ vs O1 O2 r1 r2 =>
      have w' : setT me t d env fun env' => setTs me ts ds env' K := w
      have hp : (O1 ++ O2 ++ Oe).Perm (O2 ++ (O1 ++ Oe)) := by rw [List.append_assoc]; exact perm3
      have hh' := hh.perm hp
      refine ⟨v, vs, rfl, env, F, O1, Oe, d, _, s, hh'.right, r1, w', fun env' w2 F' O' σ' H' n s' ch => ?_⟩
      have nf := Next.frame hh' n
      refine ⟨env', F', O2, O', ds, K, s', nf.held, r2.mono n.f, w2, fun env2 k2 F2 O2' σ2 H2 n2 s2 ch2 => ?_⟩
      exact ok env2 k2 F2 O2' σ2 H2 ((nf.perm_from hp.symm).trans n2) s2 ((ch.wide fun j hj => List.mem_append_left _ hj).trans (ch2.wide fun j hj => List.mem_append_right _ hj))
theorem gs_tup {ts : Ts} {es : List Expr} {k : Nat} {p : PySem.Pos} (C : Cok L c X W) (h : PGs X es (gTs me ts)) (hc : chkTs c ts es = true) : PG X (.Tuple es k p) (gT me (.tp ts)) := by
  obtain ⟨a1, a2⟩ := chkTs_ae (env := X.env) hc
  refine PG.weak (PG.or (pg_tup (n := ts.len) C.calm h a1 a2) (pg_lst (n := ts.len) C.calm h a1 a2)) fun v σ H Q ⟨env, F, Od, Oe, d, K, s, hh, r, w, ok⟩ => ?_
  cases d with
  | tup ds =>
    obtain ⟨w1, w2⟩ : ds.length = ts.len ∧ setTs me ts ds env K := by
      have w0 : setTs me ts ds env K := by simpa only [setT] using w
      exact ⟨(setTs_ex w0).1, w0⟩
    obtain ⟨a, vs, rfl, _, e2, q⟩ := r.tupI hh
    exact .inl ⟨a, vs, rfl, SqT.of e2, by rw [← q.len]; exact w1, env, F, Od, Oe, ds, K, s, hh, q, w2, ok⟩
  | lst o ds =>
    obtain ⟨w1, w2⟩ : ds.length = ts.len ∧ setTs me ts ds env K := by
      have w0 : setTs me ts ds env K := by simpa only [setT] using w
      exact ⟨(setTs_ex w0).1, w0⟩
    obtain ⟨a, vs, O', rfl, e2, q, ⟨Z, p⟩, _⟩ := r.lstI hh
    have n := Next.keep2 hh p
    exact .inr ⟨a, vs, rfl, SqL.rd e2, by rw [← q.len]; exact w1, env, F, O', Oe, ds, K, s, n.held, q, w2, fun env2 k2 F2 O2' σ2 H2 n2 s2 ch2 => ok env2 k2 F2 O2' σ2 H2 (n.trans n2) s2 ch2⟩
  | _ => exact (show False from by simp only [setT] at w).elim
end
end DP

/-! DpM: iterators, comprehensions, keyword calls: the steps. -/
namespace DP
open PySem (Addr sizeLine wpAny model Value Shared Around FuncData BindsTo codeAny Str Paired Expr)
open PySem.W (Frag)
open L2

section
variable {L : List Ent} {c : SC} {X : Cx} {W : WX} {me : List Nat}
/-! ### iterators -/
def iAny (K : Frag) (ta : TE) : TI := fun σ H R => ta σ H fun x H1 => (∃ a xs, x = .ref a ∧ SqL K H1 a xs ∧ R (Itl K a) H1) ∨ (∃ a xs, x = .ref a ∧ SqT K H1 a xs ∧ R (Itt K a) H1) ∨ ∃ z, x = .str z ∧ R (Its z) H1
theorem pi_any {tg a : Expr} {ta : TE} (ha : PE X a ta) : PI X tg a (iAny X.K ta) := by
  refine ⟨fun pins s σ H R I h => ?_⟩
  refine thn (ha.run pins s σ H _ I h) fun v s1 ⟨x, H1, I1, r1, q1⟩ => ?_
  rcases q1 with ⟨l, xs, rfl, hq, q⟩ | ⟨l, xs, rfl, hq, q⟩ | ⟨z, rfl, q⟩
  · cases r1; exact iter_list I1 hq q
  · cases r1; exact iter_tup I1 hq q
  · obtain ⟨t, rfl⟩ := r1; exact iter_str I1 q
theorem frz_lst {F : Hp} {o : Bool} {xs : List D} {v : V} (r : Rep F (D.lst o xs).fz v []) : ∃ a vs, v = .ref a ∧ Rd F a (.lst vs) ∧ RepL F (fzL xs) vs [] := by
  rw [D.fz] at r
  cases r with
  | fro e q => exact ⟨_, _, rfl, e, q⟩
theorem frz_tup {F : Hp} {xs : List D} {v : V} (r : Rep F (D.tup xs).fz v []) : ∃ a vs, v = .ref a ∧ F a = some (.tup vs) ∧ RepL F (fzL xs) vs [] := by
  rw [D.fz] at r
  cases r with
  | tup e q => exact ⟨_, _, rfl, e, q⟩
theorem lstD_eq {d : D} {xs : List D} (h : lstD d = some xs) : ∃ o, d = .lst o xs := by
  cases d <;> first | (cases h; done) | (cases h; exact ⟨_, rfl⟩)
theorem SqL.rd' {K : Frag} {H : Hp} {a : Addr} {xs : List V} (r : Rd H a (.lst xs)) : SqL K H a xs := .inl r
theorem si_ex {tg : Expr} {a : E} {e : Expr} (ha : PE X e (tE (sigOf L me) X.mg W a)) : PI X tg e (tI (sigOf L me) X.mg W (.ex a)) := by
  refine PI.weak (pi_any ha) fun σ H R ⟨env, F, O, K, R', s, hh, w, ok, ox⟩ => ?_
  simp only [wpI] at w
  refine ⟨env, F, O, _, R', s, hh, w, fun d1 env1 w1 F1 Od1 Oe1 v1 H1 n1 r1 s1 => ?_, ox⟩
  obtain ⟨xs, e1, hk⟩ := w1
  have nz := Next.freeze n1.held
  have rz := r1.frozen n1.held
  have nn := n1.trans nz
  have s2 := s1.mono nz.f
  cases d1 with
  | lst o ys =>
    cases e1
    obtain ⟨a, vs, rfl, e2, q⟩ := frz_lst rz
    exact .inl ⟨a, vs, rfl, .inl (nn.held.f.rd e2), ok _ env1 hk _ Oe1 _ H1 nn s2 (Walk.list e2 q)⟩
  | tup ys =>
    cases e1
    obtain ⟨a, vs, rfl, e2, q⟩ := frz_tup rz
    exact .inr (.inl ⟨a, vs, rfl, SqT.of (nn.held.f _ _ e2), ok _ env1 hk _ Oe1 _ H1 nn s2 (Walk.tup e2 q)⟩)
  | str z =>
    cases e1
    obtain ⟨rfl, _⟩ := r1.strI
    have ez : fzL (z.cps.toList.map fun c => D.str ⟨#[c]⟩) = z.cps.toList.map fun c => D.str ⟨#[c]⟩ := by
      rw [fzL_map, List.map_map]; rfl
    rw [ez] at hk
    exact .inr (.inr ⟨z, rfl, ok _ env1 hk _ Oe1 _ H1 nn s2 Walk.str⟩)
  | _ => cases e1
variable {tg : Expr}
theorem si_rng1 {a : E} {e : Expr} {q p : PySem.Pos} (C : Cok L c X W) (hx : glob c (Str.ofString "range") = true) (hc : chkE c a e = true) (ha : PE X e (tE (sigOf L me) X.mg W a)) : PI X tg (.Call (.Name (Str.ofString "range") q) [e] [] p) (tI (sigOf L me) X.mg W (.rng1 a)) := by
  refine PI.weak (pi_range1 (C.glob hx).1 (C.bn (by decide)) (pa_cons ha pa_nil (star_cons (chk_star hc))) (star_cons (chk_star hc))) fun σ H R ⟨env, F, O, K, R', s, hh, w, ok, ox⟩ => ?_
  simp only [wpI] at w
  refine ⟨env, F, O, _, R', s, hh, w, fun d1 env1 w1 F1 Od1 Oe1 v1 H1 n1 r1 s1 => ?_, ox⟩
  obtain ⟨n, rfl, b1, b2, hk⟩ := w1
  obtain ⟨rfl, rfl⟩ := r1.intI
  exact ⟨n, rfl, b1, b2, ok _ env1 hk _ Oe1 _ H1 n1 s1 Walk.rng⟩
theorem si_rng2 {a b : E} {e f : Expr} {q p : PySem.Pos} (C : Cok L c X W) (hx : glob c (Str.ofString "range") = true) (hc : chkE c a e = true) (hd : chkE c b f = true) (ha : PE X e (tE (sigOf L me) X.mg W a)) (hb : PE X f (tE (sigOf L me) X.mg W b)) :
    PI X tg (.Call (.Name (Str.ofString "range") q) [e, f] [] p) (tI (sigOf L me) X.mg W (.rng2 a b)) := by
  have h1 : PySem.starEach [f] X.env = [(false, PySem.eval f X.env)] := star_cons (chk_star hd)
  have h2 : PySem.starEach [e, f] X.env = [(false, PySem.eval e X.env), (false, PySem.eval f X.env)] := by rw [star_cons (chk_star hc), h1]
  refine PI.weak (pi_range2 (C.glob hx).1 (C.bn (by decide)) (pa_cons ha (pa_cons hb pa_nil h1) (star_cons (chk_star hc))) h2 h1) fun σ H R ⟨env, F, O, K, R', s, hh, w, ok, ox⟩ => ?_
  simp only [wpI] at w
  refine ⟨env, F, O, _, R', s, hh, w, fun d1 env1 w1 F1 Od1 Oe1 v1 H1 n1 r1 s1 => ?_, ox⟩
  refine ⟨env1, F1, Oe1, _, R', s1, n1.held.right, w1, fun d2 env2 w2 F2 Od2 Oe2 v2 H2 n2 r2 s2 => ?_, ox.step n1.drop⟩
  obtain ⟨i, j, rfl, rfl, b, hk⟩ := w2
  obtain ⟨rfl, rfl⟩ := r1.intI
  obtain ⟨rfl, rfl⟩ := r2.intI
  exact ⟨i, j, rfl, b, ok _ env2 hk _ Oe2 _ H2 (n1.drop.trans n2) s2 Walk.rng⟩
theorem si_rng3 {a b d : E} {e f g : Expr} {q p : PySem.Pos} (C : Cok L c X W) (hx : glob c (Str.ofString "range") = true) (hc : chkE c a e = true) (hd : chkE c b f = true) (he : chkE c d g = true) (ha : PE X e (tE (sigOf L me) X.mg W a)) (hb : PE X f (tE (sigOf L me) X.mg W b))
    (hg : PE X g (tE (sigOf L me) X.mg W d)) : PI X tg (.Call (.Name (Str.ofString "range") q) [e, f, g] [] p) (tI (sigOf L me) X.mg W (.rng3 a b d)) := by
  have h1 : PySem.starEach [g] X.env = [(false, PySem.eval g X.env)] := star_cons (chk_star he)
  have h2 : PySem.starEach [f, g] X.env = [(false, PySem.eval f X.env), (false, PySem.eval g X.env)] := by rw [star_cons (chk_star hd), h1]
  refine PI.weak (pi_range3 (C.glob hx).1 (C.bn (by decide)) (pa_cons ha (pa_cons hb (pa_cons hg pa_nil h1) (star_cons (chk_star hd))) (star_cons (chk_star hc))) (star_cons (chk_star hc)) (by rw [h2]; rfl)) fun σ H R ⟨env, F, O, K, R', s, hh, w, ok, ox⟩ => ?_
  simp only [wpI] at w
  refine ⟨env, F, O, _, R', s, hh, w, fun d1 env1 w1 F1 Od1 Oe1 v1 H1 n1 r1 s1 => ?_, ox⟩
  refine ⟨env1, F1, Oe1, _, R', s1, n1.held.right, w1, fun d2 env2 w2 F2 Od2 Oe2 v2 H2 n2 r2 s2 => ?_, ox.step n1.drop⟩
  refine ⟨env2, F2, Oe2, _, R', s2, n2.held.right, w2, fun d3 env3 w3 F3 Od3 Oe3 v3 H3 n3 r3 s3 => ?_, ox.step (n1.drop.trans n2.drop)⟩
  obtain ⟨i, j, k, n, rfl, rfl, rfl, b, hk⟩ := w3
  obtain ⟨rfl, rfl⟩ := r1.intI
  obtain ⟨rfl, rfl⟩ := r2.intI
  obtain ⟨rfl, rfl⟩ := r3.intI
  exact ⟨i, j, k, n, rfl, b, ok _ env3 hk _ Oe3 _ H3 ((n1.drop.trans n2.drop).trans n3) s3 Walk.rngC⟩
theorem si_zip2 {a b : E} {e f : Expr} {q p : PySem.Pos} (C : Cok L c X W) (ht : isTupE tg = true) (hx : glob c (Str.ofString "zip") = true) (hc : chkE c a e = true) (hd : chkE c b f = true) (ha : PE X e (tE (sigOf L me) X.mg W a)) (hb : PE X f (tE (sigOf L me) X.mg W b)) :
    PI X tg (.Call (.Name (Str.ofString "zip") q) [e, f] [] p) (tI (sigOf L me) X.mg W (.zip2 a b)) := by
  have h1 : PySem.starEach [f] X.env = [(false, PySem.eval f X.env)] := star_cons (chk_star hd)
  cases tg with
  | Tuple ts k tp =>
    refine PI.weak (pi_zip (C.glob hx).1 (C.bn (by decide)) (pa_cons ha (pa_cons hb pa_nil h1) (star_cons (chk_star hc))) (star_cons (chk_star hc)) (by rw [h1]; rfl)) fun σ H R ⟨env, F, O, K, R', s, hh, w, ok, ox⟩ => ?_
    simp only [wpI] at w
    refine ⟨env, F, O, _, R', s, hh, w, fun d1 env1 w1 F1 Od1 Oe1 v1 H1 n1 r1 s1 => ?_, ox⟩
    refine ⟨env1, F1, Oe1, _, R', s1, n1.held.right, w1, fun d2 env2 w2 F2 Od2 Oe2 v2 H2 n2 r2 s2 => ?_, ox.step n1.drop⟩
    obtain ⟨xs, ys, l1, l2, hk⟩ := w2
    obtain ⟨o1, rfl⟩ := lstD_eq l1
    obtain ⟨o2, rfl⟩ := lstD_eq l2
    have nf := n1.trans (Next.frame n1.held n2)
    rw [← List.append_assoc] at nf
    have nz := Next.freeze nf.held
    have mz := addF_in (F := F2) nf.held.left.nd
    have z1 := (r1.mono n2.f).froz nz.f fun p hp => mz p (List.mem_append_left _ hp)
    have z2 := r2.froz nz.f fun p hp => mz p (List.mem_append_right _ hp)
    have nn := nf.trans nz
    obtain ⟨a1, vs, rfl, e2, q1⟩ := frz_lst z1
    obtain ⟨a2, us, rfl, e3, q2⟩ := frz_lst z2
    exact ⟨a1, a2, vs, us, rfl, .inl (nn.held.f.rd e2), .inl (nn.held.f.rd e3), ok _ env2 hk _ Oe2 _ H2 nn (s2.mono nz.f) (Walk.zip e2 q1 e3 q2)⟩
  | _ => simp [isTupE] at ht
theorem si_enum {a : E} {e : Expr} {q p : PySem.Pos} (C : Cok L c X W) (ht : isTupE tg = true) (hx : glob c (Str.ofString "enumerate") = true) (hc : chkE c a e = true) (ha : PE X e (tE (sigOf L me) X.mg W a)) :
    PI X tg (.Call (.Name (Str.ofString "enumerate") q) [e] [] p) (tI (sigOf L me) X.mg W (.enum a)) := by
  cases tg with
  | Tuple ts k tp =>
    refine PI.weak (pi_enum (C.glob hx).1 (C.bn (by decide)) (pa_cons ha pa_nil (star_cons (chk_star hc))) (star_cons (chk_star hc))) fun σ H R ⟨env, F, O, K, R', s, hh, w, ok, ox⟩ => ?_
    simp only [wpI] at w
    refine ⟨env, F, O, _, R', s, hh, w, fun d1 env1 w1 F1 Od1 Oe1 v1 H1 n1 r1 s1 => ?_, ox⟩
    obtain ⟨xs, l1, hk⟩ := w1
    obtain ⟨o1, rfl⟩ := lstD_eq l1
    have nz := Next.freeze n1.held
    have nn := n1.trans nz
    obtain ⟨a1, vs, rfl, e2, q1⟩ := frz_lst (r1.frozen n1.held)
    exact ⟨a1, vs, rfl, .inl (nn.held.f.rd e2), ok _ env1 hk _ Oe1 _ H1 nn (s1.mono nz.f) (Walk.enum e2 q1)⟩
  | _ => simp [isTupE] at ht
theorem si_rev {a : E} {e : Expr} {q p : PySem.Pos} (C : Cok L c X W) (hx : glob c (Str.ofString "reversed") = true) (hc : chkE c a e = true) (ha : PE X e (tE (sigOf L me) X.mg W a)) :
    PI X tg (.Call (.Name (Str.ofString "reversed") q) [e] [] p) (tI (sigOf L me) X.mg W (.rev a)) := by
  refine PI.weak (pi_reversed (C.glob hx).1 (C.bn (by decide)) (pa_cons ha pa_nil (star_cons (chk_star hc))) (star_cons (chk_star hc))) fun σ H R ⟨env, F, O, K, R', s, hh, w, ok, ox⟩ => ?_
  simp only [wpI] at w
  refine ⟨env, F, O, _, R', s, hh, w, fun d1 env1 w1 F1 Od1 Oe1 v1 H1 n1 r1 s1 => ?_, ox⟩
  obtain ⟨xs, l1, hk⟩ := w1
  obtain ⟨o1, rfl⟩ := lstD_eq l1
  have nz := Next.freeze n1.held
  have nn := n1.trans nz
  obtain ⟨a1, vs, rfl, e2, q1⟩ := frz_lst (r1.frozen n1.held)
  exact ⟨a1, vs, rfl, .inl (nn.held.f.rd e2), ok _ env1 hk _ Oe1 _ H1 nn (s1.mono nz.f) (Walk.rev e2 q1)⟩

/-! ### list comprehensions -/
theorem ownP_snd {own : List Nat} : (ownP c own).map (·.2) = own := by
  unfold ownP
  rw [List.map_map]
  show own.map (fun i => i) = own
  simp
theorem wipe_get {σ : St} (j : Nat) : ∀ own : List Nat, (wipe σ own)[j]? = if j ∈ own then σ[j]?.map (fun _ => none) else σ[j]?
  | [] => by simp [wipe]
  | i :: own => by
    show ((wipe σ own).set i none)[j]? = _
    rw [List.getElem?_set, wipe_get j own, wipe_length]
    by_cases e : i = j
    · subst e
      simp only [if_pos, List.mem_cons, true_or]
      by_cases hl : i < σ.length
      · simp [hl]
      · simp [hl]
    · rw [if_neg e]
      have : (j ∈ i :: own) ↔ j ∈ own := by simp [Ne.symm e]
      simp only [this]
theorem wipe_chg {σ σ2 : St} {l own : List Nat} (h : Chg me l (wipe σ own) σ2) (hl : ∀ j ∈ l, j ∈ own) : wipe σ2 own = wipe σ own := by
  apply List.ext_getElem?
  intro j
  rw [wipe_get, wipe_get]
  by_cases e : j ∈ own
  · rw [if_pos e, if_pos e]
    have hlen := h.1
    rw [wipe_length] at hlen
    by_cases q : j < σ.length
    · rw [List.getElem?_eq_getElem q, List.getElem?_eq_getElem (by omega)]; rfl
    · rw [List.getElem?_eq_none (by omega), List.getElem?_eq_none (by omega)]
  · rw [if_neg e, if_neg e]
    have := h.2.1 j fun z => e (hl j z)
    rw [this, wipe_get, if_neg e]
mutual
theorem tin_slots {own : List Nat} : ∀ {t : T}, tin own t = true → ∀ j ∈ slots t, j ∈ own
  | .nm i, h, j, hj => by
    have : j = i := by simpa [slots] using hj
    subst this
    simpa [tin] using h
  | .tp ts, h, j, hj => tins_slots (ts := ts) (by simpa [tin] using h) j (by simpa [slots] using hj)
theorem tins_slots {own : List Nat} : ∀ {ts : Ts}, tins own ts = true → ∀ j ∈ slotsL ts, j ∈ own
  | .nil, h, j, hj => by simp [slotsL] at hj
  | .cons t ts, h, j, hj => by
    simp only [tins, Bool.and_eq_true] at h
    simp only [slotsL, List.mem_append] at hj
    exact hj.elim (tin_slots h.1 j) (tins_slots h.2 j)
end
def lcStep (Γ : Sig) (elt : E) (t : T) (ifs : Es) (own : List Nat) (x : D) (k : List D → Env → Prop) (acc : List D) (e : Env) : Prop :=
  setT [] t x e fun e2 => wpTs Γ ifs e2 (fun b e3 => if b = true then wpE Γ elt e3 (fun d e4 => acc.length < sizeLine ∧ k (acc ++ [d]) (wipeE own e4)) (fun _ _ => False) else k acc (wipeE own e3)) (fun _ _ => False)
theorem lc_read {elt : E} {t : T} {it : I} {ifs : Es} {own : List Nat} {mg : Str → Option Value} {σ : St} {H : Hp} {Q : VK} (ht : tin own t = true) (h : tE (sigOf L me) mg W (.lc elt t it ifs own) σ H Q) :
    tLc (tI (sigOf L me) mg W it) (gT [] t) (tTs (sigOf L me) mg (fun _ _ _ _ => False) ifs) (tE (sigOf L me) mg (fun _ _ _ _ => False) elt) ((ownP c own).map (·.2)) σ H Q := by
  obtain ⟨env, F, O, K, R, s, hh, w, ok, ox⟩ := h
  rw [ownP_snd]
  simp only [wpE] at w
  refine ⟨env, F, O, _, R, s, hh, w, fun items env1 w1 F1 Oe1 J H1 n1 s1 wk => ?_, ox⟩
  intro D hD
  obtain ⟨Z0, B0, q1, q2⟩ := wipeSim s1 own
  have w1' : (items.foldr (lcStep (sigOf L me) elt t ifs own) fun acc e => K (.lst true acc) (backE env1 own e)) [] (wipeE own env1) := w1
  have nw := Next.newO n1.held hD (.lst [])
  let W0 : Nat → Nat → Hp → Prop := fun i m H => m = items.length - i ∧ i ≤ items.length ∧ ∃ F2 Oacc Oe acc accV e, SimE F2 e (wipe σ own) Oe ∧ RepL F2 acc accV Oacc ∧ ((items.drop i).foldr (lcStep (sigOf L me) elt t ifs own) fun acc e => K (.lst true acc) (backE env1 own e)) acc e ∧
    Next F1 Oe1 H1 F2 (((D, HO.lst accV) :: Oacc) ++ Oe) H
  refine ⟨W0, ⟨items.length, rfl, Nat.zero_le _, F1, [], B0, [], [], _, q1, .nil, w1', ?_⟩, fun i m H2 hw => ?_⟩
  · have := nw.perm (O'' := Z0 ++ ((D, HO.lst []) :: [] ++ B0)) (by
      show ((D, HO.lst []) :: Oe1).Perm (Z0 ++ ((D, HO.lst []) :: B0))
      exact (q2.cons _).trans List.perm_middle.symm)
    exact this.drop
  · obtain ⟨rfl, hi', F2, Oacc, Oe, acc, accV, e, s2, ra, hf, n2⟩ := hw
    have wk2 := wk F2 _ H2 i n2.held n2.f
    by_cases hlt : i < items.length
    · right
      obtain ⟨g1, g2⟩ := wk2.1 items[i] (List.getElem?_eq_getElem hlt)
      refine ⟨g1, W0 (i + 1) (items.length - (i + 1)), fun H' h' => ⟨_, by omega, h'⟩, fun x H3 hy => ?_⟩
      obtain ⟨F3, n3, r3⟩ := g2 x H3 hy
      rw [List.drop_eq_getElem_cons hlt, List.foldr_cons] at hf
      have hf' : setT [] t items[i] e _ := hf
      have n13 := n2.trans n3
      refine ⟨e, F3, [], Oe, items[i], _, s2.mono n3.f, n13.held.right, r3, hf', fun e2 w2 F4 O4 σ2 H4 n4 s4 ch => ?_⟩
      have wp := wipe_chg ch (tin_slots ht)
      refine ⟨wp, ?_⟩
      have n4' := n13.trans (Next.frame n13.held n4)
      refine ⟨e2, F4, O4, _, _, s4, n4.held, w2, fun b e3 w3 F5 Oe5 H5 n5 s5 => ?_, fun _ _ z => z.elim⟩
      have n5' := n4'.trans (Next.frame n4'.held n5)
      have ra5 := ((ra.mono n3.f).mono n4.f).mono n5.f
      cases b with
      | false =>
        obtain ⟨Z, B, k1, k2⟩ := wipeSim s5 own
        rw [wp] at k1
        refine ⟨rfl, by omega, F5, Oacc, B, acc, accV, _, k1, ra5, w3, ?_⟩
        refine (n5'.perm (O'' := Z ++ ((D, HO.lst accV) :: Oacc ++ B)) ?_).drop
        exact (List.Perm.append_left _ k2).trans perm3
      | true =>
        refine ⟨e3, F5, Oe5, _, _, s5, n5.held, w3, fun d e4 w4 F6 Od Oe6 y H6 n6 r6 s6 => ?_, fun _ _ z => z.elim⟩
        have n6' := n5'.trans (Next.frame n5'.held n6)
        obtain ⟨hz, hk⟩ := w4
        have hD6 : H6 D = some (.lst accV) := n6'.held.o (D, .lst accV) (by simp)
        refine ⟨accV, hD6, by rw [← ra.len]; exact hz, ?_⟩
        obtain ⟨Z, B, k1, k2⟩ := wipeSim s6 own
        rw [wp] at k1
        have nwr := Next.write (u := .lst accV) n6'.held (.lst (accV ++ [y]))
        have rr : RepL F6 [d] [y] Od := by
          have := RepL.cons (O2 := []) r6 RepL.nil
          rw [List.append_nil] at this; exact this
        refine ⟨rfl, by omega, F6, Oacc ++ Od, B, acc ++ [d], accV ++ [y], _, k1, (ra5.mono n6.f).append rr, hk, ?_⟩
        refine ((n6'.trans nwr).perm (O'' := Z ++ ((D, HO.lst (accV ++ [y])) :: (Oacc ++ Od) ++ B)) ?_).drop
        show ((D, HO.lst (accV ++ [y])) :: (Oacc ++ (Od ++ Oe6))).Perm _
        have a1 : (Oacc ++ (Od ++ Oe6)).Perm (Z ++ (Oacc ++ Od ++ B)) := by
          rw [← List.append_assoc]
          exact (List.Perm.append_left _ k2).trans perm3
        exact (a1.cons _).trans List.perm_middle.symm
    · left
      have hge : items.length ≤ i := by omega
      refine ⟨wk2.2 hge, ?_⟩
      rw [List.drop_eq_nil_of_le hge] at hf
      obtain ⟨Z, B, k1, k2⟩ := backSim s1 n2.f own s2
      refine ok (.lst true acc) _ hf F2 ((D, .lst accV) :: Oacc) B (.ref D) H2 ?_ (.own ra) k1
      refine ((n1.trans n2).perm (O'' := Z ++ ((D, HO.lst accV) :: Oacc ++ B)) ?_).drop
      exact (List.Perm.append_left _ k2).trans perm3
theorem st_lc {elt : E} {t : T} {it : I} {ifs : Es} {own : List Nat} {elt' t' it' : Expr} {ifs' : List Expr} {scope : PySem.Scope} {p : PySem.Pos} (C : Cok L c X W) (hn : noSet it' = true) (hb : blkC c.N c.sc scope (ownP c own) = true) (ht : tin own t = true)
    (hi : PI X t' it' (tI (sigOf L me) X.mg W it)) (hg : ∀ {X' : Cx} {W' : WX}, Cok L (inner c scope) X' W' → PG X' t' (gT [] t)) (hts : ∀ {X' : Cx} {W' : WX}, Cok L (inner c scope) X' W' → PTs X' ifs' (tTs (sigOf L me) X'.mg W' ifs))
    (he : ∀ {X' : Cx} {W' : WX}, Cok L (inner c scope) X' W' → PE X' elt' (tE (sigOf L me) X'.mg W' elt)) : PE X (.ListComp elt' [⟨t', it', ifs', 0⟩] scope p) (tE (sigOf L me) X.mg W (.lc elt t it ifs own)) := by
  have bo : BlkOk X.N X.env.scope scope (ownP c own) := by rw [C.N, C.sc]; exact blkOk_by hb
  exact PE.weak (pe_lc (pos := p) (g := gT [] t) (tt := tTs (sigOf L me) X.mg (fun _ _ _ _ => False) ifs) (te := tE (sigOf L me) X.mg (fun _ _ _ _ => False) elt) C.calm C.nd hi bo (fun s H C' cl fp => hg (blk_cok C)) (fun s H C' cl fp => hts (blk_cok C)) (fun s H C' cl fp => he (blk_cok C)) (noSet_ok hn)) fun σ H Q h => lc_read ht h
/-- name = [..] where the name is given a new value in the display's own place -/
theorem st_setLc {elt : E} {t : T} {it : I} {ifs : Es} {own : List Nat} {elt' t' it' : Expr} {ifs' : List Expr} {scope : PySem.Scope} {p py sp : PySem.Pos} {i : Nat} {y : Str} (C : Cok L c X W) (hy : mine c i y = true) (hyl : X.env.scope.names.lookup y = some .local)
    (hsw : PySem.swapsWith (.ListComp elt' [⟨t', it', ifs', 0⟩] scope p) (some (.Name y py)) sp.line X.env = pure true) (hn : noSet it' = true) (hb : blkC c.N c.sc scope (ownP c own) = true) (ht : tin own t = true)
    (hi : PI X t' it' (tI (sigOf L me) X.mg W it)) (hg : ∀ {X' : Cx} {W' : WX}, Cok L (inner c scope) X' W' → PG X' t' (gT [] t)) (hts : ∀ {X' : Cx} {W' : WX}, Cok L (inner c scope) X' W' → PTs X' ifs' (tTs (sigOf L me) X'.mg W' ifs))
    (he : ∀ {X' : Cx} {W' : WX}, Cok L (inner c scope) X' W' → PE X' elt' (tE (sigOf L me) X'.mg W' elt)) : PS X (.Assign [.Name y py] (.ListComp elt' [⟨t', it', ifs', 0⟩] scope p) sp) (tAsg (tE (sigOf L me) X.mg W (.lc elt t it ifs own)) (gName i)) := by
  have bo : BlkOk X.N X.env.scope scope (ownP c own) := by rw [C.N, C.sc]; exact blkOk_by hb
  have ps := ps_setLc (pos := p) (g := gT [] t) (tt := tTs (sigOf L me) X.mg (fun _ _ _ _ => False) ifs) (te := tE (sigOf L me) X.mg (fun _ _ _ _ => False) elt) C.calm C.nd (C.mine hy).1 hyl hsw hi bo (fun s H C' cl fp => hg (blk_cok C)) (fun s H C' cl fp => hts (blk_cok C)) (fun s H C' cl fp => he (blk_cok C)) (noSet_ok hn)
  exact ⟨fun pins s σ H D I h => ps.run pins s σ H D I (lc_read ht h)⟩
end
end DP

/-! DpN: every expression of the small language runs as its data say. -/
namespace DP
open PySem (Addr sizeLine wpAny model Value Shared Around FuncData BindsTo codeAny Str Paired Expr)
open PySem.W (Frag)
open L2

section
variable {L : List Ent} {c : SC} {X : Cx} {W : WX} {me : List Nat}
theorem RepL.nilO {F : Hp} {vs : List V} {O : Own} (r : RepL F [] vs O) : O = [] := by cases r; rfl
/-! ### keyword calls -/
theorem chkK_kw {env : PySem.Env} {pos : PySem.Pos} : ∀ {ks : List String} {bs : Es} {kws : List PySem.Keyword}, chkK c ks bs kws = true → bs.len = ks.length ∧ (PySem.backToKw pos (PySem.keywordEach kws env)).filterMap (·.1) = ks.map Str.ofString ∧
    (PySem.backToKw pos (PySem.keywordEach kws env)).all (·.1.isSome) = true ∧ (PySem.backToKw pos (PySem.keywordEach kws env)).any (·.1.isNone) = false
  | [], .nil, [], _ => ⟨rfl, rfl, rfl, rfl⟩
  | k :: ks, .cons a as, ⟨some k', a', p⟩ :: kws, h => by
    simp only [chkK, Bool.and_eq_true, decide_eq_true_eq] at h
    obtain ⟨⟨rfl, _⟩, h2⟩ := h
    obtain ⟨l, h3, h4, h5⟩ := chkK_kw (env := env) (pos := pos) h2
    refine ⟨by show as.len + 1 = ks.length + 1; rw [l], ?_, ?_, ?_⟩
    · show Str.ofString k :: (PySem.backToKw pos (PySem.keywordEach kws env)).filterMap (·.1) = _
      rw [h3]; rfl
    · show (true && (PySem.backToKw pos (PySem.keywordEach kws env)).all (·.1.isSome)) = true
      rw [h4]; rfl
    · show (false || (PySem.backToKw pos (PySem.keywordEach kws env)).any (·.1.isNone)) = false
      rw [h5]; rfl
  | k :: ks, .cons a as, ⟨none, a', p⟩ :: kws, h => by simp [chkK] at h
  | [], .nil, _ :: _, h => by simp [chkK] at h
  | [], .cons _ _, _, h => by simp [chkK] at h
  | _ :: _, .nil, _, h => by simp [chkK] at h
  | _ :: _, .cons _ _, [], h => by simp [chkK] at h
theorem atAll_len {α : Type} {l : List α} : ∀ {ix : List Nat}, (∀ j ∈ ix, j < l.length) → (atAll l ix).length = ix.length
  | [], _ => rfl
  | j :: ix, h => by
    have hj := h j List.mem_cons_self
    show (List.filterMap (fun j => l[j]?) (j :: ix)).length = _
    rw [List.filterMap_cons, List.getElem?_eq_getElem hj]
    show (atAll l ix).length + 1 = ix.length + 1
    rw [atAll_len fun i hi => h i (List.mem_cons_of_mem _ hi)]
theorem vals_at {vs : List V} {us : List Value} (r : Vals vs us) : ∀ {ix : List Nat}, (∀ j ∈ ix, j < vs.length) → Vals (atAll vs ix) (atAll us ix)
  | [], _ => .nil
  | j :: ix, h => by
    have hj := h j List.mem_cons_self
    have hj' : j < us.length := by rw [← r.length]; exact hj
    have e1 : atAll vs (j :: ix) = vs[j] :: atAll vs ix := by
      show List.filterMap (fun j => vs[j]?) (j :: ix) = _
      rw [List.filterMap_cons, List.getElem?_eq_getElem hj]; rfl
    have e2 : atAll us (j :: ix) = us[j] :: atAll us ix := by
      show List.filterMap (fun j => us[j]?) (j :: ix) = _
      rw [List.filterMap_cons, List.getElem?_eq_getElem hj']; rfl
    rw [e1, e2]
    refine .cons ?_ (vals_at r fun i hi => h i (List.mem_cons_of_mem _ hi))
    have go : ∀ {xs : List V} {ys : List Value}, Vals xs ys → ∀ {i : Nat} (p : i < xs.length) (q : i < ys.length), RelV xs[i] ys[i] := by
      intro xs ys r
      induction r with
      | nil => intro i p; simp at p
      | cons a b ih =>
        intro i p q
        cases i with
        | zero => exact a
        | succ i => exact ih (by simpa using p) (by simpa using q)
    exact go r hj hj'
theorem repL_at {F : Hp} {ds : List D} {vs : List V} (r : RepL F ds vs []) : ∀ {ix : List Nat}, (∀ j ∈ ix, j < ds.length) → RepL F (atAll ds ix) (atAll vs ix) []
  | [], _ => .nil
  | j :: ix, h => by
    have hj := h j List.mem_cons_self
    obtain ⟨v, e, q⟩ := r.nth0 (List.getElem?_eq_getElem hj)
    have e1 : atAll ds (j :: ix) = ds[j] :: atAll ds ix := by
      show List.filterMap (fun j => ds[j]?) (j :: ix) = _
      rw [List.filterMap_cons, List.getElem?_eq_getElem hj]; rfl
    have e2 : atAll vs (j :: ix) = v :: atAll vs ix := by
      show List.filterMap (fun j => vs[j]?) (j :: ix) = _
      rw [List.filterMap_cons, e]; rfl
    rw [e1, e2]
    exact RepL.cons (O1 := []) (O2 := []) q (repL_at r fun i hi => h i (List.mem_cons_of_mem _ hi))
theorem pick_none : ∀ {ios : List Bool} {vs : List V}, ios.all (! ·) = true → pick ios vs = []
  | [], _, _ => by cases ‹List V› <;> rfl
  | true :: _, _, h => by simp at h
  | false :: bs, [], _ => rfl
  | false :: bs, _ :: vs, h => by
    show pick bs vs = []
    exact pick_none (by simpa using h)
theorem st_calk {f : String} {as bs : Es} {ks : List String} {es : List Expr} {kws : List PySem.Keyword} {q p : PySem.Pos} (C : Cok L c X W) (hx : glob c (Str.ofString f) = true) (hc : chkEs c as es = true) (hk : chkK c ks bs kws = true) (hf : c.kws.contains (f, es.length, ks) = true)
    (ha : PA X es (tEs (sigOf L me) X.mg W as)) (hb : PK X kws (tEs (sigOf L me) X.mg W bs)) : PE X (.Call (.Name (Str.ofString f) q) es kws p) (tE (sigOf L me) X.mg W (.calk f as ks bs)) := by
  obtain ⟨e, k, en, el, hr, KE, e1, e2, e3⟩ := C.entK me hf
  obtain ⟨a, fd, m1, m2, G, b1, b2⟩ := KE.ok
  obtain ⟨g1, g2⟩ := C.glob hx
  have m1' : X.mg (Str.ofString f) = some (.ref a) := by rw [← en]; exact m1
  obtain ⟨ix, i1, i2, i3, i4⟩ := b2 _ el
  obtain ⟨k1, k2, k3, k4⟩ := chkK_kw (env := X.env) (pos := p) hk
  have lks : (ks.map Str.ofString).length = ks.length := List.length_map _
  have hbind : ∀ (s : Shared) (us ws : List Value) (vs zs : List V), Vals vs us → Vals zs ws → vs.length = es.length → zs.length = (ks.map Str.ofString).length → (atAll (vs ++ zs) ix).length = e.ps.length → Vals (atAll (vs ++ zs) ix) (atAll (us ++ ws) ix) ∧
      BindsTo s fd ⟨us, (ks.map Str.ofString).zip ws⟩ ((e.ps.map Str.ofString).zip (atAll (us ++ ws) ix)) := fun s us ws vs zs r1 r2 l1 l2 _ => by
    refine ⟨vals_at (r1.append r2) fun j hj => ?_, i4 s us ws (by rw [← r1.length]; exact l1) (by rw [← r2.length, l2, lks])⟩
    rw [List.length_append, l1, l2, lks]
    exact i3 j hj
  have main : ∀ {σ : St} {H : Hp} {Q : VK}, tE (sigOf L me) X.mg W (.calk f as ks bs) σ H Q → tCallGK es.length (ks.map Str.ofString) (spM X.mg e.ps.length e.ios e.sp) W (fun vs zs => atAll (vs ++ zs) ix) (tEs (sigOf L me) X.mg W as) (tEs (sigOf L me) X.mg W bs) σ H Q := by
    intro σ H Q ⟨env, F, O, K, R, s, hh, w, ok, ox⟩
    simp only [wpE] at w
    rw [e1, e2, e3] at w
    refine ⟨env, F, O, _, R, s, hh, w, fun ds env1 w1 hl F1 Od Oe vs H1 n1 r1 s1 => ?_, ox⟩
    refine ⟨env1, F1, Oe, _, R, s1, n1.held.right, w1, fun es' env2 w2 hl2 F2 Od2 Oe2 us H2 n2 r2 s2 => ?_, ox.step n1.drop⟩
    obtain ⟨w3, ix', w4, w5⟩ := w2
    have lds : ds.length = es.length := by rw [hl, chkEs_len hc]
    have les : es'.length = ks.length := by rw [hl2, k1]
    have : ix' = ix := by
      rw [lds] at w4
      have i1' : kwIx e.ps ks es.length = some ix := i1
      rw [i1'] at w4
      cases w4; rfl
    subst this
    have nf := n1.trans (Next.frame n1.held n2)
    rw [← List.append_assoc] at nf
    have nz := Next.freeze nf.held
    have rr := ((r1.mono n2.f).append r2).frozen nf.held
    have nn := nf.trans nz
    have lz : (fzL (ds ++ es')).length = es.length + ks.length := by rw [fzL_length, List.length_append, lds, les]
    refine ⟨by rw [← r1.len]; exact lds, by rw [← r2.len, lks]; exact les, ?_⟩
    refine ⟨_, _, [], _, _, repL_at rr (fun j hj => by rw [lz]; exact i3 j hj), Held.left (B := Oe2) nn.held, by rw [atAll_len (fun j hj => by rw [lz]; exact i3 j hj)]; exact i2, w5, fun r outs hk F' Or Oo v H' n3 r3 ro => ?_, fun x rx F' O' cls dd H' n3 rep => ?_⟩
    · obtain ⟨rfl, hk⟩ := hk
      have := ro.nilO
      subst this
      have n4 := next_left (B := Oe2) nn.held n3
      rw [List.append_nil] at n4
      exact ok r env2 hk F' Or Oe2 v H' (nn.trans n4) r3 ((s2.mono nz.f).mono n3.f)
    · have n4 := next_left (B := Oe2) nn.held n3
      exact ox x env2 rx F' Oe2 cls dd H' ((nn.trans n4).drop) ((s2.mono nz.f).mono n3.f) rep
  cases es with
  | nil =>
    have hn : as = .nil := by cases as with
      | nil => rfl
      | cons _ _ => simp [chkEs] at hc
    subst hn
    refine PE.weak (pe_callGK0 (W := W) (gV := fun vs zs => atAll (vs ++ zs) ix) (g := fun us ws => atAll (us ++ ws) ix) (m := 0) G C.hg hr C.tk g1 m1' m2 hbind hb k3 k2 g2 (by rw [k4]; rfl)) fun σ H Q h => ?_
    obtain ⟨env, F, O, K, R, s, hh, w, ok, ox⟩ := main h
    simp only [wpEs] at w
    exact ok [] env w rfl F [] O [] H (Next.refl hh) .nil s
  | cons e' es' =>
    obtain ⟨a2, as2, _, c1, c2⟩ := chkEs_cons' hc
    refine PE.weak (pe_callGK (W := W) (gV := fun vs zs => atAll (vs ++ zs) ix) (g := fun us ws => atAll (us ++ ws) ix) (m := (e' :: es').length) G C.hg hr C.tk g1 m1' m2 hbind ha hb k3 k2 g2 (star_cons (chk_star c1)) (by rw [plain_all hc, k4]; rfl)) fun σ H Q h => main h

/-! ### argument lists -/
theorem sEs_nil : PA X [] (tEs (sigOf L me) X.mg W .nil) := by
  refine PA.weak pa_nil fun σ H Q ⟨env, F, O, K, R, s, hh, w, ok, ox⟩ => ?_
  simp only [wpEs] at w
  exact ok [] env w rfl F [] O [] H (Next.refl hh) .nil s
theorem es_step {a : E} {as : Es} {σ : St} {H : Hp} {Q : List V → Hp → Prop} (h : tEs (sigOf L me) X.mg W (.cons a as) σ H Q) : tCons (tE (sigOf L me) X.mg W a) (tEs (sigOf L me) X.mg W as) σ H Q := by
  obtain ⟨env, F, O, K, R, s, hh, w, ok, ox⟩ := h
  simp only [wpEs] at w
  refine ⟨env, F, O, _, R, s, hh, w, fun d1 env1 w1 F1 Od1 Oe1 v1 H1 n1 r1 s1 => ?_, ox⟩
  refine ⟨env1, F1, Oe1, _, R, s1, n1.held.right, w1, fun ds env2 w2 hl F2 Od2 Oe2 vs H2 n2 r2 s2 => ?_, ox.step n1.drop⟩
  have nf := n1.trans (Next.frame n1.held n2)
  rw [← List.append_assoc] at nf
  exact ok (d1 :: ds) env2 w2 (by rw [List.length_cons, hl]; rfl) F2 (Od1 ++ Od2) Oe2 (v1 :: vs) H2 nf (.cons (r1.mono n2.f) r2) s2
theorem bs_step {a : E} {as : Es} {σ : St} {H : Hp} {Q : List V → Hp → Prop} (h : tBs (sigOf L me) X.mg W (.cons a as) σ H Q) : tCons (tB (sigOf L me) X.mg W a) (tBs (sigOf L me) X.mg W as) σ H Q := by
  obtain ⟨env, F, O, K, R, s, hh, w, ok, ox⟩ := h
  simp only [wpBs] at w
  refine ⟨env, F, O, _, R, s, hh, w, fun d1 env1 w1 F1 Od1 Oe1 v1 H1 n1 r1 s1 => ?_, ox⟩
  refine ⟨env1, F1, Oe1, _, R, s1, n1.held.right, w1, fun ds env2 w2 F2 Od2 Oe2 vs H2 n2 r2 s2 => ?_, ox.step n1.drop⟩
  have nf := n1.trans (Next.frame n1.held n2)
  rw [← List.append_assoc] at nf
  refine ok (d1 :: ds) env2 w2 F2 (Od1 ++ Od2) Oe2 (v1 :: vs) H2 nf ⟨Od1, Od2, rfl, ?_, r2⟩ s2
  have gen : Rep F1 d1 v1 Od1 → Rep F2 d1 v1 Od1 := fun r => r.mono n2.f
  cases a with
  | var i => exact ⟨r1.1, r1.2.2⟩
  | _ => exact gen r1
theorem a_step {a : E} {as : Es} {fl bs : List Bool} {σ : St} {H : Hp} {Q : List V → Hp → Prop} (hfl : fl = false :: bs ∨ (fl = [] ∧ bs = [])) (h : tA (sigOf L me) X.mg W fl (.cons a as) σ H Q) : tCons (tE (sigOf L me) X.mg W a) (tA (sigOf L me) X.mg W bs as) σ H Q := by
  obtain ⟨env, F, O, K, R, s, hh, w, ok, ox⟩ := h
  have w' : wpE (sigOf L me) a env (fun d env1 => wpA (sigOf L me) as bs env1 (fun ds tk env2 => K (d.fz :: ds) tk env2) R) R := by
    rcases hfl with rfl | ⟨rfl, rfl⟩
    · cases a <;> simpa only [wpA] using w
    · cases a <;> simpa only [wpA] using w
  refine ⟨env, F, O, _, R, s, hh, w', fun d1 env1 w1 F1 Od1 Oe1 v1 H1 n1 r1 s1 => ?_, ox⟩
  have nz := Next.freeze n1.held
  have rz := r1.frozen n1.held
  have nn := n1.trans nz
  refine ⟨env1, _, Oe1, _, R, s1.mono nz.f, nn.held, w1, fun ds tk env2 w2 hl F2 Od2 Oe2 vs H2 n2 r2 s2 pr => ?_, ox.step nn⟩
  refine ok (d1.fz :: ds) tk env2 w2 (by rw [List.length_cons, hl]; rfl) F2 Od2 Oe2 (v1 :: vs) H2 (nn.trans n2) (RepL.cons (O1 := []) (rz.mono n2.f) r2) s2 ?_
  rcases hfl with rfl | ⟨rfl, rfl⟩
  · exact pr
  · have e1 : pick [] vs = ([] : List V) := by cases vs <;> rfl
    rw [e1] at pr
    exact pr
theorem a_mov {i : Nat} {x : Str} {p : PySem.Pos} {as : Es} {es : List Expr} {bs : List Bool} (C : Cok L c X W) (h : seen c i x = true) (hr : PA X es (tA (sigOf L me) X.mg W bs as)) : PA X (.Name x p :: es) (tA (sigOf L me) X.mg W (true :: bs) (.cons (.var i) as)) := by
  obtain ⟨h1, h2, h3, h4⟩ := C.seen h
  refine PA.weak (pa_cons (pe_var (pos := p) h1 h2 h3 h4) hr rfl) fun σ H Q ⟨env, F, O, K, R, s, hh, w, ok, ox⟩ => ?_
  simp only [wpA] at w
  obtain ⟨d, e, hk⟩ := get_iff w
  obtain ⟨v, A0, B0, k1, _, _, _⟩ := s.take e
  refine ⟨v, k1, env, F, O, _, R, s, hh, hk, fun ds tk env2 w2 hl F2 Od2 Oe2 vs H2 n2 r2 s2 pr => ?_, ox⟩
  obtain ⟨d2, e2, hk2⟩ := get_iff w2
  obtain ⟨v2, A, B, j1, j2, j3, j4⟩ := s2.take e2
  rw [k1] at j1; cases j1
  refine ok (d2 :: ds) (i :: tk) _ hk2 (by rw [List.length_cons, hl]; rfl) F2 (A ++ Od2) B (v :: vs) H2 (n2.perm ?_) (.cons j2 r2) j3 (.cons k1 pr)
  rw [List.append_assoc]
  exact (List.Perm.append_left Od2 j4).trans perm3
end
end DP

/-! DpO: every expression of the small language runs as its data say: the one theorem. -/
namespace DP
open PySem (Addr sizeLine wpAny model Value Shared Around FuncData BindsTo codeAny Str Paired Expr)
open PySem.W (Frag)
open L2

section
variable {L : List Ent} {me : List Nat}
theorem PT.never {X : Cx} {e : Expr} : PT X e (fun _ _ _ => False) := ⟨fun _ _ _ _ _ _ h => h.elim⟩
theorem s_var {c : SC} {X : Cx} {W : WX} {i : Nat} {ex : Expr} (C : Cok L c X W) (h : chkE c (.var i) ex = true) : PE X ex (tE (sigOf L me) X.mg W (.var i)) := by
  obtain ⟨x, p, rfl, h⟩ := chk_var h
  obtain ⟨h1, h2, h3, h4⟩ := C.seen h
  refine PE.weak (pe_var h1 h2 h3 h4) fun σ H Q ⟨env, F, O, K, R, s, hh, w, ok, ox⟩ => ?_
  simp only [wpE] at w
  obtain ⟨d, e, hk⟩ := get_iff w
  obtain ⟨v, F', O', k1, k2, k3, k4⟩ := freezeSlot s hh e
  exact ⟨v, k1, ok _ _ hk F' [] O' v H k2 k3 k4⟩
theorem s_mov {c : SC} {X : Cx} {W : WX} {i : Nat} {ex : Expr} (C : Cok L c X W) (h : chkE c (.mov i) ex = true) : PE X ex (tE (sigOf L me) X.mg W (.mov i)) := by
  obtain ⟨x, p, rfl, h⟩ := chk_mov h
  obtain ⟨h1, h2, h3, h4⟩ := C.seen h
  refine PE.weak (pe_var h1 h2 h3 h4) fun σ H Q ⟨env, F, O, K, R, s, hh, w, ok, ox⟩ => ?_
  simp only [wpE] at w
  obtain ⟨d, e, hk⟩ := get_iff w.2
  obtain ⟨v, A, B, k1, k2, k3, k4⟩ := s.take e
  exact ⟨v, k1, ok _ _ hk F A B v H ((Next.refl hh).perm k4) k2 k3⟩
theorem con_of {d : D} {k : PySem.Const} (h : conD d k = true) : (d = .non ∧ k = .none) ∨ (∃ b, d = .bl b ∧ k = .bool b) ∨ (∃ i, d = .int i ∧ k = .int i) ∨ ∃ s, d = .str s ∧ k = .str s := by
  unfold conD at h
  split at h
  · exact .inl ⟨rfl, rfl⟩
  · exact .inr (.inl ⟨_, rfl, by rw [eq_of_beq h]⟩)
  · exact .inr (.inr (.inl ⟨_, rfl, by rw [of_decide_eq_true h]⟩))
  · exact .inr (.inr (.inr ⟨_, rfl, by rw [of_decide_eq_true h]⟩))
  · cases h
theorem s_con {c : SC} {X : Cx} {W : WX} {d : D} {ex : Expr} (h : chkE c (.con d) ex = true) : PE X ex (tE (sigOf L me) X.mg W (.con d)) := by
  obtain ⟨k, j, p, rfl, hk⟩ := chk_con h
  clear h
  have fin : ∀ {d : D} {v : V}, (∀ F, Rep F d v []) → ∀ σ H Q, tE (sigOf L me) X.mg W (.con d) σ H Q → tC v σ H Q := fun r σ H Q ⟨env, F, O, K, R, s, hh, w, ok, ox⟩ => by
    simp only [wpE] at w
    exact ok _ env w F [] O _ H (Next.refl hh) (r F) s
  rcases con_of hk with ⟨rfl, rfl⟩ | ⟨b, rfl, rfl⟩ | ⟨i, rfl, rfl⟩ | ⟨z, rfl, rfl⟩
  · exact PE.weak pe_non (fin fun _ => .non)
  · exact PE.weak pe_bl (fin fun _ => .bl _)
  · exact PE.weak pe_int (fin fun _ => .int _)
  · exact PE.weak pe_str (fin fun _ => .str _)
theorem atom_eq {d e : D} (h : atomEq d e = true) : d = e := by
  cases d <;> cases e <;> first | (simp [atomEq] at h; done) | (have e := of_decide_eq_true h; subst e; rfl)
theorem s_glo {c : SC} {X : Cx} {W : WX} {x : String} {d : D} {ex : Expr} (C : Cok L c X W) (h : chkE c (.glo x d) ex = true) : PE X ex (tE (sigOf L me) X.mg W (.glo x d)) := by
  obtain ⟨p, rfl, h1, q, hq, h3, h4⟩ := chk_glo h
  obtain ⟨g1, g2⟩ := C.glob h1
  obtain ⟨k, _, wd⟩ := C.wd
  obtain ⟨u, v, m, r, rep⟩ := wd.gl q hq
  rw [h3] at m
  rw [atom_eq h4] at rep
  refine PE.weak (pe_glob g1 m r g2) fun σ H Q ⟨env, F, O, K, R, s, hh, w, ok, ox⟩ => ?_
  simp only [wpE] at w
  exact ok d env w F [] O _ H (Next.refl hh) (rep F) s
theorem s_call {c : SC} {X : Cx} {W : WX} {f : String} {as : Es} {ex : Expr} (C : Cok L c X W) (h : chkE c (.call f as) ex = true) (ha : ∀ fl es, chkEs c as es = true → PA X es (tA (sigOf L me) X.mg W fl as)) : PE X ex (tE (sigOf L me) X.mg W (.call f as)) := by
  obtain ⟨as', q, p, rfl, h1, h2, h3⟩ := chk_call h
  obtain ⟨t, pe, hw⟩ := st_call (me := me) (q := q) (p := p) C h1 h2 h3 fun fl => ha fl as' h2
  refine PE.weak pe fun σ H Q ⟨env, F, O, K, R, s, hh, w, ok, ox⟩ => ?_
  simp only [wpE] at w
  exact hw F O σ H Q env K R s hh w ok ox
theorem t_call {c : SC} {X : Cx} {W : WX} {f : String} {as : Es} {ex : Expr} (C : Cok L c X W) (h : chkE c (.call f as) ex = true) (ha : ∀ fl es, chkEs c as es = true → PA X es (tA (sigOf L me) X.mg W fl as)) : PT X ex (tT (sigOf L me) X.mg W (.call f as)) := by
  obtain ⟨as', q, p, rfl, h1, h2, h3⟩ := chk_call h
  obtain ⟨t, pe, hw⟩ := st_call (me := me) (q := q) (p := p) C h1 h2 h3 fun fl => ha fl as' h2
  refine PT.weak (pt_truth pe fun _ => rfl) fun σ H Q ⟨env, F, O, K, R, s, hh, w, ok, ox⟩ => ?_
  simp only [wpT] at w
  refine hw F O σ H _ env (fun d e => truD d fun b => K b e) R s hh w (fun d env' hk F' Od Oe v H' n r s' => ?_) ox
  obtain ⟨t1, t2⟩ := tru_of (K := X.K) hk r n.held.f n.held.left.o
  exact ⟨_, t1, ok _ env' t2 F' Oe H' n.drop s'⟩
theorem t_var {c : SC} {X : Cx} {W : WX} {i : Nat} {ex : Expr} (C : Cok L c X W) (h : chkE c (.var i) ex = true) : PT X ex (tT (sigOf L me) X.mg W (.var i)) := by
  obtain ⟨x, p, rfl, h⟩ := chk_var h
  obtain ⟨h1, h2, h3, h4⟩ := C.seen h
  refine PT.weak (pt_truth (pe_var h1 h2 h3 h4) fun _ => rfl) fun σ H Q ⟨env, F, O, K, R, s, hh, w, ok, ox⟩ => ?_
  simp only [wpT] at w
  obtain ⟨d, e, hk⟩ := get_iff w
  obtain ⟨v, A, B, k1, k2, k3, k4⟩ := s.take e
  obtain ⟨t1, t2⟩ := tru_of (K := X.K) hk k2 hh.f (hh.perm k4).left.o
  exact ⟨v, k1, _, t1, ok _ env t2 F O H (Next.refl hh) s⟩
theorem t_bi {c : SC} {X : Cx} {W : WX} {b : BI} {as : Es} {ex : Expr} (C : Cok L c X W) (h : chkE c (.bi b as) ex = true) (ha : ∀ es, chkEs c as es = true → PA X es (tBs (sigOf L me) X.mg W as)) : PT X ex (tT (sigOf L me) X.mg W (.bi b as)) := by
  obtain ⟨as', q, p, rfl, h1, h2⟩ := chk_bi h
  refine PT.weak (pt_truth (st_bi (me := me) (W := W) C h1 h2 (ha as' h2)).2 fun _ => rfl) fun σ H Q ⟨env, F, O, K, R, s, hh, w, ok, ox⟩ => ?_
  refine ⟨env, F, O, K, R, s, hh, w, fun d env' hk F' Od Oe v H' n r s' => ?_, ox⟩
  obtain ⟨t1, t2⟩ := tru_of (K := X.K) hk r n.held.f n.held.left.o
  exact ⟨_, t1, ok _ env' t2 F' Oe H' n.drop s'⟩
theorem s_isi {c : SC} {X : Cx} {W : WX} {a : E} {t : String} {ex : Expr} (C : Cok L c X W) (h : chkE c (.isi a t) ex = true) (ha : ∀ e, chkE c a e = true → PE X e (tE (sigOf L me) X.mg W a)) : PE X ex (tE (sigOf L me) X.mg W (.isi a t)) ∧ PT X ex (tT (sigOf L me) X.mg W (.isi a t)) := by
  obtain ⟨a', q, r, p, rfl, h1, h2, h3, h4⟩ := chk_isi h
  have pe := st_isi (me := me) (W := W) (q := q) (r := r) (p := p) C h1 h3 h4 h2 (sB (ha a' h2) C h2)
  refine ⟨PE.weak pe fun σ H Q ⟨env, F, O, K, R, s, hh, w, ok, ox⟩ => ?_, PT.weak (pt_val pe) fun σ H Q ⟨env, F, O, K, R, s, hh, w, ok, ox⟩ => ?_⟩
  · simp only [wpE] at w
    exact ⟨env, F, O, R, fun b e => K (.bl b) e, s, hh, w, fun b env' hk F' Oe H' n s' => ok _ env' hk F' [] Oe _ H' n (.bl b) s', ox⟩
  · simp only [wpT] at w
    exact ⟨env, F, O, R, K, s, hh, w, fun b env' hk F' Oe H' n s' => ⟨b, rfl, ok _ env' hk F' Oe H' n s'⟩, ox⟩
theorem bo_nil {X : Cx} {W : WX} {k : Bool} {e : Expr} : PE X e (tBo (sigOf L me) X.mg W k .nil) := PE.weak PE.never fun σ H Q ⟨env, F, O, K, R, s, hh, w, ok, ox⟩ => by simp only [wpBo] at w
theorem bo_one {X : Cx} {W : WX} {k : Bool} {a : E} {e : Expr} {p : PySem.Pos} (ha : PE X e (tE (sigOf L me) X.mg W a)) : PE X (.BoolOp (boOf k) [e] p) (tBo (sigOf L me) X.mg W k (.cons a .nil)) :=
  PE.weak (pe_one ha) fun σ H Q ⟨env, F, O, K, R, s, hh, w, ok, ox⟩ => ⟨env, F, O, K, R, s, hh, by simpa only [wpBo] using w, ok, ox⟩
theorem bo_cons {X : Cx} {W : WX} {k : Bool} {a b : E} {as : Es} {e f : Expr} {es : List Expr} {p : PySem.Pos} (ha : PE X e (tE (sigOf L me) X.mg W a)) (hb : PE X (.BoolOp (boOf k) (f :: es) p) (tBo (sigOf L me) X.mg W k (.cons b as))) :
    PE X (.BoolOp (boOf k) (e :: f :: es) p) (tBo (sigOf L me) X.mg W k (.cons a (.cons b as))) := by
  cases k with
  | true =>
    refine PE.weak (pe_andT ha hb) fun σ H Q ⟨env, F, O, K, R, s, hh, w, ok, ox⟩ => ?_
    simp only [wpBo] at w
    refine ⟨env, F, O, _, R, s, hh, w, fun d1 env1 w1 F1 Od1 Oe1 v1 H1 n1 r1 s1 => ?_, ox⟩
    obtain ⟨t1, t2⟩ := tru_of (K := X.K) w1 r1 n1.held.f n1.held.left.o
    refine ⟨_, t1, ?_⟩
    by_cases q : truthD d1 = true
    · rw [if_pos q] at t2 ⊢
      exact ⟨env1, F1, Oe1, K, R, s1, n1.held.right, by simpa only [wpBo] using t2, ok.step n1.drop, ox.step n1.drop⟩
    · rw [if_neg q] at t2 ⊢
      exact ok _ env1 t2 F1 Od1 Oe1 v1 H1 n1 r1 s1
  | false =>
    refine PE.weak (pe_orT ha hb) fun σ H Q ⟨env, F, O, K, R, s, hh, w, ok, ox⟩ => ?_
    simp only [wpBo] at w
    refine ⟨env, F, O, _, R, s, hh, w, fun d1 env1 w1 F1 Od1 Oe1 v1 H1 n1 r1 s1 => ?_, ox⟩
    obtain ⟨t1, t2⟩ := tru_of (K := X.K) w1 r1 n1.held.f n1.held.left.o
    refine ⟨_, t1, ?_⟩
    by_cases q : truthD d1 = true
    · rw [if_neg (by rw [q]; exact fun z => nomatch z)] at t2
      rw [if_pos q]
      exact ok _ env1 t2 F1 Od1 Oe1 v1 H1 n1 r1 s1
    · rw [if_pos (by simpa using q)] at t2
      rw [if_neg q]
      exact ⟨env1, F1, Oe1, K, R, s1, n1.held.right, by simpa only [wpBo] using t2, ok.step n1.drop, ox.step n1.drop⟩
theorem PW.never {X : Cx} {e : Expr} : PW X e (fun _ _ _ => False) := ⟨fun _ _ _ _ _ _ _ h => h.elim⟩
theorem to_nil {X : Cx} {W : WX} {k : Bool} {e : Expr} : PW X e (tTo (sigOf L me) X.mg W k .nil) := PW.weak PW.never fun σ H Q ⟨env, F, O, K, R, s, hh, w, ok, ox⟩ => by simp only [wpTo] at w
theorem to_one {X : Cx} {W : WX} {k : Bool} {a : E} {e : Expr} {p : PySem.Pos} (ha : PT X e (tT (sigOf L me) X.mg W a)) : PW X (.BoolOp (boOf k) [e] p) (tTo (sigOf L me) X.mg W k (.cons a .nil)) := by
  have h0 : ∀ σ H Q, tTo (sigOf L me) X.mg W k (.cons a .nil) σ H Q → tT (sigOf L me) X.mg W a σ H Q := fun σ H Q ⟨env, F, O, K, R, s, hh, w, ok, ox⟩ => ⟨env, F, O, K, R, s, hh, by simpa only [wpTo] using w, ok, ox⟩
  cases k with
  | true => exact PW.weak (pw_and1 ha) h0
  | false => exact PW.weak (pw_or1 ha) h0
theorem to_cons {X : Cx} {W : WX} {k : Bool} {a b : E} {as : Es} {e f : Expr} {es : List Expr} {p : PySem.Pos} (ha : PT X e (tT (sigOf L me) X.mg W a)) (hb : PW X (.BoolOp (boOf k) (f :: es) p) (tTo (sigOf L me) X.mg W k (.cons b as))) :
    PW X (.BoolOp (boOf k) (e :: f :: es) p) (tTo (sigOf L me) X.mg W k (.cons a (.cons b as))) := by
  cases k with
  | true =>
    refine PW.weak (pw_and ha hb) fun σ H Q ⟨env, F, O, K, R, s, hh, w, ok, ox⟩ => ?_
    simp only [wpTo] at w
    refine ⟨env, F, O, _, R, s, hh, w, fun b env1 w1 F1 Oe1 H1 n1 s1 => ?_, ox⟩
    cases b with
    | true => exact ⟨env1, F1, Oe1, K, R, s1, n1.held, by simpa only [wpTo, if_true] using w1, ok.step n1, ox.step n1⟩
    | false => exact ok _ env1 w1 F1 Oe1 H1 n1 s1
  | false =>
    refine PW.weak (pw_or ha hb) fun σ H Q ⟨env, F, O, K, R, s, hh, w, ok, ox⟩ => ?_
    simp only [wpTo] at w
    refine ⟨env, F, O, _, R, s, hh, w, fun b env1 w1 F1 Oe1 H1 n1 s1 => ?_, ox⟩
    cases b with
    | true => exact ok _ env1 w1 F1 Oe1 H1 n1 s1
    | false => exact ⟨env1, F1, Oe1, K, R, s1, n1.held, by simpa only [wpTo, if_true] using w1, ok.step n1, ox.step n1⟩
theorem t_nt {X : Cx} {W : WX} {a : E} {e : Expr} {p : PySem.Pos} (ha : PT X e (tT (sigOf L me) X.mg W a)) : PT X (.UnaryOp .Not e p) (tT (sigOf L me) X.mg W (.nt a)) := by
  refine PT.weak (pt_not ha) fun σ H Q ⟨env, F, O, K, R, s, hh, w, ok, ox⟩ => ?_
  simp only [wpT] at w
  exact ⟨env, F, O, _, R, s, hh, w, fun b env1 w1 F1 Oe1 H1 n1 s1 => ok _ env1 w1 F1 Oe1 H1 n1 s1, ox⟩
theorem t_no {X : Cx} {W : WX} {a : E} {e : Expr} (h : ∀ env K R, wpT (sigOf L me) a env K R → False) : PT X e (tT (sigOf L me) X.mg W a) := PT.weak PT.never fun σ H Q ⟨env, F, O, K, R, s, hh, w, ok, ox⟩ => h env K R w
theorem o_no {X : Cx} {W : WX} : PO X none (tOpt (sigOf L me) X.mg W .no) := ⟨fun pins s σ H Q I ⟨env, F, O, K, R, s', hh, w, ok, ox⟩ => po_none.run pins s σ H Q I (by simp only [wpO] at w; exact ok _ env w F O H (Next.refl hh) s')⟩
theorem o_yes {X : Cx} {W : WX} {a : E} {e : Expr} (ha : PE X e (tE (sigOf L me) X.mg W a)) : PO X (some e) (tOpt (sigOf L me) X.mg W (.yes a)) := ⟨fun pins s σ H Q I ⟨env, F, O, K, R, s', hh, w, ok, ox⟩ => (po_some ha).run pins s σ H Q I (by
  simp only [wpO] at w
  refine ⟨env, F, O, _, R, s', hh, w, fun d1 env1 w1 F1 Od1 Oe1 v1 H1 n1 r1 s1 => ?_, ox⟩
  obtain ⟨i, rfl, hk⟩ := w1
  obtain ⟨rfl, rfl⟩ := r1.intI
  exact ⟨i, rfl, ok _ env1 hk F1 Oe1 H1 n1 s1⟩)⟩
theorem ts_nil {X : Cx} {W : WX} : PTs X [] (tTs (sigOf L me) X.mg W .nil) := PTs.weak pts_nil fun σ H Q ⟨env, F, O, K, R, s, hh, w, ok, ox⟩ => by
  simp only [wpTs] at w
  exact ok _ env w F O H (Next.refl hh) s
theorem ts_one {X : Cx} {W : WX} {a : E} {e : Expr} (ha : PT X e (tT (sigOf L me) X.mg W a)) : PTs X [e] (tTs (sigOf L me) X.mg W (.cons a .nil)) := PTs.weak (pts_one ha) fun σ H Q ⟨env, F, O, K, R, s, hh, w, ok, ox⟩ => ⟨env, F, O, K, R, s, hh, by simpa only [wpTs] using w, ok, ox⟩
theorem PTs.never {X : Cx} {es : List Expr} : PTs X es (fun _ _ _ => False) := ⟨fun _ _ _ _ _ _ h => h.elim⟩
theorem ts_no {X : Cx} {W : WX} {a b : E} {as : Es} {es : List Expr} : PTs X es (tTs (sigOf L me) X.mg W (.cons a (.cons b as))) := PTs.weak PTs.never fun σ H Q ⟨env, F, O, K, R, s, hh, w, ok, ox⟩ => by simp only [wpTs] at w
theorem a_nil {X : Cx} {W : WX} {fl : List Bool} : PA X [] (tA (sigOf L me) X.mg W fl .nil) := by
  refine PA.weak pa_nil fun σ H Q ⟨env, F, O, K, R, s, hh, w, ok, ox⟩ => ?_
  simp only [wpA] at w
  refine ok [] [] env w rfl F [] O [] H (Next.refl hh) .nil s ?_
  have : pick fl ([] : List V) = [] := by cases fl with
    | nil => rfl
    | cons b _ => cases b <;> rfl
  rw [this]; exact .nil
theorem PA.never {X : Cx} {es : List Expr} : PA X es (fun _ _ _ => False) := ⟨fun _ _ _ _ _ _ _ h => h.elim⟩
theorem a_no {X : Cx} {W : WX} {a : E} {as : Es} {bs : List Bool} {es : List Expr} (h : ∀ i, a ≠ .var i) : PA X es (tA (sigOf L me) X.mg W (true :: bs) (.cons a as)) := by
  refine PA.weak PA.never fun σ H Q ⟨env, F, O, K, R, s, hh, w, ok, ox⟩ => ?_
  cases a with
  | var i => exact h i rfl
  | _ => simp only [wpA] at w
theorem bs_nil {X : Cx} {W : WX} : PA X [] (tBs (sigOf L me) X.mg W .nil) := by
  refine PA.weak pa_nil fun σ H Q ⟨env, F, O, K, R, s, hh, w, ok, ox⟩ => ?_
  simp only [wpBs] at w
  exact ok [] env w F [] O [] H (Next.refl hh) rfl s
theorem chkO_no {c : SC} {o : Option Expr} (h : chkO c .no o = true) : o = none := by cases o <;> first | rfl | simp [chkO] at h
theorem chkO_yes {c : SC} {a : E} {o : Option Expr} (h : chkO c (.yes a) o = true) : ∃ e, o = some e ∧ chkE c a e = true := by cases o with
  | none => simp [chkO] at h
  | some e => exact ⟨e, rfl, by simpa [chkO] using h⟩
theorem chkT_nm {c : SC} {i : Nat} {e : Expr} (h : chkT c (.nm i) e = true) : ∃ x p, e = .Name x p ∧ mine c i x = true := by
  cases e <;> first | (simp [chkT] at h; done) | exact ⟨_, _, rfl, by simpa [chkT] using h⟩
theorem chkT_tp {c : SC} {ts : Ts} {e : Expr} (h : chkT c (.tp ts) e = true) : ∃ es k p, e = .Tuple es k p ∧ chkTs c ts es = true := by
  cases e <;> first | (simp [chkT] at h; done) | exact ⟨_, _, _, rfl, by simpa [chkT] using h⟩
theorem chkTs_nil {c : SC} {es : List Expr} (h : chkTs c .nil es = true) : es = [] := by cases es <;> first | rfl | simp [chkTs] at h
theorem chkTs_cons {c : SC} {t : T} {ts : Ts} {es : List Expr} (h : chkTs c (.cons t ts) es = true) : ∃ e es', es = e :: es' ∧ chkT c t e = true ∧ chkTs c ts es' = true := by
  cases es with
  | nil => simp [chkTs] at h
  | cons e es' =>
    simp only [chkTs, Bool.and_eq_true] at h
    exact ⟨e, es', rfl, h.1, h.2⟩
mutual
theorem sG : ∀ (t : T) {me : List Nat} {c : SC} {X : Cx} {W : WX} {e : Expr}, Cok L c X W → chkT c t e = true → PG X e (gT me t)
  | .nm i, me, c, X, W, e, C, h => by
    obtain ⟨x, p, rfl, h⟩ := chkT_nm h
    exact gs_name C h
  | .tp ts, me, c, X, W, e, C, h => by
    obtain ⟨es, k, p, rfl, h⟩ := chkT_tp h
    exact gs_tup C (sGs ts C h) h
theorem sGs : ∀ (ts : Ts) {me : List Nat} {c : SC} {X : Cx} {W : WX} {es : List Expr}, Cok L c X W → chkTs c ts es = true → PGs X es (gTs me ts)
  | .nil, me, c, X, W, es, C, h => by
    rw [chkTs_nil h]
    exact gs_nil
  | .cons t ts, me, c, X, W, es, C, h => by
    obtain ⟨e, es', rfl, h1, h2⟩ := chkTs_cons h
    exact gs_cons (sG t C h1) (sGs ts C h2) h1
end
end
end DP

/-! DpP: every expression of the small language runs as its data say: the one theorem. -/
namespace DP
open PySem (Addr sizeLine wpAny model Value Shared Around FuncData BindsTo codeAny Str Paired Expr)
open PySem.W (Frag)
open L2

section
variable {L : List Ent} {me : List Nat}
theorem chkI_call {c : SC} {it : I} {e : Expr} (h : chkI c it e = true) : match it with
    | .ex a => chkE c a e = true
    | .rng1 a => ∃ q p x, e = .Call (.Name (Str.ofString "range") q) [x] [] p ∧ glob c (Str.ofString "range") = true ∧ chkE c a x = true
    | .rng2 a b => ∃ q p x y, e = .Call (.Name (Str.ofString "range") q) [x, y] [] p ∧ glob c (Str.ofString "range") = true ∧ chkE c a x = true ∧ chkE c b y = true
    | .rng3 a b d => ∃ q p x y z, e = .Call (.Name (Str.ofString "range") q) [x, y, z] [] p ∧ glob c (Str.ofString "range") = true ∧ chkE c a x = true ∧ chkE c b y = true ∧ chkE c d z = true
    | .zip2 a b => ∃ q p x y, e = .Call (.Name (Str.ofString "zip") q) [x, y] [] p ∧ glob c (Str.ofString "zip") = true ∧ chkE c a x = true ∧ chkE c b y = true
    | .enum a => ∃ q p x, e = .Call (.Name (Str.ofString "enumerate") q) [x] [] p ∧ glob c (Str.ofString "enumerate") = true ∧ chkE c a x = true
    | .rev a => ∃ q p x, e = .Call (.Name (Str.ofString "reversed") q) [x] [] p ∧ glob c (Str.ofString "reversed") = true ∧ chkE c a x = true := by
  unfold chkI at h
  split at h
  · exact h
  all_goals first
    | (cases h; done)
    | (simp only [Bool.and_eq_true, decide_eq_true_eq] at h
       first
         | (obtain ⟨⟨rfl, h1⟩, h2⟩ := h; exact ⟨_, _, _, rfl, h1, h2⟩)
         | (obtain ⟨⟨⟨rfl, h1⟩, h2⟩, h3⟩ := h; exact ⟨_, _, _, _, rfl, h1, h2, h3⟩)
         | (obtain ⟨⟨⟨⟨rfl, h1⟩, h2⟩, h3⟩, h4⟩ := h; exact ⟨_, _, _, _, _, rfl, h1, h2, h3, h4⟩))
mutual
theorem sE : ∀ (e : E) {c : SC} {X : Cx} {W : WX} {ex : Expr}, Cok L c X W → chkE c e ex = true → PE X ex (tE (sigOf L me) X.mg W e)
  | .var i, c, X, W, ex, C, h => s_var C h
  | .mov i, c, X, W, ex, C, h => s_mov C h
  | .con d, c, X, W, ex, C, h => s_con h
  | .glo x d, c, X, W, ex, C, h => s_glo C h
  | .bin o a b, c, X, W, ex, C, h => by
    obtain ⟨a', b', p, rfl, h1, h2⟩ := chk_bin h
    exact st_bin (sE a C h1) (sE b C h2)
  | .neg a, c, X, W, ex, C, h => by
    obtain ⟨a', p, rfl, h1⟩ := chk_neg h
    exact st_neg (sE a C h1)
  | .nt a, c, X, W, ex, C, h => by
    obtain ⟨a', p, rfl, h1⟩ := chk_nt h
    exact st_nt (sE a C h1)
  | .bo k as, c, X, W, ex, C, h => by
    obtain ⟨as', p, rfl, h1⟩ := chk_bo h
    refine PE.weak (sBo as (k := k) (p := p) C h1) fun σ H Q ⟨env, F, O, K, R, s, hh, w, ok, ox⟩ => ⟨env, F, O, K, R, s, hh, by simpa only [wpE] using w, ok, ox⟩
  | .cmp o a b, c, X, W, ex, C, h => by
    obtain ⟨a', b', p, rfl, h1, h2, h3⟩ := chk_cmp h
    exact st_cmp C (sB (sE a C h1) C h1) (sB (sE b C h2) C h2) h3
  | .chn o q a b d, c, X, W, ex, C, h => by
    obtain ⟨a', b', d', p, rfl, h1, h2, h3, h4, h5⟩ := chk_chn h
    exact st_chn C (sE a C h1) (sE b C h2) (sE d C h3) h5
  | .ife d a b, c, X, W, ex, C, h => by
    obtain ⟨d', a', b', p, rfl, h1, h2, h3⟩ := chk_ife h
    exact st_ife (sT d C h1) (sE a C h2) (sE b C h3)
  | .call f as, c, X, W, ex, C, h => s_call C h fun fl es hc => sA as fl C hc
  | .calk f as ks bs, c, X, W, ex, C, h => by
    obtain ⟨as', ks', q, p, rfl, h1, h2, h3, h4⟩ := chk_calk h
    exact st_calk C h1 h2 h3 h4 (sEs as C h2) (sK bs C h3)
  | .bi b as, c, X, W, ex, C, h => by
    obtain ⟨as', q, p, rfl, h1, h2⟩ := chk_bi h
    exact (st_bi C h1 h2 (sBs as C h2)).1
  | .isi a t, c, X, W, ex, C, h => (s_isi C h fun e he => sE a C he).1
  | .sub a i, c, X, W, ex, C, h => by
    obtain ⟨a', i', p, rfl, h1, h2⟩ := chk_sub h
    exact st_sub (sB (sE a C h1) C h1) (sE i C h2) (chk_slice h2)
  | .slc a lo hi, c, X, W, ex, C, h => by
    obtain ⟨a', lo', hi', q, p, rfl, h1, h2, h3⟩ := chk_slc h
    exact st_slc (sE a C h1) (sO lo C h2) (sO hi C h3)
  | .tup as, c, X, W, ex, C, h => by
    obtain ⟨as', k, p, rfl, h1⟩ := chk_tup h
    exact st_tup (sEs as C h1)
  | .lst as, c, X, W, ex, C, h => by
    obtain ⟨as', p, rfl, h1⟩ := chk_lst h
    exact st_lst (sEs as C h1)
  | .rpr true as, c, X, W, ex, C, h => by
    obtain ⟨as', q, p, k, r, rfl, h1, h2⟩ := chk_rprT h
    exact st_rprT C h1 (sBs as C h2)
  | .rpr false as, c, X, W, ex, C, h => by
    obtain ⟨as', q, p, r, rfl, h1, h2⟩ := chk_rprL h
    exact st_rprL C h1 (sBs as C h2)
  | .lc elt t it ifs own, c, X, W, ex, C, h => by
    obtain ⟨elt', t', it', ifs', scope, p, rfl, h1, h2, h3, h4, h5, h6, h7, h8⟩ := chk_lc h
    exact st_lc C h2 h4 h8 (sI it C h1 h3) (fun C' => sG t C' h5) (fun C' => sTs ifs C' h6) (fun C' => sE elt C' h7)
theorem sEs : ∀ (as : Es) {c : SC} {X : Cx} {W : WX} {es : List Expr}, Cok L c X W → chkEs c as es = true → PA X es (tEs (sigOf L me) X.mg W as)
  | .nil, c, X, W, es, C, h => by
    rw [chkEs_nil h]
    exact sEs_nil
  | .cons a as, c, X, W, es, C, h => by
    obtain ⟨e, es', rfl, h1, h2⟩ := chkEs_cons h
    exact PA.weak (pa_cons (sE a C h1) (sEs as C h2) (star_cons (chk_star h1))) fun σ H Q q => es_step q
theorem sBs : ∀ (as : Es) {c : SC} {X : Cx} {W : WX} {es : List Expr}, Cok L c X W → chkEs c as es = true → PA X es (tBs (sigOf L me) X.mg W as)
  | .nil, c, X, W, es, C, h => by
    rw [chkEs_nil h]
    exact bs_nil
  | .cons a as, c, X, W, es, C, h => by
    obtain ⟨e, es', rfl, h1, h2⟩ := chkEs_cons h
    exact PA.weak (pa_cons (sB (sE a C h1) C h1) (sBs as C h2) (star_cons (chk_star h1))) fun σ H Q q => bs_step q
theorem sA : ∀ (as : Es) (fl : List Bool) {c : SC} {X : Cx} {W : WX} {es : List Expr}, Cok L c X W → chkEs c as es = true → PA X es (tA (sigOf L me) X.mg W fl as)
  | .nil, fl, c, X, W, es, C, h => by
    rw [chkEs_nil h]
    exact a_nil
  | .cons a as, [], c, X, W, es, C, h => by
    obtain ⟨e, es', rfl, h1, h2⟩ := chkEs_cons h
    exact PA.weak (pa_cons (sE a C h1) (sA as [] C h2) (star_cons (chk_star h1))) fun σ H Q q => a_step (.inr ⟨rfl, rfl⟩) q
  | .cons a as, false :: bs, c, X, W, es, C, h => by
    obtain ⟨e, es', rfl, h1, h2⟩ := chkEs_cons h
    exact PA.weak (pa_cons (sE a C h1) (sA as bs C h2) (star_cons (chk_star h1))) fun σ H Q q => a_step (.inl rfl) q
  | .cons a as, true :: bs, c, X, W, es, C, h => by
    obtain ⟨e, es', rfl, h1, h2⟩ := chkEs_cons h
    have ih := sA as bs C h2
    cases a with
    | var i =>
      obtain ⟨x, p, rfl, h1⟩ := chk_var h1
      exact a_mov C h1 ih
    | _ => exact a_no fun i z => nomatch z
theorem sK : ∀ (as : Es) {ks : List String} {c : SC} {X : Cx} {W : WX} {kws : List PySem.Keyword}, Cok L c X W → chkK c ks as kws = true → PK X kws (tEs (sigOf L me) X.mg W as)
  | .nil, ks, c, X, W, kws, C, h => by
    cases ks with
    | cons _ _ => simp [chkK] at h
    | nil => cases kws with
      | cons _ _ => simp [chkK] at h
      | nil =>
        refine ⟨fun pos pins s σ H Q I q => pk_nil.run pos pins s σ H Q I ?_⟩
        obtain ⟨env, F, O, K, R, s', hh, w, ok, ox⟩ := q
        simp only [wpEs] at w
        exact ok [] env w rfl F [] O [] H (Next.refl hh) .nil s'
  | .cons a as, ks, c, X, W, kws, C, h => by
    cases ks with
    | nil => simp [chkK] at h
    | cons k ks => cases kws with
      | nil => simp [chkK] at h
      | cons kw kws =>
        obtain ⟨nm, e, kp⟩ := kw
        cases nm with
        | none => simp [chkK] at h
        | some k' =>
          simp only [chkK, Bool.and_eq_true, decide_eq_true_eq] at h
          have ih := sK as (ks := ks) C h.2
          have ha := sE a C h.1.2
          exact ⟨fun pos pins s σ H Q I q => (pk_cons ha ih).run pos pins s σ H Q I (es_step q)⟩
theorem sO : ∀ (o : Eo) {c : SC} {X : Cx} {W : WX} {e : Option Expr}, Cok L c X W → chkO c o e = true → PO X e (tOpt (sigOf L me) X.mg W o)
  | .no, c, X, W, e, C, h => by
    rw [chkO_no h]
    exact o_no
  | .yes a, c, X, W, e, C, h => by
    obtain ⟨e', rfl, h1⟩ := chkO_yes h
    exact o_yes (sE a C h1)
theorem sBo : ∀ (as : Es) {k : Bool} {p : PySem.Pos} {c : SC} {X : Cx} {W : WX} {es : List Expr}, Cok L c X W → chkEs c as es = true → PE X (.BoolOp (boOf k) es p) (tBo (sigOf L me) X.mg W k as)
  | .nil, k, p, c, X, W, es, C, h => bo_nil
  | .cons a .nil, k, p, c, X, W, es, C, h => by
    obtain ⟨e, es', rfl, h1, h2⟩ := chkEs_cons h
    rw [chkEs_nil h2]
    exact bo_one (sE a C h1)
  | .cons a (.cons b bs), k, p, c, X, W, es, C, h => by
    obtain ⟨e, es', rfl, h1, h2⟩ := chkEs_cons h
    have ih := sBo (.cons b bs) (k := k) (p := p) C h2
    obtain ⟨f, fs, rfl, h3, h4⟩ := chkEs_cons h2
    exact bo_cons (sE a C h1) ih
theorem sT : ∀ (e : E) {c : SC} {X : Cx} {W : WX} {ex : Expr}, Cok L c X W → chkE c e ex = true → PT X ex (tT (sigOf L me) X.mg W e)
  | .nt a, c, X, W, ex, C, h => by
    obtain ⟨a', p, rfl, h1⟩ := chk_nt h
    exact t_nt (sT a C h1)
  | .bo k as, c, X, W, ex, C, h => by
    obtain ⟨as', p, rfl, h1⟩ := chk_bo h
    refine PT.weak (sTo as (k := k) (p := p) C h1).pt fun σ H Q ⟨env, F, O, K, R, s, hh, w, ok, ox⟩ => ⟨env, F, O, K, R, s, hh, by simpa only [wpT] using w, ok, ox⟩
  | .cmp o a b, c, X, W, ex, C, h => by
    obtain ⟨a', b', p, rfl, h1, h2, h3⟩ := chk_cmp h
    exact tt_cmp C (sB (sE a C h1) C h1) (sB (sE b C h2) C h2) h3
  | .chn o q a b d, c, X, W, ex, C, h => by
    obtain ⟨a', b', d', p, rfl, h1, h2, h3, h4, h5⟩ := chk_chn h
    exact tt_chn C (sE a C h1) (sE b C h2) (sE d C h3) h5
  | .isi a t, c, X, W, ex, C, h => (s_isi C h fun e he => sE a C he).2
  | .call f as, c, X, W, ex, C, h => t_call C h fun fl es hc => sA as fl C hc
  | .var i, c, X, W, ex, C, h => t_var C h
  | .bi b as, c, X, W, ex, C, h => t_bi C h fun es hc => sBs as C hc
  | .mov i, c, X, W, ex, C, h => t_no fun env K R w => by simp only [wpT] at w
  | .con d, c, X, W, ex, C, h => t_no fun env K R w => by simp only [wpT] at w
  | .glo x d, c, X, W, ex, C, h => t_no fun env K R w => by simp only [wpT] at w
  | .bin o a b, c, X, W, ex, C, h => t_no fun env K R w => by simp only [wpT] at w
  | .neg a, c, X, W, ex, C, h => t_no fun env K R w => by simp only [wpT] at w
  | .ife d a b, c, X, W, ex, C, h => t_no fun env K R w => by simp only [wpT] at w
  | .calk f as ks bs, c, X, W, ex, C, h => t_no fun env K R w => by simp only [wpT] at w
  | .sub a i, c, X, W, ex, C, h => t_no fun env K R w => by simp only [wpT] at w
  | .slc a lo hi, c, X, W, ex, C, h => t_no fun env K R w => by simp only [wpT] at w
  | .tup as, c, X, W, ex, C, h => t_no fun env K R w => by simp only [wpT] at w
  | .lst as, c, X, W, ex, C, h => t_no fun env K R w => by simp only [wpT] at w
  | .rpr k as, c, X, W, ex, C, h => t_no fun env K R w => by simp only [wpT] at w
  | .lc elt t it ifs own, c, X, W, ex, C, h => t_no fun env K R w => by simp only [wpT] at w
theorem sTo : ∀ (as : Es) {k : Bool} {p : PySem.Pos} {c : SC} {X : Cx} {W : WX} {es : List Expr}, Cok L c X W → chkEs c as es = true → PW X (.BoolOp (boOf k) es p) (tTo (sigOf L me) X.mg W k as)
  | .nil, k, p, c, X, W, es, C, h => to_nil
  | .cons a .nil, k, p, c, X, W, es, C, h => by
    obtain ⟨e, es', rfl, h1, h2⟩ := chkEs_cons h
    rw [chkEs_nil h2]
    exact to_one (sT a C h1)
  | .cons a (.cons b bs), k, p, c, X, W, es, C, h => by
    obtain ⟨e, es', rfl, h1, h2⟩ := chkEs_cons h
    have ih := sTo (.cons b bs) (k := k) (p := p) C h2
    obtain ⟨f, fs, rfl, h3, h4⟩ := chkEs_cons h2
    exact to_cons (sT a C h1) ih
theorem sTs : ∀ (as : Es) {c : SC} {X : Cx} {W : WX} {es : List Expr}, Cok L c X W → chkEs c as es = true → PTs X es (tTs (sigOf L me) X.mg W as)
  | .nil, c, X, W, es, C, h => by
    rw [chkEs_nil h]
    exact ts_nil
  | .cons a .nil, c, X, W, es, C, h => by
    obtain ⟨e, es', rfl, h1, h2⟩ := chkEs_cons h
    rw [chkEs_nil h2]
    exact ts_one (sT a C h1)
  | .cons a (.cons b bs), c, X, W, es, C, h => ts_no
theorem sI : ∀ (it : I) {c : SC} {X : Cx} {W : WX} {tg e : Expr}, Cok L c X W → chkI c it e = true → (needTup it = true → isTupE tg = true) → PI X tg e (tI (sigOf L me) X.mg W it)
  | .ex a, c, X, W, tg, e, C, h, hn => si_ex (sE a C (chkI_call h))
  | .rng1 a, c, X, W, tg, e, C, h, hn => by
    obtain ⟨q, p, x, rfl, h1, h2⟩ := chkI_call h
    exact si_rng1 C h1 h2 (sE a C h2)
  | .rng2 a b, c, X, W, tg, e, C, h, hn => by
    obtain ⟨q, p, x, y, rfl, h1, h2, h3⟩ := chkI_call h
    exact si_rng2 C h1 h2 h3 (sE a C h2) (sE b C h3)
  | .rng3 a b d, c, X, W, tg, e, C, h, hn => by
    obtain ⟨q, p, x, y, z, rfl, h1, h2, h3, h4⟩ := chkI_call h
    exact si_rng3 C h1 h2 h3 h4 (sE a C h2) (sE b C h3) (sE d C h4)
  | .zip2 a b, c, X, W, tg, e, C, h, hn => by
    obtain ⟨q, p, x, y, rfl, h1, h2, h3⟩ := chkI_call h
    exact si_zip2 C (hn rfl) h1 h2 h3 (sE a C h2) (sE b C h3)
  | .enum a, c, X, W, tg, e, C, h, hn => by
    obtain ⟨q, p, x, rfl, h1, h2⟩ := chkI_call h
    exact si_enum C (hn rfl) h1 h2 (sE a C h2)
  | .rev a, c, X, W, tg, e, C, h, hn => by
    obtain ⟨q, p, x, rfl, h1, h2⟩ := chkI_call h
    exact si_rev C h1 h2 (sE a C h2)
end
end
end DP

/-! DpQ: statements: the steps. -/
namespace DP
open PySem (Addr sizeLine wpAny model Value Shared Around FuncData BindsTo codeAny Str Paired Expr Stmt)
open PySem.W (Frag)
open L2

/-- the frame's length and the caller's slots are as they were -/
def Mes (me : List Nat) (σ σ' : St) : Prop := σ'.length = σ.length ∧ ∀ j ∈ me, σ'[j]? = σ[j]?
theorem Mes.refl (me : List Nat) (σ : St) : Mes me σ σ := ⟨rfl, fun _ _ => rfl⟩
theorem Mes.trans {me : List Nat} {σ σ1 σ2 : St} (a : Mes me σ σ1) (b : Mes me σ1 σ2) : Mes me σ σ2 := ⟨b.1.trans a.1, fun j h => (b.2 j h).trans (a.2 j h)⟩
theorem Chg.mes {me l : List Nat} {σ σ' : St} (c : Chg me l σ σ') : Mes me σ σ' := ⟨c.1, c.2.2⟩
theorem Mes.set {me : List Nat} {σ : St} {i : Nat} {o : Option V} (h : i ∉ me) : Mes me σ (σ.set i o) := (Chg.one h).mes
section
variable (mg : Str → Option Value) (W : WX) (me : List Nat) (F : Hp) (O : Own) (σ : St) (H : Hp)
def okN (P : St → Hp → Prop) (k : Env → Prop) : Prop := ∀ env', k env' → ∀ F' O' σ' H', Next F O H F' O' H' → SimE F' env' σ' O' → Mes me σ σ' → P σ' H'
def okR (P : VK) (k : D → Env → Prop) : Prop := ∀ d env', k d env' → ∀ F' Od Oe σ' v H', Next F O H F' (Od ++ Oe) H' → Rep F' d v Od → SimE F' env' σ' Oe → Mes me σ σ' → P v H'
structure okC (D : Ends) (K : Con) : Prop where
  nx : okN me F O σ H D.nx K.nx
  rt : okR me F O σ H D.rt K.rt
  bk : okN me F O σ H D.bk K.bk
  ct : okN me F O σ H D.ct K.ct
  ex : ∀ x env', K.ex x env' → ∀ F' O' σ' cls dd H', Next F O H F' O' H' → SimE F' env' σ' O' → Mes me σ σ' → RepX mg F' H' x cls dd → W cls dd σ' H'
end
section
variable {L : List Ent} {c : SC} {X : Cx} {W : WX} {me : List Nat} {mg : Str → Option Value} {F F1 : Hp} {O O1 : Own} {σ σ1 : St} {H H1 : Hp}
theorem okN.step {P : St → Hp → Prop} {k : Env → Prop} (h : okN me F O σ H P k) (n : Next F O H F1 O1 H1) (m : Mes me σ σ1) : okN me F1 O1 σ1 H1 P k := fun e q F' O' σ' H' n' s m' => h e q F' O' σ' H' (n.trans n') s (m.trans m')
theorem okR.step {P : VK} {k : D → Env → Prop} (h : okR me F O σ H P k) (n : Next F O H F1 O1 H1) (m : Mes me σ σ1) : okR me F1 O1 σ1 H1 P k := fun d e q F' Od Oe σ' v H' n' r s m' => h d e q F' Od Oe σ' v H' (n.trans n') r s (m.trans m')
theorem okC.step {D : Ends} {K : Con} (h : okC mg W me F O σ H D K) (n : Next F O H F1 O1 H1) (m : Mes me σ σ1) : okC mg W me F1 O1 σ1 H1 D K :=
  ⟨h.nx.step n m, h.rt.step n m, h.bk.step n m, h.ct.step n m, fun x e q F' O' σ' cls dd H' n' s m' => h.ex x e q F' O' σ' cls dd H' (n.trans n') s (m.trans m')⟩
theorem okC.ox {D : Ends} {K : Con} (h : okC mg W me F O σ H D K) : okX mg W F O σ H K.ex := fun x e q F' O' cls dd H' n s r => h.ex x e q F' O' σ cls dd H' n s (Mes.refl _ _) r
def tS (Γ : Sig) (mg : Str → Option Value) (W : WX) (st : S) : TS := fun D σ H => ∃ env F O K, SimE F env σ O ∧ Held F O H ∧ wpS Γ st env K ∧ okC mg W Γ.me F O σ H D K
def tSs (Γ : Sig) (mg : Str → Option Value) (W : WX) (st : Ss) : TS := fun D σ H => ∃ env F O K, SimE F env σ O ∧ Held F O H ∧ wpSs Γ st env K ∧ okC mg W Γ.me F O σ H D K
theorem PS.weak {st : Stmt} {t t' : TS} (h : PS X st t) (k : ∀ D σ H, t' D σ H → t D σ H) : PS X st t' := ⟨fun pins s σ H D I q => h.run pins s σ H D I (k D σ H q)⟩
theorem PSs.weak {st : List Stmt} {t t' : TS} (h : PSs X st t) (k : ∀ D σ H, t' D σ H → t D σ H) : PSs X st t' := ⟨fun pins s σ H D I q => h.run pins s σ H D I (k D σ H q)⟩

/-- where one stands, in a def's body -/
structure Dok (L : List Ent) (c : SC) (X : Cx) (W : WX) : Prop where
  ok : Cok L c X W
  po : PySem.PassesOwn (model X.prog X.w) X.A X.env X.xe
  bk : X.env.blockKind = .function

/-! ### small statements -/
theorem ss_nev {st : Stmt} : PS X st (tS (sigOf L me) X.mg W .nev) := PS.weak ps_never fun D σ H ⟨env, F, O, K, s, hh, w, ok⟩ => by simp only [wpS] at w
theorem ss_pas {p : PySem.Pos} : PS X (.Pass p) (tS (sigOf L me) X.mg W .pas) := PS.weak ps_pass fun D σ H ⟨env, F, O, K, s, hh, w, ok⟩ => by
  simp only [wpS] at w
  exact ok.nx env w F O σ H (Next.refl hh) s (Mes.refl _ _)
theorem ss_brk {p : PySem.Pos} : PS X (.Break p) (tS (sigOf L me) X.mg W .brk) := PS.weak ps_break fun D σ H ⟨env, F, O, K, s, hh, w, ok⟩ => by
  simp only [wpS] at w
  exact ok.bk env w F O σ H (Next.refl hh) s (Mes.refl _ _)
theorem ss_cnt {p : PySem.Pos} : PS X (.Continue p) (tS (sigOf L me) X.mg W .cnt) := PS.weak ps_continue fun D σ H ⟨env, F, O, K, s, hh, w, ok⟩ => by
  simp only [wpS] at w
  exact ok.ct env w F O σ H (Next.refl hh) s (Mes.refl _ _)
theorem ss_rtn {p : PySem.Pos} : PS X (.Return none p) (tS (sigOf L me) X.mg W .rtn) := PS.weak ps_retN fun D σ H ⟨env, F, O, K, s, hh, w, ok⟩ => by
  simp only [wpS] at w
  exact ok.rt _ env w F [] O σ _ H (Next.refl hh) .non s (Mes.refl _ _)
theorem ss_ret {p : PySem.Pos} {a : E} {e : Expr} (ha : PE X e (tE (sigOf L me) X.mg W a)) : PS X (.Return (some e) p) (tS (sigOf L me) X.mg W (.ret a)) := PS.weak (ps_ret ha) fun D σ H ⟨env, F, O, K, s, hh, w, ok⟩ => by
  simp only [wpS] at w
  exact ⟨env, F, O, K.rt, K.ex, s, hh, w, fun d env1 k F1 Od Oe v H1 n r s1 => ok.rt d env1 k F1 Od Oe σ v H1 n r s1 (Mes.refl _ _), ok.ox⟩
theorem ss_exp {p : PySem.Pos} {a : E} {e : Expr} (ha : PE X e (tE (sigOf L me) X.mg W a)) (hs : PySem.swapsWith e none p.line X.env = pure false) : PS X (.Expr e p) (tS (sigOf L me) X.mg W (.exp a)) := PS.weak (ps_expr ha hs) fun D σ H ⟨env, F, O, K, s, hh, w, ok⟩ => by
  simp only [wpS] at w
  exact ⟨env, F, O, _, K.ex, s, hh, w, fun d env1 k F1 Od Oe v H1 n r s1 => ok.nx env1 k F1 Oe σ H1 n.drop s1 (Mes.refl _ _), ok.ox⟩
theorem ss_ite {p : PySem.Pos} {d : E} {a b : Ss} {d' : Expr} {a' b' : List Stmt} (hd : PT X d' (tT (sigOf L me) X.mg W d)) (ha : PSs X a' (tSs (sigOf L me) X.mg W a)) (hb : PSs X b' (tSs (sigOf L me) X.mg W b)) : PS X (.If d' a' b' p) (tS (sigOf L me) X.mg W (.ite d a b)) :=
  PS.weak (ps_if hd ha hb) fun D σ H ⟨env, F, O, K, s, hh, w, ok⟩ => by
    simp only [wpS] at w
    refine ⟨env, F, O, _, K.ex, s, hh, w, fun k env1 w1 F1 Oe H1 n s1 => ?_, ok.ox⟩
    cases k with
    | true => exact ⟨env1, F1, Oe, K, s1, n.held, w1, ok.step n (Mes.refl _ _)⟩
    | false => exact ⟨env1, F1, Oe, K, s1, n.held, w1, ok.step n (Mes.refl _ _)⟩
theorem sss_nil : PSs X [] (tSs (sigOf L me) X.mg W .nil) := PSs.weak pss_nil fun D σ H ⟨env, F, O, K, s, hh, w, ok⟩ => by
  simp only [wpSs] at w
  exact ok.nx env w F O σ H (Next.refl hh) s (Mes.refl _ _)
theorem sss_cons {a : S} {as : Ss} {a' : Stmt} {as' : List Stmt} (ha : PS X a' (tS (sigOf L me) X.mg W a)) (hb : PSs X as' (tSs (sigOf L me) X.mg W as)) : PSs X (a' :: as') (tSs (sigOf L me) X.mg W (.cons a as)) :=
  PSs.weak (pss_cons ha hb) fun D σ H ⟨env, F, O, K, s, hh, w, ok⟩ => by
    simp only [wpSs] at w
    refine ⟨env, F, O, _, s, hh, w, ⟨fun env1 w1 F1 O1 σ1 H1 n s1 m => ⟨env1, F1, O1, K, s1, n.held, w1, ok.step n m⟩, ok.rt, ok.bk, ok.ct, ok.ex⟩⟩
/-- a target's value, then the rest -/
theorem asg_read {t : T} {e : E} {D : Ends} (h : tS (sigOf L me) mg W (.asg t e) D σ H) : tAsg (tE (sigOf L me) mg W e) (gT me t) D σ H := by
  obtain ⟨env, F, O, K, s, hh, w, ok⟩ := h
  simp only [wpS] at w
  refine ⟨env, F, O, _, K.ex, s, hh, w, fun d env1 w1 F1 Od Oe v H1 n r s1 => ?_, ok.ox⟩
  refine ⟨env1, F1, Od, Oe, d, K.nx, s1, n.held, r, w1, fun env2 w2 F2 O2 σ2 H2 n2 s2 ch => ?_⟩
  exact ok.nx env2 w2 F2 O2 σ2 H2 (n.trans n2) s2 ch.mes
theorem gT_nm {i : Nat} {v : V} {Q : St → Hp → Prop} (h : gT me (.nm i) v σ H Q) : gName i v σ H Q := by
  obtain ⟨env, F, Od, Oe, d, K, s, hh, r, w, ok⟩ := h
  obtain ⟨w1, w2, w3⟩ := w
  obtain ⟨Z, B, C', k1, k2, k3⟩ := s.store w2 r
  refine ok _ w3 F C' _ H (Next.keep (Z := Z) hh ?_) k1 (Chg.one w1)
  exact ((List.Perm.append_left Od k2).trans perm3).trans (List.Perm.append_left Z k3.symm)

/-! ### loops -/
theorem ss_whl {p : PySem.Pos} {d : E} {b : Ss} {d' : Expr} {b' : List Stmt} (C : Dok L c X W) (hd : PT X d' (tT (sigOf L me) X.mg W d)) (hb : PSs X b' (tSs (sigOf L me) X.mg W b)) : PS X (.While d' b' [] p) (tS (sigOf L me) X.mg W (.whl d b)) :=
  PS.weak (ps_while C.po hd hb) fun D σ H ⟨env, F, O, K, s, hh, w, ok⟩ => by
    simp only [wpS] at w
    obtain ⟨Wd, ⟨m0, w0⟩, turn⟩ := w
    refine ⟨fun m σ1 H1 => ∃ F1 O1 env1, SimE F1 env1 σ1 O1 ∧ Next F O H F1 O1 H1 ∧ Mes me σ σ1 ∧ Wd m env1, ⟨m0, F, O, env, s, Next.refl hh, Mes.refl _ _, w0⟩, fun m σ1 H1 ⟨F1, O1, env1, s1, n1, m1, w1⟩ => ?_⟩
    have ok1 := ok.step n1 m1
    refine ⟨env1, F1, O1, _, K.ex, s1, n1.held, turn m env1 w1, fun k env2 w2 F2 O2 H2 n2 s2 => ?_, ok1.ox⟩
    cases k with
    | false => exact ok1.nx env2 w2 F2 O2 σ1 H2 n2 s2 (Mes.refl _ _)
    | true =>
      have ok2 := ok1.step n2 (Mes.refl _ _)
      refine ⟨fun σ' H' => ∃ m', m' < m ∧ ∃ F3 O3 env3, SimE F3 env3 σ' O3 ∧ Next F O H F3 O3 H' ∧ Mes me σ σ' ∧ Wd m' env3, fun σ' H' q => q, env2, F2, O2, _, s2, n2.held, w2, ⟨?_, ok2.rt, ok2.nx, ?_, ok2.ex⟩⟩
      · exact fun env3 ⟨m', hm, w3⟩ F3 O3 σ3 H3 n3 s3 m3 => ⟨m', hm, F3, O3, env3, s3, (n1.trans n2).trans n3, m1.trans m3, w3⟩
      · exact fun env3 ⟨m', hm, w3⟩ F3 O3 σ3 H3 n3 s3 m3 => ⟨m', hm, F3, O3, env3, s3, (n1.trans n2).trans n3, m1.trans m3, w3⟩
def forStep (Γ : Sig) (t : T) (b : Ss) (K : Con) (x : D) (k : Env → Prop) (e : Env) : Prop := setT Γ.me t x e fun e2 => wpSs Γ b e2 { K with nx := k, ct := k, bk := K.nx }
theorem ss_for {p : PySem.Pos} {t : T} {it : I} {b : Ss} {t' it' : Expr} {b' : List Stmt} (C : Dok L c X W) (hi : PI X t' it' (tI (sigOf L me) X.mg W it)) (hg : PG X t' (gT me t)) (hb : PSs X b' (tSs (sigOf L me) X.mg W b)) (hn : noSet it' = true) :
    PS X (.For t' it' b' [] p) (tS (sigOf L me) X.mg W (.for_ t it b)) :=
  PS.weak (ps_for C.po C.ok.calm hi hg hb (noSet_ok hn)) fun D σ H ⟨env, F, O, K, s, hh, w, ok⟩ => by
    simp only [wpS] at w
    refine ⟨env, F, O, _, K.ex, s, hh, w, fun items env1 w1 F1 Oe1 J H1 n1 s1 wk => ?_, ok.ox⟩
    have w1' : (items.foldr (forStep (sigOf L me) t b K) K.nx) env1 := w1
    refine ⟨fun i m σ2 H2 => m = items.length - i ∧ i ≤ items.length ∧ ∃ F2 O2 env2, SimE F2 env2 σ2 O2 ∧ Next F1 Oe1 H1 F2 O2 H2 ∧ Mes me σ σ2 ∧ ((items.drop i).foldr (forStep (sigOf L me) t b K) K.nx) env2,
      ⟨items.length, rfl, Nat.zero_le _, F1, Oe1, env1, s1, Next.refl n1.held, Mes.refl _ _, w1'⟩, fun i m σ2 H2 hw => ?_⟩
    obtain ⟨rfl, hi', F2, O2, env2, s2, n2, m2, hf⟩ := hw
    have wk2 := wk F2 O2 H2 i n2.held n2.f
    by_cases hlt : i < items.length
    · right
      obtain ⟨g1, g2⟩ := wk2.1 items[i] (List.getElem?_eq_getElem hlt)
      refine ⟨g1, fun σ3 H3 => ∃ F3 O3 env3, SimE F3 env3 σ3 O3 ∧ Next F1 Oe1 H1 F3 O3 H3 ∧ Mes me σ σ3 ∧ ((items.drop (i + 1)).foldr (forStep (sigOf L me) t b K) K.nx) env3, fun σ3 H3 h' => ⟨_, by omega, rfl, by omega, h'⟩, fun x H3 hy => ?_⟩
      obtain ⟨F3, n3, r3⟩ := g2 x H3 hy
      rw [List.drop_eq_getElem_cons hlt, List.foldr_cons] at hf
      have hf' : setT me t items[i] env2 _ := hf
      have n13 := n2.trans n3
      refine ⟨env2, F3, [], O2, items[i], _, s2.mono n3.f, n13.held, r3, hf', fun env4 w4 F4 O4 σ4 H4 n4 s4 ch => ?_⟩
      have n14 := n13.trans n4
      have m4 := m2.trans ch.mes
      have okk := ok.step (n1.trans n14) m4
      refine ⟨env4, F4, O4, _, s4, n4.held, w4, ⟨?_, okk.rt, okk.nx, ?_, okk.ex⟩⟩
      · exact fun env5 w5 F5 O5 σ5 H5 n5 s5 m5 => ⟨F5, O5, env5, s5, n14.trans n5, m4.trans m5, w5⟩
      · exact fun env5 w5 F5 O5 σ5 H5 n5 s5 m5 => ⟨F5, O5, env5, s5, n14.trans n5, m4.trans m5, w5⟩
    · left
      have hge : items.length ≤ i := by omega
      refine ⟨wk2.2 hge, ?_⟩
      rw [List.drop_eq_nil_of_le hge] at hf
      exact ok.nx env2 hf F2 O2 σ2 H2 (n1.trans n2) s2 m2

/-! ### stores into lists -/
theorem ss_pst {i : Nat} {ix e : E} {x : Str} {ix' e' : Expr} {p q r : PySem.Pos} (C : Dok L c X W) (hx : seen c i x = true) (hi : PE X ix' (tE (sigOf L me) X.mg W ix)) (hpl : PlainIx ix') (he : PE X e' (tE (sigOf L me) X.mg W e))
    (hs : PySem.swapsWithSole [.Subscript (.Name x q) ix' r] e' p.line X.env = pure false) (hw : PySem.swappedStores [.Subscript (.Name x q) ix' r] e' X.env = pure none)
    (ha : ∀ v, PySem.assign (.Subscript (.Name x q) ix' r) X.env v = (do
      let ov ← PySem.holding [v] (PySem.eval (.Name x q) X.env)
      let iv ← PySem.holding [v, ov] (PySem.eval ix' X.env)
      PySem.standAt r
      PySem.holding [v, ov, iv] (PySem.setItem ov iv v)
      PySem.release [v, ov, iv] [])) : PS X (.Assign [.Subscript (.Name x q) ix' r] e' p) (tS (sigOf L me) X.mg W (.pst i ix e)) := by
  obtain ⟨h1, h2, h3, h4⟩ := C.ok.seen hx
  refine PS.weak (ps_asg he (pg_sub (pe_var h1 h2 h3 h4) hi set_list ha) hs hw rfl) fun D σ H ⟨env, F, O, K, s, hh, w, ok⟩ => ?_
  simp only [wpS] at w
  refine ⟨env, F, O, _, K.ex, s, hh, w, fun d env1 w1 F1 Od Oe v H1 n r s1 => ?_, ok.ox⟩
  obtain ⟨d0, e0, w1⟩ := get_iff w1
  obtain ⟨v0, _, _, k1, _, _, _⟩ := s1.take e0
  refine ⟨v0, k1, env1, F1, Oe, _, K.ex, s1, n.held.right, w1, fun k env2 w2 F2 Od2 Oe2 u H2 n2 r2 s2 => ?_, ok.ox.step n.drop⟩
  obtain ⟨y, ey, xs, m, j, rfl, rfl, hj, hk⟩ := get_iff w2
  obtain ⟨rfl, rfl⟩ := r2.intI
  obtain ⟨v1, A, B, z1, z2, z3, z4⟩ := s2.take ey
  rw [k1] at z1; cases z1
  have nf := n.trans (Next.frame n.held n2)
  -- Od ++ ([] ++ Oe2), Oe2 ~ A ++ B
  have hp : (Od ++ ([] ++ Oe2)).Perm (A ++ (Od ++ B)) := (List.Perm.append_left Od z4).trans perm3
  cases z2 with
  | @own a vs _ O' rl =>
    have nf2 := nf.perm hp
    have hv : H2 a = some (.lst vs) := nf2.held.o (a, .lst vs) (by simp)
    refine ⟨a, vs, m, j, rfl, rfl, hv, by rw [← rl.len]; exact hj, ?_⟩
    have hjl : j < xs.length := (ixN_seq hj).2.1
    obtain ⟨el, A', B', C', q1, q2, q3, q4⟩ := rl.nth (List.getElem?_eq_getElem hjl)
    have nw := Next.write (u := .lst vs) nf2.held (.lst (vs.set j v))
    have rl' := q4 (Sub.refl F2) (r.mono n2.f)
    have hi2 : i < env2.length := (List.getElem?_eq_some_iff.mp ey).1
    have rown : Rep F2 (.lst true (xs.set j d)) (.ref a) ((a, .lst (vs.set j v)) :: (A' ++ Od ++ C')) := .own rl'
    obtain ⟨E', p1, p2⟩ := z3.put (i := i) (by rw [List.getElem?_set_self hi2]) rown
    rw [List.set_set, set_self k1] at p1
    refine ok.nx _ hk F2 E' σ _ ?_ p1 (Mes.refl _ _)
    have nn := nf2.trans nw
    refine (nn.perm (O'' := B' ++ E') ?_).drop
    rw [q3]
    have a1 : ((A' ++ B' ++ C') ++ (Od ++ B)).Perm (B' ++ ((A' ++ Od ++ C') ++ B)) := by
      have e1 : ((A' ++ B' ++ C') ++ (Od ++ B)).Perm (B' ++ (A' ++ (C' ++ (Od ++ B)))) := by
        rw [List.append_assoc, List.append_assoc]
        exact perm3
      refine e1.trans (List.Perm.append_left B' ?_)
      rw [List.append_assoc, List.append_assoc]
      exact List.Perm.append_left A' perm3
    exact ((a1.cons _).trans List.perm_middle.symm).trans (List.Perm.append_left B' p2.symm)
end
end DP

/-! DpR: statements: the rest of the steps; the one theorem. -/
namespace DP
open PySem (Addr sizeLine wpAny model Value Shared Around FuncData BindsTo codeAny Str Paired Expr Stmt)
open PySem.W (Frag)
open L2

section
variable {L : List Ent} {c : SC} {X : Cx} {W : WX} {me : List Nat} {mg : Str → Option Value} {F F1 : Hp} {O O1 : Own} {σ σ1 : St} {H H1 : Hp}
/-! ### in place -/
def anyP (X : Cx) (op : PySem.Operator) : TIp := fun x y H Q => ∃ t : TIp, PIp X op t ∧ t x y H Q
theorem anyP_ok {op : PySem.Operator} : PIp X op (anyP X op) := by
  intro pins s σ H x y v u Q I r1 r2 h
  obtain ⟨t, ht, q⟩ := h
  exact ht pins s σ H x y v u Q I r1 r2 q
theorem ip_mulW : PIp X .Mult (fun x y H Q => ∃ i j, x = .int i ∧ y = .int j ∧ CMulW i j ∧ Q (.int (i * j)) H) := by
  intro pins s σ H x y v u Q I r1 r2 h
  obtain ⟨i, j, rfl, rfl, b, q⟩ := h
  obtain ⟨t, rfl⟩ := r1
  obtain ⟨t', rfl⟩ := r2
  exact PyProof.Rows.imul_int ⟨.int _, H, I.tok _, ⟨_, rfl⟩, q⟩ b.ok
theorem ip_modP : PIp X .Mod (fun x y H Q => ∃ i j, x = .int i ∧ y = .int j ∧ 0 < j ∧ Q (.int (i % j)) H) := by
  intro pins s σ H x y v u Q I r1 r2 h
  obtain ⟨i, j, rfl, rfl, b, q⟩ := h
  obtain ⟨t, rfl⟩ := r1
  obtain ⟨t', rfl⟩ := r2
  exact PyProof.Rows.imod_int (by omega) ⟨.int _, H, I.tok _, ⟨_, by rw [Int.fmod_eq_emod_of_nonneg i (by omega)]⟩, q⟩
theorem aug_ok {o : Op} {x y : D} {Q : D → Prop} {F : Hp} {A B : Own} {v u : V} {Qv : VK} (w : augD o x y Q) (r1 : Rep F x v A) (r2 : Rep F y u B) (k : ∀ i, Q (.int i) → Qv (.int i) H) : anyP X (opOf o) v u H Qv := by
  unfold augD at w
  split at w
  · obtain ⟨rfl, _⟩ := r1.intI; obtain ⟨rfl, _⟩ := r2.intI
    exact ⟨_, ip_add, _, _, rfl, rfl, k _ w⟩
  · obtain ⟨rfl, _⟩ := r1.intI; obtain ⟨rfl, _⟩ := r2.intI
    exact ⟨_, ip_sub, _, _, rfl, rfl, k _ w⟩
  · obtain ⟨rfl, _⟩ := r1.intI; obtain ⟨rfl, _⟩ := r2.intI
    exact ⟨_, ip_mulW, _, _, rfl, rfl, w.1, k _ w.2⟩
  · obtain ⟨rfl, _⟩ := r1.intI; obtain ⟨rfl, _⟩ := r2.intI
    exact ⟨_, ip_modP, _, _, rfl, rfl, w.1, k _ w.2⟩
  · exact w.elim
theorem flat_fz {d : D} (h : flatD d = true) : d.isFz = true := by cases d <;> first | rfl | simp [flatD] at h
theorem augD_int {o : Op} {x y : D} {Q : D → Prop} (w : augD o x y Q) : ∃ i, Q (.int i) := by
  unfold augD at w
  split at w
  · exact ⟨_, w⟩
  · exact ⟨_, w⟩
  · exact ⟨_, w.2⟩
  · exact ⟨_, w.2⟩
  · exact w.elim
theorem ss_aug {i : Nat} {o : Op} {e : E} {x : Str} {e' : Expr} {p q : PySem.Pos} (C : Dok L c X W) (hx : mine c i x = true) (he : PE X e' (tE (sigOf L me) X.mg W e)) : PS X (.AugAssign (.Name x q) (opOf o) e' p) (tS (sigOf L me) X.mg W (.aug i o e)) := by
  obtain ⟨h1, h2, h3⟩ := C.ok.mine hx
  refine PS.weak (ps_aug C.ok.nd h1 h2 he (anyP_ok (op := opOf o)) h3) fun D σ H ⟨env, F, O, K, s, hh, w, ok⟩ => ?_
  simp only [wpS] at w
  obtain ⟨x0, e0, fl, hm, w⟩ := get_iff w
  obtain ⟨v0, A, B, k1, k2, k3, k4⟩ := s.take e0
  have hA := k2.free (flat_fz fl)
  subst hA
  refine ⟨v0, k1, env, F, O, _, K.ex, s, hh, w, fun d env1 w1 F1 Od Oe u H1 n r s1 => ?_, ok.ox⟩
  have hi : i < env1.length := by rw [s1.len]; exact (List.getElem?_eq_some_iff.mp k1).1
  refine aug_ok w1 (k2.mono n.f) r fun z hz => ?_
  obtain ⟨Z, B', C', p1, p2, p3⟩ := s1.store hi (Rep.int (F := F1) z)
  refine ok.nx _ hz F1 C' _ H1 ?_ p1 (Mes.set hm)
  exact n.drop.trans (Next.keep (Z := Z) n.held.right (p2.trans (List.Perm.append_left Z (by simpa using p3.symm))))

/-! ### x.append(e) -/
theorem ss_app {i : Nat} {e : E} {x m : Str} {e' : Expr} {p q r cp : PySem.Pos} (C : Dok L c X W) (hx : seen c i x = true) (hm : m = Str.ofString "append") (hc : chkE c e e' = true) (hl : (r.endLine == cp.line) = true) (he : PE X e' (tE (sigOf L me) X.mg W e)) :
    PS X (.Expr (.Call (.Attribute (.Name x q) m r) [e'] [] cp) p) (tS (sigOf L me) X.mg W (.app i e)) := by
  subst hm
  obtain ⟨h1, h2, h3, h4⟩ := C.ok.seen hx
  have hs := star_cons (es := []) (env := X.env) (chk_star hc)
  have pe := pe_bm (X := X) (apos := r) (cpos := cp) PySem.F.plainAttrs_list PySem.F.slot_list_append PySem.F.type_list_append mt_append (pe_var (pos := q) h1 h2 h3 h4) (pa_cons he pa_nil hs) rfl (by rw [hs]; rfl) hl hs rfl
  refine PS.weak (ps_expr pe rfl) fun D σ H ⟨env, F, O, K, s, hh, w, ok⟩ => ?_
  simp only [wpS] at w
  obtain ⟨x0, e0, ⟨xs, rfl⟩, w⟩ := get_iff w
  obtain ⟨v0, A, B, k1, k2, k3, k4⟩ := s.take e0
  have hp0 := hh.perm k4
  refine ⟨v0, k1, ?_, env, F, O, _, K.ex, s, hh, w, fun d env1 w1 F1 Od Oe u H1 n rd s1 => ?_, ok.ox⟩
  · cases k2 with
    | @own a vs _ O' rl =>
      have hv : H a = some (.lst vs) := hp0.o (a, .lst vs) (by simp)
      exact .inl ⟨rfl, vs, SqL.of hv⟩
  · obtain ⟨y, ey, ys, rfl, hz, hk⟩ := get_iff w1
    obtain ⟨v1, A1, B1, z1, z2, z3, z4⟩ := s1.take ey
    rw [k1] at z1; cases z1
    cases z2 with
    | @own a vs _ O' rl =>
      have hp : (Od ++ Oe).Perm (((a, HO.lst vs) :: O') ++ (Od ++ B1)) := (List.Perm.append_left Od z4).trans perm3
      have nf2 := n.perm hp
      have hv : H1 a = some (.lst vs) := nf2.held.o (a, .lst vs) (by simp)
      refine ⟨a, vs, u, rfl, rfl, hv, by rw [← rl.len]; exact hz, ?_⟩
      have nw := Next.write (u := .lst vs) nf2.held (.lst (vs ++ [u]))
      have hi2 : i < env1.length := (List.getElem?_eq_some_iff.mp ey).1
      have rr : RepL F1 [d] [u] Od := by
        have := RepL.cons (O2 := []) rd RepL.nil
        rw [List.append_nil] at this; exact this
      have rown : Rep F1 (.lst true (ys ++ [d])) (.ref a) ((a, .lst (vs ++ [u])) :: (O' ++ Od)) := .own (rl.append rr)
      obtain ⟨E', p1, p2⟩ := z3.put (i := i) (by rw [List.getElem?_set_self hi2]) rown
      rw [List.set_set, set_self k1] at p1
      refine ok.nx _ hk F1 E' σ _ ?_ p1 (Mes.refl _ _)
      refine (nf2.trans nw).perm ?_
      refine List.Perm.trans ?_ p2.symm
      show ((a, HO.lst (vs ++ [u])) :: (O' ++ (Od ++ B1))).Perm ((a, HO.lst (vs ++ [u])) :: ((O' ++ Od) ++ B1))
      rw [List.append_assoc]

/-! ### x[k] op= e -/
def rGetL (K : Frag) : V → V → Hp → VK → Prop := fun o i H Q => ∃ p xs k v, o = .ref p ∧ i = .int k ∧ SqL K H p xs ∧ atI xs k = some v ∧ Q v H
theorem get_list : PGet X (rGetL X.K) := by
  intro pins s σ H o i ov iv Q I ro ri h
  obtain ⟨p, xs, k, z, rfl, rfl, hq, he, q⟩ := h
  cases ro
  obtain ⟨t, rfl⟩ := ri
  obtain ⟨its, r, pl, hz⟩ := I.list hq
  obtain ⟨j, h1, h2, h3, h4, h5⟩ := atI_get he
  obtain ⟨w, ew, rw'⟩ := r.get h2
  have hl := r.length
  have hn := line63
  have fin : EP X pins σ Q w s := ⟨z, H, I, rw', q⟩
  by_cases h0 : 0 ≤ k
  · have hj : k.toNat = j := by
      rw [PySem.seqIndex_of h0 h5] at h1
      exact Option.some.inj h1
    exact PySem.wpAny_getItem_list pl.isList h0 (by omega) (by rw [hj]; simpa using ew) fin
  · have hj : (k + (its.toArray.size : Int)).toNat = j := by
      rw [List.size_toArray, ← hl]
      rw [PySem.seqIndex_neg (by omega) (by omega)] at h1
      exact Option.some.inj h1
    exact PySem.wpAny_getItem_list_neg pl.isList (by omega) (by rw [List.size_toArray, ← hl]; exact h4) (by omega) (by rw [hj]; simpa using ew) fin
theorem ss_pag {i : Nat} {o : Op} {ix e : E} {x : Str} {ix' e' : Expr} {p q r : PySem.Pos} (C : Dok L c X W) (hx : seen c i x = true) (hi : PE X ix' (tE (sigOf L me) X.mg W ix)) (he : PE X e' (tE (sigOf L me) X.mg W e))
    (ha : ∀ ov iv new, PySem.augStore ix' ov iv new = (do PySem.holding [new, ov, iv] (PySem.setItem ov iv new); PySem.release [new, ov, iv] []; pure .next)) : PS X (.AugAssign (.Subscript (.Name x q) ix' r) (opOf o) e' p) (tS (sigOf L me) X.mg W (.pag i ix o e)) := by
  obtain ⟨h1, h2, h3, h4⟩ := C.ok.seen hx
  refine PS.weak (ps_augS (pe_var h1 h2 h3 h4) hi get_list he (anyP_ok (op := opOf o)) set_list ha) fun D σ H ⟨env, F, O, K, s, hh, w, ok⟩ => ?_
  simp only [wpS] at w
  obtain ⟨x0, e0, w⟩ := get_iff w
  obtain ⟨v0, _, _, k1, _, _, _⟩ := s.take e0
  refine ⟨v0, k1, env, F, O, _, K.ex, s, hh, w, fun k env1 w1 F1 Od Oe u H1 n r s1 => ?_, ok.ox⟩
  obtain ⟨x1, e1, xs, m, el, rfl, rfl, a1, fl, w1⟩ := get_iff w1
  obtain ⟨rfl, rfl⟩ := r.intI
  obtain ⟨v1, A, B, z1, z2, z3, z4⟩ := s1.take e1
  rw [k1] at z1; cases z1
  cases z2 with
  | @own a vs _ O' rl =>
    have n0 := n.drop
    have hv : H1 a = some (.lst vs) := (n0.held.perm z4).o (a, .lst vs) (by simp)
    obtain ⟨j0, v, A0, B0, C0, _, _, g3, g4, _⟩ := atI_rep rl a1
    have hB := g4.free (flat_fz fl)
    subst hB
    refine ⟨a, vs, m, v, rfl, rfl, SqL.of hv, g3, ?_⟩
    refine ⟨env1, F1, Oe, _, K.ex, s1, n0.held, w1, fun d env2 w2 F2 Od2 Oe2 y H2 n2 r2 s2 => ?_, ok.ox.step n0⟩
    refine aug_ok w2 (g4.mono n2.f) r2 fun z hz => ?_
    obtain ⟨y1, ey, ys, j, rfl, hj, hk⟩ := get_iff hz
    obtain ⟨v3, A3, B3, y1', y2, y3, y4⟩ := s2.take ey
    rw [k1] at y1'; cases y1'
    have nf := (n0.trans n2).drop
    cases y2 with
    | @own _ us _ O3 rl3 =>
      have nf2 := nf.perm y4
      have hv2 : H2 a = some (.lst us) := nf2.held.o (a, .lst us) (by simp)
      refine ⟨a, us, m, j, rfl, rfl, hv2, by rw [← rl3.len]; exact hj, ?_⟩
      have hjl : j < ys.length := (ixN_seq hj).2.1
      obtain ⟨el', A', B', C', q1, q2, q3, q4⟩ := rl3.nth (List.getElem?_eq_getElem hjl)
      have nw := Next.write (u := .lst us) nf2.held (.lst (us.set j (.int z)))
      have rl' := q4 (Sub.refl F2) (Rep.int (F := F2) z)
      have hi2 : i < env2.length := (List.getElem?_eq_some_iff.mp ey).1
      have rown : Rep F2 (.lst true (ys.set j (.int z))) (.ref a) ((a, .lst (us.set j (.int z))) :: (A' ++ [] ++ C')) := .own rl'
      obtain ⟨E', p1, p2⟩ := y3.put (i := i) (by rw [List.getElem?_set_self hi2]) rown
      rw [List.set_set, set_self k1] at p1
      refine ok.nx _ hk F2 E' σ _ ?_ p1 (Mes.refl _ _)
      refine ((nf2.trans nw).perm (O'' := B' ++ E') ?_).drop
      rw [q3]
      have a1 : ((A' ++ B' ++ C') ++ B3).Perm (B' ++ ((A' ++ [] ++ C') ++ B3)) := by
        rw [List.append_nil, List.append_assoc, List.append_assoc, List.append_assoc A' C' B3]
        exact perm3
      exact ((a1.cons _).trans List.perm_middle.symm).trans (List.Perm.append_left B' p2.symm)
end
end DP

/-! DpS: statements: several names at once; the one theorem. -/
namespace DP
open PySem (Addr sizeLine wpAny model Value Shared Around FuncData BindsTo codeAny Str Paired Expr Stmt)
open PySem.W (Frag)
open L2

section
variable {L : List Ent} {c : SC} {X : Cx} {W : WX} {me : List Nat} {mg : Str → Option Value} {F F1 : Hp} {O O1 : Own} {σ σ1 : St} {H H1 : Hp}
def putV : List Nat → List V → St → St
  | i :: is, v :: vs, σ => putV is vs (σ.set i (some v))
  | _, _, σ => σ
theorem putV_set : ∀ {is : List Nat} {vs : List V} {σ : St} {i : Nat} {a : Option V}, i ∉ is → putV is vs (σ.set i a) = (putV is vs σ).set i a
  | [], vs, σ, i, a, _ => by cases vs <;> rfl
  | j :: is, [], σ, i, a, _ => rfl
  | j :: is, v :: vs, σ, i, a, h => by
    have h1 : j ≠ i := fun z => h (by simp [z])
    have h2 : i ∉ is := fun z => h (by simp [z])
    show putV is vs ((σ.set i a).set j (some v)) = (putV is vs (σ.set j (some v))).set i a
    rw [List.set_comm _ _ (Ne.symm h1), putV_set h2]
theorem putV_snoc : ∀ {is : List Nat} {vs : List V} {σ : St} {i : Nat} {v : V}, is.length = vs.length → putV (is ++ [i]) (vs ++ [v]) σ = (putV is vs σ).set i (some v)
  | [], [], σ, i, v, _ => rfl
  | j :: is, u :: vs, σ, i, v, h => by
    show putV (is ++ [i]) (vs ++ [v]) (σ.set j (some u)) = (putV is vs (σ.set j (some u))).set i (some v)
    exact putV_snoc (by simpa using h)
  | [], _ :: _, _, _, _, h => by simp at h
  | _ :: _, [], _, _, _, h => by simp at h
theorem putV_rev : ∀ {is : List Nat} {vs : List V} {σ : St}, is.Nodup → is.length = vs.length → putV is.reverse vs.reverse σ = putV is vs σ
  | [], [], σ, _, _ => rfl
  | i :: is, v :: vs, σ, hn, h => by
    have hn' := List.nodup_cons.mp hn
    have h' : is.length = vs.length := by simpa using h
    rw [List.reverse_cons, List.reverse_cons, putV_snoc (by simpa using h'), putV_rev hn'.2 h']
    show _ = putV is vs (σ.set i (some v))
    rw [putV_set hn'.1]
  | [], _ :: _, _, _, h => by simp at h
  | _ :: _, [], _, _, h => by simp at h
theorem putV_sim : ∀ {is : List Nat} {ds : List D} {vs : List V} {env : Env} {σ : St} {O Od : Own}, SimE F env σ O → RepL F ds vs Od → (∀ i ∈ is, i < env.length) → is.length = ds.length → ∃ Z C, SimE F (putAll is ds env) (putV is vs σ) C ∧ (Od ++ O).Perm (Z ++ C)
  | [], [], _, env, σ, O, _, s, .nil, _, _ => ⟨[], O, s, by simp⟩
  | i :: is, d :: ds, v :: vs, env, σ, O, _, s, .cons (O1 := A) (O2 := B) r rs, hi, hl => by
    obtain ⟨Z, B1, C1, h1, h2, h3⟩ := s.store (hi i List.mem_cons_self) r
    obtain ⟨Z2, C2, h4, h5⟩ := putV_sim (is := is) h1 rs (fun j hj => by rw [List.length_set]; exact hi j (List.mem_cons_of_mem _ hj)) (by simpa using hl)
    refine ⟨Z ++ Z2, C2, h4, ?_⟩
    -- A ++ B ++ O ~ Z ++ (B ++ (A ++ B1)) ~ Z ++ (B ++ C1) ~ Z ++ Z2 ++ C2
    have e1 : (A ++ B ++ O).Perm (Z ++ (B ++ (A ++ B1))) := by
      refine (List.Perm.append_left (A ++ B) h2).trans ?_
      refine perm3.trans (List.Perm.append_left Z ?_)
      rw [List.append_assoc]
      exact perm3
    refine e1.trans ?_
    rw [List.append_assoc]
    exact List.Perm.append_left Z ((List.Perm.append_left B h3.symm).trans h5)
  | [], _ :: _, _, _, _, _, _, _, _, _, h => by simp at h
  | _ :: _, [], _, _, _, _, _, _, _, _, h => by simp at h
theorem putV_mes : ∀ {is : List Nat} {vs : List V} {σ : St}, (∀ i ∈ is, i ∉ me) → Mes me σ (putV is vs σ)
  | [], vs, σ, _ => by cases vs <;> exact Mes.refl _ _
  | i :: is, [], σ, _ => Mes.refl _ _
  | i :: is, v :: vs, σ, h => (Mes.set (h i List.mem_cons_self)).trans (putV_mes fun j hj => h j (List.mem_cons_of_mem _ hj))
theorem par_read {is : List Nat} {es : Es} {D : Ends} (hlen : is.length = es.len) (h : tS (sigOf L me) mg W (.par is es) D σ H) : tEs (sigOf L me) mg W es σ H fun vs H1 => vs.length = is.length ∧ D.nx (putV is vs σ) H1 := by
  obtain ⟨env, F, O, K, s, hh, w, ok⟩ := h
  simp only [wpS] at w
  refine ⟨env, F, O, _, K.ex, s, hh, w, fun ds env1 w1 hl F1 Od Oe vs H1 n r s1 => ?_, ok.ox⟩
  obtain ⟨h1, h2, h3⟩ := w1
  have h2' : ∀ i ∈ is, i ∉ me ∧ i < env1.length := fun i hi => by
    have := List.all_eq_true.mp h2 i hi
    exact of_decide_eq_true (p := i ∉ me ∧ i < env1.length) this
  obtain ⟨Z, C', k1, k2⟩ := putV_sim s1 r (fun i hi => (h2' i hi).2) h1.symm
  refine ⟨by rw [← r.len]; exact h1, ok.nx _ h3 F1 C' _ H1 (n.trans (Next.keep (Z := Z) n.held k2)) k1 (putV_mes fun i hi => (h2' i hi).1)⟩
theorem nms_cons {i : Nat} {is : List Nat} {ts : List Expr} (h : nms c (i :: is) ts = true) : ∃ x p ts', ts = .Name x p :: ts' ∧ mine c i x = true ∧ nms c is ts' = true := by
  cases ts with
  | nil => simp [nms] at h
  | cons t ts =>
    cases t <;> first
      | (simp [nms] at h; done)
      | (simp only [nms, Bool.and_eq_true] at h; exact ⟨_, _, _, rfl, h.1, h.2⟩)
theorem nms_nil {ts : List Expr} (h : nms c [] ts = true) : ts = [] := by
  cases ts with
  | nil => rfl
  | cons _ _ => simp [nms] at h
theorem nms_len : ∀ {is : List Nat} {ts : List Expr}, nms c is ts = true → is.length = ts.length
  | [], ts, h => by
    rw [nms_nil h]; rfl
  | i :: is, ts, h => by
    obtain ⟨x, p, ts', rfl, _, h2⟩ := nms_cons h
    rw [List.length_cons, List.length_cons, nms_len h2]
/-- several names, from the left, as targets -/
def gNms (is : List Nat) : TGs := fun vs σ H Q => vs.length = is.length ∧ Q (putV is vs σ) H
theorem gnms_nil : PGs X [] (gNms []) := PGs.weak pgs_nil fun vs σ H Q ⟨h1, h2⟩ => by
  cases vs with
  | nil => exact ⟨rfl, h2⟩
  | cons _ _ => simp at h1
theorem gnms_cons {i : Nat} {is : List Nat} {x : Str} {p : PySem.Pos} {ts : List Expr} (C : Cok L c X W) (h : mine c i x = true) (k : PGs X ts (gNms is)) : PGs X (.Name x p :: ts) (gNms (i :: is)) := by
  obtain ⟨h1, h2, h3⟩ := C.mine h
  refine PGs.weak (pgs_cons (pg_name C.nd h1 h2 h3) k rfl) fun vs σ H Q ⟨q1, q2⟩ => ?_
  cases vs with
  | nil => simp at q1
  | cons v vs => exact ⟨v, vs, rfl, by simpa using q1, q2⟩
theorem pgs_nms (C : Cok L c X W) : ∀ {is : List Nat} {ts : List Expr}, nms c is ts = true → PGs X ts (gNms is)
  | [], ts, h => by
    rw [nms_nil h]
    exact gnms_nil
  | i :: is, ts, h => by
    obtain ⟨x, p, ts', rfl, h1, h2⟩ := nms_cons h
    exact gnms_cons C h1 (pgs_nms C h2)
theorem ae_nms {env : PySem.Env} : ∀ {is : List Nat} {ts : List Expr}, nms c is ts = true → (PySem.assignEach ts env).length = is.length ∧ (PySem.assignEach ts env).findIdx? (·.1) = none
  | [], ts, h => by
    rw [nms_nil h]
    exact ⟨rfl, rfl⟩
  | i :: is, ts, h => by
    obtain ⟨x, p, ts', rfl, h1, h2⟩ := nms_cons h
    obtain ⟨k1, k2⟩ := ae_nms (env := env) h2
    have e : PySem.assignEach (Expr.Name x p :: ts') env = (false, PySem.assign (.Name x p) env) :: PySem.assignEach ts' env := rfl
    rw [e, List.findIdx?_cons, k2, List.length_cons, k1]
    exact ⟨rfl, rfl⟩
theorem par_none {is : List Nat} {es : Es} {ts vs : List Expr} {k k2 : Nat} {p p2 q : PySem.Pos} (C : Dok L c X W) (h : nms c is ts = true) (hl : is.length ≤ 100) (hlen : is.length = es.len) (he : PA X vs (tEs (sigOf L me) X.mg W es))
    (hw : PySem.swappedStores [.Tuple ts k p] (.Tuple vs k2 p2) X.env = pure none) : PS X (.Assign [.Tuple ts k p] (.Tuple vs k2 p2) q) (tS (sigOf L me) X.mg W (.par is es)) := by
  have g1 := pgs_nms C.ok h
  obtain ⟨g2, g3⟩ := ae_nms (env := X.env) h
  refine PS.weak (ps_asg (pe_tup he) (pg_tup C.ok.calm g1 g2 g3) rfl hw rfl) fun D σ H hs => ?_
  have r := par_read hlen hs
  obtain ⟨env, F, O, K, R, s, hh, w, ok, ox⟩ := r
  refine ⟨env, F, O, K, R, s, hh, w, fun ds env1 w1 hl' F1 Od Oe vs' H1 n r s1 => ?_, ox⟩
  obtain ⟨e1, e2⟩ := ok ds env1 w1 hl' F1 Od Oe vs' H1 n r s1
  have hsz : vs'.length ≤ sizeLine := by
    have e9 : (100 : Nat) ≤ sizeLine := Nat.le_of_ble_eq_true rfl
    omega
  refine ⟨hsz, fun a ha => ⟨a, vs', rfl, SqT.of upd_same, e1, e1, ?_⟩⟩
  have n5 := Next.newF n.held ha (.tup vs')
  exact (ok ds env1 w1 hl' _ Od Oe vs' _ (n.trans n5) (r.mono n5.f) (s1.mono n5.f)).2

/-! ### names stored from the last on -/
theorem stores_ok (C : Cok L c X W) {pins : List (Addr × PySem.Obj)} {Q : Unit → Shared → Prop} {is : List Nat} {xs : List Str} (m : Paired (fun i x => mine c i x = true) is xs) : ∀ {us : List Value} {vs : List V} {σ : St} {H : Hp} {s : Shared}, Vals vs us → is.length = vs.length → Inv X pins σ H s →
    (∀ s', Inv X pins (putV is vs σ) H s' → Q () s') → wpAny (model X.prog X.w) X.A (PySem.assignInOrder (xs.map fun n => fun v => PySem.bindName X.env n v) us) Q X.xe s := by
  induction m with
  | nil =>
    intro us vs σ H s rv hl I h
    cases vs with
    | nil =>
      cases rv
      exact PyProof.Rows.assignInOrder_nil (h s I)
    | cons _ _ => simp at hl
  | cons m ms ih =>
    intro us vs σ H s rv hl I h
    cases vs with
    | nil => simp at hl
    | cons v vs =>
      cases rv with
      | cons r rs =>
        obtain ⟨h1, h2, h3⟩ := C.mine m
        refine PyProof.Rows.assignInOrder_cons (PySem.wpAny_bindName (store_ok I C.nd h1 h2 r (fun s2 I2 => ?_) h3))
        exact ih rs (by simpa using hl) I2 h
end
end DP

/-! DpT: statements: the one theorem. -/
namespace DP
open PySem (Addr sizeLine wpAny model Value Shared Around FuncData BindsTo codeAny Str Paired Expr Stmt)
open PySem.W (Frag)
open L2

section
variable {L : List Ent} {c : SC} {X : Cx} {W : WX} {me : List Nat} {mg : Str → Option Value} {F F1 : Hp} {O O1 : Own} {σ σ1 : St} {H H1 : Hp}
theorem paired_rev {α β : Type} {R : α → β → Prop} {l : List α} {m : List β} (h : Paired R l m) : Paired R l.reverse m.reverse := by
  have app : ∀ {l : List α} {m : List β} {a : α} {b : β}, Paired R l m → R a b → Paired R (l ++ [a]) (m ++ [b]) := fun h r => by
    induction h with
    | nil => exact .cons r .nil
    | cons x _ ih => exact .cons x ih
  induction h with
  | nil => exact .nil
  | cons r _ ih => rw [List.reverse_cons, List.reverse_cons]; exact app ih r
theorem paired_len {α β : Type} {R : α → β → Prop} {l : List α} {m : List β} (h : Paired R l m) : l.length = m.length := by
  induction h with
  | nil => rfl
  | cons _ _ ih => simp [ih]
theorem vals_rev {vs : List V} {us : List Value} (h : Vals vs us) : Vals vs.reverse us.reverse := Vals.reverse h
theorem par_some {is : List Nat} {xs : List Str} {es : Es} {ts vs : List Expr} {k k2 : Nat} {p p2 q : PySem.Pos} (C : Dok L c X W) (hnd : is.Nodup) (hl : is.length ≤ 100) (hlen : is.length = es.len) (he : PA X vs (tEs (sigOf L me) X.mg W es)) (m : Paired (fun i x => mine c i x = true) is xs)
    (hw : PySem.swappedStores [.Tuple ts k p] (.Tuple vs k2 p2) X.env = pure (some xs)) : PS X (.Assign [.Tuple ts k p] (.Tuple vs k2 p2) q) (tS (sigOf L me) X.mg W (.par is es)) := by
  refine ⟨fun pins s σ H D I h => ?_⟩
  have rd := par_read hlen h
  rw [PySem.exec_Assign_arm]
  refine PySem.wpAny_bind (PySem.wpAny_standAt ?_)
  refine PySem.wpAny_bind (PySem.wpAny_pure ?_)
  rw [if_neg (by decide)]
  refine PySem.wpAny_bind (PyProof.Rows.Tuple_ (thn (he.run _ pins s σ H _ I rd) fun us s1 ⟨ws, H1, I1, r1, q1⟩ => ?_))
  have e9 : (100 : Nat) ≤ sizeLine := Nat.le_of_ble_eq_true rfl
  have lus : us.length = is.length := by rw [← r1.length]; exact q1.1
  refine PySem.wpAny_newObj_type ?_ (by show us.toArray.size ≤ sizeLine; rw [List.size_toArray]; omega)
  have I2 : Inv X pins σ H1 { s1 with heap := s1.heap.push { cls := .type "tuple", data := .seq us.toArray } } := I1.kept (t' := s1.toks) fun b o e => PySem.Heap.get?_push_of_some _ e
  rw [hw]
  refine PySem.wpAny_bind (PySem.wpAny_pure ?_)
  have lx : xs.length = us.toArray.size := by
    rw [List.size_toArray, lus, paired_len m]
  show wpAny (model X.prog X.w) X.A (do PySem.rule "assign.swapped-stores"; let items ← PySem.unpackItems (.ref s1.heap.objs.size) xs.length none; PySem.assignInOrder (xs.reverse.map fun n => PySem.bindName X.env n) items.reverse; pure PySem.Flow.next) _ _ _
  rw [lx]
  refine PySem.wpAny_bind (PySem.wpAny_rule (PySem.wpAny_bind (PyProof.Rows.unpackItems_tuple (I.ok.hd C.ok.calm) (PyProof.Rows.IsTup.new s1.heap _) fun h' hx' => ?_)))
  have I3 := I2.kept (h' := h') (t' := s1.toks) fun b o e => hx' b o (Nat.ne_of_lt (PySem.Heap.lt_size e)) e
  refine PySem.wpAny_bind (stores_ok C.ok (paired_rev m) (vals_rev r1) (by rw [List.length_reverse, List.length_reverse]; exact q1.1.symm) I3 fun s3 I4 => PySem.wpAny_pure ?_)
  rw [putV_rev hnd q1.1.symm] at I4
  exact ⟨_, H1, I4, q1.2⟩
theorem sw_of {env : PySem.Env} {ts vs : List Expr} {k k2 : Nat} {p p2 : PySem.Pos} {r : Option (List Str)} (hb : env.blockKind = .function) (h : swN env.scope ts vs = some r) : PySem.swappedStores [.Tuple ts k p] (.Tuple vs k2 p2) env = pure r := by
  unfold swN at h
  unfold PySem.swappedStores
  have hb' : (env.blockKind != .function) = false := by rw [hb]; rfl
  simp only [hb', Bool.or_false]
  split at h
  · rename_i q
    cases h
    exact if_pos q
  · rename_i q
    refine (if_neg q).trans ?_
    split at h
    · rename_i q2
      cases h
      exact if_pos q2
    · rename_i q2
      refine (if_neg q2).trans ?_
      dsimp only at h
      split at h
      · rename_i q3
        cases h
        exact if_pos q3
      · rename_i q3
        refine (if_neg q3).trans ?_
        split at h
        · rename_i q4
          cases h
          exact if_pos q4
        · rename_i q4
          refine (if_neg q4).trans ?_
          split at h
          · cases h
          · rename_i q5
            cases h
            exact if_neg q5
end
end DP

/-! DpU: statements: the one theorem. -/
namespace DP
open PySem (Addr sizeLine wpAny model Value Shared Around FuncData BindsTo codeAny Str Paired Expr Stmt)
open PySem.W (Frag)
open L2

section
variable {L : List Ent} {me : List Nat}
theorem chk_aug {c : SC} {a : E} {e : Expr} (h : chkE c a e = true) : ∀ ov iv new, PySem.augStore e ov iv new = (do PySem.holding [new, ov, iv] (PySem.setItem ov iv new); PySem.release [new, ov, iv] []; pure .next) := by
  intro ov iv new
  cases e <;> first | rfl | (cases a <;> simp [chkE] at h)
theorem chk_asn {c : SC} {a : E} {o e : Expr} {r : PySem.Pos} {env : PySem.Env} (h : chkE c a e = true) : ∀ v, PySem.assign (.Subscript o e r) env v = (do
      let ov ← PySem.holding [v] (PySem.eval o env)
      let iv ← PySem.holding [v, ov] (PySem.eval e env)
      PySem.standAt r
      PySem.holding [v, ov, iv] (PySem.setItem ov iv v)
      PySem.release [v, ov, iv] []) := by
  intro v
  cases e <;> first | rfl | (cases a <;> simp [chkE] at h)
def isLC : Expr → Bool
  | .ListComp .. => true
  | _ => false
theorem chk_sw {c : SC} {a : E} {e : Expr} {t : Option Expr} {l : Nat} {env : PySem.Env} (h : chkE c a e = true) (hn : isLC e = false) : PySem.swapsWith e t l env = pure false := by
  cases e <;> first
    | rfl
    | (simp [isLC] at hn; done)
    | (cases a <;> simp [chkE] at h)
theorem chk_lcE {c : SC} {a : E} {e : Expr} (h : chkE c a e = true) (hn : isLC e = true) : ∃ elt t it ifs own, a = .lc elt t it ifs own := by
  cases e with
  | ListComp elt gs sc p => cases a <;> first | exact ⟨_, _, _, _, _, rfl⟩ | simp [chkE] at h
  | _ => simp [isLC] at hn
theorem swLC {elt : Expr} {gs : List PySem.Comprehension} {sc : PySem.Scope} {p q : PySem.Pos} {x : Str} {l : Nat} {env : PySem.Env} : PySem.swapsWith (.ListComp elt gs sc p) (some (.Name x q)) l env = pure false ∨
    (PySem.swapsWith (.ListComp elt gs sc p) (some (.Name x q)) l env = pure true ∧ env.kindOf x = some .local) := by
  cases hb : (env.blockKind == .function && env.kindOf x == some .local && q.line == p.line && !(sc.names.any fun (n, k) => n == x && (k == .local || k == .cell))) with
  | false => exact .inl (congrArg pure hb)
  | true =>
    refine .inr ⟨congrArg pure hb, ?_⟩
    simp only [Bool.and_eq_true, beq_iff_eq] at hb
    exact hb.1.1.2
theorem PS.asgT {X : Cx} {W : WX} {t : T} {e : E} {st : Stmt} {g : TG} (hg : ∀ v σ H Q, gT me t v σ H Q → g v σ H Q) (h : PS X st (tAsg (tE (sigOf L me) X.mg W e) g)) : PS X st (tS (sigOf L me) X.mg W (.asg t e)) :=
  PS.weak h fun D σ H q => by
    have r := asg_read q
    obtain ⟨env, F, O, K, R, s, hh, w, ok, ox⟩ := r
    exact ⟨env, F, O, K, R, s, hh, w, fun d env1 k F1 Od Oe v H1 n r s1 => hg _ _ _ _ (ok d env1 k F1 Od Oe v H1 n r s1), ox⟩
def noTT : Expr → Expr → Bool
  | .Tuple .., .Tuple .. => false
  | _, _ => true
theorem s_asg {c : SC} {X : Cx} {W : WX} {t : T} {e : E} {t' e' : Expr} {p : PySem.Pos} (C : Dok L c X W) (ht : chkT c t t' = true) (he : chkE c e e' = true) (hx : noTT t' e' = true) : PS X (.Assign [t'] e' p) (tS (sigOf L me) X.mg W (.asg t e)) := by
  cases t with
  | nm i =>
    obtain ⟨x, q, rfl, hm⟩ := chkT_nm ht
    obtain ⟨h1, h2, h3⟩ := C.ok.mine hm
    have plain : PySem.swapsWith e' (some (.Name x q)) p.line X.env = pure false → PS X (.Assign [.Name x q] e' p) (tS (sigOf L me) X.mg W (.asg (.nm i) e)) := fun hs =>
      PS.asgT (fun v σ H Q h => gT_nm h) (ps_set C.ok.nd h1 h2 (sE e C.ok he) hs h3)
    cases hl : isLC e' with
    | false => exact plain (chk_sw he hl)
    | true =>
      obtain ⟨elt, t2, it, ifs, own, rfl⟩ := chk_lcE he hl
      obtain ⟨elt', t2', it', ifs', scope, p2, rfl, k1, k2, k3, k4, k5, k6, k7, k8⟩ := chk_lc he
      rcases swLC (elt := elt') (gs := [⟨t2', it', ifs', 0⟩]) (sc := scope) (p := p2) (q := q) (x := x) (l := p.line) (env := X.env) with hs | ⟨hs, hk⟩
      · exact plain hs
      · exact PS.asgT (fun v σ H Q h => gT_nm h) (st_setLc C.ok hm hk hs k2 k4 k8 (sI it C.ok k1 k3) (fun C' => sG t2 C' k5) (fun C' => sTs ifs C' k6) (fun C' => sE elt C' k7))
  | tp ts =>
    obtain ⟨es, k, q, rfl, hm⟩ := chkT_tp ht
    have hs : PySem.swapsWithSole [.Tuple es k q] e' p.line X.env = pure false := by
      show PySem.swapsWith e' (some (.Tuple es k q)) p.line X.env = pure false
      cases e' <;> rfl
    have hw : PySem.swappedStores [.Tuple es k q] e' X.env = pure none := by
      cases e' <;> first | rfl | (cases hx)
    exact PS.asgT (fun v σ H Q h => h) (ps_asg (sE e C.ok he) (sG (.tp ts) C.ok ht) hs hw rfl)
theorem nms_paired {c : SC} : ∀ {is : List Nat} {ts : List Expr}, nms c is ts = true → Paired (fun i x => mine c i x = true) is (is.filterMap fun i => c.N[i]?)
  | [], ts, h => .nil
  | i :: is, ts, h => by
    obtain ⟨x, p, ts', rfl, h1, h2⟩ := nms_cons h
    have e : c.N[i]? = some x := by
      have h1' := h1
      unfold mine at h1'
      simp only [Bool.and_eq_true, decide_eq_true_eq] at h1'
      exact h1'.1
    rw [List.filterMap_cons, e]
    exact .cons h1 (nms_paired h2)
theorem s_par {c : SC} {X : Cx} {W : WX} {is : List Nat} {es : Es} {ts vs : List Expr} {k k2 : Nat} {p p2 q : PySem.Pos} (C : Dok L c X W) (h1 : nms c is ts = true) (h2 : chkEs c es vs = true) (h3 : is.Nodup) (h4 : is.length ≤ 100) (hlen : is.length = es.len)
    (h5 : (match swN c.sc ts vs with | some none => true | some (some l) => decide (l = is.filterMap fun i => c.N[i]?) | none => false) = true) : PS X (.Assign [.Tuple ts k p] (.Tuple vs k2 p2) q) (tS (sigOf L me) X.mg W (.par is es)) := by
  have hsc : X.env.scope = c.sc := C.ok.sc
  cases hs : swN c.sc ts vs with
  | none => rw [hs] at h5; cases h5
  | some o =>
    have hw := sw_of (k := k) (k2 := k2) (p := p) (p2 := p2) C.bk (by rw [hsc]; exact hs)
    cases o with
    | none => exact par_none C h1 h4 hlen (sEs es C.ok h2) hw
    | some l =>
      rw [hs] at h5
      have hl : l = is.filterMap fun i => c.N[i]? := by simpa using h5
      subst hl
      exact par_some C h3 h4 hlen (sEs es C.ok h2) (nms_paired h1) hw
theorem chkS_inv {c : SC} {a : S} {st : Stmt} (h : chkS c a st = true) : match a with
    | .nev => True
    | .asg t e => ∃ t' e' p, st = .Assign [t'] e' p ∧ chkT c t t' = true ∧ chkE c e e' = true ∧ noTT t' e' = true
    | .par is es => ∃ ts k p vs k2 p2 q, st = .Assign [.Tuple ts k p] (.Tuple vs k2 p2) q ∧ nms c is ts = true ∧ chkEs c es vs = true ∧ is.Nodup ∧ is.length ≤ 100 ∧ is.length = es.len ∧ (match swN c.sc ts vs with | some none => true | some (some l) => decide (l = is.filterMap fun i => c.N[i]?) | none => false) = true
    | .pst i ix e => ∃ x q ix' r e' p, st = .Assign [.Subscript (.Name x q) ix' r] e' p ∧ seen c i x = true ∧ chkE c ix ix' = true ∧ chkE c e e' = true
    | .aug i o e => ∃ x q e' p, st = .AugAssign (.Name x q) (opOf o) e' p ∧ mine c i x = true ∧ chkE c e e' = true
    | .pag i ix o e => ∃ x q ix' r e' p, st = .AugAssign (.Subscript (.Name x q) ix' r) (opOf o) e' p ∧ seen c i x = true ∧ chkE c ix ix' = true ∧ chkE c e e' = true
    | .app i e => ∃ x q r e' cp p, st = .Expr (.Call (.Attribute (.Name x q) (Str.ofString "append") r) [e'] [] cp) p ∧ seen c i x = true ∧ chkE c e e' = true ∧ (r.endLine == cp.line) = true
    | .exp e => ∃ e' p, st = .Expr e' p ∧ chkE c e e' = true ∧ isLC e' = false
    | .ite d a b => ∃ d' a' b' p, st = .If d' a' b' p ∧ chkE c d d' = true ∧ chkSs c a a' = true ∧ chkSs c b b' = true
    | .for_ t it b => ∃ t' it' b' p, st = .For t' it' b' [] p ∧ chkT c t t' = true ∧ chkI c it it' = true ∧ noSet it' = true ∧ (needTup it = true → isTupE t' = true) ∧ chkSs c b b' = true
    | .whl d b => ∃ d' b' p, st = .While d' b' [] p ∧ chkE c d d' = true ∧ chkSs c b b' = true
    | .ret e => ∃ e' p, st = .Return (some e') p ∧ chkE c e e' = true
    | .rtn => ∃ p, st = .Return none p
    | .brk => ∃ p, st = .Break p
    | .cnt => ∃ p, st = .Continue p
    | .pas => ∃ p, st = .Pass p := by
  unfold chkS at h
  split at h
  · trivial
  all_goals first
    | (cases h; done)
    | exact ⟨_, rfl⟩
    | (try simp only [Bool.and_eq_true, decide_eq_true_eq, Bool.or_eq_true, Bool.not_eq_true'] at h
       first
         | (obtain ⟨⟨h1, h2⟩, h3⟩ := h; exact ⟨_, _, _, rfl, h1, h2, h3⟩)
         | (obtain ⟨⟨⟨⟨⟨h1, h2⟩, h3⟩, h4⟩, h5⟩, h6⟩ := h; exact ⟨_, _, _, _, _, _, _, rfl, h1, h2, h3, h4, h5, h6⟩)
         | (obtain ⟨⟨h1, h2⟩, h3⟩ := h; exact ⟨_, _, _, _, _, _, rfl, h1, h2, h3⟩)
         | (obtain ⟨⟨h1, rfl⟩, h3⟩ := h; exact ⟨_, _, _, _, rfl, h1, h3⟩)
         | (obtain ⟨⟨⟨h1, h2⟩, rfl⟩, h3⟩ := h; exact ⟨_, _, _, _, _, _, rfl, h1, h2, h3⟩)
         | (obtain ⟨⟨⟨h1, rfl⟩, h3⟩, h4⟩ := h; exact ⟨_, _, _, _, _, _, rfl, h1, h3, h4⟩)
         | (obtain ⟨h1, h2⟩ := h; refine ⟨_, _, rfl, h1, ?_⟩; revert h2; cases ‹Expr› <;> simp [isLC]; done)
         | (obtain ⟨⟨h1, h2⟩, h3⟩ := h; exact ⟨_, _, _, _, rfl, h1, h2, h3⟩)
         | (obtain ⟨⟨⟨⟨h1, h2⟩, h3⟩, h4⟩, h5⟩ := h; exact ⟨_, _, _, _, rfl, h1, h2, h3, fun z => h4.resolve_left (by rw [z]; exact fun q => nomatch q), h5⟩)
         | (obtain ⟨h1, h2⟩ := h; exact ⟨_, _, _, rfl, h1, h2⟩)
         | exact ⟨_, _, rfl, h⟩)
end
end DP

/-! DpV: statements: the one theorem; a def by its body. -/
namespace DP
open PySem (Addr sizeLine wpAny model Value Shared Around FuncData BindsTo codeAny Str Paired Expr Stmt)
open PySem.W (Frag)
open L2

section
variable {L : List Ent} {me : List Nat}
theorem chkSs_nil {c : SC} {st : List Stmt} (h : chkSs c .nil st = true) : st = [] := by
  cases st with
  | nil => rfl
  | cons _ _ => simp [chkSs] at h
theorem chkSs_cons {c : SC} {a : S} {as : Ss} {st : List Stmt} (h : chkSs c (.cons a as) st = true) : ∃ b bs, st = b :: bs ∧ chkS c a b = true ∧ chkSs c as bs = true := by
  cases st with
  | nil => simp [chkSs] at h
  | cons b bs =>
    simp only [chkSs, Bool.and_eq_true] at h
    exact ⟨b, bs, rfl, h.1, h.2⟩
mutual
theorem sS : ∀ (a : S) {c : SC} {X : Cx} {W : WX} {st : Stmt}, Dok L c X W → chkS c a st = true → PS X st (tS (sigOf L me) X.mg W a)
  | .nev, c, X, W, st, C, h => ss_nev
  | .asg t e, c, X, W, st, C, h => by
    obtain ⟨t', e', p, rfl, h1, h2, h3⟩ := chkS_inv h
    exact s_asg C h1 h2 h3
  | .par is es, c, X, W, st, C, h => by
    obtain ⟨ts, k, p, vs, k2, p2, q, rfl, h1, h2, h3, h4, h5, h6⟩ := chkS_inv h
    exact s_par C h1 h2 h3 h4 h5 h6
  | .pst i ix e, c, X, W, st, C, h => by
    obtain ⟨x, q, ix', r, e', p, rfl, h1, h2, h3⟩ := chkS_inv h
    exact ss_pst C h1 (sE ix C.ok h2) (chk_slice h2) (sE e C.ok h3) (by show PySem.swapsWith e' (some (.Subscript (.Name x q) ix' r)) p.line X.env = pure false; cases e' <;> rfl) (by cases e' <;> rfl) (chk_asn h2)
  | .aug i o e, c, X, W, st, C, h => by
    obtain ⟨x, q, e', p, rfl, h1, h2⟩ := chkS_inv h
    exact ss_aug C h1 (sE e C.ok h2)
  | .pag i ix o e, c, X, W, st, C, h => by
    obtain ⟨x, q, ix', r, e', p, rfl, h1, h2, h3⟩ := chkS_inv h
    exact ss_pag C h1 (sE ix C.ok h2) (sE e C.ok h3) (chk_aug h2)
  | .app i e, c, X, W, st, C, h => by
    obtain ⟨x, q, r, e', cp, p, rfl, h1, h2, h3⟩ := chkS_inv h
    exact ss_app C h1 rfl h2 h3 (sE e C.ok h2)
  | .exp e, c, X, W, st, C, h => by
    obtain ⟨e', p, rfl, h1, h2⟩ := chkS_inv h
    exact ss_exp (sE e C.ok h1) (chk_sw h1 h2)
  | .ite d a b, c, X, W, st, C, h => by
    obtain ⟨d', a', b', p, rfl, h1, h2, h3⟩ := chkS_inv h
    exact ss_ite (sT d C.ok h1) (sSs a C h2) (sSs b C h3)
  | .for_ t it b, c, X, W, st, C, h => by
    obtain ⟨t', it', b', p, rfl, h1, h2, h3, h4, h5⟩ := chkS_inv h
    exact ss_for C (sI it C.ok h2 h4) (sG t C.ok h1) (sSs b C h5) h3
  | .whl d b, c, X, W, st, C, h => by
    obtain ⟨d', b', p, rfl, h1, h2⟩ := chkS_inv h
    exact ss_whl C (sT d C.ok h1) (sSs b C h2)
  | .ret e, c, X, W, st, C, h => by
    obtain ⟨e', p, rfl, h1⟩ := chkS_inv h
    exact ss_ret (sE e C.ok h1)
  | .rtn, c, X, W, st, C, h => by
    obtain ⟨p, rfl⟩ := chkS_inv h
    exact ss_rtn
  | .brk, c, X, W, st, C, h => by
    obtain ⟨p, rfl⟩ := chkS_inv h
    exact ss_brk
  | .cnt, c, X, W, st, C, h => by
    obtain ⟨p, rfl⟩ := chkS_inv h
    exact ss_cnt
  | .pas, c, X, W, st, C, h => by
    obtain ⟨p, rfl⟩ := chkS_inv h
    exact ss_pas
theorem sSs : ∀ (a : Ss) {c : SC} {X : Cx} {W : WX} {st : List Stmt}, Dok L c X W → chkSs c a st = true → PSs X st (tSs (sigOf L me) X.mg W a)
  | .nil, c, X, W, st, C, h => by
    rw [chkSs_nil h]
    exact sss_nil
  | .cons a as, c, X, W, st, C, h => by
    obtain ⟨b, bs, rfl, h1, h2⟩ := chkSs_cons h
    exact sss_cons (sS a C h1) (sSs as C h2)
end
end
end DP

/-! DpW: a def by its body. -/
namespace DP
open PySem (Addr sizeLine wpAny model Value Shared Around FuncData BindsTo codeAny Str Paired Expr Stmt Scope World Program)
open PySem.W (Frag)
open L2

def meFrom : Nat → List Bool → List Nat
  | _, [] => []
  | k, true :: bs => k :: meFrom (k + 1) bs
  | k, false :: bs => meFrom (k + 1) bs
theorem meFrom_ge : ∀ {bs : List Bool} {k j : Nat}, j ∈ meFrom k bs → k ≤ j
  | [], k, j, h => by simp [meFrom] at h
  | true :: bs, k, j, h => by
    rcases List.mem_cons.mp (show j ∈ k :: meFrom (k + 1) bs from h) with rfl | h
    · exact Nat.le_refl _
    · exact Nat.le_of_succ_le (meFrom_ge h)
  | false :: bs, k, j, h => Nat.le_of_succ_le (meFrom_ge (show j ∈ meFrom (k + 1) bs from h))
theorem meFrom_nd : ∀ {bs : List Bool} {k : Nat}, (meFrom k bs).Nodup
  | [], k => List.nodup_nil
  | true :: bs, k => List.nodup_cons.mpr ⟨fun h => absurd (meFrom_ge h) (by omega), meFrom_nd⟩
  | false :: bs, k => meFrom_nd (bs := bs)
theorem me_start : ∀ {bs : List Bool} {vs : List V} {σ : St} {k : Nat}, bs.length ≤ vs.length → (∀ j, j < vs.length → σ[k + j]? = (vs[j]?).map some) → Paired (fun (i : Nat) (v : V) => σ[i]? = some (some v)) (meFrom k bs) (pick bs vs)
  | [], vs, σ, k, _, _ => by cases vs <;> exact .nil
  | true :: bs, [], σ, k, h, _ => by simp at h
  | false :: bs, [], σ, k, h, _ => by simp at h
  | true :: bs, v :: vs, σ, k, h, hs => by
    refine .cons (by have := hs 0 (by simp); simpa using this) (me_start (k := k + 1) (by simpa using h) fun j hj => ?_)
    have := hs (j + 1) (by simpa using hj)
    rw [show k + 1 + j = k + (j + 1) by omega, this]; simp
  | false :: bs, v :: vs, σ, k, h, hs => by
    refine me_start (k := k + 1) (by simpa using h) fun j hj => ?_
    have := hs (j + 1) (by simpa using hj)
    rw [show k + 1 + j = k + (j + 1) by omega, this]; simp
theorem Paired.impM {α β : Type} {R R' : α → β → Prop} {l : List α} {m : List β} (h : Paired R l m) (k : ∀ a ∈ l, ∀ b, R a b → R' a b) : Paired R' l m := by
  induction h with
  | nil => exact .nil
  | cons r _ ih => exact .cons (k _ List.mem_cons_self _ r) (ih fun a ha => k a (List.mem_cons_of_mem _ ha))
theorem outs_set {env : Env} {i : Nat} {a : Option D} : ∀ {is : List Nat}, i ∉ is → outsOf (env.set i a) is = outsOf env is
  | [], _ => rfl
  | j :: is, h => by
    have h1 : i ≠ j := fun z => h (by simp [z])
    have h2 : i ∉ is := fun z => h (by simp [z])
    unfold outsOf
    rw [List.getElem?_set_ne h1, outs_set h2]
theorem outs_sim {F : Hp} {σ : St} : ∀ {is : List Nat} {us : List V} {env : Env} {O : Own} {o : List D}, is.Nodup → SimE F env σ O → outsOf env is = some o → Paired (fun (i : Nat) (v : V) => σ[i]? = some (some v)) is us → ∃ Oo Z, RepL F o us Oo ∧ O.Perm (Oo ++ Z)
  | [], _, env, O, o, _, s, e, .nil => by
    cases e
    exact ⟨[], O, .nil, by simp⟩
  | i :: is, u :: us, env, O, o, nd, s, e, .cons p ps => by
    obtain ⟨n1, n2⟩ := List.nodup_cons.mp nd
    unfold outsOf at e
    split at e
    · rename_i d hd
      obtain ⟨v, A, B, k1, k2, k3, k4⟩ := s.take hd
      rw [p] at k1; cases k1
      cases q : outsOf env is with
      | none => rw [q] at e; cases e
      | some o' =>
        rw [q] at e; cases e
        obtain ⟨Oo, Z, h1, h2⟩ := outs_sim n2 k3 (by rw [outs_set n1]; exact q) ps
        exact ⟨A ++ Oo, Z, .cons k2 h1, k4.trans (by rw [List.append_assoc]; exact List.Perm.append_left A h2)⟩
    · cases e
theorem start_sim {F : Hp} : ∀ {ds : List D} {vs : List V} {O : Own} {m : Nat} {l : List String}, RepL F ds vs O → l.length = m → SimE F (ds.map some ++ l.map fun _ => none) (vs.map some ++ List.replicate m none) O
  | [], [], _, m, l, .nil, h => by
    subst h
    induction l with
    | nil => exact .nil
    | cons x l ih => exact .no none ih
  | d :: ds, v :: vs, _, m, l, .cons a b, h => .yes a (start_sim b h)
/-- the local names of a def's scope stand where chk says -/
def lookOk (L : List Ent) (c : SC) : Bool := (c.kws.all fun q => match look L q.1 with | some e => decide (q.2 ∈ e.kws) | none => false) && (c.fns.all fun q => match look L q.1 with | some e => decide (e.ps.length = q.2) | none => false)
theorem lookOk_kw {L : List Ent} {c : SC} (h : lookOk L c = true) : (∀ q ∈ c.kws, ∃ e, look L q.1 = some e ∧ q.2 ∈ e.kws) ∧ ∀ q ∈ c.fns, ∃ e, look L q.1 = some e ∧ e.ps.length = q.2 := by
  unfold lookOk at h
  simp only [Bool.and_eq_true, List.all_eq_true] at h
  refine ⟨fun q hq => ?_, fun q hq => ?_⟩
  · have := h.1 q hq
    split at this
    · rename_i e he; exact ⟨e, he, by simpa using this⟩
    · cases this
  · have := h.2 q hq
    split at this
    · rename_i e he; exact ⟨e, he, by simpa using this⟩
    · cases this
/-- what a def's body needs of the place it stands at -/
structure DefOk (L : List Ent) (c : SC) (fd : FD) (ios : List Bool) (ps : List Str) (scope : Scope) (body : List Stmt) : Prop where
  S : FnScope c.N ps scope
  sc : c.sc = scope
  st : c.st = scope
  len : fd.ps.length = ps.length ∧ c.N.length = fd.ps.length + fd.loc.length ∧ ios.length ≤ fd.ps.length
  lk : lookOk L c = true
  chk : chkSs c fd.body body = true

theorem fnG_of {P : Program} {w : World} {K : Frag} {mg : Str → Option Value} {base : PySem.Heap} {k : Nat} {f : Addr} {name qual : Str} {params : PySem.Arguments} {body : List Stmt} {scope : Scope} {dV kV doc pm cdv ct oc : Value} {an od : Option Addr}
    {osl : Array (Option Value)} {L : List Ent} {c : SC} {fd : FD} {ios : List Bool} {ps : List Str} {sp : FSpec} (lk : K.lookup f = some ⟨oc, od, .func (PySem.W.fnOf name qual params body scope dV kV doc pm an cdv ct), osl⟩) (hcd : PySem.W.codeIn K cdv qual = true)
    (ok : DefOk L c fd ios ps scope body) (wd : Wd L c.gl P w K mg base k) (spec : ∀ ds Qd Rd, ds.length = fd.ps.length → sp ds Qd Rd → wpF (sigOf L (meFrom 0 ios)) fd ds Qd Rd) :
    FnG P w K mg base (k + 1) f (PySem.W.fnOf name qual params body scope dV kV doc pm an cdv ct) ps.length ps (spM mg ps.length ios sp) := by
  have lenSp : ∀ vs H Q E, spM mg ps.length ios sp vs H Q E → vs.length = ps.length := fun vs H Q E ⟨ds, F, O, Qd, Rd, r, _, l, _⟩ => by rw [← r.len]; exact l
  refine ⟨lenSp, fun A outer s H args us vs Q E hgu room e0 bd rv hsp => ?_⟩
  have vl := lenSp _ _ _ _ hsp
  have KI : K.In s.heap := e0.mod.kin.keeps fun b o e => (e0.bs b o e).1
  have lims : s.heap.NoLimit := e0.mod.nolimit.keeps fun b o e => (e0.bs b o e).1
  have kinds : ∀ y ∈ ps.zip us, scope.names.lookup y.1 = some .local ∨ (scope.names.lookup y.1 = some .cell ∧ ((PySem.cellsFrom (s.heap.objs.size + 1) scope.names []).lookup y.1).isSome = true) := fun y hy => by
    obtain ⟨n, v⟩ := y
    exact (ok.S.par n (List.of_mem_zip hy).1).imp id fun q => ⟨q, PySem.W.cellsFrom_some _ _ _ (.inl q)⟩
  refine PySem.codeAny_call_function room.depth (KI _ _ lk) rfl ok.S.co ok.S.gen rfl (PySem.W.codeRec_of KI hcd) (bd _ _ _ _ ?_)
  refine PySem.wpAny_newFunctionEnv_cells ok.S.kind kinds fun env he s1 x => ?_
  subst he
  refine ⟨lims.keeps x.toInCall.keep, PySem.codeAny_func ?_⟩
  let X : Cx := cxOf (L2.CX P w) P w K mg base c.N qual scope f cdv A outer s H E
  have I : Inv X [] (start c.N vs) H s1 := inv_start ok.S room.hd e0 vl rv x
  have rm : Room k X.A := room.deeper _
  let W : WX := fun cls d _ H => E cls d H
  have cok : Cok L c X W := by
    refine ⟨rfl, ok.sc.symm, ok.S.nd, rfl, fun y hy => ?_, hgu, by have := rm.un; omega, takes_of rfl rfl rfl rfl, (lookOk_kw ok.lk).1, (lookOk_kw ok.lk).2, ⟨k, rm, wd⟩⟩
    rw [ok.st] at hy
    exact ⟨hy, .inl rfl⟩
  have bk : X.env.blockKind = .function := by
    show (if scope.kind.isAnnotationScope then _ else scope.kind) = _
    rw [ok.S.kind]; rfl
  have dok : Dok L c X W := ⟨cok, passes_of rfl, bk⟩
  obtain ⟨ds, F, O, Qd, Rd, r, hh, hl, hs, kr, kx⟩ := hsp
  have w0 := spec ds Qd Rd (by rw [hl, ok.len.1]) hs
  have sim : SimE F (startE fd ds) (start c.N vs) O := start_sim r (by rw [ok.len.2.1, ← r.len, hl, ok.len.1]; omega)
  have mePair : Paired (fun (i : Nat) (v : V) => (start c.N vs)[i]? = some (some v)) (meFrom 0 ios) (pick ios vs) := by
    refine me_start (by rw [vl, ← ok.len.1]; exact ok.len.2.2) fun j hj => ?_
    unfold start
    rw [Nat.zero_add, List.getElem?_append_left (by rw [List.length_map]; exact hj), List.getElem?_map]
  let Dn : Ends := { nx := fun _ H' => Q .non H', rt := Q }
  have fin : ∀ {d : D} {env' : Env}, (∃ o, outsOf env' (meFrom 0 ios) = some o ∧ Qd d o) → ∀ {F' : Hp} {Od Oe : Own} {σ' : St} {v : V} {H' : Hp}, Next F O H F' (Od ++ Oe) H' → Rep F' d v Od → SimE F' env' σ' Oe → Mes (meFrom 0 ios) (start c.N vs) σ' → Q v H' := by
    intro d env' ⟨o, e, q⟩ F' Od Oe σ' v H' n rd s' m
    obtain ⟨Oo, Z, h1, h2⟩ := outs_sim meFrom_nd s' e (Paired.impM mePair fun i hi u hu => by rw [m.2 i hi]; exact hu)
    refine kr d o q F' Od Oo v H' ?_ rd h1
    refine (n.perm (O'' := Z ++ (Od ++ Oo)) ?_).drop
    exact (List.Perm.append_left Od (h2.trans List.perm_append_comm)).trans perm3
  have rd : tSs (sigOf L (meFrom 0 ios)) X.mg W fd.body Dn (start c.N vs) H := by
    refine ⟨startE fd ds, F, O, _, sim, hh, w0, ⟨fun env' q F' O' σ' H' n s' m => ?_, fun d env' q F' Od Oe σ' v H' n rd s' m => fin q n rd s' m, fun env' q => q.elim, fun env' q => q.elim, fun x env' q F' O' σ' cls dd H' n s' m rep => kx x q F' O' cls dd H' n rep⟩⟩
    exact fin (d := .non) (Od := []) q n .non s' m
  refine PySem.wpAny_mono ((sSs fd.body dok ok.chk).run [] s1 (start c.N vs) H Dn I rd) (fun fl s' hq => ?_) fun e s' hq => hq
  have out : ∀ {σ' : St} {H' : Hp} {v : V} {u : Value}, Inv X [] σ' H' s' → RelV v u → Q v H' → CE outer P w H s Q u s' := fun {σ' H' v u} J a b => ⟨v, H', J.os, J.bare, J.base, J.hok, a, b⟩
  cases fl with
  | ret u =>
    obtain ⟨v, σ', H', J, a, b⟩ := hq
    exact out J a b
  | next =>
    obtain ⟨σ', H', J, b⟩ := hq
    exact out (v := V.non) (u := Value.none) J rfl b
  | brk => exact (hq.choose_spec.choose_spec.2 : False).elim
  | cont => exact (hq.choose_spec.choose_spec.2 : False).elim
end DP

/-! DpX: the defs of a module, one by one; the end of a law. -/
namespace DP
open PySem (Addr sizeLine wpAny model Value Shared Around FuncData BindsTo codeAny Str Paired Expr Stmt Scope World Program mainGlobals)
open PySem.W (Frag)
open L2

/-- a def of the text stands behind the top by its name -/
def AtK (K : Frag) (nm : Str) (st : Stmt) : Prop := ∃ (f : Addr) (oc : Value) (od : Option Addr) (kV doc pm : Value) (an : Option Addr) (cdv ct : Value) (osl : Array (Option Value)),
  PySem.W.nsIn K mainGlobals nm = some (some (.ref f)) ∧ K.lookup f = some ⟨oc, od, .func (PySem.W.fnOf nm nm (defArgs st) (defBody st) (defScope st) .none kV doc pm an cdv ct), osl⟩ ∧ PySem.W.codeIn K cdv nm = true ∧ PySem.W.keepIn K (.ref f) = true
/-- its parameters are given by position -/
def BindPos (nm : Str) (st : Stmt) (ps : List Str) : Prop := ∀ (kV doc pm : Value) (an : Option Addr) (cdv ct : Value) (us : List Value), us.length = ps.length →
  PySem.bindArgs (PySem.W.fnOf nm nm (defArgs st) (defBody st) (defScope st) .none kV doc pm an cdv ct) ⟨us, []⟩ = pure (ps.zip us)
/-- .. or the last ones by name -/
def BindKw (nm : Str) (st : Stmt) (ps : List String) (kw : Nat × List String) : Prop := ∃ ix, kwIx ps kw.2 kw.1 = some ix ∧ ix.length = ps.length ∧ (∀ j ∈ ix, j < kw.1 + kw.2.length) ∧ ∀ (kV doc pm : Value) (an : Option Addr) (cdv ct : Value) (us ws : List Value), us.length = kw.1 → ws.length = kw.2.length →
  PySem.bindArgs (PySem.W.fnOf nm nm (defArgs st) (defBody st) (defScope st) .none kV doc pm an cdv ct) ⟨us, (kw.2.map Str.ofString).zip ws⟩ = pure ((ps.map Str.ofString).zip (atAll (us ++ ws) ix))

theorem KnE.mono {P : Program} {w : World} {K : Frag} {mg : Str → Option Value} {base : PySem.Heap} {j k : Nat} {e : Ent} (h : KnE P w K mg base j e) (l : j ≤ k) : KnE P w K mg base k e := by
  obtain ⟨a, fd, h1, h2, h3, h4, h5⟩ := h.ok
  exact ⟨⟨a, fd, h1, h2, h3.mono l, h4, h5⟩⟩
theorem Wd.snoc {L : List Ent} {gl : List (String × D)} {P : Program} {w : World} {K : Frag} {mg : Str → Option Value} {base : PySem.Heap} {k : Nat} {e : Ent} (h : Wd L gl P w K mg base k) (q : KnE P w K mg base (k + 1) e) : Wd (L ++ [e]) gl P w K mg base (k + 1) := by
  refine ⟨fun x hx => ?_, h.bn, h.gl⟩
  rcases List.mem_append.mp hx with hx | hx
  · exact (h.kn x hx).mono (Nat.le_succ k)
  · rw [List.mem_singleton.mp hx]; exact q
/-- the next def -/
theorem kn_of {P : Program} {w : World} {K : Frag} {mg : Str → Option Value} {base h : PySem.Heap} {k : Nat} {L : List Ent} {gl : List (String × D)} {c : SC} {fd : FD} {e : Ent} {st : Stmt} (KX : K.In h) (G : h.Ns mainGlobals mg) (hat : AtK K (Str.ofString e.nm) st)
    (hb : BindPos (Str.ofString e.nm) st (e.ps.map Str.ofString)) (hk : ∀ kw ∈ e.kws, BindKw (Str.ofString e.nm) st e.ps kw) (hgl : c.gl = gl) (hps : fd.ps = e.ps) (ok : DefOk L c fd e.ios (e.ps.map Str.ofString) (defScope st) (defBody st)) (wd : Wd L gl P w K mg base k)
    (spec : ∀ ds Qd Rd, ds.length = fd.ps.length → e.sp ds Qd Rd → wpF (sigOf L (meFrom 0 e.ios)) fd ds Qd Rd) : KnE P w K mg base (k + 1) e := by
  obtain ⟨f, oc, od, kV, doc, pm, an, cdv, ct, osl, a1, l1, c1, k1⟩ := hat
  subst hgl
  have F := fnG_of l1 c1 ok wd spec
  rw [List.length_map] at F
  refine ⟨f, _, PySem.W.mg_of KX G a1, k1, F, fun s us hl => .of_eq (hb kV doc pm an cdv ct us (by rw [List.length_map]; exact hl)), fun kw hkw => ?_⟩
  obtain ⟨ix, i1, i2, i3, i4⟩ := hk kw hkw
  exact ⟨ix, i1, i2, i3, fun s us ws l1 l2 => .of_eq (i4 kV doc pm an cdv ct us ws l1 l2)⟩

theorem mem_lk {α β : Type} [BEq α] [LawfulBEq α] {a : α} {b : β} : ∀ {l : List (α × β)}, l.lookup a = some b → (a, b) ∈ l
  | [], h => by cases h
  | (x, y) :: l, h => by
    rw [List.lookup_cons] at h
    cases q : a == x with
    | true =>
      rw [q] at h
      cases h
      rw [eq_of_beq q]
      exact List.mem_cons_self
    | false =>
      rw [q] at h
      exact List.mem_cons_of_mem _ (mem_lk h)
/-- no object of K is a list -/
def noLst (K : Frag) : Prop := ∀ (a : Addr) (o : PySem.Obj), K.lookup a = some o → o.cls ≠ .type "list"
theorem noLst_by {K : Frag} (h : (K.all fun p => !(p.2.cls == .type "list")) = true) : noLst K := fun a o e z => by
  have m : (a, o) ∈ K := mem_lk e
  have := List.all_eq_true.mp h (a, o) m
  simp [z] at this

/-- the head, from the law's promise over data -/
theorem law_callG {P : Program} {w : World} {K : Frag} {mg mb : Str → Option Value} {k n : Nat} {fa a : Addr} {fd : FuncData} {x : Str} {sp : FSpec} {s₁ : Shared} {vs : List Value} {ns : List Int}
    (KI : K.In s₁.heap) (hns : s₁.heap.Ns mainGlobals mg) (hb : s₁.heap.Ns PySem.builtinsNs mb) (hbb : ∀ x : Str, x ≠ "__name__" → mb x = PySem.bootBuiltins x) (hlim : s₁.heap.NoLimit) (hg : s₁.gens = #[])
    (ha : s₁.heap.get? a = some { cls := .type "list", data := .seq vs.toArray }) (hi : PyProof.Rows.IntsAre vs ns) (hl : ns.length ≤ sizeLine) (hr : Room k PySem.callerA) (hnl : noLst K)
    (F : ∀ base : PySem.Heap, K.In base → base.Ns mainGlobals mg → FnG P w K mg base k fa fd 1 [x] (spM mg 1 [] sp)) (hbind : ∀ (s : Shared) (u : Value), BindsTo s fd ⟨[u], []⟩ [(x, u)])
    (hsp : sp [.lst false (ns.map .int)] (fun r _ => r = .bl true) fun _ => False) :
    codeAny (model P w) PySem.callerA (.call (.ref fa) ⟨[.ref a], []⟩) (fun r s' => r = .ok (.ret (.bool true)) ∧ PySem.OldK s₁.heap s'.heap ∧ s'.os = s₁.os ∧ PyProof.Rows.AllBare s'.gens) s₁ := by
  have rv := vals_ints hi
  have hk : K.lookup a = none := by
    cases q : K.lookup a with
    | none => rfl
    | some o =>
      have e := KI a o q
      rw [ha] at e
      cases e
      exact absurd rfl (hnl a _ q)
  obtain ⟨ob, hob⟩ : ∃ ob : PySem.Obj, ob = { cls := .type "list", data := .seq vs.toArray } := ⟨_, rfl⟩
  obtain ⟨H, hH⟩ : ∃ H : Hp, H = fun b => if b = a then some (.frz ob (.lst (ns.map V.int))) else none := ⟨_, rfl⟩
  have Ha : H a = some (.frz ob (.lst (ns.map V.int))) := by rw [hH]; exact if_pos rfl
  have Hb : ∀ b, b ≠ a → H b = none := fun b hb => by rw [hH]; exact if_neg hb
  have one : ∀ {b : Addr} {u : HO}, H b = some u → b = a ∧ u = .frz ob (.lst (ns.map V.int)) := fun {b u} e => by
    by_cases q : b = a
    · subst q; rw [Ha] at e; cases e; exact ⟨rfl, rfl⟩
    · rw [Hb b q] at e; cases e
  have hok : HOk P w H s₁.heap := fun b u e => by
    obtain ⟨rfl, rfl⟩ := one e
    subst hob
    exact ⟨ha, by rw [List.length_map]; exact hl, vs, _, rv, ha⟩
  have nd : ∀ {b : Addr} {o : PySem.Obj} {es : Array PySem.DictEntry} {ep : Nat}, s₁.heap.get? b = some o → o.data = .dict es ep → H b = none := fun {b o es ep} e d => by
    by_cases q : b = a
    · subst q
      rw [ha] at e; cases e
      have d' : PySem.Data.seq vs.toArray _ = PySem.Data.dict es ep := d
      cases d'
    · exact Hb b q
  have ns1 : ∀ {b : Addr} {m : Str → Option Value}, s₁.heap.Ns b m → (hidT s₁.heap H).Ns b m := fun {b m} ⟨o, es, ep, e, d, r⟩ => ⟨o, es, ep, hidT_get e (nd e d), d, r⟩
  have KB : K.In (hidT s₁.heap H) := fun b o e => hidT_get (KI b o e) (Hb b fun q => by rw [q, hk] at e; cases e)
  have md : Mod K mg (hidT s₁.heap H) := ⟨KB, ns1 hns, ⟨mb, ns1 hb, hbb⟩, hlim.imp fun mc ⟨h1, h2⟩ => ⟨ns1 h1, h2⟩⟩
  have e0 : Env0 P w K mg (hidT s₁.heap H) PySem.callerA [] s₁ H := ⟨rfl, md, fun b o e => of_hidT e, Nat.le_of_eq (hidT_size _ _), trivial, fun b hb => absurd (show b ∈ ([] : List Addr) from hb) (by simp), hok, .of_eq hg⟩
  have rep : RepL H [.lst false (ns.map .int)] [.ref a] [] := RepL.cons (O1 := []) (O2 := []) (.fro (.inr ⟨ob, Ha⟩) (repL_ints ns)) .nil
  have hd : Held H [] H := ⟨Sub.refl _, fun p hp => by simp at hp, List.nodup_nil, fun b hb => by simp at hb⟩
  have wish : spM mg 1 [] sp [.ref a] H (fun v _ => v = .bl true) (fun _ _ _ => False) := by
    refine ⟨_, H, [], _, _, rep, hd, rfl, hsp, fun r outs hq F' Or Oo v H' n3 r3 _ => ?_, fun x hx => hx.elim⟩
    subst hq
    exact r3.blI.1
  refine PySem.codeAny_mono ((F _ KB (ns1 hns)).run PySem.callerA [] s₁ H ⟨[.ref a], []⟩ [.ref a] [.ref a] _ _ rfl hr e0 (hbind s₁ (.ref a)) (.cons rfl .nil) wish) fun r s' h => ?_
  cases r with
  | error e =>
    obtain ⟨_, _, _, _, _, _, _, _, _, _, _, _, z⟩ := h
    exact z.elim
  | ok fl =>
    cases fl with
    | next => exact False.elim h
    | brk => exact False.elim h
    | cont => exact False.elim h
    | ret u =>
      obtain ⟨v, H', os, bare, un, hok', r', q⟩ := h
      have q' : v = .bl true := q
      subst q'
      obtain rfl : u = Value.bool true := r'
      refine ⟨rfl, PySem.OldK.of_keep fun b o e => ?_, os, bare⟩
      by_cases qb : b = a
      · subst qb
        have z := un.frzs b ob _ Ha
        obtain ⟨e2, _⟩ := hok' b _ z
        rw [ha] at e; cases e
        rw [← hob]; exact e2
      · exact un.keep b o e (Hb b qb) (fun z => absurd (show b ∈ ([] : List Addr) from z) (by simp)) (by simp)
/-- what is had of a law's module -/
def LawG (P : Program) (w : World) (K : Frag) (mg : Str → Option Value) (k n : Nat) (fa : Addr) : Prop := noLst K ∧ ∃ (fd : FuncData) (x : Str) (sp : FSpec), (∀ (s : Shared) (u : Value), BindsTo s fd ⟨[u], []⟩ [(x, u)]) ∧
  (∀ base : PySem.Heap, K.In base → base.Ns mainGlobals mg → FnG P w K mg base k fa fd 1 [x] (spM mg 1 [] sp)) ∧
  ∀ ns : List Int, ns.length ≤ n → (∀ z ∈ ns, PySem.Builtin.Int.intBits z ≤ 1048576) → sp [.lst false (ns.map .int)] (fun r _ => r = .bl true) fun _ => False
theorem walk_ofG {l : PySem.W.OpenLaw} {n k : Nat} {q : Program} {loose : List Str} {XP : (Str → Option Value) → PySem.Heap → Prop} {YP : World → PySem.Heap → Prop} {d : PySem.DefRec} {K : PySem.Params → Frag}
    (hn : l.most = some n) (hn2 : n ≤ sizeLine) (hdf : d.params.defaults = []) (hr : Room k PySem.callerA) (hY : ∀ (w : World) (h : PySem.Heap), YP w h → (K w.params).In h)
    (F : ∀ (w : World) (mg : Str → Option Value) (fa : Addr) (h : PySem.Heap), (K w.params).In h → h.Ns mainGlobals mg → mg d.name = some (.ref fa) → LawG l.prog w (K w.params) mg k n fa) :
    PySem.W.WalkO q loose XP YP l.row.toRowW d [] (fun f vs => PySem.call f vs) := by
  refine Att.attach_callB hn hdf fun w s₀ s₁ mg mb fa o pm cd doc a vs ns G Y ho hd hcd hmg hobj hints hlen hbits hg => ?_
  have KI := hY w _ Y
  obtain ⟨hnl, fd, x, sp, hb, hF, hs⟩ := F w mg fa _ KI G.T.g hmg
  exact law_callG (n := n) KI G.T.g G.T.b G.T.builtins G.T.nolimit hg hobj hints (Nat.le_trans hlen hn2) hr hnl hF hb (hs ns hlen hbits)
/-- the law itself, the last def -/
theorem law_of {P : Program} {w : World} {K : Frag} {mg : Str → Option Value} {h : PySem.Heap} {k n : Nat} {L : List Ent} {gl : List (String × D)} {c : SC} {fd : FD} {fa : Addr} {nm : Str} {x : String} {st : Stmt} {sp : FSpec} (hnl : noLst K) (KX : K.In h) (G : h.Ns mainGlobals mg) (hfa : mg nm = some (.ref fa))
    (hat : AtK K nm st) (hb : BindPos nm st [Str.ofString x]) (hgl : c.gl = gl) (ok : DefOk L c fd [] [Str.ofString x] (defScope st) (defBody st)) (wd : ∀ base : PySem.Heap, K.In base → base.Ns mainGlobals mg → Wd L gl P w K mg base k)
    (spec : ∀ ds Qd Rd, ds.length = fd.ps.length → sp ds Qd Rd → wpF (sigOf L []) fd ds Qd Rd)
    (hs : ∀ ns : List Int, ns.length ≤ n → (∀ z ∈ ns, PySem.Builtin.Int.intBits z ≤ 1048576) → sp [.lst false (ns.map .int)] (fun r _ => r = .bl true) fun _ => False) : LawG P w K mg (k + 1) n fa := by
  obtain ⟨f, oc, od, kV, doc, pm, an, cdv, ct, osl, a1, l1, c1, k1⟩ := hat
  have e := hfa.symm.trans (PySem.W.mg_of KX G a1)
  cases e
  subst hgl
  exact ⟨hnl, _, Str.ofString x, sp, fun s u => .of_eq (hb kV doc pm an cdv ct [u] rfl), fun base h1 h2 => fnG_of l1 c1 ok (wd base h1 h2) spec, hs⟩
end DP

/-! DpY: plain facts for the defs' proofs over data. -/
namespace DP
open PySem (sizeLine Str)

/-- a loop, by what holds ahead of the items that are left -/
theorem forD {items : List D} {env : Env} {step : D → (Env → Prop) → Env → Prop} {fin : Env → Prop} (Inv : List D → Env → Prop) (h0 : Inv items env) (hd : ∀ e, Inv [] e → fin e)
    (hs : ∀ x xs e (k : Env → Prop), Inv (x :: xs) e → (∀ e', Inv xs e' → k e') → step x k e) : items.foldr step fin env := by
  induction items generalizing env with
  | nil => exact hd env h0
  | cons x xs ih => exact hs x xs env _ h0 fun e' h => ih h
/-- .. with nothing else of what is behind it in sight -/
theorem forDK {Γ : Sig} {t : T} {b : Ss} {K : Con} {items : List D} {env : Env} (Inv : List D → Env → Prop) (h0 : Inv items env) (hd : ∀ e, Inv [] e → K.nx e)
    (hs : ∀ x xs e (k bk : Env → Prop), Inv (x :: xs) e → (∀ e', Inv xs e' → k e') → (∀ e', K.nx e' → bk e') → setT Γ.me t x e fun e2 => wpSs Γ b e2 { nx := k, rt := K.rt, bk := bk, ct := k, ex := K.ex }) : items.foldr (forStep Γ t b K) K.nx env :=
  forD Inv h0 hd fun x xs e k h hk => hs x xs e k K.nx h hk fun _ h => h
/-- a comprehension -/
theorem lcD {items : List D} {env : Env} {acc : List D} {step : D → (List D → Env → Prop) → List D → Env → Prop} {fin : List D → Env → Prop} (Inv : List D → List D → Env → Prop) (h0 : Inv items acc env) (hd : ∀ a e, Inv [] a e → fin a e)
    (hs : ∀ x xs a e (k : List D → Env → Prop), Inv (x :: xs) a e → (∀ a' e', Inv xs a' e' → k a' e') → step x k a e) : items.foldr step fin acc env := by
  induction items generalizing env acc with
  | nil => exact hd acc env h0
  | cons x xs ih => exact hs x xs acc env _ h0 fun a' e' h => ih h
/-- what is known of a callee -/
structure Has (Γ : Sig) (f : String) (ios : List Bool) (sp : FSpec) : Prop where
  sp : Γ.sp f = sp
  io : Γ.ios f = ios

/-! ### equality of data -/
mutual
theorem eqv_refl : ∀ d : D, PySem.PyData.eqv d.py d.py = true
  | .non => rfl
  | .bl b => by simp [D.py, PySem.PyData.eqv]
  | .int i => by simp [D.py, PySem.PyData.eqv]
  | .str s => by simp [D.py, PySem.PyData.eqv]
  | .tup xs => by simp only [D.py, PySem.PyData.eqv, eqvL_refl xs]
  | .lst _ xs => by simp only [D.py, PySem.PyData.eqv, eqvL_refl xs]
theorem eqvL_refl : ∀ ds : List D, PySem.PyData.eqvAll (pyL ds) (pyL ds) = true
  | [] => rfl
  | x :: xs => by simp only [pyL, PySem.PyData.eqvAll, eqv_refl x, eqvL_refl xs, Bool.and_self]
end
mutual
/-- no text in it; its depth is at most n -/
def plainD : Nat → D → Bool
  | _, .non => true
  | _, .bl _ => true
  | _, .int _ => true
  | _, .str _ => false
  | n + 1, .tup xs => plainL n xs
  | n + 1, .lst _ xs => plainL n xs
  | 0, .tup _ => false
  | 0, .lst _ _ => false
def plainL : Nat → List D → Bool
  | _, [] => true
  | n, x :: xs => plainD n x && plainL n xs
end
mutual
theorem plain_lay : ∀ (d : D) {n : Nat}, plainD n d = true → d.py.canLay0 = true ∧ d.py.depth ≤ n
  | .non, _, _ => ⟨rfl, Nat.zero_le _⟩
  | .bl _, _, _ => ⟨rfl, Nat.zero_le _⟩
  | .int _, _, _ => ⟨rfl, Nat.zero_le _⟩
  | .str _, n, h => by cases n <;> simp [plainD] at h
  | .tup xs, 0, h => by simp [plainD] at h
  | .lst _ xs, 0, h => by simp [plainD] at h
  | .tup xs, n + 1, h => by
    have q := plainL_lay xs (n := n) (by simpa [plainD] using h)
    exact ⟨by simp only [D.py, PySem.PyData.canLay0, q.1], by simp only [D.py, PySem.PyData.depth]; omega⟩
  | .lst _ xs, n + 1, h => by
    have q := plainL_lay xs (n := n) (by simpa [plainD] using h)
    exact ⟨by simp only [D.py, PySem.PyData.canLay0, q.1], by simp only [D.py, PySem.PyData.depth]; omega⟩
theorem plainL_lay : ∀ (ds : List D) {n : Nat}, plainL n ds = true → PySem.PyData.canLayAll0 (pyL ds) = true ∧ PySem.PyData.depthAll (pyL ds) ≤ n
  | [], _, _ => ⟨rfl, Nat.zero_le _⟩
  | x :: xs, n, h => by
    simp only [plainL, Bool.and_eq_true] at h
    have q1 := plain_lay x h.1
    have q2 := plainL_lay xs h.2
    exact ⟨by simp only [pyL, PySem.PyData.canLayAll0, q1.1, q2.1, Bool.and_self], by simp only [pyL, PySem.PyData.depthAll]; omega⟩
end
theorem shaped_of {d : D} (h : plainD 64 d = true) : PySem.SeqAt.shaped d.py = true := by
  have q := plain_lay d h
  unfold PySem.SeqAt.shaped
  rw [q.1, decide_eq_true q.2]; rfl
theorem eq_same {x y : D} {Q : Bool → Prop} (e : x.py = y.py) (h : plainD 64 x = true) (q : Q true) : eqD x y Q := by
  have g : eqG x y Q := by
    unfold eqG
    rw [← e]
    exact ⟨shaped_of h, shaped_of h, by rw [eqv_refl]; exact q⟩
  cases x <;> first | exact g | simp [plainD] at h
theorem eq_int (i j : Int) (Q : Bool → Prop) : eqD (.int i) (.int j) Q = Q (decide (i = j)) := by
  show eqG (.int i) (.int j) Q = _
  unfold eqG
  have h : PySem.PyData.eqv (D.int i).py (D.int j).py = decide (i = j) := by simp [D.py, PySem.PyData.eqv, Bool.beq_eq_decide_eq]
  rw [h]
  exact propext ⟨fun q => q.2.2, fun q => ⟨shaped_of rfl, shaped_of rfl, q⟩⟩
theorem eq_bl (i j : Bool) (Q : Bool → Prop) : eqD (.bl i) (.bl j) Q = Q (decide (i = j)) := by
  show eqG (.bl i) (.bl j) Q = _
  unfold eqG
  have h : PySem.PyData.eqv (D.bl i).py (D.bl j).py = decide (i = j) := by simp [D.py, PySem.PyData.eqv, Bool.beq_eq_decide_eq]
  rw [h]
  exact propext ⟨fun q => q.2.2, fun q => ⟨shaped_of rfl, shaped_of rfl, q⟩⟩
theorem eq_str (i j : Str) (Q : Bool → Prop) : eqD (.str i) (.str j) Q = Q (decide (i = j)) := rfl
/-- data of other kinds: unequal -/
theorem eq_not {x y : D} {Q : Bool → Prop} (hx : plainD 64 x = true) (hy : plainD 64 y = true) (e : PySem.PyData.eqv x.py y.py = false) (q : Q false) : eqD x y Q := by
  have g : eqG x y Q := ⟨shaped_of hx, shaped_of hy, by rw [e]; exact q⟩
  cases x <;> first | exact g | simp [plainD] at hx
theorem cmp_same {x y : D} {Q : Bool → Prop} (e : x.py = y.py) (h : plainD 64 x = true) (q : Q true) : cmpD .eq x y Q := by
  show eqD x y Q
  exact eq_same e h q
theorem cmp_nsame {x y : D} {Q : Bool → Prop} (e : x.py = y.py) (h : plainD 64 x = true) (q : Q false) : cmpD .ne x y Q := by
  have g : eqD x y fun b => Q (!b) := eq_same e h q
  cases x <;> cases y <;> exact g
/-! ### repr -/
mutual
/-- ints of at most a thousand bits, no text -/
def smallD : D → Prop
  | .int i => i.natAbs < 2 ^ 1000
  | .str _ => False
  | .tup xs => smallL xs
  | .lst _ xs => smallL xs
  | .non => True
  | .bl _ => True
def smallL : List D → Prop
  | [] => True
  | x :: xs => smallD x ∧ smallL xs
end
mutual
def szN : D → Nat
  | .tup xs => szL xs + 1
  | .lst _ xs => szL xs + 1
  | .non => 1
  | .bl _ => 1
  | .int _ => 1
  | .str _ => 1
def szL : List D → Nat
  | [] => 0
  | x :: xs => szN x + szL xs
end
theorem log_small {i : Int} (h : i.natAbs < 2 ^ 1000) : i.natAbs.log2 < 1920 := Nat.lt_of_lt_of_le (PySem.Flt.log2_lt_of (by decide) h) (by decide)
theorem listText_len (ts : List Str) : (PySem.listText ts).length ≤ 2 + PySem.piled ts := by
  cases ts with
  | nil => rw [PySem.listText_nil]; decide
  | cons t r =>
    unfold PySem.listText
    rw [PySem.strLen_append]
    show (PySem.textFrom 1 _ r).length + 1 ≤ _
    rw [PySem.textFrom_length_pos r 1 _ (by decide), PySem.strLen_append, PySem.strLen_append, PySem.piled_cons]
    have e1 : ((if (0 : Nat) > 0 then ", " else "" : String) : Str).length = 0 := rfl
    have e2 : (("[" : String) : Str).length = 1 := rfl
    rw [e1, e2]
    omega
theorem tupleText_len (ts : List Str) : (PySem.tupleText ts).length ≤ 4 + PySem.piled ts := by
  unfold PySem.tupleText
  rw [PySem.strLen_append, PySem.strLen_append]
  have e1 : (("(" : String) : Str).length = 1 := rfl
  have e2 : ((if ts.length == 1 then ",)" else ")" : String) : Str).length ≤ 2 := by split <;> decide
  have e3 : (Str.join ", " ts).length ≤ PySem.piled ts := by
    cases ts with
    | nil => exact Nat.le_refl _
    | cons t r => have := PySem.join_length_add (t :: r) (by simp); omega
  omega
mutual
theorem shown_le : ∀ d : D, smallD d → d.py.showable = true ∧ d.py.shown.length + 8 ≤ 2000 * szN d
  | .non, _ => ⟨rfl, by decide⟩
  | .bl b, _ => ⟨rfl, by cases b <;> decide⟩
  | .int i, h => by
    have l := log_small h
    refine ⟨by simp only [D.py, PySem.PyData.showable, decide_eq_true l], ?_⟩
    have : (PySem.Str.ofString (toString i)).length ≤ 1921 := by
      rw [PySem.ofString_length]
      exact PySem.int_text_length_le (k := 1920) (by decide) l
    show (PySem.Str.ofString (toString i)).length + 8 ≤ 2000 * 1
    omega
  | .str s, h => by simp only [smallD] at h
  | .tup xs, h => by
    obtain ⟨h1, h2⟩ := shownL_le xs (by simpa only [smallD] using h)
    refine ⟨by simp only [D.py, PySem.PyData.showable, h1], ?_⟩
    simp only [D.py, PySem.PyData.shown, szN]
    have := tupleText_len (PySem.PyData.shownAll (pyL xs))
    omega
  | .lst _ xs, h => by
    obtain ⟨h1, h2⟩ := shownL_le xs (by simpa only [smallD] using h)
    refine ⟨by simp only [D.py, PySem.PyData.showable, h1], ?_⟩
    simp only [D.py, PySem.PyData.shown, szN]
    have := listText_len (PySem.PyData.shownAll (pyL xs))
    omega
theorem shownL_le : ∀ ds : List D, smallL ds → PySem.PyData.showableAll (pyL ds) = true ∧ PySem.piled (PySem.PyData.shownAll (pyL ds)) ≤ 2000 * szL ds
  | [], _ => ⟨rfl, Nat.le_refl _⟩
  | x :: xs, h => by
    simp only [smallL] at h
    obtain ⟨h1, h2⟩ := shown_le x h.1
    obtain ⟨h3, h4⟩ := shownL_le xs h.2
    refine ⟨by simp only [pyL, PySem.PyData.showableAll, h1, h3, Bool.and_self], ?_⟩
    simp only [pyL, PySem.PyData.shownAll, PySem.piled_cons, szL]
    omega
end
theorem repr_ok {d : D} {Q : D → Prop} (h : smallD d) (p : plainD 64 d = true) (z : szN d ≤ 8000) (q : Q (.str d.py.shown)) : biD .repr [d] Q := by
  obtain ⟨h1, h2⟩ := shown_le d h
  refine ⟨h1, (plain_lay d p).2, ?_, q⟩
  have : (PySem.sizeLine : Nat) = 16777216 := by decide
  omega
/-! ### bounds -/
theorem pow_by {i j : Int} (a : Nat) (h0 : 0 < a) (h : i.natAbs < 2 ^ a) (hj : 0 ≤ j) (hb : (a : Int) * j ≤ 2 ^ 27) : PowOk i j := by
  refine ⟨hj, ?_⟩
  have h1 := PySem.Flt.log2_lt_of h0 h
  have h2 : PySem.Builtin.Int.intBits i ≤ a := by
    unfold PySem.Builtin.Int.intBits
    split <;> omega
  have h3 : (PySem.Builtin.Int.intBits i : Int) ≤ a := by omega
  exact Int.le_trans (Int.mul_le_mul_of_nonneg_right h3 hj) hb
theorem div_by {i j : Int} (h : 0 < j) (hj : j < 2 ^ 300) : L2.CDivW i j := L2.wide_div (b := 300) h (by omega) (by decide) (by decide)
theorem mul_by {i j : Int} (a b : Nat) (ha : i.natAbs < 2 ^ a) (hb : j.natAbs < 2 ^ b) (h0 : 0 < a) (h1 : 0 < b) (h : a + b ≤ 1000000) : L2.CMulW i j := L2.wide_mul ha hb h0 h1 h
theorem atI_in {α : Type} {xs : List α} {i : Int} {P : α → Prop} (h0 : 0 ≤ i) (h1 : i < xs.length) (h : ∀ x ∈ xs, P x) : ∃ v, L2.atI xs i = some v ∧ P v := by
  have hn : i.toNat < xs.length := by omega
  refine ⟨xs[i.toNat], ?_, h _ (List.getElem_mem hn)⟩
  unfold L2.atI L2.ixN
  rw [if_pos h0, if_pos h1]
  simp [hn]
/-! ### lists of ints -/
def IL (xs : List Int) : List D := xs.map .int
theorem IL_fz (xs : List Int) : fzL (IL xs) = IL xs := by
  induction xs with
  | nil => rfl
  | cons x xs ih => show D.fz _ :: fzL (IL xs) = _; rw [ih]; rfl
theorem IL_isFz (xs : List Int) : isFzL (IL xs) = true := by
  induction xs with
  | nil => rfl
  | cons x xs ih => show (D.isFz _ && isFzL (IL xs)) = true; rw [ih]; rfl
theorem IL_plain (xs : List Int) (n : Nat) : plainL n (IL xs) = true := by
  induction xs with
  | nil => rfl
  | cons x xs ih =>
    show (plainD n (.int x) && plainL n (IL xs)) = true
    rw [ih]; cases n <;> rfl
theorem IL_len (xs : List Int) : (IL xs).length = xs.length := List.length_map _
theorem atI_map {α β : Type} (f : α → β) (xs : List α) (i : Int) : L2.atI (xs.map f) i = (L2.atI xs i).map f := by
  unfold L2.atI
  rw [List.length_map]
  cases L2.ixN xs.length i with
  | none => rfl
  | some j => simp
theorem IL_at {xs : List Int} {i : Int} {v : Int} (h : L2.atI xs i = some v) : L2.atI (IL xs) i = some (.int v) := by
  unfold IL
  rw [atI_map, h]; rfl
theorem IL_cut (xs : List Int) (lo hi : Option Int) : ∃ l, cutD (IL xs) lo hi = IL l ∧ l.length ≤ xs.length ∧ ∀ x ∈ l, x ∈ xs := by
  refine ⟨(xs.drop (HT.sIx xs.length 0 lo)).take (HT.sIx xs.length xs.length hi - HT.sIx xs.length 0 lo), ?_, ?_, fun x hx => List.mem_of_mem_drop (List.mem_of_mem_take hx)⟩
  · unfold cutD IL
    rw [List.length_map, List.map_take, List.map_drop]
  · rw [List.length_take, List.length_drop]; omega
theorem IL_app (xs : List Int) (v : Int) : IL xs ++ [.int v] = IL (xs ++ [v]) := by unfold IL; rw [List.map_append]; rfl
theorem IL_nil : IL [] = [] := rfl
theorem eq_nil {o p : Bool} {xs : List Int} {Q : Bool → Prop} : eqD (.lst o (IL xs)) (.lst p []) Q = Q xs.isEmpty := by
  show eqG _ _ _ = _
  unfold eqG
  have h : PySem.PyData.eqv (D.lst o (IL xs)).py (D.lst p []).py = xs.isEmpty := by
    cases xs with
    | nil => rfl
    | cons x xs => simp only [D.py, PySem.PyData.eqv]; rfl
  rw [h]
  exact propext ⟨fun q => q.2.2, fun q => ⟨shaped_of (by cases o <;> exact IL_plain xs 63), shaped_of rfl, q⟩⟩
theorem at_last {α : Type} {xs : List α} {x : α} : L2.atI (xs ++ [x]) (-1) = some x := by
  unfold L2.atI L2.ixN
  have h1 : ¬ (0 : Int) ≤ -1 := by decide
  rw [if_neg h1, if_pos (by simp; omega)]
  have h2 : (-1 + ((xs ++ [x]).length : Int)).toNat = xs.length := by simp; omega
  show (some _).bind _ = _
  rw [h2]
  simp
theorem ix_last {n : Nat} : L2.ixN (n + 1) (-1) = some n := by
  unfold L2.ixN
  have h1 : ¬ (0 : Int) ≤ -1 := by decide
  rw [if_neg h1, if_pos (by omega)]
  congr 1
  omega
theorem set_last {α : Type} {xs : List α} {x y : α} : (xs ++ [x]).set xs.length y = xs ++ [y] := by
  rw [List.set_append_right _ _ (Nat.le_refl _)]; simp
theorem IL_snoc (xs : List Int) (v : Int) : IL (xs ++ [v]) = IL xs ++ [.int v] := by unfold IL; rw [List.map_append]; rfl
theorem IL_cons (x : Int) (xs : List Int) : IL (x :: xs) = .int x :: IL xs := rfl
theorem atI_ex {α : Type} {xs : List α} {i : Int} (h0 : 0 ≤ i) (h1 : i < xs.length) : ∃ v, L2.atI xs i = some v ∧ v ∈ xs := by
  have hn : i.toNat < xs.length := by omega
  refine ⟨xs[i.toNat], ?_, List.getElem_mem hn⟩
  unfold L2.atI L2.ixN
  rw [if_pos h0, if_pos h1]
  simp [hn]
end DP

/-! DpZ: the computation rules of wp over data (printed by wip/mkz.py). -/
namespace DP
open PySem (sizeLine Str)

theorem z_get0 {d : D} {env : Env} {Q : D → Prop} : get (some d :: env) 0 Q = Q d := rfl
theorem z_getS {o : Option D} {env : Env} {n : Nat} {Q : D → Prop} : get (o :: env) (n + 1) Q = get env n Q := rfl
theorem z_borV {i : Nat} {w : KD → Prop} {env : Env} {Q : KD} : bor (.var i) w env Q = get env i fun d => Q d env := rfl
theorem z_stillV {i : Nat} {x : D} {env : Env} : still (.var i) x env = (env[i]? = some (some x)) := rfl
theorem z_stillsV {i : Nat} {as : Es} {x : D} {xs : List D} {env : Env} : stills (.cons (.var i) as) (x :: xs) env = (env[i]? = some (some x) ∧ stills as xs env) := rfl
theorem z_stillsN {env : Env} : stills .nil [] env = True := rfl
theorem z_shareV {i : Nat} {x el : D} {env : Env} : shareAt (.var i) x el env = if el.isFz then env else env.set i (some x.fz) := rfl
theorem z_bor_con (d : D) {w : KD → Prop} {env : Env} {Q : KD} : bor (.con d) w env Q = w Q := rfl
theorem z_still_con (d : D) {y : D} {env : Env} : still (.con d) y env = True := rfl
theorem z_stills_con (d : D) {es : Es} {y : D} {ys : List D} {env : Env} : stills (.cons (.con d) es) (y :: ys) env = stills es ys env := propext ⟨fun h => h.2, fun h => ⟨trivial, h⟩⟩
theorem z_share_con (d : D) {y el : D} {env : Env} : shareAt (.con d) y el env = env := rfl
theorem z_bor_glo (x : String) (d : D) {w : KD → Prop} {env : Env} {Q : KD} : bor (.glo x d) w env Q = w Q := rfl
theorem z_still_glo (x : String) (d : D) {y : D} {env : Env} : still (.glo x d) y env = True := rfl
theorem z_stills_glo (x : String) (d : D) {es : Es} {y : D} {ys : List D} {env : Env} : stills (.cons (.glo x d) es) (y :: ys) env = stills es ys env := propext ⟨fun h => h.2, fun h => ⟨trivial, h⟩⟩
theorem z_share_glo (x : String) (d : D) {y el : D} {env : Env} : shareAt (.glo x d) y el env = env := rfl
theorem z_bor_bin (o : Op) (a b : E) {w : KD → Prop} {env : Env} {Q : KD} : bor (.bin o a b) w env Q = w Q := rfl
theorem z_still_bin (o : Op) (a b : E) {y : D} {env : Env} : still (.bin o a b) y env = True := rfl
theorem z_stills_bin (o : Op) (a b : E) {es : Es} {y : D} {ys : List D} {env : Env} : stills (.cons (.bin o a b) es) (y :: ys) env = stills es ys env := propext ⟨fun h => h.2, fun h => ⟨trivial, h⟩⟩
theorem z_share_bin (o : Op) (a b : E) {y el : D} {env : Env} : shareAt (.bin o a b) y el env = env := rfl
theorem z_bor_neg (a : E) {w : KD → Prop} {env : Env} {Q : KD} : bor (.neg a) w env Q = w Q := rfl
theorem z_still_neg (a : E) {y : D} {env : Env} : still (.neg a) y env = True := rfl
theorem z_stills_neg (a : E) {es : Es} {y : D} {ys : List D} {env : Env} : stills (.cons (.neg a) es) (y :: ys) env = stills es ys env := propext ⟨fun h => h.2, fun h => ⟨trivial, h⟩⟩
theorem z_share_neg (a : E) {y el : D} {env : Env} : shareAt (.neg a) y el env = env := rfl
theorem z_bor_nt (a : E) {w : KD → Prop} {env : Env} {Q : KD} : bor (.nt a) w env Q = w Q := rfl
theorem z_still_nt (a : E) {y : D} {env : Env} : still (.nt a) y env = True := rfl
theorem z_stills_nt (a : E) {es : Es} {y : D} {ys : List D} {env : Env} : stills (.cons (.nt a) es) (y :: ys) env = stills es ys env := propext ⟨fun h => h.2, fun h => ⟨trivial, h⟩⟩
theorem z_share_nt (a : E) {y el : D} {env : Env} : shareAt (.nt a) y el env = env := rfl
theorem z_bor_bo (k : Bool) (as : Es) {w : KD → Prop} {env : Env} {Q : KD} : bor (.bo k as) w env Q = w Q := rfl
theorem z_still_bo (k : Bool) (as : Es) {y : D} {env : Env} : still (.bo k as) y env = True := rfl
theorem z_stills_bo (k : Bool) (as : Es) {es : Es} {y : D} {ys : List D} {env : Env} : stills (.cons (.bo k as) es) (y :: ys) env = stills es ys env := propext ⟨fun h => h.2, fun h => ⟨trivial, h⟩⟩
theorem z_share_bo (k : Bool) (as : Es) {y el : D} {env : Env} : shareAt (.bo k as) y el env = env := rfl
theorem z_bor_cmp (o : CO) (a b : E) {w : KD → Prop} {env : Env} {Q : KD} : bor (.cmp o a b) w env Q = w Q := rfl
theorem z_still_cmp (o : CO) (a b : E) {y : D} {env : Env} : still (.cmp o a b) y env = True := rfl
theorem z_stills_cmp (o : CO) (a b : E) {es : Es} {y : D} {ys : List D} {env : Env} : stills (.cons (.cmp o a b) es) (y :: ys) env = stills es ys env := propext ⟨fun h => h.2, fun h => ⟨trivial, h⟩⟩
theorem z_share_cmp (o : CO) (a b : E) {y el : D} {env : Env} : shareAt (.cmp o a b) y el env = env := rfl
theorem z_bor_chn (o p : CO) (a b c : E) {w : KD → Prop} {env : Env} {Q : KD} : bor (.chn o p a b c) w env Q = w Q := rfl
theorem z_still_chn (o p : CO) (a b c : E) {y : D} {env : Env} : still (.chn o p a b c) y env = True := rfl
theorem z_stills_chn (o p : CO) (a b c : E) {es : Es} {y : D} {ys : List D} {env : Env} : stills (.cons (.chn o p a b c) es) (y :: ys) env = stills es ys env := propext ⟨fun h => h.2, fun h => ⟨trivial, h⟩⟩
theorem z_share_chn (o p : CO) (a b c : E) {y el : D} {env : Env} : shareAt (.chn o p a b c) y el env = env := rfl
theorem z_bor_ife (c a b : E) {w : KD → Prop} {env : Env} {Q : KD} : bor (.ife c a b) w env Q = w Q := rfl
theorem z_still_ife (c a b : E) {y : D} {env : Env} : still (.ife c a b) y env = True := rfl
theorem z_stills_ife (c a b : E) {es : Es} {y : D} {ys : List D} {env : Env} : stills (.cons (.ife c a b) es) (y :: ys) env = stills es ys env := propext ⟨fun h => h.2, fun h => ⟨trivial, h⟩⟩
theorem z_share_ife (c a b : E) {y el : D} {env : Env} : shareAt (.ife c a b) y el env = env := rfl
theorem z_bor_call (f : String) (as : Es) {w : KD → Prop} {env : Env} {Q : KD} : bor (.call f as) w env Q = w Q := rfl
theorem z_still_call (f : String) (as : Es) {y : D} {env : Env} : still (.call f as) y env = True := rfl
theorem z_stills_call (f : String) (as : Es) {es : Es} {y : D} {ys : List D} {env : Env} : stills (.cons (.call f as) es) (y :: ys) env = stills es ys env := propext ⟨fun h => h.2, fun h => ⟨trivial, h⟩⟩
theorem z_share_call (f : String) (as : Es) {y el : D} {env : Env} : shareAt (.call f as) y el env = env := rfl
theorem z_bor_calk (f : String) (as : Es) (ks : List String) (bs : Es) {w : KD → Prop} {env : Env} {Q : KD} : bor (.calk f as ks bs) w env Q = w Q := rfl
theorem z_still_calk (f : String) (as : Es) (ks : List String) (bs : Es) {y : D} {env : Env} : still (.calk f as ks bs) y env = True := rfl
theorem z_stills_calk (f : String) (as : Es) (ks : List String) (bs : Es) {es : Es} {y : D} {ys : List D} {env : Env} : stills (.cons (.calk f as ks bs) es) (y :: ys) env = stills es ys env := propext ⟨fun h => h.2, fun h => ⟨trivial, h⟩⟩
theorem z_share_calk (f : String) (as : Es) (ks : List String) (bs : Es) {y el : D} {env : Env} : shareAt (.calk f as ks bs) y el env = env := rfl
theorem z_bor_bi (b : BI) (as : Es) {w : KD → Prop} {env : Env} {Q : KD} : bor (.bi b as) w env Q = w Q := rfl
theorem z_still_bi (b : BI) (as : Es) {y : D} {env : Env} : still (.bi b as) y env = True := rfl
theorem z_stills_bi (b : BI) (as : Es) {es : Es} {y : D} {ys : List D} {env : Env} : stills (.cons (.bi b as) es) (y :: ys) env = stills es ys env := propext ⟨fun h => h.2, fun h => ⟨trivial, h⟩⟩
theorem z_share_bi (b : BI) (as : Es) {y el : D} {env : Env} : shareAt (.bi b as) y el env = env := rfl
theorem z_bor_isi (a : E) (t : String) {w : KD → Prop} {env : Env} {Q : KD} : bor (.isi a t) w env Q = w Q := rfl
theorem z_still_isi (a : E) (t : String) {y : D} {env : Env} : still (.isi a t) y env = True := rfl
theorem z_stills_isi (a : E) (t : String) {es : Es} {y : D} {ys : List D} {env : Env} : stills (.cons (.isi a t) es) (y :: ys) env = stills es ys env := propext ⟨fun h => h.2, fun h => ⟨trivial, h⟩⟩
theorem z_share_isi (a : E) (t : String) {y el : D} {env : Env} : shareAt (.isi a t) y el env = env := rfl
theorem z_bor_sub (a i : E) {w : KD → Prop} {env : Env} {Q : KD} : bor (.sub a i) w env Q = w Q := rfl
theorem z_still_sub (a i : E) {y : D} {env : Env} : still (.sub a i) y env = True := rfl
theorem z_stills_sub (a i : E) {es : Es} {y : D} {ys : List D} {env : Env} : stills (.cons (.sub a i) es) (y :: ys) env = stills es ys env := propext ⟨fun h => h.2, fun h => ⟨trivial, h⟩⟩
theorem z_share_sub (a i : E) {y el : D} {env : Env} : shareAt (.sub a i) y el env = env := rfl
theorem z_bor_slc (a : E) (lo hi : Eo) {w : KD → Prop} {env : Env} {Q : KD} : bor (.slc a lo hi) w env Q = w Q := rfl
theorem z_still_slc (a : E) (lo hi : Eo) {y : D} {env : Env} : still (.slc a lo hi) y env = True := rfl
theorem z_stills_slc (a : E) (lo hi : Eo) {es : Es} {y : D} {ys : List D} {env : Env} : stills (.cons (.slc a lo hi) es) (y :: ys) env = stills es ys env := propext ⟨fun h => h.2, fun h => ⟨trivial, h⟩⟩
theorem z_share_slc (a : E) (lo hi : Eo) {y el : D} {env : Env} : shareAt (.slc a lo hi) y el env = env := rfl
theorem z_bor_rpr (k : Bool) (as : Es) {w : KD → Prop} {env : Env} {Q : KD} : bor (.rpr k as) w env Q = w Q := rfl
theorem z_still_rpr (k : Bool) (as : Es) {y : D} {env : Env} : still (.rpr k as) y env = True := rfl
theorem z_stills_rpr (k : Bool) (as : Es) {es : Es} {y : D} {ys : List D} {env : Env} : stills (.cons (.rpr k as) es) (y :: ys) env = stills es ys env := propext ⟨fun h => h.2, fun h => ⟨trivial, h⟩⟩
theorem z_share_rpr (k : Bool) (as : Es) {y el : D} {env : Env} : shareAt (.rpr k as) y el env = env := rfl
theorem z_bor_tup (as : Es) {w : KD → Prop} {env : Env} {Q : KD} : bor (.tup as) w env Q = w Q := rfl
theorem z_still_tup (as : Es) {y : D} {env : Env} : still (.tup as) y env = True := rfl
theorem z_stills_tup (as : Es) {es : Es} {y : D} {ys : List D} {env : Env} : stills (.cons (.tup as) es) (y :: ys) env = stills es ys env := propext ⟨fun h => h.2, fun h => ⟨trivial, h⟩⟩
theorem z_share_tup (as : Es) {y el : D} {env : Env} : shareAt (.tup as) y el env = env := rfl
theorem z_bor_lst (as : Es) {w : KD → Prop} {env : Env} {Q : KD} : bor (.lst as) w env Q = w Q := rfl
theorem z_still_lst (as : Es) {y : D} {env : Env} : still (.lst as) y env = True := rfl
theorem z_stills_lst (as : Es) {es : Es} {y : D} {ys : List D} {env : Env} : stills (.cons (.lst as) es) (y :: ys) env = stills es ys env := propext ⟨fun h => h.2, fun h => ⟨trivial, h⟩⟩
theorem z_share_lst (as : Es) {y el : D} {env : Env} : shareAt (.lst as) y el env = env := rfl
theorem z_bor_lc (elt : E) (t : T) (it : I) (ifs : Es) (own : List Nat) {w : KD → Prop} {env : Env} {Q : KD} : bor (.lc elt t it ifs own) w env Q = w Q := rfl
theorem z_still_lc (elt : E) (t : T) (it : I) (ifs : Es) (own : List Nat) {y : D} {env : Env} : still (.lc elt t it ifs own) y env = True := rfl
theorem z_stills_lc (elt : E) (t : T) (it : I) (ifs : Es) (own : List Nat) {es : Es} {y : D} {ys : List D} {env : Env} : stills (.cons (.lc elt t it ifs own) es) (y :: ys) env = stills es ys env := propext ⟨fun h => h.2, fun h => ⟨trivial, h⟩⟩
theorem z_share_lc (elt : E) (t : T) (it : I) (ifs : Es) (own : List Nat) {y el : D} {env : Env} : shareAt (.lc elt t it ifs own) y el env = env := rfl
theorem z_bor_mov (i : Nat) {w : KD → Prop} {env : Env} {Q : KD} : bor (.mov i) w env Q = w Q := rfl
theorem z_still_mov (i : Nat) {y : D} {env : Env} : still (.mov i) y env = True := rfl
theorem z_stills_mov (i : Nat) {es : Es} {y : D} {ys : List D} {env : Env} : stills (.cons (.mov i) es) (y :: ys) env = stills es ys env := propext ⟨fun h => h.2, fun h => ⟨trivial, h⟩⟩
theorem z_share_mov (i : Nat) {y el : D} {env : Env} : shareAt (.mov i) y el env = env := rfl
theorem z_setNm {me : List Nat} {i : Nat} {d : D} {env : Env} {Q : Env → Prop} : setT me (.nm i) d env Q = (i ∉ me ∧ i < env.length ∧ Q (env.set i (some d))) := rfl
theorem z_setTpT {me : List Nat} {ts : Ts} {ds : List D} {env : Env} {Q : Env → Prop} : setT me (.tp ts) (.tup ds) env Q = setTs me ts ds env Q := rfl
theorem z_setTpL {me : List Nat} {ts : Ts} {o : Bool} {ds : List D} {env : Env} {Q : Env → Prop} : setT me (.tp ts) (.lst o ds) env Q = setTs me ts ds env Q := rfl
theorem z_setsN {me : List Nat} {env : Env} {Q : Env → Prop} : setTs me .nil [] env Q = Q env := rfl
theorem z_setsC {me : List Nat} {t : T} {ts : Ts} {d : D} {ds : List D} {env : Env} {Q : Env → Prop} : setTs me (.cons t ts) (d :: ds) env Q = setT me t d env fun env2 => setTs me ts ds env2 Q := rfl
theorem z_putN {ds : List D} {env : Env} : putAll [] ds env = env := rfl
theorem z_putC {i : Nat} {is : List Nat} {d : D} {ds : List D} {env : Env} : putAll (i :: is) (d :: ds) env = putAll is ds (env.set i (some d)) := rfl
theorem z_var {i : Nat} {Γ : Sig} {env : Env} {Q : KD} {R : KX} : wpE Γ (.var i) env Q R = get env i fun d => Q d.fz (env.set i (some d.fz)) := rfl
theorem z_mov {i : Nat} {Γ : Sig} {env : Env} {Q : KD} {R : KX} : wpE Γ (.mov i) env Q R = (i ∉ Γ.me ∧ get env i fun d => Q d (env.set i none)) := rfl
theorem z_con {d : D} {Γ : Sig} {env : Env} {Q : KD} {R : KX} : wpE Γ (.con d) env Q R = Q d env := rfl
theorem z_glo {x : String} {d : D} {Γ : Sig} {env : Env} {Q : KD} {R : KX} : wpE Γ (.glo x d) env Q R = Q d env := rfl
theorem z_bin {o : Op} {a b : E} {Γ : Sig} {env : Env} {Q : KD} {R : KX} : wpE Γ (.bin o a b) env Q R = wpE Γ a env (fun x env1 => wpE Γ b env1 (fun y env2 => binD o x y fun d => Q d env2) R) R := rfl
theorem z_neg {a : E} {Γ : Sig} {env : Env} {Q : KD} {R : KX} : wpE Γ (.neg a) env Q R = wpE Γ a env (fun x env1 => ∃ i, x = .int i ∧ Q (.int (-i)) env1) R := rfl
theorem z_nt {a : E} {Γ : Sig} {env : Env} {Q : KD} {R : KX} : wpE Γ (.nt a) env Q R = wpE Γ a env (fun x env1 => truD x fun c => Q (.bl (!c)) env1) R := rfl
theorem z_bo {k : Bool} {as : Es} {Γ : Sig} {env : Env} {Q : KD} {R : KX} : wpE Γ (.bo k as) env Q R = wpBo Γ k as env Q R := rfl
theorem z_cmp {o : CO} {a b : E} {Γ : Sig} {env : Env} {Q : KD} {R : KX} : wpE Γ (.cmp o a b) env Q R = bor a (fun Q2 => wpE Γ a env Q2 R) env fun x env1 => bor b (fun Q2 => wpE Γ b env1 Q2 R) env1 fun y env2 => still a x env2 ∧ cmpD o x y fun c => Q (.bl c) env2 := rfl
theorem z_chn {o p : CO} {a b c : E} {Γ : Sig} {env : Env} {Q : KD} {R : KX} : wpE Γ (.chn o p a b c) env Q R = wpE Γ a env (fun x env1 => wpE Γ b env1 (fun y env2 => cmpD o x y fun k => if k = true then wpE Γ c env2 (fun z env3 => cmpD p y z fun k2 => Q (.bl k2) env3) R else Q (.bl false) env2) R) R := rfl
theorem z_ife {c a b : E} {Γ : Sig} {env : Env} {Q : KD} {R : KX} : wpE Γ (.ife c a b) env Q R = wpT Γ c env (fun k env1 => if k = true then wpE Γ a env1 Q R else wpE Γ b env1 Q R) R := rfl
theorem z_call {f : String} {as : Es} {Γ : Sig} {env : Env} {Q : KD} {R : KX} : wpE Γ (.call f as) env Q R = wpA Γ as (Γ.ios f) env (fun ds tk env1 => Γ.sp f ds (fun r outs => outs.length = tk.length ∧ Q r (putAll tk outs env1)) fun x => R x env1) R := rfl
theorem z_calk {f : String} {as bs : Es} {ks : List String} {Γ : Sig} {env : Env} {Q : KD} {R : KX} : wpE Γ (.calk f as ks bs) env Q R = wpEs Γ as env (fun ds env1 => wpEs Γ bs env1 (fun es env2 => (Γ.ios f).all (! ·) = true ∧ ∃ ix, kwIx (Γ.ps f) ks ds.length = some ix ∧ Γ.sp f (atAll (fzL (ds ++ es)) ix) (fun r outs => outs = [] ∧ Q r env2) fun x => R x env2) R) R := rfl
theorem z_bi {b : BI} {as : Es} {Γ : Sig} {env : Env} {Q : KD} {R : KX} : wpE Γ (.bi b as) env Q R = wpBs Γ as env (fun ds env1 => stills as ds env1 ∧ biD b ds fun d => Q d env1) R := rfl
theorem z_isi {a : E} {t : String} {Γ : Sig} {env : Env} {Q : KD} {R : KX} : wpE Γ (.isi a t) env Q R = bor a (fun Q2 => wpE Γ a env Q2 R) env fun x env1 => ∃ b, isiD x t = some b ∧ Q (.bl b) env1 := rfl
theorem z_sub {a i : E} {Γ : Sig} {env : Env} {Q : KD} {R : KX} : wpE Γ (.sub a i) env Q R = bor a (fun Q2 => wpE Γ a env Q2 R) env fun x env1 => wpE Γ i env1 (fun k env2 => still a x env2 ∧ szD x ∧ (∃ n, k = .int n) ∧ ∃ el, subD x k = some el ∧ Q el.fz (shareAt a x el env2)) R := rfl
theorem z_slc {a : E} {lo hi : Eo} {Γ : Sig} {env : Env} {Q : KD} {R : KX} : wpE Γ (.slc a lo hi) env Q R = wpE Γ a env (fun x env1 => wpO Γ lo env1 (fun l env2 => wpO Γ hi env2 (fun h env3 => slcD x l h fun d => Q d env3) R) R) R := rfl
theorem z_tup {as : Es} {Γ : Sig} {env : Env} {Q : KD} {R : KX} : wpE Γ (.tup as) env Q R = wpEs Γ as env (fun ds env1 => ds.length ≤ PySem.sizeLine ∧ Q (.tup ds) env1) R := rfl
theorem z_lst {as : Es} {Γ : Sig} {env : Env} {Q : KD} {R : KX} : wpE Γ (.lst as) env Q R = wpEs Γ as env (fun ds env1 => ds.length ≤ PySem.sizeLine ∧ Q (.lst true ds) env1) R := rfl
theorem z_rprL {as : Es} {Γ : Sig} {env : Env} {Q : KD} {R : KX} : wpE Γ (.rpr false as) env Q R = wpBs Γ as env (fun ds env1 => stills as ds env1 ∧ ds.length ≤ PySem.sizeLine ∧ biD .repr [.lst true ds] fun d => Q d env1) R := rfl
theorem z_rprT {as : Es} {Γ : Sig} {env : Env} {Q : KD} {R : KX} : wpE Γ (.rpr true as) env Q R = wpBs Γ as env (fun ds env1 => stills as ds env1 ∧ ds.length ≤ PySem.sizeLine ∧ biD .repr [.tup ds] fun d => Q d env1) R := rfl
theorem z_lc {elt : E} {t : T} {it : I} {ifs : Es} {own : List Nat} {Γ : Sig} {env : Env} {Q : KD} {R : KX} : wpE Γ (.lc elt t it ifs own) env Q R = wpI Γ it env (fun items env1 => (items.foldr (lcStep Γ elt t ifs own) (fun acc e => Q (.lst true acc) (backE env1 own e))) [] (wipeE own env1)) R := rfl
theorem z_esN {Γ : Sig} {env : Env} {Q : List D → Env → Prop} {R : KX} : wpEs Γ .nil env Q R = Q [] env := rfl
theorem z_esC {a : E} {as : Es} {Γ : Sig} {env : Env} {Q : List D → Env → Prop} {R : KX} : wpEs Γ (.cons a as) env Q R = wpE Γ a env (fun d env1 => wpEs Γ as env1 (fun ds env2 => Q (d :: ds) env2) R) R := rfl
theorem z_bsN {Γ : Sig} {env : Env} {Q : List D → Env → Prop} {R : KX} : wpBs Γ .nil env Q R = Q [] env := rfl
theorem z_bsC {a : E} {as : Es} {Γ : Sig} {env : Env} {Q : List D → Env → Prop} {R : KX} : wpBs Γ (.cons a as) env Q R = bor a (fun Q2 => wpE Γ a env Q2 R) env fun d env1 => wpBs Γ as env1 (fun ds env2 => Q (d :: ds) env2) R := rfl
theorem z_aN {bs : List Bool} {Γ : Sig} {env : Env} {Q : List D → List Nat → Env → Prop} {R : KX} : wpA Γ .nil bs env Q R = Q [] [] env := rfl
theorem z_aM {i : Nat} {as : Es} {bs : List Bool} {Γ : Sig} {env : Env} {Q : List D → List Nat → Env → Prop} {R : KX} : wpA Γ (.cons (.var i) as) (true :: bs) env Q R = get env i fun _ => wpA Γ as bs env (fun ds tk env2 => get env2 i fun d => Q (d :: ds) (i :: tk) (env2.set i none)) R := rfl
theorem z_aF {a : E} {as : Es} {bs : List Bool} {Γ : Sig} {env : Env} {Q : List D → List Nat → Env → Prop} {R : KX} : wpA Γ (.cons a as) (false :: bs) env Q R = wpE Γ a env (fun d env1 => wpA Γ as bs env1 (fun ds tk env2 => Q (d.fz :: ds) tk env2) R) R := by cases a <;> rfl
theorem z_aE {a : E} {as : Es} {Γ : Sig} {env : Env} {Q : List D → List Nat → Env → Prop} {R : KX} : wpA Γ (.cons a as) [] env Q R = wpE Γ a env (fun d env1 => wpA Γ as [] env1 (fun ds tk env2 => Q (d.fz :: ds) tk env2) R) R := by cases a <;> rfl
theorem z_oN {Γ : Sig} {env : Env} {Q : Option Int → Env → Prop} {R : KX} : wpO Γ .no env Q R = Q none env := rfl
theorem z_oY {a : E} {Γ : Sig} {env : Env} {Q : Option Int → Env → Prop} {R : KX} : wpO Γ (.yes a) env Q R = wpE Γ a env (fun d env1 => ∃ i, d = .int i ∧ Q (some i) env1) R := rfl
theorem z_bo1 {k : Bool} {a : E} {Γ : Sig} {env : Env} {Q : KD} {R : KX} : wpBo Γ k (.cons a .nil) env Q R = wpE Γ a env Q R := rfl
theorem z_bo2 {k : Bool} {a b : E} {as : Es} {Γ : Sig} {env : Env} {Q : KD} {R : KX} : wpBo Γ k (.cons a (.cons b as)) env Q R = wpE Γ a env (fun x env1 => truD x fun c => if c = k then wpBo Γ k (.cons b as) env1 Q R else Q x env1) R := rfl
theorem zt_nt {a : E} {Γ : Sig} {env : Env} {Q : Bool → Env → Prop} {R : KX} : wpT Γ (.nt a) env Q R = wpT Γ a env (fun c env1 => Q (!c) env1) R := rfl
theorem zt_bo {k : Bool} {as : Es} {Γ : Sig} {env : Env} {Q : Bool → Env → Prop} {R : KX} : wpT Γ (.bo k as) env Q R = wpTo Γ k as env Q R := rfl
theorem zt_cmp {o : CO} {a b : E} {Γ : Sig} {env : Env} {Q : Bool → Env → Prop} {R : KX} : wpT Γ (.cmp o a b) env Q R = bor a (fun Q2 => wpE Γ a env Q2 R) env fun x env1 => bor b (fun Q2 => wpE Γ b env1 Q2 R) env1 fun y env2 => still a x env2 ∧ cmpD o x y fun c => Q c env2 := rfl
theorem zt_chn {o p : CO} {a b c : E} {Γ : Sig} {env : Env} {Q : Bool → Env → Prop} {R : KX} : wpT Γ (.chn o p a b c) env Q R = wpE Γ a env (fun x env1 => wpE Γ b env1 (fun y env2 => cmpD o x y fun k => if k = true then wpE Γ c env2 (fun z env3 => cmpD p y z fun k2 => Q k2 env3) R else Q false env2) R) R := rfl
theorem zt_isi {a : E} {t : String} {Γ : Sig} {env : Env} {Q : Bool → Env → Prop} {R : KX} : wpT Γ (.isi a t) env Q R = bor a (fun Q2 => wpE Γ a env Q2 R) env fun x env1 => ∃ b, isiD x t = some b ∧ Q b env1 := rfl
theorem zt_call {f : String} {as : Es} {Γ : Sig} {env : Env} {Q : Bool → Env → Prop} {R : KX} : wpT Γ (.call f as) env Q R = wpA Γ as (Γ.ios f) env (fun ds tk env1 => Γ.sp f ds (fun r outs => outs.length = tk.length ∧ truD r fun b => Q b (putAll tk outs env1)) fun x => R x env1) R := rfl
theorem zt_var {i : Nat} {Γ : Sig} {env : Env} {Q : Bool → Env → Prop} {R : KX} : wpT Γ (.var i) env Q R = get env i fun d => truD d fun b => Q b env := rfl
theorem zt_bi {b : BI} {as : Es} {Γ : Sig} {env : Env} {Q : Bool → Env → Prop} {R : KX} : wpT Γ (.bi b as) env Q R = wpBs Γ as env (fun ds env1 => stills as ds env1 ∧ biD b ds fun d => truD d fun k => Q k env1) R := rfl
theorem zt_to1 {k : Bool} {a : E} {Γ : Sig} {env : Env} {Q : Bool → Env → Prop} {R : KX} : wpTo Γ k (.cons a .nil) env Q R = wpT Γ a env Q R := rfl
theorem zt_to2 {k : Bool} {a b : E} {as : Es} {Γ : Sig} {env : Env} {Q : Bool → Env → Prop} {R : KX} : wpTo Γ k (.cons a (.cons b as)) env Q R = wpT Γ a env (fun c env1 => if c = k then wpTo Γ k (.cons b as) env1 Q R else Q (!k) env1) R := rfl
theorem zt_tsN {Γ : Sig} {env : Env} {Q : Bool → Env → Prop} {R : KX} : wpTs Γ .nil env Q R = Q true env := rfl
theorem zt_ts1 {a : E} {Γ : Sig} {env : Env} {Q : Bool → Env → Prop} {R : KX} : wpTs Γ (.cons a .nil) env Q R = wpT Γ a env Q R := rfl
theorem i_ex {a : E} {Γ : Sig} {env : Env} {Q : List D → Env → Prop} {R : KX} : wpI Γ (.ex a) env Q R = wpE Γ a env (fun d env1 => ∃ xs, iterD d = some xs ∧ Q (fzL xs) env1) R := rfl
theorem i_r1 {a : E} {Γ : Sig} {env : Env} {Q : List D → Env → Prop} {R : KX} : wpI Γ (.rng1 a) env Q R = wpE Γ a env (fun d env1 => ∃ n, d = .int n ∧ -(2 ^ 62) ≤ n ∧ n < 2 ^ 62 ∧ Q (rngD 0 n.toNat 1) env1) R := rfl
theorem i_r2 {a b : E} {Γ : Sig} {env : Env} {Q : List D → Env → Prop} {R : KX} : wpI Γ (.rng2 a b) env Q R = wpE Γ a env (fun d env1 => wpE Γ b env1 (fun e env2 => ∃ i j, d = .int i ∧ e = .int j ∧ (-(2 ^ 62) ≤ i ∧ i < 2 ^ 62 ∧ -(2 ^ 62) ≤ j ∧ j < 2 ^ 62) ∧ Q (rngD i (j - i).toNat 1) env2) R) R := rfl
theorem i_r3 {a b c : E} {Γ : Sig} {env : Env} {Q : List D → Env → Prop} {R : KX} : wpI Γ (.rng3 a b c) env Q R = wpE Γ a env (fun d env1 => wpE Γ b env1 (fun e env2 => wpE Γ c env2 (fun f env3 => ∃ i j s n, d = .int i ∧ e = .int j ∧ f = .int s ∧ L2.RgC i j s n ∧ Q (rngD i n s) env3) R) R) R := rfl
theorem i_zip {a b : E} {Γ : Sig} {env : Env} {Q : List D → Env → Prop} {R : KX} : wpI Γ (.zip2 a b) env Q R = wpE Γ a env (fun d env1 => wpE Γ b env1 (fun e env2 => ∃ xs ys, lstD d = some xs ∧ lstD e = some ys ∧ Q ((fzL xs).zipWith (fun x y => .tup [x, y]) (fzL ys)) env2) R) R := rfl
theorem i_enum {a : E} {Γ : Sig} {env : Env} {Q : List D → Env → Prop} {R : KX} : wpI Γ (.enum a) env Q R = wpE Γ a env (fun d env1 => ∃ xs, lstD d = some xs ∧ Q ((fzL xs).zipIdx.map fun p => .tup [.int p.2, p.1]) env1) R := rfl
theorem i_rev {a : E} {Γ : Sig} {env : Env} {Q : List D → Env → Prop} {R : KX} : wpI Γ (.rev a) env Q R = wpE Γ a env (fun d env1 => ∃ xs, lstD d = some xs ∧ Q (fzL xs).reverse env1) R := rfl
theorem c_asg {t : T} {e : E} {Γ : Sig} {env : Env} {K : Con} : wpS Γ (.asg t e) env K = wpE Γ e env (fun d env1 => setT Γ.me t d env1 K.nx) K.ex := rfl
theorem c_par {is : List Nat} {es : Es} {Γ : Sig} {env : Env} {K : Con} : wpS Γ (.par is es) env K = wpEs Γ es env (fun ds env1 => ds.length = is.length ∧ is.all (fun i => decide (i ∉ Γ.me ∧ i < env1.length)) = true ∧ K.nx (putAll is ds env1)) K.ex := rfl
theorem c_pst {i : Nat} {ix e : E} {Γ : Sig} {env : Env} {K : Con} : wpS Γ (.pst i ix e) env K = wpE Γ e env (fun d env1 => get env1 i fun _ => wpE Γ ix env1 (fun k env2 => get env2 i fun x => ∃ xs n j, x = .lst true xs ∧ k = .int n ∧ L2.ixN xs.length n = some j ∧ K.nx (env2.set i (some (.lst true (xs.set j d))))) K.ex) K.ex := rfl
theorem c_pag {i : Nat} {ix e : E} {o : Op} {Γ : Sig} {env : Env} {K : Con} : wpS Γ (.pag i ix o e) env K = get env i fun _ => wpE Γ ix env (fun k env1 => get env1 i fun x => ∃ xs n el, x = .lst true xs ∧ k = .int n ∧ L2.atI xs n = some el ∧ flatD el = true ∧ wpE Γ e env1 (fun d env2 => augD o el d fun r => get env2 i fun y => ∃ ys j, y = .lst true ys ∧ L2.ixN ys.length n = some j ∧ K.nx (env2.set i (some (.lst true (ys.set j r))))) K.ex) K.ex := rfl
theorem c_aug {i : Nat} {o : Op} {e : E} {Γ : Sig} {env : Env} {K : Con} : wpS Γ (.aug i o e) env K = get env i fun x => flatD x = true ∧ i ∉ Γ.me ∧ wpE Γ e env (fun d env1 => augD o x d fun r => K.nx (env1.set i (some r))) K.ex := rfl
theorem c_app {i : Nat} {e : E} {Γ : Sig} {env : Env} {K : Con} : wpS Γ (.app i e) env K = get env i fun x => (∃ xs, x = .lst true xs) ∧ wpE Γ e env (fun d env1 => get env1 i fun y => ∃ ys, y = .lst true ys ∧ ys.length < PySem.sizeLine ∧ K.nx (env1.set i (some (.lst true (ys ++ [d]))))) K.ex := rfl
theorem c_exp {e : E} {Γ : Sig} {env : Env} {K : Con} : wpS Γ (.exp e) env K = wpE Γ e env (fun _ env1 => K.nx env1) K.ex := rfl
theorem c_ite {c : E} {a b : Ss} {Γ : Sig} {env : Env} {K : Con} : wpS Γ (.ite c a b) env K = wpT Γ c env (fun k env1 => if k = true then wpSs Γ a env1 K else wpSs Γ b env1 K) K.ex := rfl
theorem c_for {t : T} {it : I} {b : Ss} {Γ : Sig} {env : Env} {K : Con} : wpS Γ (.for_ t it b) env K = wpI Γ it env (fun items env1 => (items.foldr (forStep Γ t b K) K.nx) env1) K.ex := rfl
theorem c_ret {e : E} {Γ : Sig} {env : Env} {K : Con} : wpS Γ (.ret e) env K = wpE Γ e env K.rt K.ex := rfl
theorem c_rtn {Γ : Sig} {env : Env} {K : Con} : wpS Γ .rtn env K = K.rt .non env := rfl
theorem c_brk {Γ : Sig} {env : Env} {K : Con} : wpS Γ .brk env K = K.bk env := rfl
theorem c_cnt {Γ : Sig} {env : Env} {K : Con} : wpS Γ .cnt env K = K.ct env := rfl
theorem c_pas {Γ : Sig} {env : Env} {K : Con} : wpS Γ .pas env K = K.nx env := rfl
theorem c_nev {Γ : Sig} {env : Env} {K : Con} : wpS Γ .nev env K = False := rfl
theorem c_nil {Γ : Sig} {env : Env} {K : Con} : wpSs Γ .nil env K = K.nx env := rfl
theorem c_cons {a : S} {as : Ss} {Γ : Sig} {env : Env} {K : Con} : wpSs Γ (.cons a as) env K = wpS Γ a env { K with nx := fun e => wpSs Γ as e K } := rfl
theorem b_add {i j : Int} {Q : D → Prop} : binD .add (.int i) (.int j) Q = Q (.int (i + j)) := rfl
theorem b_sub {i j : Int} {Q : D → Prop} : binD .sub (.int i) (.int j) Q = Q (.int (i - j)) := rfl
theorem b_mul {i j : Int} {Q : D → Prop} : binD .mul (.int i) (.int j) Q = (L2.CMulW i j ∧ Q (.int (i * j))) := rfl
theorem b_fdiv {i j : Int} {Q : D → Prop} : binD .fdiv (.int i) (.int j) Q = (L2.CDivW i j ∧ Q (.int (i / j))) := rfl
theorem b_mod {i j : Int} {Q : D → Prop} : binD .mod (.int i) (.int j) Q = (0 < j ∧ Q (.int (i % j))) := rfl
theorem b_pow {i j : Int} {Q : D → Prop} : binD .pow (.int i) (.int j) Q = (PowOk i j ∧ Q (.int (i ^ j.toNat))) := rfl
theorem b_shl {i j : Int} {Q : D → Prop} : binD .shl (.int i) (.int j) Q = (L2.CPow i j ∧ Q (.int (i * 2 ^ j.toNat))) := rfl
theorem b_shr {i j : Int} {Q : D → Prop} : binD .shr (.int i) (.int j) Q = (0 ≤ j ∧ Q (.int (i / 2 ^ j.toNat))) := rfl
theorem b_cat {o p : Bool} {a b : List D} {Q : D → Prop} : binD .add (.lst o a) (.lst p b) Q = (a.length + b.length ≤ PySem.sizeLine ∧ Q (.lst true (a ++ b))) := rfl
theorem b_rep {o : Bool} {a : List D} {k : Int} {Q : D → Prop} : binD .mul (.lst o a) (.int k) Q = (-(2 ^ 63) ≤ k ∧ k < 2 ^ 63 ∧ a.length * k.toNat ≤ PySem.sizeLine ∧ Q (.lst true (repD (fzL a) k.toNat))) := rfl
theorem a_add {i j : Int} {Q : D → Prop} : augD .add (.int i) (.int j) Q = Q (.int (i + j)) := rfl
theorem a_sub {i j : Int} {Q : D → Prop} : augD .sub (.int i) (.int j) Q = Q (.int (i - j)) := rfl
theorem a_mul {i j : Int} {Q : D → Prop} : augD .mul (.int i) (.int j) Q = (L2.CMulW i j ∧ Q (.int (i * j))) := rfl
theorem a_mod {i j : Int} {Q : D → Prop} : augD .mod (.int i) (.int j) Q = (0 < j ∧ Q (.int (i % j))) := rfl
theorem q_eqI {i j : Int} {Q : Bool → Prop} : cmpD .eq (.int i) (.int j) Q = Q (decide (i = j)) := eq_int i j Q
theorem q_neI {i j : Int} {Q : Bool → Prop} : cmpD .ne (.int i) (.int j) Q = Q (!decide (i = j)) := eq_int i j fun b => Q (!b)
theorem q_eqS {i j : Str} {Q : Bool → Prop} : cmpD .eq (.str i) (.str j) Q = Q (decide (i = j)) := rfl
theorem q_neS {i j : Str} {Q : Bool → Prop} : cmpD .ne (.str i) (.str j) Q = Q (!decide (i = j)) := rfl
theorem q_eqB {i j : Bool} {Q : Bool → Prop} : cmpD .eq (.bl i) (.bl j) Q = Q (decide (i = j)) := eq_bl i j Q
theorem q_neB {i j : Bool} {Q : Bool → Prop} : cmpD .ne (.bl i) (.bl j) Q = Q (!decide (i = j)) := eq_bl i j fun b => Q (!b)
theorem q_eqNil {o p : Bool} {xs : List Int} {Q : Bool → Prop} : cmpD .eq (.lst o (IL xs)) (.lst p []) Q = Q xs.isEmpty := eq_nil
theorem q_neNil {o p : Bool} {xs : List Int} {Q : Bool → Prop} : cmpD .ne (.lst o (IL xs)) (.lst p []) Q = Q (!xs.isEmpty) := eq_nil (Q := fun b => Q (!b))
theorem q_lt {i j : Int} {Q : Bool → Prop} : cmpD .lt (.int i) (.int j) Q = Q (decide (i < j)) := rfl
theorem q_le {i j : Int} {Q : Bool → Prop} : cmpD .le (.int i) (.int j) Q = Q (decide (i ≤ j)) := rfl
theorem q_gt {i j : Int} {Q : Bool → Prop} : cmpD .gt (.int i) (.int j) Q = Q (decide (j < i)) := rfl
theorem q_ge {i j : Int} {Q : Bool → Prop} : cmpD .ge (.int i) (.int j) Q = Q (decide (j ≤ i)) := rfl
theorem q_is {x : D} {Q : Bool → Prop} : cmpD .is_ x .non Q = Q x.isNon := by cases x <;> rfl
theorem q_isnt {x : D} {Q : Bool → Prop} : cmpD .isnt x .non Q = Q (!x.isNon) := by cases x <;> rfl
theorem r_bl {b : Bool} {Q : Bool → Prop} : truD (.bl b) Q = Q b := propext ⟨fun h => h.2, fun h => ⟨trivial, h⟩⟩
theorem r_int {i : Int} {Q : Bool → Prop} : truD (.int i) Q = Q (i != 0) := propext ⟨fun h => h.2, fun h => ⟨trivial, h⟩⟩
theorem r_lst {o : Bool} {xs : List D} {Q : Bool → Prop} : truD (.lst o xs) Q = Q (!xs.isEmpty) := propext ⟨fun h => h.2, fun h => ⟨trivial, h⟩⟩
theorem r_tup {xs : List D} {Q : Bool → Prop} : truD (.tup xs) Q = Q (!xs.isEmpty) := propext ⟨fun h => h.2, fun h => ⟨trivial, h⟩⟩
theorem s_szL {o : Bool} {xs : List D} : szD (.lst o xs) = True := rfl
theorem s_szT {xs : List D} : szD (.tup xs) = True := rfl
theorem s_subL {o : Bool} {xs : List D} {i : Int} : subD (.lst o xs) (.int i) = L2.atI xs i := rfl
theorem s_subT {xs : List D} {i : Int} : subD (.tup xs) (.int i) = L2.atI xs i := rfl
theorem s_slcL {o : Bool} {xs : List D} {lo hi : Option Int} {Q : D → Prop} : slcD (.lst o xs) lo hi Q = Q (.lst true (fzL (cutD xs lo hi))) := rfl
theorem s_slcT {xs : List D} {lo hi : Option Int} {Q : D → Prop} : slcD (.tup xs) lo hi Q = ((cutD xs lo hi).length ≠ xs.length ∧ Q (.tup (fzL (cutD xs lo hi)))) := rfl
theorem s_itL {o : Bool} {xs : List D} : iterD (.lst o xs) = some xs := rfl
theorem s_itT {xs : List D} : iterD (.tup xs) = some xs := rfl
theorem s_liL {o : Bool} {xs : List D} : lstD (.lst o xs) = some xs := rfl
theorem n_lenL {o : Bool} {xs : List D} {Q : D → Prop} : biD .len [.lst o xs] Q = Q (.int xs.length) := rfl
theorem n_lenT {xs : List D} {Q : D → Prop} : biD .len [.tup xs] Q = Q (.int xs.length) := rfl
theorem n_abs {i : Int} {Q : D → Prop} : biD .abs [.int i] Q = Q (.int (if i < 0 then -i else i)) := rfl
theorem n_min2 {i j : Int} {Q : D → Prop} : biD .min2 [.int i, .int j] Q = Q (.int (if j < i then j else i)) := rfl
theorem n_max2 {i j : Int} {Q : D → Prop} : biD .max2 [.int i, .int j] Q = Q (.int (if j > i then j else i)) := rfl
theorem n_int {i : Int} {Q : D → Prop} : biD .int [.int i] Q = Q (.int i) := rfl
theorem n_intB {b : Bool} {Q : D → Prop} : biD .int [.bl b] Q = Q (.int (if b then 1 else 0)) := rfl
theorem n_listL {o : Bool} {xs : List D} {Q : D → Prop} : biD .list [.lst o xs] Q = (isFzL xs = true ∧ Q (.lst true xs)) := rfl
theorem n_listT {xs : List D} {Q : D → Prop} : biD .list [.tup xs] Q = (isFzL xs = true ∧ Q (.lst true xs)) := rfl
theorem n_tupL {o : Bool} {xs : List D} {Q : D → Prop} : biD .tuple [.lst o xs] Q = (isFzL xs = true ∧ Q (.tup xs)) := rfl
theorem n_strI {i : Int} {Q : D → Prop} : biD .str [.int i] Q = (i.natAbs.log2 < 1920 ∧ Q (.str (toString i))) := rfl
theorem n_boolI {i : Int} {Q : D → Prop} : biD .bool [.int i] Q = Q (.bl (i != 0)) := rfl
theorem n_allL {o : Bool} {xs : List D} {Q : D → Prop} : biD .all [.lst o xs] Q = (∃ bs, blsD xs = some bs ∧ Q (.bl (bs.all id))) := rfl
theorem n_anyL {o : Bool} {xs : List D} {Q : D → Prop} : biD .any [.lst o xs] Q = (∃ bs, blsD xs = some bs ∧ Q (.bl (bs.any id))) := rfl
theorem n_sumL {o : Bool} {xs : List D} {Q : D → Prop} : biD .sum [.lst o xs] Q = (∃ ns, intsD xs = some ns ∧ Q (.int ns.sum)) := rfl
theorem f_non  : D.fz .non = .non := rfl
theorem f_bl {b : Bool} : D.fz (.bl b) = .bl b := rfl
theorem f_int {i : Int} : D.fz (.int i) = .int i := rfl
theorem f_str {s : Str} : D.fz (.str s) = .str s := rfl
theorem f_tup {xs : List D} : D.fz (.tup xs) = .tup (fzL xs) := by rw [D.fz]
theorem f_lst {o : Bool} {xs : List D} : D.fz (.lst o xs) = .lst false (fzL xs) := by rw [D.fz]
theorem f_nil  : fzL [] = [] := rfl
theorem f_cons {x : D} {xs : List D} : fzL (x :: xs) = x.fz :: fzL xs := rfl
theorem g_int {i : Int} : D.isFz (.int i) = true := rfl
theorem g_bl {b : Bool} : D.isFz (.bl b) = true := rfl
theorem g_non  : D.isFz .non = true := rfl
theorem g_str {s : Str} : D.isFz (.str s) = true := rfl
theorem g_lstF {xs : List D} : D.isFz (.lst false xs) = isFzL xs := by simp [D.isFz]
theorem g_tup {xs : List D} : D.isFz (.tup xs) = isFzL xs := by simp [D.isFz]
theorem g_lstT {xs : List D} : D.isFz (.lst true xs) = false := by simp [D.isFz]
theorem g_nil  : isFzL [] = true := rfl
theorem g_cons {x : D} {xs : List D} : isFzL (x :: xs) = (x.isFz && isFzL xs) := rfl
theorem o_nil {env : Env} : outsOf env [] = some [] := rfl
theorem o_0 {d : D} {env : Env} {is : List Nat} : outsOf (some d :: env) (0 :: is) = (outsOf (some d :: env) is).map (d :: ·) := rfl
theorem o_1 {o : Option D} {d : D} {env : Env} {is : List Nat} : outsOf (o :: some d :: env) (1 :: is) = (outsOf (o :: some d :: env) is).map (d :: ·) := rfl
theorem z_cast0  : ((0 : Nat) : Int) = 0 := rfl
theorem z_cast1  : ((1 : Nat) : Int) = 1 := rfl
theorem z_cast2  : ((2 : Nat) : Int) = 2 := rfl
theorem z_cast3  : ((3 : Nat) : Int) = 3 := rfl
theorem z_cast4  : ((4 : Nat) : Int) = 4 := rfl
theorem z_cast5  : ((5 : Nat) : Int) = 5 := rfl
theorem z_cast6  : ((6 : Nat) : Int) = 6 := rfl
theorem z_cast7  : ((7 : Nat) : Int) = 7 := rfl
theorem z_cast8  : ((8 : Nat) : Int) = 8 := rfl
theorem z_cast9  : ((9 : Nat) : Int) = 9 := rfl
theorem z_cast10  : ((10 : Nat) : Int) = 10 := rfl
theorem z_cast11  : ((11 : Nat) : Int) = 11 := rfl
theorem z_cast12  : ((12 : Nat) : Int) = 12 := rfl
theorem l_ltl0  : (0 < PySem.sizeLine) = True := eq_true (Nat.le_of_ble_eq_true rfl)
theorem l_ltl1  : (1 < PySem.sizeLine) = True := eq_true (Nat.le_of_ble_eq_true rfl)
theorem l_ltl2  : (2 < PySem.sizeLine) = True := eq_true (Nat.le_of_ble_eq_true rfl)
theorem l_ltl3  : (3 < PySem.sizeLine) = True := eq_true (Nat.le_of_ble_eq_true rfl)
theorem l_ltl4  : (4 < PySem.sizeLine) = True := eq_true (Nat.le_of_ble_eq_true rfl)
theorem l_ltl5  : (5 < PySem.sizeLine) = True := eq_true (Nat.le_of_ble_eq_true rfl)
theorem l_ltl6  : (6 < PySem.sizeLine) = True := eq_true (Nat.le_of_ble_eq_true rfl)
theorem l_ltl7  : (7 < PySem.sizeLine) = True := eq_true (Nat.le_of_ble_eq_true rfl)
theorem l_ltl8  : (8 < PySem.sizeLine) = True := eq_true (Nat.le_of_ble_eq_true rfl)
theorem l_ltl9  : (9 < PySem.sizeLine) = True := eq_true (Nat.le_of_ble_eq_true rfl)
theorem l_ltl10  : (10 < PySem.sizeLine) = True := eq_true (Nat.le_of_ble_eq_true rfl)
theorem l_ltl11  : (11 < PySem.sizeLine) = True := eq_true (Nat.le_of_ble_eq_true rfl)
theorem l_ltl12  : (12 < PySem.sizeLine) = True := eq_true (Nat.le_of_ble_eq_true rfl)
theorem l_line0  : (0 ≤ PySem.sizeLine) = True := eq_true (Nat.le_of_ble_eq_true rfl)
theorem l_line1  : (1 ≤ PySem.sizeLine) = True := eq_true (Nat.le_of_ble_eq_true rfl)
theorem l_line2  : (2 ≤ PySem.sizeLine) = True := eq_true (Nat.le_of_ble_eq_true rfl)
theorem l_line3  : (3 ≤ PySem.sizeLine) = True := eq_true (Nat.le_of_ble_eq_true rfl)
theorem l_line4  : (4 ≤ PySem.sizeLine) = True := eq_true (Nat.le_of_ble_eq_true rfl)
theorem l_line5  : (5 ≤ PySem.sizeLine) = True := eq_true (Nat.le_of_ble_eq_true rfl)
theorem l_line6  : (6 ≤ PySem.sizeLine) = True := eq_true (Nat.le_of_ble_eq_true rfl)
theorem l_line7  : (7 ≤ PySem.sizeLine) = True := eq_true (Nat.le_of_ble_eq_true rfl)
theorem l_line8  : (8 ≤ PySem.sizeLine) = True := eq_true (Nat.le_of_ble_eq_true rfl)
theorem l_line9  : (9 ≤ PySem.sizeLine) = True := eq_true (Nat.le_of_ble_eq_true rfl)
theorem l_line10  : (10 ≤ PySem.sizeLine) = True := eq_true (Nat.le_of_ble_eq_true rfl)
theorem l_line11  : (11 ≤ PySem.sizeLine) = True := eq_true (Nat.le_of_ble_eq_true rfl)
theorem l_line12  : (12 ≤ PySem.sizeLine) = True := eq_true (Nat.le_of_ble_eq_true rfl)
theorem k_NoneType_int  : isiD .non "int" = some false := by show L2.kitB _ _ = _; decide +kernel
theorem k_NoneType_bool  : isiD .non "bool" = some false := by show L2.kitB _ _ = _; decide +kernel
theorem k_NoneType_str  : isiD .non "str" = some false := by show L2.kitB _ _ = _; decide +kernel
theorem k_NoneType_list  : isiD .non "list" = some false := by show L2.kitB _ _ = _; decide +kernel
theorem k_NoneType_tuple  : isiD .non "tuple" = some false := by show L2.kitB _ _ = _; decide +kernel
theorem k_NoneType_dict  : isiD .non "dict" = some false := by show L2.kitB _ _ = _; decide +kernel
theorem k_bool_int {b : Bool} : isiD (.bl b) "int" = some true := by show L2.kitB _ _ = _; decide +kernel
theorem k_bool_bool {b : Bool} : isiD (.bl b) "bool" = some true := by show L2.kitB _ _ = _; decide +kernel
theorem k_bool_str {b : Bool} : isiD (.bl b) "str" = some false := by show L2.kitB _ _ = _; decide +kernel
theorem k_bool_list {b : Bool} : isiD (.bl b) "list" = some false := by show L2.kitB _ _ = _; decide +kernel
theorem k_bool_tuple {b : Bool} : isiD (.bl b) "tuple" = some false := by show L2.kitB _ _ = _; decide +kernel
theorem k_bool_dict {b : Bool} : isiD (.bl b) "dict" = some false := by show L2.kitB _ _ = _; decide +kernel
theorem k_int_int {i : Int} : isiD (.int i) "int" = some true := by show L2.kitB _ _ = _; decide +kernel
theorem k_int_bool {i : Int} : isiD (.int i) "bool" = some false := by show L2.kitB _ _ = _; decide +kernel
theorem k_int_str {i : Int} : isiD (.int i) "str" = some false := by show L2.kitB _ _ = _; decide +kernel
theorem k_int_list {i : Int} : isiD (.int i) "list" = some false := by show L2.kitB _ _ = _; decide +kernel
theorem k_int_tuple {i : Int} : isiD (.int i) "tuple" = some false := by show L2.kitB _ _ = _; decide +kernel
theorem k_int_dict {i : Int} : isiD (.int i) "dict" = some false := by show L2.kitB _ _ = _; decide +kernel
theorem k_str_int {s : Str} : isiD (.str s) "int" = some false := by show L2.kitB _ _ = _; decide +kernel
theorem k_str_bool {s : Str} : isiD (.str s) "bool" = some false := by show L2.kitB _ _ = _; decide +kernel
theorem k_str_str {s : Str} : isiD (.str s) "str" = some true := by show L2.kitB _ _ = _; decide +kernel
theorem k_str_list {s : Str} : isiD (.str s) "list" = some false := by show L2.kitB _ _ = _; decide +kernel
theorem k_str_tuple {s : Str} : isiD (.str s) "tuple" = some false := by show L2.kitB _ _ = _; decide +kernel
theorem k_str_dict {s : Str} : isiD (.str s) "dict" = some false := by show L2.kitB _ _ = _; decide +kernel
theorem k_tuple_int {xs : List D} : isiD (.tup xs) "int" = some false := by show L2.kitB _ _ = _; decide +kernel
theorem k_tuple_bool {xs : List D} : isiD (.tup xs) "bool" = some false := by show L2.kitB _ _ = _; decide +kernel
theorem k_tuple_str {xs : List D} : isiD (.tup xs) "str" = some false := by show L2.kitB _ _ = _; decide +kernel
theorem k_tuple_list {xs : List D} : isiD (.tup xs) "list" = some false := by show L2.kitB _ _ = _; decide +kernel
theorem k_tuple_tuple {xs : List D} : isiD (.tup xs) "tuple" = some true := by show L2.kitB _ _ = _; decide +kernel
theorem k_tuple_dict {xs : List D} : isiD (.tup xs) "dict" = some false := by show L2.kitB _ _ = _; decide +kernel
theorem k_list_int {o : Bool} {xs : List D} : isiD (.lst o xs) "int" = some false := by show L2.kitB _ _ = _; decide +kernel
theorem k_list_bool {o : Bool} {xs : List D} : isiD (.lst o xs) "bool" = some false := by show L2.kitB _ _ = _; decide +kernel
theorem k_list_str {o : Bool} {xs : List D} : isiD (.lst o xs) "str" = some false := by show L2.kitB _ _ = _; decide +kernel
theorem k_list_list {o : Bool} {xs : List D} : isiD (.lst o xs) "list" = some true := by show L2.kitB _ _ = _; decide +kernel
theorem k_list_tuple {o : Bool} {xs : List D} : isiD (.lst o xs) "tuple" = some false := by show L2.kitB _ _ = _; decide +kernel
theorem k_list_dict {o : Bool} {xs : List D} : isiD (.lst o xs) "dict" = some false := by show L2.kitB _ _ = _; decide +kernel
theorem z_at0 {α : Type} {x0 : α} {xs : List α} : L2.atI (x0 :: xs) 0 = some x0 := by simp only [L2.atI, L2.ixN, List.length_cons]; rw [if_pos (by decide), if_pos (by omega)]; rfl
theorem z_at1 {α : Type} {x0 x1 : α} {xs : List α} : L2.atI (x0 :: x1 :: xs) 1 = some x1 := by simp only [L2.atI, L2.ixN, List.length_cons]; rw [if_pos (by decide), if_pos (by omega)]; rfl
theorem z_at2 {α : Type} {x0 x1 x2 : α} {xs : List α} : L2.atI (x0 :: x1 :: x2 :: xs) 2 = some x2 := by simp only [L2.atI, L2.ixN, List.length_cons]; rw [if_pos (by decide), if_pos (by omega)]; rfl
theorem z_at3 {α : Type} {x0 x1 x2 x3 : α} {xs : List α} : L2.atI (x0 :: x1 :: x2 :: x3 :: xs) 3 = some x3 := by simp only [L2.atI, L2.ixN, List.length_cons]; rw [if_pos (by decide), if_pos (by omega)]; rfl
theorem z_at4 {α : Type} {x0 x1 x2 x3 x4 : α} {xs : List α} : L2.atI (x0 :: x1 :: x2 :: x3 :: x4 :: xs) 4 = some x4 := by simp only [L2.atI, L2.ixN, List.length_cons]; rw [if_pos (by decide), if_pos (by omega)]; rfl
theorem z_at5 {α : Type} {x0 x1 x2 x3 x4 x5 : α} {xs : List α} : L2.atI (x0 :: x1 :: x2 :: x3 :: x4 :: x5 :: xs) 5 = some x5 := by simp only [L2.atI, L2.ixN, List.length_cons]; rw [if_pos (by decide), if_pos (by omega)]; rfl
theorem z_at6 {α : Type} {x0 x1 x2 x3 x4 x5 x6 : α} {xs : List α} : L2.atI (x0 :: x1 :: x2 :: x3 :: x4 :: x5 :: x6 :: xs) 6 = some x6 := by simp only [L2.atI, L2.ixN, List.length_cons]; rw [if_pos (by decide), if_pos (by omega)]; rfl
theorem z_at7 {α : Type} {x0 x1 x2 x3 x4 x5 x6 x7 : α} {xs : List α} : L2.atI (x0 :: x1 :: x2 :: x3 :: x4 :: x5 :: x6 :: x7 :: xs) 7 = some x7 := by simp only [L2.atI, L2.ixN, List.length_cons]; rw [if_pos (by decide), if_pos (by omega)]; rfl
theorem z_at8 {α : Type} {x0 x1 x2 x3 x4 x5 x6 x7 x8 : α} {xs : List α} : L2.atI (x0 :: x1 :: x2 :: x3 :: x4 :: x5 :: x6 :: x7 :: x8 :: xs) 8 = some x8 := by simp only [L2.atI, L2.ixN, List.length_cons]; rw [if_pos (by decide), if_pos (by omega)]; rfl
theorem z_ix1_0  : L2.ixN 1 0 = some 0 := rfl
theorem z_ix2_0  : L2.ixN 2 0 = some 0 := rfl
theorem z_ix2_1  : L2.ixN 2 1 = some 1 := rfl
theorem z_ix3_0  : L2.ixN 3 0 = some 0 := rfl
theorem z_ix3_1  : L2.ixN 3 1 = some 1 := rfl
theorem z_ix3_2  : L2.ixN 3 2 = some 2 := rfl
theorem z_ix4_0  : L2.ixN 4 0 = some 0 := rfl
theorem z_ix4_1  : L2.ixN 4 1 = some 1 := rfl
theorem z_ix4_2  : L2.ixN 4 2 = some 2 := rfl
theorem z_ix4_3  : L2.ixN 4 3 = some 3 := rfl
theorem z_ix5_0  : L2.ixN 5 0 = some 0 := rfl
theorem z_ix5_1  : L2.ixN 5 1 = some 1 := rfl
theorem z_ix5_2  : L2.ixN 5 2 = some 2 := rfl
theorem z_ix5_3  : L2.ixN 5 3 = some 3 := rfl
theorem z_ix5_4  : L2.ixN 5 4 = some 4 := rfl
theorem z_ix6_0  : L2.ixN 6 0 = some 0 := rfl
theorem z_ix6_1  : L2.ixN 6 1 = some 1 := rfl
theorem z_ix6_2  : L2.ixN 6 2 = some 2 := rfl
theorem z_ix6_3  : L2.ixN 6 3 = some 3 := rfl
theorem z_ix6_4  : L2.ixN 6 4 = some 4 := rfl
theorem z_ix6_5  : L2.ixN 6 5 = some 5 := rfl
theorem z_ix7_0  : L2.ixN 7 0 = some 0 := rfl
theorem z_ix7_1  : L2.ixN 7 1 = some 1 := rfl
theorem z_ix7_2  : L2.ixN 7 2 = some 2 := rfl
theorem z_ix7_3  : L2.ixN 7 3 = some 3 := rfl
theorem z_ix7_4  : L2.ixN 7 4 = some 4 := rfl
theorem z_ix7_5  : L2.ixN 7 5 = some 5 := rfl
theorem z_ix7_6  : L2.ixN 7 6 = some 6 := rfl
theorem z_ix8_0  : L2.ixN 8 0 = some 0 := rfl
theorem z_ix8_1  : L2.ixN 8 1 = some 1 := rfl
theorem z_ix8_2  : L2.ixN 8 2 = some 2 := rfl
theorem z_ix8_3  : L2.ixN 8 3 = some 3 := rfl
theorem z_ix8_4  : L2.ixN 8 4 = some 4 := rfl
theorem z_ix8_5  : L2.ixN 8 5 = some 5 := rfl
theorem z_ix8_6  : L2.ixN 8 6 = some 6 := rfl
theorem z_ix8_7  : L2.ixN 8 7 = some 7 := rfl
end DP

/-! DpEnd: words for a law's own text. -/
namespace DP
open PySem (Addr Value Shared Str Stmt Scope World Program mainGlobals)
open PySem.W (Frag)
open L2
def mkSC (N : List String) (gl : List (String × D)) (kws : List (String × Nat × List String)) (fns : List (String × Nat)) (sc : Scope) : SC := { N := N.map Str.ofString, sc := sc, st := sc, gl := gl, kws := kws, fns := fns }
def dokB (L : List Ent) (gl : List (String × D)) (kws : List (String × Nat × List String)) (fns : List (String × Nat)) (fd : FD) (ios : List Bool) (st : Stmt) : Bool :=
  C8.scC ((fd.ps ++ fd.loc).map Str.ofString) (fd.ps.map Str.ofString) (defScope st) && decide (ios.length ≤ fd.ps.length) && lookOk L (mkSC (fd.ps ++ fd.loc) gl kws fns (defScope st)) && chkSs (mkSC (fd.ps ++ fd.loc) gl kws fns (defScope st)) fd.body (defBody st)
theorem dok_by {L : List Ent} {gl : List (String × D)} {kws : List (String × Nat × List String)} {fns : List (String × Nat)} {fd : FD} {ios : List Bool} {st : Stmt} (h : dokB L gl kws fns fd ios st = true) :
    DefOk L (mkSC (fd.ps ++ fd.loc) gl kws fns (defScope st)) fd ios (fd.ps.map Str.ofString) (defScope st) (defBody st) := by
  unfold dokB at h
  simp only [Bool.and_eq_true, decide_eq_true_eq] at h
  obtain ⟨⟨⟨h1, h2⟩, h3⟩, h4⟩ := h
  exact ⟨C8.fnScope_by h1, rfl, rfl, ⟨(List.length_map _).symm, by simp [mkSC], h2⟩, h3, h4⟩
/-- what a name is bound to -/
theorem gl_of {K : Frag} {h : PySem.Heap} {mg : Str → Option Value} {x : Str} {u : Value} {v : V} {d : D} (X : K.In h) (G : h.Ns mainGlobals mg) (e : PySem.W.nsIn K mainGlobals x = some (some u)) (r : RelV v u) (q : ∀ F, Rep F d v []) : ∃ u v, mg x = some u ∧ RelV v u ∧ ∀ F, Rep F d v [] := ⟨u, v, PySem.W.mg_of X G e, r, q⟩
theorem at_mk {K : Frag} {nm : Str} {st : Stmt} {f : Addr} {oc : Value} {od : Option Addr} {kV doc pm : Value} {an : Option Addr} {cdv ct : Value} {osl : Array (Option Value)} (a : PySem.W.nsIn K mainGlobals nm = some (some (.ref f)))
    (l : K.lookup f = some ⟨oc, od, .func (PySem.W.fnOf nm nm (defArgs st) (defBody st) (defScope st) .none kV doc pm an cdv ct), osl⟩) (c : PySem.W.codeIn K cdv nm = true) (k : PySem.W.keepIn K (.ref f) = true) : AtK K nm st := ⟨f, oc, od, kV, doc, pm, an, cdv, ct, osl, a, l, c, k⟩
/-- nothing of the module hides a built-in's name -/
def NoB (K : Frag) : Prop := ∀ b ∈ bnames, PySem.W.nsIn K mainGlobals (Str.ofString b) = some none
/-- the beginning of the chain -/
theorem wd_nil {P : Program} {w : World} {K : Frag} {mg : Str → Option Value} {base h : PySem.Heap} {gl : List (String × D)} (X : K.In h) (G : h.Ns mainGlobals mg) (nb : NoB K) (hg : ∀ p ∈ gl, ∃ u v, mg (Str.ofString p.1) = some u ∧ RelV v u ∧ ∀ F, Rep F p.2 v []) : Wd [] gl P w K mg base 0 :=
  ⟨fun e he => (nomatch he), fun b hb => PySem.W.mg_none_of X G (nb b hb), hg⟩
end DP

namespace DP
def f_is_integer : FD := { ps := ["value"], loc := [], body := .cons (.ret (.bo true (.cons (.isi (.var 0) "int") (.cons (.nt (.isi (.var 0) "bool")) (.nil))))) (.nil) }
def f_turns_fault_b1 : Ss := .cons (.ret (.tup (.cons (.mov 1) (.nil)))) (.nil)
def f_turns_fault_b2 : Ss := .cons (.ite (.bo false (.cons (.nt (.call "is_integer" (.cons (.var 2) (.nil)))) (.cons (.cmp .eq (.var 2) (.con (.int 0))) (.nil)))) (f_turns_fault_b1) (.nil)) (.nil)
def f_turns_fault_b3 : Ss := .cons (.ret (.tup (.cons (.con (.non)) (.nil)))) (.nil)
def f_turns_fault : FD := { ps := ["value"], loc := ["index", "turn"], body := .cons (.ite (.bo false (.cons (.nt (.isi (.var 0) "list")) (.cons (.cmp .gt (.bi .len (.cons (.var 0) (.nil))) (.glo "MOST_TURNS" (.int 60))) (.nil)))) (f_turns_fault_b3) (.nil)) (.cons (.for_ (.tp (.cons (.nm 1) (.cons (.nm 2) (.nil)))) (.enum (.var 0)) (f_turns_fault_b2)) (.cons (.ret (.tup (.nil))) (.nil))) }
def f_require_turns_b1 : Ss := .cons (.nev) (.nil)
def f_require_turns : FD := { ps := ["turns"], loc := ["fault"], body := .cons (.asg (.nm 1) (.call "turns_fault" (.cons (.var 0) (.nil)))) (.cons (.ite (.cmp .ne (.var 1) (.tup (.nil))) (f_require_turns_b1) (.nil)) (.nil)) }
def f_way_of : FD := { ps := ["turns"], loc := ["turn"], body := .cons (.exp (.call "require_turns" (.cons (.var 0) (.nil)))) (.cons (.ret (.bi .sum (.cons (.lc (.bi .abs (.cons (.var 1) (.nil))) (.nm 1) (.ex (.var 0)) (.nil) [1]) (.nil)))) (.nil)) }
def f_joined_turns_b1 : Ss := .cons (.pag 1 (.neg (.con (.int 1))) .add (.var 2)) (.nil)
def f_joined_turns_b2 : Ss := .cons (.app 1 (.var 2)) (.nil)
def f_joined_turns_b3 : Ss := .cons (.ite (.bo true (.cons (.cmp .ne (.var 1) (.lst (.nil))) (.cons (.cmp .eq (.cmp .gt (.sub (.var 1) (.neg (.con (.int 1)))) (.con (.int 0))) (.cmp .gt (.var 2) (.con (.int 0)))) (.nil)))) (f_joined_turns_b1) (f_joined_turns_b2)) (.nil)
def f_joined_turns : FD := { ps := ["turns"], loc := ["found", "turn"], body := .cons (.exp (.call "require_turns" (.cons (.var 0) (.nil)))) (.cons (.asg (.nm 1) (.lst (.nil))) (.cons (.for_ (.nm 2) (.ex (.var 0)) (f_joined_turns_b3)) (.cons (.ret (.mov 1)) (.nil)))) }
def f__law_coil : FD := { ps := ["script", "at"], loc := ["cell"], body := .cons (.asg (.nm 2) (.ife (.cmp .lt (.var 1) (.bi .len (.cons (.var 0) (.nil)))) (.sub (.var 0) (.var 1)) (.con (.int 0)))) (.cons (.ret (.lst (.cons (.bi .max2 (.cons (.con (.int 0)) (.cons (.bin .add (.bin .sub (.bi .abs (.cons (.var 2) (.nil))) (.bin .pow (.con (.int 10)) (.con (.int 18)))) (.con (.int 1))) (.nil)))) (.cons (.bin .add (.bin .mod (.bi .int (.cons (.var 2) (.nil))) (.bin .add (.bin .pow (.con (.int 10)) (.con (.int 25))) (.con (.int 13)))) (.bin .mul (.con (.int 60013)) (.bin .add (.var 1) (.con (.int 1))))) (.cons (.con (.int 0)) (.nil)))))) (.nil)) }
def f__law_draw_0_b1 : Ss := .cons (.asg (.nm 2) (.bin .mod (.bi .int (.cons (.sub (.var 0) (.con (.int 0))) (.nil))) (.var 1))) (.cons (.pst 0 (.con (.int 0)) (.bin .fdiv (.sub (.var 0) (.con (.int 0))) (.var 1))) (.cons (.ret (.mov 2)) (.nil)))
def f__law_draw_0 : FD := { ps := ["coil", "bound"], loc := ["drawn", "mixed"], body := .cons (.ite (.cmp .gt (.sub (.var 0) (.con (.int 0))) (.con (.int 0))) (f__law_draw_0_b1) (.nil)) (.cons (.pst 0 (.con (.int 2)) (.bin .add (.sub (.var 0) (.con (.int 2))) (.con (.int 1)))) (.cons (.asg (.nm 3) (.bin .mod (.bi .int (.cons (.bin .pow (.bin .add (.sub (.var 0) (.con (.int 1))) (.bin .mul (.con (.int 982451653)) (.sub (.var 0) (.con (.int 2))))) (.con (.int 3))) (.nil))) (.bin .add (.bin .pow (.con (.int 10)) (.con (.int 37))) (.con (.int 43))))) (.cons (.asg (.nm 3) (.bin .mod (.bi .int (.cons (.bin .pow (.bin .add (.var 3) (.bin .mul (.con (.int 472882027)) (.sub (.var 0) (.con (.int 2))))) (.con (.int 3))) (.nil))) (.bin .add (.bin .pow (.con (.int 10)) (.con (.int 41))) (.con (.int 37))))) (.cons (.ret (.bin .mod (.bi .int (.cons (.bin .fdiv (.var 3) (.con (.int 777787))) (.nil))) (.var 1))) (.nil))))) }
def f__law_pack_b1 : Ss := .cons (.asg (.nm 6) (.lst (.cons (.con (.int 0)) (.cons (.bin .sub (.var 3) (.con (.int 1))) (.cons (.var 3) (.cons (.call "_law_draw" (.cons (.var 0) (.cons (.var 3) (.nil)))) (.cons (.call "_law_draw" (.cons (.var 0) (.cons (.bin .mul (.con (.int 3)) (.var 3)) (.nil)))) (.nil)))))))) (.cons (.app 4 (.sub (.var 6) (.call "_law_draw" (.cons (.var 0) (.cons (.con (.int 5)) (.nil)))))) (.nil))
def f__law_pack : FD := { ps := ["coil", "most", "far"], loc := ["circle", "plays_here", "lap", "some"], body := .cons (.par [3, 4] (.cons (.sub (.lst (.cons (.con (.int 2)) (.cons (.con (.int 3)) (.cons (.bin .add (.con (.int 2)) (.call "_law_draw" (.cons (.var 0) (.cons (.con (.int 12)) (.nil))))) (.cons (.bin .add (.con (.int 2)) (.call "_law_draw" (.cons (.var 0) (.cons (.var 2) (.nil))))) (.nil)))))) (.call "_law_draw" (.cons (.var 0) (.cons (.con (.int 4)) (.nil))))) (.cons (.lst (.nil)) (.nil)))) (.cons (.for_ (.nm 5) (.rng1 (.bin .add (.con (.int 1)) (.call "_law_draw" (.cons (.var 0) (.cons (.var 1) (.nil)))))) (f__law_pack_b1)) (.cons (.ret (.tup (.cons (.mov 3) (.cons (.mov 4) (.nil))))) (.nil))) }
def f__law_stand_b1 : Ss := .cons (.asg (.nm 5) (.bin .sub (.var 5) (.sub (.lst (.cons (.con (.int 0)) (.cons (.var 6) (.cons (.call "_law_draw" (.cons (.var 0) (.cons (.bin .add (.var 6) (.con (.int 1))) (.nil)))) (.nil))))) (.call "_law_draw" (.cons (.var 0) (.cons (.con (.int 3)) (.nil))))))) (.cons (.app 4 (.var 5)) (.nil))
def f__law_stand : FD := { ps := ["coil", "pack", "far"], loc := ["knob", "spots", "ahead", "play"], body := .cons (.asg (.nm 3) (.bin .sub (.call "_law_draw" (.cons (.var 0) (.cons (.bin .add (.bin .mul (.con (.int 2)) (.var 2)) (.con (.int 1))) (.nil)))) (.var 2))) (.cons (.par [4, 5] (.cons (.lst (.nil)) (.cons (.var 3) (.nil)))) (.cons (.for_ (.nm 6) (.ex (.sub (.var 1) (.con (.int 1)))) (f__law_stand_b1)) (.cons (.ret (.tup (.cons (.mov 3) (.cons (.mov 4) (.nil))))) (.nil)))) }
def f__law_rows_0_b1 : Ss := .cons (.asg (.nm 2) (.bin .sub (.con (.int 1)) (.var 2))) (.nil)
def f__law_rows_0_b2 : Ss := .cons (.ite (.cmp .eq (.call "_law_draw" (.cons (.var 0) (.cons (.sub (.lst (.cons (.con (.int 2)) (.cons (.con (.int 5)) (.nil)))) (.bin .fdiv (.var 4) (.con (.int 30)))) (.nil)))) (.con (.int 0))) (f__law_rows_0_b1) (.nil)) (.cons (.app 1 (.bin .mul (.bin .add (.con (.int 1)) (.call "_law_draw" (.cons (.var 0) (.cons (.var 3) (.nil))))) (.sub (.lst (.cons (.neg (.con (.int 1))) (.cons (.con (.int 1)) (.nil)))) (.var 2)))) (.nil))
def f__law_rows_0 : FD := { ps := ["coil"], loc := ["found", "up", "far", "lap"], body := .cons (.par [1, 2, 3] (.cons (.lst (.nil)) (.cons (.call "_law_draw" (.cons (.var 0) (.cons (.con (.int 2)) (.nil)))) (.cons (.sub (.lst (.cons (.con (.int 3)) (.cons (.con (.int 100)) (.cons (.bin .pow (.con (.int 10)) (.con (.int 28))) (.nil))))) (.call "_law_draw" (.cons (.var 0) (.cons (.con (.int 3)) (.nil))))) (.nil))))) (.cons (.for_ (.nm 4) (.rng1 (.sub (.lst (.cons (.con (.int 0)) (.cons (.con (.int 1)) (.cons (.con (.int 5)) (.cons (.con (.int 60)) (.cons (.con (.int 60)) (.nil))))))) (.call "_law_draw" (.cons (.var 0) (.cons (.con (.int 5)) (.nil)))))) (f__law_rows_0_b2)) (.cons (.ret (.mov 1)) (.nil))) }
def f_is_at_least : FD := { ps := ["value", "least"], loc := [], body := .cons (.ret (.bo true (.cons (.call "is_integer" (.cons (.var 0) (.nil))) (.cons (.cmp .ge (.var 0) (.var 1)) (.nil))))) (.nil) }
def f_lock_fault_b1 : Ss := .cons (.ret (.tup (.cons (.con (.int 1)) (.nil)))) (.nil)
def f_lock_fault_b2 : Ss := .cons (.ret (.tup (.cons (.con (.int 0)) (.nil)))) (.nil)
def f_lock_fault_b3 : Ss := .cons (.ret (.tup (.cons (.con (.non)) (.nil)))) (.nil)
def f_lock_fault : FD := { ps := ["value"], loc := ["ring", "plays", "play"], body := .cons (.ite (.bo false (.cons (.nt (.isi (.var 0) "tuple")) (.cons (.cmp .ne (.bi .len (.cons (.var 0) (.nil))) (.con (.int 2))) (.nil)))) (f_lock_fault_b3) (.nil)) (.cons (.asg (.tp (.cons (.nm 1) (.cons (.nm 2) (.nil)))) (.var 0)) (.cons (.ite (.nt (.call "is_at_least" (.cons (.var 1) (.cons (.con (.int 2)) (.nil))))) (f_lock_fault_b2) (.nil)) (.cons (.ite (.bo false (.cons (.nt (.isi (.var 2) "list")) (.cons (.nt (.chn .le .le (.con (.int 1)) (.bi .len (.cons (.var 2) (.nil))) (.glo "MOST_WHEELS" (.int 8)))) (.nil)))) (f_lock_fault_b1) (.nil)) (.cons (.ret (.ife (.bi .all (.cons (.lc (.call "is_at_least" (.cons (.var 3) (.cons (.con (.int 0)) (.nil)))) (.nm 3) (.ex (.var 2)) (.nil) [3]) (.nil))) (.tup (.nil)) (.tup (.cons (.con (.int 1)) (.nil))))) (.nil))))) }
def f_require_lock_b1 : Ss := .cons (.nev) (.nil)
def f_require_lock : FD := { ps := ["lock"], loc := ["fault"], body := .cons (.asg (.nm 1) (.call "lock_fault" (.cons (.var 0) (.nil)))) (.cons (.ite (.cmp .ne (.var 1) (.tup (.nil))) (f_require_lock_b1) (.nil)) (.nil)) }
def f_places_right_b1 : Ss := .cons (.ret (.con (.bl false))) (.nil)
def f_places_right_b2 : Ss := .cons (.ite (.bo false (.cons (.nt (.call "is_integer" (.cons (.var 5) (.nil)))) (.cons (.nt (.chn .le .le (.con (.int 0)) (.bin .sub (.var 3) (.var 5)) (.var 4))) (.nil)))) (f_places_right_b1) (.nil)) (.cons (.asg (.nm 3) (.var 5)) (.nil))
def f_places_right_b3 : Ss := .cons (.ret (.con (.bl false))) (.nil)
def f_places_right : FD := { ps := ["plays", "dial", "places"], loc := ["ahead", "play", "place"], body := .cons (.ite (.bo false (.cons (.nt (.isi (.var 2) "list")) (.cons (.cmp .ne (.bi .len (.cons (.var 2) (.nil))) (.bi .len (.cons (.var 0) (.nil)))) (.nil)))) (f_places_right_b3) (.nil)) (.cons (.asg (.nm 3) (.var 1)) (.cons (.for_ (.tp (.cons (.nm 4) (.cons (.nm 5) (.nil)))) (.zip2 (.var 0) (.var 2)) (f_places_right_b2)) (.cons (.ret (.con (.bl true))) (.nil)))) }
def f_state_fault_b1 : Ss := .cons (.ret (.tup (.cons (.con (.int 0)) (.nil)))) (.nil)
def f_state_fault_b2 : Ss := .cons (.ret (.tup (.cons (.con (.non)) (.nil)))) (.nil)
def f_state_fault : FD := { ps := ["lock", "value"], loc := [], body := .cons (.ite (.bo false (.cons (.nt (.isi (.var 1) "tuple")) (.cons (.cmp .ne (.bi .len (.cons (.var 1) (.nil))) (.con (.int 2))) (.nil)))) (f_state_fault_b2) (.nil)) (.cons (.ite (.nt (.call "is_integer" (.cons (.sub (.var 1) (.con (.int 0))) (.nil)))) (f_state_fault_b1) (.nil)) (.cons (.ret (.ife (.call "places_right" (.cons (.sub (.var 0) (.con (.int 1))) (.cons (.sub (.var 1) (.con (.int 0))) (.cons (.sub (.var 1) (.con (.int 1))) (.nil))))) (.tup (.nil)) (.tup (.cons (.con (.int 1)) (.nil))))) (.nil))) }
def f_require_state_b1 : Ss := .cons (.nev) (.nil)
def f_require_state : FD := { ps := ["lock", "state"], loc := ["fault"], body := .cons (.asg (.nm 2) (.call "state_fault" (.cons (.var 0) (.cons (.var 1) (.nil))))) (.cons (.ite (.cmp .ne (.var 2) (.tup (.nil))) (f_require_state_b1) (.nil)) (.nil)) }
def f_wheel_reaches_b1 : Ss := .cons (.aug 2 .add (.var 3)) (.cons (.app 1 (.var 2)) (.nil))
def f_wheel_reaches : FD := { ps := ["lock"], loc := ["found", "reach", "play"], body := .cons (.par [1, 2] (.cons (.lst (.nil)) (.cons (.con (.int 0)) (.nil)))) (.cons (.for_ (.nm 3) (.ex (.sub (.var 0) (.con (.int 1)))) (f_wheel_reaches_b1)) (.cons (.ret (.mov 1)) (.nil))) }
def f_held_place : FD := { ps := ["place", "dial", "reach"], loc := [], body := .cons (.ret (.bi .min2 (.cons (.bi .max2 (.cons (.var 0) (.cons (.bin .sub (.var 1) (.var 2)) (.nil)))) (.cons (.var 1) (.nil))))) (.nil) }
def f_state_behind_b1 : Ss := .cons (.aug 3 .add (.var 6)) (.cons (.asg (.nm 4) (.lc (.call "held_place" (.cons (.var 7) (.cons (.var 3) (.cons (.var 8) (.nil))))) (.tp (.cons (.nm 7) (.cons (.nm 8) (.nil)))) (.zip2 (.var 4) (.var 5)) (.nil) [7, 8])) (.nil))
def f_state_behind : FD := { ps := ["lock", "state", "turns"], loc := ["dial", "places", "reaches", "turn", "place", "reach"], body := .cons (.asg (.tp (.cons (.nm 3) (.cons (.nm 4) (.nil)))) (.var 1)) (.cons (.par [5, 4] (.cons (.call "wheel_reaches" (.cons (.var 0) (.nil))) (.cons (.bi .list (.cons (.var 4) (.nil))) (.nil)))) (.cons (.for_ (.nm 6) (.ex (.var 2)) (f_state_behind_b1)) (.cons (.ret (.tup (.cons (.mov 3) (.cons (.mov 4) (.nil))))) (.nil)))) }
def f_turned_state : FD := { ps := ["lock", "state", "turns"], loc := [], body := .cons (.exp (.call "require_lock" (.cons (.var 0) (.nil)))) (.cons (.exp (.call "require_state" (.cons (.var 0) (.cons (.var 1) (.nil))))) (.cons (.exp (.call "require_turns" (.cons (.var 2) (.nil)))) (.cons (.ret (.call "state_behind" (.cons (.var 0) (.cons (.var 1) (.cons (.var 2) (.nil)))))) (.nil)))) }
def f__law_due_2_b1 : Ss := .cons (.app 1 (.con (.int 0))) (.nil)
def f__law_due_2_b2 : Ss := .cons (.ite (.bo false (.cons (.cmp .eq (.var 2) (.con (.int 0))) (.cons (.cmp .ne (.cmp .gt (.var 3) (.con (.int 0))) (.cmp .gt (.sub (.var 0) (.bin .sub (.var 2) (.con (.int 1)))) (.con (.int 0)))) (.nil)))) (f__law_due_2_b1) (.nil)) (.cons (.pst 1 (.neg (.con (.int 1))) (.bin .add (.sub (.var 1) (.neg (.con (.int 1)))) (.var 3))) (.nil))
def f__law_due_2 : FD := { ps := ["swings"], loc := ["found", "spot", "swing"], body := .cons (.asg (.nm 1) (.lst (.nil))) (.cons (.for_ (.tp (.cons (.nm 2) (.cons (.nm 3) (.nil)))) (.enum (.var 0)) (f__law_due_2_b2)) (.cons (.ret (.mov 1)) (.nil))) }
def f__law_right_3_b1 : Ss := .cons (.ret (.con (.bl false))) (.nil)
def f__law_right_3_b2 : Ss := .cons (.ret (.con (.bl false))) (.nil)
def f__law_right_3_b3 : Ss := .cons (.asg (.nm 8) (.calk "joined_turns" (.nil) ["turns"] (.cons (.var 2) (.nil)))) (.cons (.ite (.bo false (.cons (.cmp .ne (.rpr false (.cons (.var 8) (.cons (.calk "way_of" (.nil) ["turns"] (.cons (.var 2) (.nil))) (.nil)))) (.rpr false (.cons (.var 4) (.cons (.var 5) (.nil))))) (.cons (.cmp .ne (.var 2) (.var 3)) (.nil)))) (f__law_right_3_b2) (.nil)) (.cons (.app 8 (.con (.non))) (.nil)))
def f__law_right_3 : FD := { ps := ["pack", "stand", "swings"], loc := ["kept", "due", "way", "swing", "lap", "told"], body := .cons (.par [3, 4] (.cons (.bi .list (.cons (.var 2) (.nil))) (.cons (.call "_law_due" (.cons (.var 2) (.nil))) (.nil)))) (.cons (.asg (.nm 5) (.bi .sum (.cons (.lc (.ife (.cmp .gt (.var 6) (.con (.int 0))) (.var 6) (.bin .sub (.con (.int 0)) (.var 6))) (.nm 6) (.ex (.var 2)) (.nil) [6]) (.nil)))) (.cons (.for_ (.nm 7) (.rng1 (.con (.int 2))) (f__law_right_3_b3)) (.cons (.ite (.cmp .ne (.bi .repr (.cons (.lst (.cons (.call "joined_turns" (.cons (.var 2) (.nil))) (.cons (.call "way_of" (.cons (.var 2) (.nil))) (.cons (.call "way_of" (.cons (.var 4) (.nil))) (.cons (.call "joined_turns" (.cons (.var 4) (.nil))) (.nil)))))) (.nil))) (.rpr false (.cons (.var 4) (.cons (.var 5) (.cons (.var 5) (.cons (.var 4) (.nil))))))) (f__law_right_3_b1) (.nil)) (.cons (.ret (.cmp .eq (.call "turned_state" (.cons (.var 0) (.cons (.var 1) (.cons (.var 2) (.nil))))) (.call "turned_state" (.cons (.var 0) (.cons (.var 1) (.cons (.var 4) (.nil))))))) (.nil))))) }
def f_law_7_b1 : Ss := .cons (.ret (.con (.bl false))) (.nil)
def f_law_7_b2 : Ss := .cons (.asg (.nm 4) (.call "_law_pack" (.cons (.var 2) (.cons (.con (.int 8)) (.cons (.sub (.lst (.cons (.con (.int 30)) (.cons (.bin .pow (.con (.int 10)) (.con (.int 26))) (.nil)))) (.call "_law_draw" (.cons (.var 2) (.cons (.con (.int 2)) (.nil))))) (.nil)))))) (.cons (.ite (.nt (.call "_law_right" (.cons (.var 4) (.cons (.call "_law_stand" (.cons (.var 2) (.cons (.var 4) (.cons (.bin .pow (.con (.int 10)) (.con (.int 28))) (.nil))))) (.cons (.call "_law_rows" (.cons (.var 2) (.nil))) (.nil)))))) (f_law_7_b1) (.nil)) (.nil))
def f_law_7_b3 : Ss := .cons (.asg (.nm 2) (.call "_law_coil" (.cons (.var 0) (.cons (.var 1) (.nil))))) (.cons (.for_ (.nm 3) (.rng1 (.con (.int 4))) (f_law_7_b2)) (.nil))
def f_law_7 : FD := { ps := ["script"], loc := ["at", "coil", "lap", "pack", "told"], body := .cons (.for_ (.nm 1) (.rng1 (.bi .max2 (.cons (.con (.int 1)) (.cons (.bi .min2 (.cons (.con (.int 8)) (.cons (.bi .len (.cons (.var 0) (.nil))) (.nil)))) (.nil))))) (f_law_7_b3)) (.cons (.asg (.nm 5) (.lst (.cons (.call "joined_turns" (.cons (.lst (.cons (.con (.int 300)) (.cons (.con (.int 5)) (.cons (.neg (.con (.int 2))) (.cons (.neg (.con (.int 3))) (.cons (.con (.int 7)) (.nil))))))) (.nil))) (.cons (.call "joined_turns" (.cons (.lst (.cons (.con (.int 5)) (.cons (.neg (.con (.int 5))) (.nil)))) (.nil))) (.cons (.call "joined_turns" (.cons (.lst (.nil)) (.nil))) (.cons (.call "way_of" (.cons (.lst (.cons (.con (.int 300)) (.cons (.neg (.con (.int 100))) (.cons (.con (.int 91)) (.nil))))) (.nil))) (.nil))))))) (.cons (.ret (.cmp .eq (.var 5) (.lst (.cons (.lst (.cons (.con (.int 305)) (.cons (.neg (.con (.int 5))) (.cons (.con (.int 7)) (.nil))))) (.cons (.lst (.cons (.con (.int 5)) (.cons (.neg (.con (.int 5))) (.nil)))) (.cons (.lst (.nil)) (.cons (.con (.int 491)) (.nil)))))))) (.nil))) }
end DP
namespace DP
open PySem (sizeLine Str)
/-- the frame of a def's start -/
theorem wpF_eq {Γ : Sig} {f : FD} {ds : List D} {Q : D → List D → Prop} {R : Exc → Prop} : wpF Γ f ds Q R = wpSs Γ f.body (startE f ds) { nx := fun env => ∃ o, outsOf env Γ.me = some o ∧ Q .non o, rt := fun d env => ∃ o, outsOf env Γ.me = some o ∧ Q d o, bk := fun _ => False, ct := fun _ => False, ex := fun x _ => R x } := rfl
def isInt : D → Bool
  | .int _ => true
  | _ => false
def sp_is_integer : FSpec := fun ds Q _ => ∃ x, ds = [x] ∧ szD x ∧ Q (.bl (isInt x)) []
theorem w_is_integer {Γ : Sig} (hm : Γ.me = []) (ds : List D) (Q : D → List D → Prop) (R : Exc → Prop) (h : sp_is_integer ds Q R) : wpF Γ f_is_integer ds Q R := by
  obtain ⟨x, rfl, hz, q⟩ := h
  cases x <;> simp only [wpF_eq, f_is_integer, startE, hm, List.map_cons, List.map_nil, z_get0, z_getS, z_borV, z_stillV, z_stillsV, z_stillsN, z_shareV, z_bor_con, z_still_con, z_stills_con, z_share_con, z_bor_glo, z_still_glo, z_stills_glo, z_share_glo, z_bor_bin, z_still_bin, z_stills_bin, z_share_bin, z_bor_neg, z_still_neg, z_stills_neg, z_share_neg, z_bor_nt, z_still_nt, z_stills_nt, z_share_nt, z_bor_bo, z_still_bo, z_stills_bo, z_share_bo, z_bor_cmp, z_still_cmp, z_stills_cmp, z_share_cmp, z_bor_chn, z_still_chn, z_stills_chn, z_share_chn, z_bor_ife, z_still_ife, z_stills_ife, z_share_ife, z_bor_call, z_still_call, z_stills_call, z_share_call, z_bor_calk, z_still_calk, z_stills_calk, z_share_calk, z_bor_bi, z_still_bi, z_stills_bi, z_share_bi, z_bor_isi, z_still_isi, z_stills_isi, z_share_isi, z_bor_sub, z_still_sub, z_stills_sub, z_share_sub, z_bor_slc, z_still_slc, z_stills_slc, z_share_slc, z_bor_rpr, z_still_rpr, z_stills_rpr, z_share_rpr, z_bor_tup, z_still_tup, z_stills_tup, z_share_tup, z_bor_lst, z_still_lst, z_stills_lst, z_share_lst, z_bor_lc, z_still_lc, z_stills_lc, z_share_lc, z_bor_mov, z_still_mov, z_stills_mov, z_share_mov, z_setNm, z_setTpT, z_setTpL, z_setsN, z_setsC, z_putN, z_putC, z_var, z_mov, z_con, z_glo, z_bin, z_neg, z_nt, z_bo, z_cmp, z_chn, z_ife, z_call, z_calk, z_bi, z_isi, z_sub, z_slc, z_tup, z_lst, z_rprL, z_rprT, z_lc, z_esN, z_esC, z_bsN, z_bsC, z_aN, z_aM, z_aF, z_aE, z_oN, z_oY, z_bo1, z_bo2, zt_nt, zt_bo, zt_cmp, zt_chn, zt_isi, zt_call, zt_var, zt_bi, zt_to1, zt_to2, zt_tsN, zt_ts1, i_ex, i_r1, i_r2, i_r3, i_zip, i_enum, i_rev, c_asg, c_par, c_pst, c_pag, c_aug, c_app, c_exp, c_ite, c_for, c_ret, c_rtn, c_brk, c_cnt, c_pas, c_nev, c_nil, c_cons, b_add, b_sub, b_mul, b_fdiv, b_mod, b_pow, b_shl, b_shr, b_cat, b_rep, a_add, a_sub, a_mul, a_mod, q_eqI, q_neI, q_eqS, q_neS, q_eqB, q_neB, q_eqNil, q_neNil, q_lt, q_le, q_gt, q_ge, q_is, q_isnt, r_bl, r_int, r_lst, r_tup, s_szL, s_szT, s_subL, s_subT, s_slcL, s_slcT, s_itL, s_itT, s_liL, n_lenL, n_lenT, n_abs, n_min2, n_max2, n_int, n_intB, n_listL, n_listT, n_tupL, n_strI, n_boolI, n_allL, n_anyL, n_sumL, f_non, f_bl, f_int, f_str, f_tup, f_lst, f_nil, f_cons, g_int, g_bl, g_non, g_str, g_lstF, g_tup, g_lstT, g_nil, g_cons, o_nil, o_0, o_1, z_cast0, z_cast1, z_cast2, z_cast3, z_cast4, z_cast5, z_cast6, z_cast7, z_cast8, z_cast9, z_cast10, z_cast11, z_cast12, l_ltl0, l_ltl1, l_ltl2, l_ltl3, l_ltl4, l_ltl5, l_ltl6, l_ltl7, l_ltl8, l_ltl9, l_ltl10, l_ltl11, l_ltl12, l_line0, l_line1, l_line2, l_line3, l_line4, l_line5, l_line6, l_line7, l_line8, l_line9, l_line10, l_line11, l_line12, k_NoneType_int, k_NoneType_bool, k_NoneType_str, k_NoneType_list, k_NoneType_tuple, k_NoneType_dict, k_bool_int, k_bool_bool, k_bool_str, k_bool_list, k_bool_tuple, k_bool_dict, k_int_int, k_int_bool, k_int_str, k_int_list, k_int_tuple, k_int_dict, k_str_int, k_str_bool, k_str_str, k_str_list, k_str_tuple, k_str_dict, k_tuple_int, k_tuple_bool, k_tuple_str, k_tuple_list, k_tuple_tuple, k_tuple_dict, k_list_int, k_list_bool, k_list_str, k_list_list, k_list_tuple, k_list_dict, z_at0, z_at1, z_at2, z_at3, z_at4, z_at5, z_at6, z_at7, z_at8, z_ix1_0, z_ix2_0, z_ix2_1, z_ix3_0, z_ix3_1, z_ix3_2, z_ix4_0, z_ix4_1, z_ix4_2, z_ix4_3, z_ix5_0, z_ix5_1, z_ix5_2, z_ix5_3, z_ix5_4, z_ix6_0, z_ix6_1, z_ix6_2, z_ix6_3, z_ix6_4, z_ix6_5, z_ix7_0, z_ix7_1, z_ix7_2, z_ix7_3, z_ix7_4, z_ix7_5, z_ix7_6, z_ix8_0, z_ix8_1, z_ix8_2, z_ix8_3, z_ix8_4, z_ix8_5, z_ix8_6, z_ix8_7, Bool.not_eq_true', decide_eq_false_iff_not, ite_not, Bool.false_eq_true, Int.reduceEq, wipeE, backE, IL_fz, IL_isFz, fz_fz, fzL_fzL, List.set_cons_zero, List.set_cons_succ, List.getElem?_cons_zero, List.getElem?_cons_succ, List.length_cons, List.length_nil, and_true, true_and, Bool.and_true, Bool.true_and, Bool.not_true, Bool.not_false, Bool.not_not, if_true, if_false, ite_true, ite_false, Option.map_some, Option.some.injEq, exists_eq_left, exists_eq_left', D.int.injEq, D.lst.injEq, D.bl.injEq, D.str.injEq, D.tup.injEq, List.cons_append, List.nil_append, List.not_mem_nil, not_false_eq_true, Bool.false_eq_true, List.all_cons, List.all_nil, reduceIte, reduceCtorEq, List.isEmpty_cons, List.isEmpty_nil, eq_self, decide_true, decide_false, Bool.if_true_left, exists_eq, exists_eq', decide_eq_true_eq, Int.reduceToNat, Int.reducePow, Int.reduceNeg, Int.reduceLT, Int.reduceLE, Int.reduceSub, Int.reduceAdd, and_false, false_and, List.mem_cons, or_false, false_or, exists_and_left, Nat.zero_add, ne_eq, not_true_eq_false, Nat.reduceAdd, Nat.reduceLT, Nat.reduceEqDiff, Nat.reduceLeDiff] <;> simpa [isInt] using q
/-- turns: not 0, at most 60 -/
def Turns (ts : List Int) : Prop := ts.length ≤ 60 ∧ ∀ t ∈ ts, t ≠ 0
def sp_turns_fault : FSpec := fun ds Q _ => ∃ o ts, ds = [.lst o (IL ts)] ∧ Turns ts ∧ Q (.tup []) []
theorem enum_IL (ts : List Int) (k : Nat) : ((IL ts).zipIdx k).map (fun p => D.tup [.int p.2, p.1]) = (ts.zipIdx k).map fun p => D.tup [.int p.2, .int p.1] := by
  unfold IL
  rw [List.zipIdx_map, List.map_map]
  rfl
theorem w_turns_fault {Γ : Sig} (hm : Γ.me = []) (H1 : Has Γ "is_integer" [] sp_is_integer) (ds : List D) (Q : D → List D → Prop) (R : Exc → Prop) (h : sp_turns_fault ds Q R) : wpF Γ f_turns_fault ds Q R := by
  obtain ⟨o, ts, rfl, ⟨h1, h2⟩, q⟩ := h
  simp only [wpF_eq, f_turns_fault, startE, hm, List.map_cons, List.map_nil, IL_len, z_get0, z_getS, z_borV, z_stillV, z_stillsV, z_stillsN, z_shareV, z_bor_con, z_still_con, z_stills_con, z_share_con, z_bor_glo, z_still_glo, z_stills_glo, z_share_glo, z_bor_bin, z_still_bin, z_stills_bin, z_share_bin, z_bor_neg, z_still_neg, z_stills_neg, z_share_neg, z_bor_nt, z_still_nt, z_stills_nt, z_share_nt, z_bor_bo, z_still_bo, z_stills_bo, z_share_bo, z_bor_cmp, z_still_cmp, z_stills_cmp, z_share_cmp, z_bor_chn, z_still_chn, z_stills_chn, z_share_chn, z_bor_ife, z_still_ife, z_stills_ife, z_share_ife, z_bor_call, z_still_call, z_stills_call, z_share_call, z_bor_calk, z_still_calk, z_stills_calk, z_share_calk, z_bor_bi, z_still_bi, z_stills_bi, z_share_bi, z_bor_isi, z_still_isi, z_stills_isi, z_share_isi, z_bor_sub, z_still_sub, z_stills_sub, z_share_sub, z_bor_slc, z_still_slc, z_stills_slc, z_share_slc, z_bor_rpr, z_still_rpr, z_stills_rpr, z_share_rpr, z_bor_tup, z_still_tup, z_stills_tup, z_share_tup, z_bor_lst, z_still_lst, z_stills_lst, z_share_lst, z_bor_lc, z_still_lc, z_stills_lc, z_share_lc, z_bor_mov, z_still_mov, z_stills_mov, z_share_mov, z_setNm, z_setTpT, z_setTpL, z_setsN, z_setsC, z_putN, z_putC, z_var, z_mov, z_con, z_glo, z_bin, z_neg, z_nt, z_bo, z_cmp, z_chn, z_ife, z_call, z_calk, z_bi, z_isi, z_sub, z_slc, z_tup, z_lst, z_rprL, z_rprT, z_lc, z_esN, z_esC, z_bsN, z_bsC, z_aN, z_aM, z_aF, z_aE, z_oN, z_oY, z_bo1, z_bo2, zt_nt, zt_bo, zt_cmp, zt_chn, zt_isi, zt_call, zt_var, zt_bi, zt_to1, zt_to2, zt_tsN, zt_ts1, i_ex, i_r1, i_r2, i_r3, i_zip, i_enum, i_rev, c_asg, c_par, c_pst, c_pag, c_aug, c_app, c_exp, c_ite, c_for, c_ret, c_rtn, c_brk, c_cnt, c_pas, c_nev, c_nil, c_cons, b_add, b_sub, b_mul, b_fdiv, b_mod, b_pow, b_shl, b_shr, b_cat, b_rep, a_add, a_sub, a_mul, a_mod, q_eqI, q_neI, q_eqS, q_neS, q_eqB, q_neB, q_eqNil, q_neNil, q_lt, q_le, q_gt, q_ge, q_is, q_isnt, r_bl, r_int, r_lst, r_tup, s_szL, s_szT, s_subL, s_subT, s_slcL, s_slcT, s_itL, s_itT, s_liL, n_lenL, n_lenT, n_abs, n_min2, n_max2, n_int, n_intB, n_listL, n_listT, n_tupL, n_strI, n_boolI, n_allL, n_anyL, n_sumL, f_non, f_bl, f_int, f_str, f_tup, f_lst, f_nil, f_cons, g_int, g_bl, g_non, g_str, g_lstF, g_tup, g_lstT, g_nil, g_cons, o_nil, o_0, o_1, z_cast0, z_cast1, z_cast2, z_cast3, z_cast4, z_cast5, z_cast6, z_cast7, z_cast8, z_cast9, z_cast10, z_cast11, z_cast12, l_ltl0, l_ltl1, l_ltl2, l_ltl3, l_ltl4, l_ltl5, l_ltl6, l_ltl7, l_ltl8, l_ltl9, l_ltl10, l_ltl11, l_ltl12, l_line0, l_line1, l_line2, l_line3, l_line4, l_line5, l_line6, l_line7, l_line8, l_line9, l_line10, l_line11, l_line12, k_NoneType_int, k_NoneType_bool, k_NoneType_str, k_NoneType_list, k_NoneType_tuple, k_NoneType_dict, k_bool_int, k_bool_bool, k_bool_str, k_bool_list, k_bool_tuple, k_bool_dict, k_int_int, k_int_bool, k_int_str, k_int_list, k_int_tuple, k_int_dict, k_str_int, k_str_bool, k_str_str, k_str_list, k_str_tuple, k_str_dict, k_tuple_int, k_tuple_bool, k_tuple_str, k_tuple_list, k_tuple_tuple, k_tuple_dict, k_list_int, k_list_bool, k_list_str, k_list_list, k_list_tuple, k_list_dict, z_at0, z_at1, z_at2, z_at3, z_at4, z_at5, z_at6, z_at7, z_at8, z_ix1_0, z_ix2_0, z_ix2_1, z_ix3_0, z_ix3_1, z_ix3_2, z_ix4_0, z_ix4_1, z_ix4_2, z_ix4_3, z_ix5_0, z_ix5_1, z_ix5_2, z_ix5_3, z_ix5_4, z_ix6_0, z_ix6_1, z_ix6_2, z_ix6_3, z_ix6_4, z_ix6_5, z_ix7_0, z_ix7_1, z_ix7_2, z_ix7_3, z_ix7_4, z_ix7_5, z_ix7_6, z_ix8_0, z_ix8_1, z_ix8_2, z_ix8_3, z_ix8_4, z_ix8_5, z_ix8_6, z_ix8_7, Bool.not_eq_true', decide_eq_false_iff_not, ite_not, Bool.false_eq_true, Int.reduceEq, wipeE, backE, IL_fz, IL_isFz, fz_fz, fzL_fzL, List.set_cons_zero, List.set_cons_succ, List.getElem?_cons_zero, List.getElem?_cons_succ, List.length_cons, List.length_nil, and_true, true_and, Bool.and_true, Bool.true_and, Bool.not_true, Bool.not_false, Bool.not_not, if_true, if_false, ite_true, ite_false, Option.map_some, Option.some.injEq, exists_eq_left, exists_eq_left', D.int.injEq, D.lst.injEq, D.bl.injEq, D.str.injEq, D.tup.injEq, List.cons_append, List.nil_append, List.not_mem_nil, not_false_eq_true, Bool.false_eq_true, List.all_cons, List.all_nil, reduceIte, reduceCtorEq, List.isEmpty_cons, List.isEmpty_nil, eq_self, decide_true, decide_false, Bool.if_true_left, exists_eq, exists_eq', decide_eq_true_eq, Int.reduceToNat, Int.reducePow, Int.reduceNeg, Int.reduceLT, Int.reduceLE, Int.reduceSub, Int.reduceAdd, and_false, false_and, List.mem_cons, or_false, false_or, exists_and_left, Nat.zero_add, ne_eq, not_true_eq_false, Nat.reduceAdd, Nat.reduceLT, Nat.reduceEqDiff, Nat.reduceLeDiff]
  rw [if_neg (by omega)]
  refine forD (fun items e => ∃ l a b, (∀ p ∈ l, p.1 ≠ 0) ∧ items = l.map (fun p => D.tup [.int (p.2 : Nat), .int p.1]) ∧ e = [some (.lst false (IL ts)), a, b]) ⟨ts.zipIdx, none, none, fun p hp => h2 _ (List.fst_mem_of_mem_zipIdx hp), enum_IL ts 0, rfl⟩ ?_ ?_
  · rintro e ⟨l, a, b, _, _, rfl⟩
    exact q
  · rintro x xs e k ⟨l, a, b, hl, hi, rfl⟩ hk
    cases l with
    | nil => simp at hi
    | cons p l =>
      simp only [List.map_cons, List.cons.injEq] at hi
      obtain ⟨rfl, rfl⟩ := hi
      simp only [forStep, f_turns_fault_b2, f_turns_fault_b1, hm, H1.sp, H1.io, z_get0, z_getS, z_borV, z_stillV, z_stillsV, z_stillsN, z_shareV, z_bor_con, z_still_con, z_stills_con, z_share_con, z_bor_glo, z_still_glo, z_stills_glo, z_share_glo, z_bor_bin, z_still_bin, z_stills_bin, z_share_bin, z_bor_neg, z_still_neg, z_stills_neg, z_share_neg, z_bor_nt, z_still_nt, z_stills_nt, z_share_nt, z_bor_bo, z_still_bo, z_stills_bo, z_share_bo, z_bor_cmp, z_still_cmp, z_stills_cmp, z_share_cmp, z_bor_chn, z_still_chn, z_stills_chn, z_share_chn, z_bor_ife, z_still_ife, z_stills_ife, z_share_ife, z_bor_call, z_still_call, z_stills_call, z_share_call, z_bor_calk, z_still_calk, z_stills_calk, z_share_calk, z_bor_bi, z_still_bi, z_stills_bi, z_share_bi, z_bor_isi, z_still_isi, z_stills_isi, z_share_isi, z_bor_sub, z_still_sub, z_stills_sub, z_share_sub, z_bor_slc, z_still_slc, z_stills_slc, z_share_slc, z_bor_rpr, z_still_rpr, z_stills_rpr, z_share_rpr, z_bor_tup, z_still_tup, z_stills_tup, z_share_tup, z_bor_lst, z_still_lst, z_stills_lst, z_share_lst, z_bor_lc, z_still_lc, z_stills_lc, z_share_lc, z_bor_mov, z_still_mov, z_stills_mov, z_share_mov, z_setNm, z_setTpT, z_setTpL, z_setsN, z_setsC, z_putN, z_putC, z_var, z_mov, z_con, z_glo, z_bin, z_neg, z_nt, z_bo, z_cmp, z_chn, z_ife, z_call, z_calk, z_bi, z_isi, z_sub, z_slc, z_tup, z_lst, z_rprL, z_rprT, z_lc, z_esN, z_esC, z_bsN, z_bsC, z_aN, z_aM, z_aF, z_aE, z_oN, z_oY, z_bo1, z_bo2, zt_nt, zt_bo, zt_cmp, zt_chn, zt_isi, zt_call, zt_var, zt_bi, zt_to1, zt_to2, zt_tsN, zt_ts1, i_ex, i_r1, i_r2, i_r3, i_zip, i_enum, i_rev, c_asg, c_par, c_pst, c_pag, c_aug, c_app, c_exp, c_ite, c_for, c_ret, c_rtn, c_brk, c_cnt, c_pas, c_nev, c_nil, c_cons, b_add, b_sub, b_mul, b_fdiv, b_mod, b_pow, b_shl, b_shr, b_cat, b_rep, a_add, a_sub, a_mul, a_mod, q_eqI, q_neI, q_eqS, q_neS, q_eqB, q_neB, q_eqNil, q_neNil, q_lt, q_le, q_gt, q_ge, q_is, q_isnt, r_bl, r_int, r_lst, r_tup, s_szL, s_szT, s_subL, s_subT, s_slcL, s_slcT, s_itL, s_itT, s_liL, n_lenL, n_lenT, n_abs, n_min2, n_max2, n_int, n_intB, n_listL, n_listT, n_tupL, n_strI, n_boolI, n_allL, n_anyL, n_sumL, f_non, f_bl, f_int, f_str, f_tup, f_lst, f_nil, f_cons, g_int, g_bl, g_non, g_str, g_lstF, g_tup, g_lstT, g_nil, g_cons, o_nil, o_0, o_1, z_cast0, z_cast1, z_cast2, z_cast3, z_cast4, z_cast5, z_cast6, z_cast7, z_cast8, z_cast9, z_cast10, z_cast11, z_cast12, l_ltl0, l_ltl1, l_ltl2, l_ltl3, l_ltl4, l_ltl5, l_ltl6, l_ltl7, l_ltl8, l_ltl9, l_ltl10, l_ltl11, l_ltl12, l_line0, l_line1, l_line2, l_line3, l_line4, l_line5, l_line6, l_line7, l_line8, l_line9, l_line10, l_line11, l_line12, k_NoneType_int, k_NoneType_bool, k_NoneType_str, k_NoneType_list, k_NoneType_tuple, k_NoneType_dict, k_bool_int, k_bool_bool, k_bool_str, k_bool_list, k_bool_tuple, k_bool_dict, k_int_int, k_int_bool, k_int_str, k_int_list, k_int_tuple, k_int_dict, k_str_int, k_str_bool, k_str_str, k_str_list, k_str_tuple, k_str_dict, k_tuple_int, k_tuple_bool, k_tuple_str, k_tuple_list, k_tuple_tuple, k_tuple_dict, k_list_int, k_list_bool, k_list_str, k_list_list, k_list_tuple, k_list_dict, z_at0, z_at1, z_at2, z_at3, z_at4, z_at5, z_at6, z_at7, z_at8, z_ix1_0, z_ix2_0, z_ix2_1, z_ix3_0, z_ix3_1, z_ix3_2, z_ix4_0, z_ix4_1, z_ix4_2, z_ix4_3, z_ix5_0, z_ix5_1, z_ix5_2, z_ix5_3, z_ix5_4, z_ix6_0, z_ix6_1, z_ix6_2, z_ix6_3, z_ix6_4, z_ix6_5, z_ix7_0, z_ix7_1, z_ix7_2, z_ix7_3, z_ix7_4, z_ix7_5, z_ix7_6, z_ix8_0, z_ix8_1, z_ix8_2, z_ix8_3, z_ix8_4, z_ix8_5, z_ix8_6, z_ix8_7, Bool.not_eq_true', decide_eq_false_iff_not, ite_not, Bool.false_eq_true, Int.reduceEq, wipeE, backE, IL_fz, IL_isFz, fz_fz, fzL_fzL, List.set_cons_zero, List.set_cons_succ, List.getElem?_cons_zero, List.getElem?_cons_succ, List.length_cons, List.length_nil, and_true, true_and, Bool.and_true, Bool.true_and, Bool.not_true, Bool.not_false, Bool.not_not, if_true, if_false, ite_true, ite_false, Option.map_some, Option.some.injEq, exists_eq_left, exists_eq_left', D.int.injEq, D.lst.injEq, D.bl.injEq, D.str.injEq, D.tup.injEq, List.cons_append, List.nil_append, List.not_mem_nil, not_false_eq_true, Bool.false_eq_true, List.all_cons, List.all_nil, reduceIte, reduceCtorEq, List.isEmpty_cons, List.isEmpty_nil, eq_self, decide_true, decide_false, Bool.if_true_left, exists_eq, exists_eq', decide_eq_true_eq, Int.reduceToNat, Int.reducePow, Int.reduceNeg, Int.reduceLT, Int.reduceLE, Int.reduceSub, Int.reduceAdd, and_false, false_and, List.mem_cons, or_false, false_or, exists_and_left, Nat.zero_add, ne_eq, not_true_eq_false, Nat.reduceAdd, Nat.reduceLT, Nat.reduceEqDiff, Nat.reduceLeDiff]
      refine ⟨_, rfl, trivial, rfl, ?_⟩
      simp only [isInt]
      (try simp only [hm, z_get0, z_getS, z_borV, z_stillV, z_stillsV, z_stillsN, z_shareV, z_bor_con, z_still_con, z_stills_con, z_share_con, z_bor_glo, z_still_glo, z_stills_glo, z_share_glo, z_bor_bin, z_still_bin, z_stills_bin, z_share_bin, z_bor_neg, z_still_neg, z_stills_neg, z_share_neg, z_bor_nt, z_still_nt, z_stills_nt, z_share_nt, z_bor_bo, z_still_bo, z_stills_bo, z_share_bo, z_bor_cmp, z_still_cmp, z_stills_cmp, z_share_cmp, z_bor_chn, z_still_chn, z_stills_chn, z_share_chn, z_bor_ife, z_still_ife, z_stills_ife, z_share_ife, z_bor_call, z_still_call, z_stills_call, z_share_call, z_bor_calk, z_still_calk, z_stills_calk, z_share_calk, z_bor_bi, z_still_bi, z_stills_bi, z_share_bi, z_bor_isi, z_still_isi, z_stills_isi, z_share_isi, z_bor_sub, z_still_sub, z_stills_sub, z_share_sub, z_bor_slc, z_still_slc, z_stills_slc, z_share_slc, z_bor_rpr, z_still_rpr, z_stills_rpr, z_share_rpr, z_bor_tup, z_still_tup, z_stills_tup, z_share_tup, z_bor_lst, z_still_lst, z_stills_lst, z_share_lst, z_bor_lc, z_still_lc, z_stills_lc, z_share_lc, z_bor_mov, z_still_mov, z_stills_mov, z_share_mov, z_setNm, z_setTpT, z_setTpL, z_setsN, z_setsC, z_putN, z_putC, z_var, z_mov, z_con, z_glo, z_bin, z_neg, z_nt, z_bo, z_cmp, z_chn, z_ife, z_call, z_calk, z_bi, z_isi, z_sub, z_slc, z_tup, z_lst, z_rprL, z_rprT, z_lc, z_esN, z_esC, z_bsN, z_bsC, z_aN, z_aM, z_aF, z_aE, z_oN, z_oY, z_bo1, z_bo2, zt_nt, zt_bo, zt_cmp, zt_chn, zt_isi, zt_call, zt_var, zt_bi, zt_to1, zt_to2, zt_tsN, zt_ts1, i_ex, i_r1, i_r2, i_r3, i_zip, i_enum, i_rev, c_asg, c_par, c_pst, c_pag, c_aug, c_app, c_exp, c_ite, c_for, c_ret, c_rtn, c_brk, c_cnt, c_pas, c_nev, c_nil, c_cons, b_add, b_sub, b_mul, b_fdiv, b_mod, b_pow, b_shl, b_shr, b_cat, b_rep, a_add, a_sub, a_mul, a_mod, q_eqI, q_neI, q_eqS, q_neS, q_eqB, q_neB, q_eqNil, q_neNil, q_lt, q_le, q_gt, q_ge, q_is, q_isnt, r_bl, r_int, r_lst, r_tup, s_szL, s_szT, s_subL, s_subT, s_slcL, s_slcT, s_itL, s_itT, s_liL, n_lenL, n_lenT, n_abs, n_min2, n_max2, n_int, n_intB, n_listL, n_listT, n_tupL, n_strI, n_boolI, n_allL, n_anyL, n_sumL, f_non, f_bl, f_int, f_str, f_tup, f_lst, f_nil, f_cons, g_int, g_bl, g_non, g_str, g_lstF, g_tup, g_lstT, g_nil, g_cons, o_nil, o_0, o_1, z_cast0, z_cast1, z_cast2, z_cast3, z_cast4, z_cast5, z_cast6, z_cast7, z_cast8, z_cast9, z_cast10, z_cast11, z_cast12, l_ltl0, l_ltl1, l_ltl2, l_ltl3, l_ltl4, l_ltl5, l_ltl6, l_ltl7, l_ltl8, l_ltl9, l_ltl10, l_ltl11, l_ltl12, l_line0, l_line1, l_line2, l_line3, l_line4, l_line5, l_line6, l_line7, l_line8, l_line9, l_line10, l_line11, l_line12, k_NoneType_int, k_NoneType_bool, k_NoneType_str, k_NoneType_list, k_NoneType_tuple, k_NoneType_dict, k_bool_int, k_bool_bool, k_bool_str, k_bool_list, k_bool_tuple, k_bool_dict, k_int_int, k_int_bool, k_int_str, k_int_list, k_int_tuple, k_int_dict, k_str_int, k_str_bool, k_str_str, k_str_list, k_str_tuple, k_str_dict, k_tuple_int, k_tuple_bool, k_tuple_str, k_tuple_list, k_tuple_tuple, k_tuple_dict, k_list_int, k_list_bool, k_list_str, k_list_list, k_list_tuple, k_list_dict, z_at0, z_at1, z_at2, z_at3, z_at4, z_at5, z_at6, z_at7, z_at8, z_ix1_0, z_ix2_0, z_ix2_1, z_ix3_0, z_ix3_1, z_ix3_2, z_ix4_0, z_ix4_1, z_ix4_2, z_ix4_3, z_ix5_0, z_ix5_1, z_ix5_2, z_ix5_3, z_ix5_4, z_ix6_0, z_ix6_1, z_ix6_2, z_ix6_3, z_ix6_4, z_ix6_5, z_ix7_0, z_ix7_1, z_ix7_2, z_ix7_3, z_ix7_4, z_ix7_5, z_ix7_6, z_ix8_0, z_ix8_1, z_ix8_2, z_ix8_3, z_ix8_4, z_ix8_5, z_ix8_6, z_ix8_7, Bool.not_eq_true', decide_eq_false_iff_not, ite_not, Bool.false_eq_true, Int.reduceEq, wipeE, backE, IL_fz, IL_isFz, fz_fz, fzL_fzL, List.set_cons_zero, List.set_cons_succ, List.getElem?_cons_zero, List.getElem?_cons_succ, List.length_cons, List.length_nil, and_true, true_and, Bool.and_true, Bool.true_and, Bool.not_true, Bool.not_false, Bool.not_not, if_true, if_false, ite_true, ite_false, Option.map_some, Option.some.injEq, exists_eq_left, exists_eq_left', D.int.injEq, D.lst.injEq, D.bl.injEq, D.str.injEq, D.tup.injEq, List.cons_append, List.nil_append, List.not_mem_nil, not_false_eq_true, Bool.false_eq_true, List.all_cons, List.all_nil, reduceIte, reduceCtorEq, List.isEmpty_cons, List.isEmpty_nil, eq_self, decide_true, decide_false, Bool.if_true_left, exists_eq, exists_eq', decide_eq_true_eq, Int.reduceToNat, Int.reducePow, Int.reduceNeg, Int.reduceLT, Int.reduceLE, Int.reduceSub, Int.reduceAdd, and_false, false_and, List.mem_cons, or_false, false_or, exists_and_left, Nat.zero_add, ne_eq, not_true_eq_false, Nat.reduceAdd, Nat.reduceLT, Nat.reduceEqDiff, Nat.reduceLeDiff])
      rw [if_neg (hl p List.mem_cons_self)]
      exact hk _ ⟨l, _, _, fun p hp => hl p (List.mem_cons_of_mem _ hp), rfl, rfl⟩

def sp_require_turns : FSpec := fun ds Q _ => ∃ o ts, ds = [.lst o (IL ts)] ∧ Turns ts ∧ Q .non []
theorem w_require_turns {Γ : Sig} (hm : Γ.me = []) (H1 : Has Γ "turns_fault" [] sp_turns_fault) (ds : List D) (Q : D → List D → Prop) (R : Exc → Prop) (h : sp_require_turns ds Q R) : wpF Γ f_require_turns ds Q R := by
  obtain ⟨o, ts, rfl, ht, q⟩ := h
  simp only [wpF_eq, f_require_turns, f_require_turns_b1, startE, hm, H1.sp, H1.io, List.map_cons, List.map_nil, z_get0, z_getS, z_borV, z_stillV, z_stillsV, z_stillsN, z_shareV, z_bor_con, z_still_con, z_stills_con, z_share_con, z_bor_glo, z_still_glo, z_stills_glo, z_share_glo, z_bor_bin, z_still_bin, z_stills_bin, z_share_bin, z_bor_neg, z_still_neg, z_stills_neg, z_share_neg, z_bor_nt, z_still_nt, z_stills_nt, z_share_nt, z_bor_bo, z_still_bo, z_stills_bo, z_share_bo, z_bor_cmp, z_still_cmp, z_stills_cmp, z_share_cmp, z_bor_chn, z_still_chn, z_stills_chn, z_share_chn, z_bor_ife, z_still_ife, z_stills_ife, z_share_ife, z_bor_call, z_still_call, z_stills_call, z_share_call, z_bor_calk, z_still_calk, z_stills_calk, z_share_calk, z_bor_bi, z_still_bi, z_stills_bi, z_share_bi, z_bor_isi, z_still_isi, z_stills_isi, z_share_isi, z_bor_sub, z_still_sub, z_stills_sub, z_share_sub, z_bor_slc, z_still_slc, z_stills_slc, z_share_slc, z_bor_rpr, z_still_rpr, z_stills_rpr, z_share_rpr, z_bor_tup, z_still_tup, z_stills_tup, z_share_tup, z_bor_lst, z_still_lst, z_stills_lst, z_share_lst, z_bor_lc, z_still_lc, z_stills_lc, z_share_lc, z_bor_mov, z_still_mov, z_stills_mov, z_share_mov, z_setNm, z_setTpT, z_setTpL, z_setsN, z_setsC, z_putN, z_putC, z_var, z_mov, z_con, z_glo, z_bin, z_neg, z_nt, z_bo, z_cmp, z_chn, z_ife, z_call, z_calk, z_bi, z_isi, z_sub, z_slc, z_tup, z_lst, z_rprL, z_rprT, z_lc, z_esN, z_esC, z_bsN, z_bsC, z_aN, z_aM, z_aF, z_aE, z_oN, z_oY, z_bo1, z_bo2, zt_nt, zt_bo, zt_cmp, zt_chn, zt_isi, zt_call, zt_var, zt_bi, zt_to1, zt_to2, zt_tsN, zt_ts1, i_ex, i_r1, i_r2, i_r3, i_zip, i_enum, i_rev, c_asg, c_par, c_pst, c_pag, c_aug, c_app, c_exp, c_ite, c_for, c_ret, c_rtn, c_brk, c_cnt, c_pas, c_nev, c_nil, c_cons, b_add, b_sub, b_mul, b_fdiv, b_mod, b_pow, b_shl, b_shr, b_cat, b_rep, a_add, a_sub, a_mul, a_mod, q_eqI, q_neI, q_eqS, q_neS, q_eqB, q_neB, q_eqNil, q_neNil, q_lt, q_le, q_gt, q_ge, q_is, q_isnt, r_bl, r_int, r_lst, r_tup, s_szL, s_szT, s_subL, s_subT, s_slcL, s_slcT, s_itL, s_itT, s_liL, n_lenL, n_lenT, n_abs, n_min2, n_max2, n_int, n_intB, n_listL, n_listT, n_tupL, n_strI, n_boolI, n_allL, n_anyL, n_sumL, f_non, f_bl, f_int, f_str, f_tup, f_lst, f_nil, f_cons, g_int, g_bl, g_non, g_str, g_lstF, g_tup, g_lstT, g_nil, g_cons, o_nil, o_0, o_1, z_cast0, z_cast1, z_cast2, z_cast3, z_cast4, z_cast5, z_cast6, z_cast7, z_cast8, z_cast9, z_cast10, z_cast11, z_cast12, l_ltl0, l_ltl1, l_ltl2, l_ltl3, l_ltl4, l_ltl5, l_ltl6, l_ltl7, l_ltl8, l_ltl9, l_ltl10, l_ltl11, l_ltl12, l_line0, l_line1, l_line2, l_line3, l_line4, l_line5, l_line6, l_line7, l_line8, l_line9, l_line10, l_line11, l_line12, k_NoneType_int, k_NoneType_bool, k_NoneType_str, k_NoneType_list, k_NoneType_tuple, k_NoneType_dict, k_bool_int, k_bool_bool, k_bool_str, k_bool_list, k_bool_tuple, k_bool_dict, k_int_int, k_int_bool, k_int_str, k_int_list, k_int_tuple, k_int_dict, k_str_int, k_str_bool, k_str_str, k_str_list, k_str_tuple, k_str_dict, k_tuple_int, k_tuple_bool, k_tuple_str, k_tuple_list, k_tuple_tuple, k_tuple_dict, k_list_int, k_list_bool, k_list_str, k_list_list, k_list_tuple, k_list_dict, z_at0, z_at1, z_at2, z_at3, z_at4, z_at5, z_at6, z_at7, z_at8, z_ix1_0, z_ix2_0, z_ix2_1, z_ix3_0, z_ix3_1, z_ix3_2, z_ix4_0, z_ix4_1, z_ix4_2, z_ix4_3, z_ix5_0, z_ix5_1, z_ix5_2, z_ix5_3, z_ix5_4, z_ix6_0, z_ix6_1, z_ix6_2, z_ix6_3, z_ix6_4, z_ix6_5, z_ix7_0, z_ix7_1, z_ix7_2, z_ix7_3, z_ix7_4, z_ix7_5, z_ix7_6, z_ix8_0, z_ix8_1, z_ix8_2, z_ix8_3, z_ix8_4, z_ix8_5, z_ix8_6, z_ix8_7, Bool.not_eq_true', decide_eq_false_iff_not, ite_not, Bool.false_eq_true, Int.reduceEq, wipeE, backE, IL_fz, IL_isFz, fz_fz, fzL_fzL, List.set_cons_zero, List.set_cons_succ, List.getElem?_cons_zero, List.getElem?_cons_succ, List.length_cons, List.length_nil, and_true, true_and, Bool.and_true, Bool.true_and, Bool.not_true, Bool.not_false, Bool.not_not, if_true, if_false, ite_true, ite_false, Option.map_some, Option.some.injEq, exists_eq_left, exists_eq_left', D.int.injEq, D.lst.injEq, D.bl.injEq, D.str.injEq, D.tup.injEq, List.cons_append, List.nil_append, List.not_mem_nil, not_false_eq_true, Bool.false_eq_true, List.all_cons, List.all_nil, reduceIte, reduceCtorEq, List.isEmpty_cons, List.isEmpty_nil, eq_self, decide_true, decide_false, Bool.if_true_left, exists_eq, exists_eq', decide_eq_true_eq, Int.reduceToNat, Int.reducePow, Int.reduceNeg, Int.reduceLT, Int.reduceLE, Int.reduceSub, Int.reduceAdd, and_false, false_and, List.mem_cons, or_false, false_or, exists_and_left, Nat.zero_add, ne_eq, not_true_eq_false, Nat.reduceAdd, Nat.reduceLT, Nat.reduceEqDiff, Nat.reduceLeDiff]
  refine ⟨_, ts, rfl, ht, rfl, ?_⟩
  refine cmp_nsame rfl rfl ?_
  (try simp only [hm, z_get0, z_getS, z_borV, z_stillV, z_stillsV, z_stillsN, z_shareV, z_bor_con, z_still_con, z_stills_con, z_share_con, z_bor_glo, z_still_glo, z_stills_glo, z_share_glo, z_bor_bin, z_still_bin, z_stills_bin, z_share_bin, z_bor_neg, z_still_neg, z_stills_neg, z_share_neg, z_bor_nt, z_still_nt, z_stills_nt, z_share_nt, z_bor_bo, z_still_bo, z_stills_bo, z_share_bo, z_bor_cmp, z_still_cmp, z_stills_cmp, z_share_cmp, z_bor_chn, z_still_chn, z_stills_chn, z_share_chn, z_bor_ife, z_still_ife, z_stills_ife, z_share_ife, z_bor_call, z_still_call, z_stills_call, z_share_call, z_bor_calk, z_still_calk, z_stills_calk, z_share_calk, z_bor_bi, z_still_bi, z_stills_bi, z_share_bi, z_bor_isi, z_still_isi, z_stills_isi, z_share_isi, z_bor_sub, z_still_sub, z_stills_sub, z_share_sub, z_bor_slc, z_still_slc, z_stills_slc, z_share_slc, z_bor_rpr, z_still_rpr, z_stills_rpr, z_share_rpr, z_bor_tup, z_still_tup, z_stills_tup, z_share_tup, z_bor_lst, z_still_lst, z_stills_lst, z_share_lst, z_bor_lc, z_still_lc, z_stills_lc, z_share_lc, z_bor_mov, z_still_mov, z_stills_mov, z_share_mov, z_setNm, z_setTpT, z_setTpL, z_setsN, z_setsC, z_putN, z_putC, z_var, z_mov, z_con, z_glo, z_bin, z_neg, z_nt, z_bo, z_cmp, z_chn, z_ife, z_call, z_calk, z_bi, z_isi, z_sub, z_slc, z_tup, z_lst, z_rprL, z_rprT, z_lc, z_esN, z_esC, z_bsN, z_bsC, z_aN, z_aM, z_aF, z_aE, z_oN, z_oY, z_bo1, z_bo2, zt_nt, zt_bo, zt_cmp, zt_chn, zt_isi, zt_call, zt_var, zt_bi, zt_to1, zt_to2, zt_tsN, zt_ts1, i_ex, i_r1, i_r2, i_r3, i_zip, i_enum, i_rev, c_asg, c_par, c_pst, c_pag, c_aug, c_app, c_exp, c_ite, c_for, c_ret, c_rtn, c_brk, c_cnt, c_pas, c_nev, c_nil, c_cons, b_add, b_sub, b_mul, b_fdiv, b_mod, b_pow, b_shl, b_shr, b_cat, b_rep, a_add, a_sub, a_mul, a_mod, q_eqI, q_neI, q_eqS, q_neS, q_eqB, q_neB, q_eqNil, q_neNil, q_lt, q_le, q_gt, q_ge, q_is, q_isnt, r_bl, r_int, r_lst, r_tup, s_szL, s_szT, s_subL, s_subT, s_slcL, s_slcT, s_itL, s_itT, s_liL, n_lenL, n_lenT, n_abs, n_min2, n_max2, n_int, n_intB, n_listL, n_listT, n_tupL, n_strI, n_boolI, n_allL, n_anyL, n_sumL, f_non, f_bl, f_int, f_str, f_tup, f_lst, f_nil, f_cons, g_int, g_bl, g_non, g_str, g_lstF, g_tup, g_lstT, g_nil, g_cons, o_nil, o_0, o_1, z_cast0, z_cast1, z_cast2, z_cast3, z_cast4, z_cast5, z_cast6, z_cast7, z_cast8, z_cast9, z_cast10, z_cast11, z_cast12, l_ltl0, l_ltl1, l_ltl2, l_ltl3, l_ltl4, l_ltl5, l_ltl6, l_ltl7, l_ltl8, l_ltl9, l_ltl10, l_ltl11, l_ltl12, l_line0, l_line1, l_line2, l_line3, l_line4, l_line5, l_line6, l_line7, l_line8, l_line9, l_line10, l_line11, l_line12, k_NoneType_int, k_NoneType_bool, k_NoneType_str, k_NoneType_list, k_NoneType_tuple, k_NoneType_dict, k_bool_int, k_bool_bool, k_bool_str, k_bool_list, k_bool_tuple, k_bool_dict, k_int_int, k_int_bool, k_int_str, k_int_list, k_int_tuple, k_int_dict, k_str_int, k_str_bool, k_str_str, k_str_list, k_str_tuple, k_str_dict, k_tuple_int, k_tuple_bool, k_tuple_str, k_tuple_list, k_tuple_tuple, k_tuple_dict, k_list_int, k_list_bool, k_list_str, k_list_list, k_list_tuple, k_list_dict, z_at0, z_at1, z_at2, z_at3, z_at4, z_at5, z_at6, z_at7, z_at8, z_ix1_0, z_ix2_0, z_ix2_1, z_ix3_0, z_ix3_1, z_ix3_2, z_ix4_0, z_ix4_1, z_ix4_2, z_ix4_3, z_ix5_0, z_ix5_1, z_ix5_2, z_ix5_3, z_ix5_4, z_ix6_0, z_ix6_1, z_ix6_2, z_ix6_3, z_ix6_4, z_ix6_5, z_ix7_0, z_ix7_1, z_ix7_2, z_ix7_3, z_ix7_4, z_ix7_5, z_ix7_6, z_ix8_0, z_ix8_1, z_ix8_2, z_ix8_3, z_ix8_4, z_ix8_5, z_ix8_6, z_ix8_7, Bool.not_eq_true', decide_eq_false_iff_not, ite_not, Bool.false_eq_true, Int.reduceEq, wipeE, backE, IL_fz, IL_isFz, fz_fz, fzL_fzL, List.set_cons_zero, List.set_cons_succ, List.getElem?_cons_zero, List.getElem?_cons_succ, List.length_cons, List.length_nil, and_true, true_and, Bool.and_true, Bool.true_and, Bool.not_true, Bool.not_false, Bool.not_not, if_true, if_false, ite_true, ite_false, Option.map_some, Option.some.injEq, exists_eq_left, exists_eq_left', D.int.injEq, D.lst.injEq, D.bl.injEq, D.str.injEq, D.tup.injEq, List.cons_append, List.nil_append, List.not_mem_nil, not_false_eq_true, Bool.false_eq_true, List.all_cons, List.all_nil, reduceIte, reduceCtorEq, List.isEmpty_cons, List.isEmpty_nil, eq_self, decide_true, decide_false, Bool.if_true_left, exists_eq, exists_eq', decide_eq_true_eq, Int.reduceToNat, Int.reducePow, Int.reduceNeg, Int.reduceLT, Int.reduceLE, Int.reduceSub, Int.reduceAdd, and_false, false_and, List.mem_cons, or_false, false_or, exists_and_left, Nat.zero_add, ne_eq, not_true_eq_false, Nat.reduceAdd, Nat.reduceLT, Nat.reduceEqDiff, Nat.reduceLeDiff])
  exact q
def sp_is_at_least : FSpec := fun ds Q _ => ∃ i j, ds = [.int i, .int j] ∧ Q (.bl (decide (j ≤ i))) []
theorem w_is_at_least {Γ : Sig} (hm : Γ.me = []) (H1 : Has Γ "is_integer" [] sp_is_integer) (ds : List D) (Q : D → List D → Prop) (R : Exc → Prop) (h : sp_is_at_least ds Q R) : wpF Γ f_is_at_least ds Q R := by
  obtain ⟨i, j, rfl, q⟩ := h
  simp only [wpF_eq, f_is_at_least, startE, hm, H1.sp, H1.io, List.map_cons, List.map_nil, z_get0, z_getS, z_borV, z_stillV, z_stillsV, z_stillsN, z_shareV, z_bor_con, z_still_con, z_stills_con, z_share_con, z_bor_glo, z_still_glo, z_stills_glo, z_share_glo, z_bor_bin, z_still_bin, z_stills_bin, z_share_bin, z_bor_neg, z_still_neg, z_stills_neg, z_share_neg, z_bor_nt, z_still_nt, z_stills_nt, z_share_nt, z_bor_bo, z_still_bo, z_stills_bo, z_share_bo, z_bor_cmp, z_still_cmp, z_stills_cmp, z_share_cmp, z_bor_chn, z_still_chn, z_stills_chn, z_share_chn, z_bor_ife, z_still_ife, z_stills_ife, z_share_ife, z_bor_call, z_still_call, z_stills_call, z_share_call, z_bor_calk, z_still_calk, z_stills_calk, z_share_calk, z_bor_bi, z_still_bi, z_stills_bi, z_share_bi, z_bor_isi, z_still_isi, z_stills_isi, z_share_isi, z_bor_sub, z_still_sub, z_stills_sub, z_share_sub, z_bor_slc, z_still_slc, z_stills_slc, z_share_slc, z_bor_rpr, z_still_rpr, z_stills_rpr, z_share_rpr, z_bor_tup, z_still_tup, z_stills_tup, z_share_tup, z_bor_lst, z_still_lst, z_stills_lst, z_share_lst, z_bor_lc, z_still_lc, z_stills_lc, z_share_lc, z_bor_mov, z_still_mov, z_stills_mov, z_share_mov, z_setNm, z_setTpT, z_setTpL, z_setsN, z_setsC, z_putN, z_putC, z_var, z_mov, z_con, z_glo, z_bin, z_neg, z_nt, z_bo, z_cmp, z_chn, z_ife, z_call, z_calk, z_bi, z_isi, z_sub, z_slc, z_tup, z_lst, z_rprL, z_rprT, z_lc, z_esN, z_esC, z_bsN, z_bsC, z_aN, z_aM, z_aF, z_aE, z_oN, z_oY, z_bo1, z_bo2, zt_nt, zt_bo, zt_cmp, zt_chn, zt_isi, zt_call, zt_var, zt_bi, zt_to1, zt_to2, zt_tsN, zt_ts1, i_ex, i_r1, i_r2, i_r3, i_zip, i_enum, i_rev, c_asg, c_par, c_pst, c_pag, c_aug, c_app, c_exp, c_ite, c_for, c_ret, c_rtn, c_brk, c_cnt, c_pas, c_nev, c_nil, c_cons, b_add, b_sub, b_mul, b_fdiv, b_mod, b_pow, b_shl, b_shr, b_cat, b_rep, a_add, a_sub, a_mul, a_mod, q_eqI, q_neI, q_eqS, q_neS, q_eqB, q_neB, q_eqNil, q_neNil, q_lt, q_le, q_gt, q_ge, q_is, q_isnt, r_bl, r_int, r_lst, r_tup, s_szL, s_szT, s_subL, s_subT, s_slcL, s_slcT, s_itL, s_itT, s_liL, n_lenL, n_lenT, n_abs, n_min2, n_max2, n_int, n_intB, n_listL, n_listT, n_tupL, n_strI, n_boolI, n_allL, n_anyL, n_sumL, f_non, f_bl, f_int, f_str, f_tup, f_lst, f_nil, f_cons, g_int, g_bl, g_non, g_str, g_lstF, g_tup, g_lstT, g_nil, g_cons, o_nil, o_0, o_1, z_cast0, z_cast1, z_cast2, z_cast3, z_cast4, z_cast5, z_cast6, z_cast7, z_cast8, z_cast9, z_cast10, z_cast11, z_cast12, l_ltl0, l_ltl1, l_ltl2, l_ltl3, l_ltl4, l_ltl5, l_ltl6, l_ltl7, l_ltl8, l_ltl9, l_ltl10, l_ltl11, l_ltl12, l_line0, l_line1, l_line2, l_line3, l_line4, l_line5, l_line6, l_line7, l_line8, l_line9, l_line10, l_line11, l_line12, k_NoneType_int, k_NoneType_bool, k_NoneType_str, k_NoneType_list, k_NoneType_tuple, k_NoneType_dict, k_bool_int, k_bool_bool, k_bool_str, k_bool_list, k_bool_tuple, k_bool_dict, k_int_int, k_int_bool, k_int_str, k_int_list, k_int_tuple, k_int_dict, k_str_int, k_str_bool, k_str_str, k_str_list, k_str_tuple, k_str_dict, k_tuple_int, k_tuple_bool, k_tuple_str, k_tuple_list, k_tuple_tuple, k_tuple_dict, k_list_int, k_list_bool, k_list_str, k_list_list, k_list_tuple, k_list_dict, z_at0, z_at1, z_at2, z_at3, z_at4, z_at5, z_at6, z_at7, z_at8, z_ix1_0, z_ix2_0, z_ix2_1, z_ix3_0, z_ix3_1, z_ix3_2, z_ix4_0, z_ix4_1, z_ix4_2, z_ix4_3, z_ix5_0, z_ix5_1, z_ix5_2, z_ix5_3, z_ix5_4, z_ix6_0, z_ix6_1, z_ix6_2, z_ix6_3, z_ix6_4, z_ix6_5, z_ix7_0, z_ix7_1, z_ix7_2, z_ix7_3, z_ix7_4, z_ix7_5, z_ix7_6, z_ix8_0, z_ix8_1, z_ix8_2, z_ix8_3, z_ix8_4, z_ix8_5, z_ix8_6, z_ix8_7, Bool.not_eq_true', decide_eq_false_iff_not, ite_not, Bool.false_eq_true, Int.reduceEq, wipeE, backE, IL_fz, IL_isFz, fz_fz, fzL_fzL, List.set_cons_zero, List.set_cons_succ, List.getElem?_cons_zero, List.getElem?_cons_succ, List.length_cons, List.length_nil, and_true, true_and, Bool.and_true, Bool.true_and, Bool.not_true, Bool.not_false, Bool.not_not, if_true, if_false, ite_true, ite_false, Option.map_some, Option.some.injEq, exists_eq_left, exists_eq_left', D.int.injEq, D.lst.injEq, D.bl.injEq, D.str.injEq, D.tup.injEq, List.cons_append, List.nil_append, List.not_mem_nil, not_false_eq_true, Bool.false_eq_true, List.all_cons, List.all_nil, reduceIte, reduceCtorEq, List.isEmpty_cons, List.isEmpty_nil, eq_self, decide_true, decide_false, Bool.if_true_left, exists_eq, exists_eq', decide_eq_true_eq, Int.reduceToNat, Int.reducePow, Int.reduceNeg, Int.reduceLT, Int.reduceLE, Int.reduceSub, Int.reduceAdd, and_false, false_and, List.mem_cons, or_false, false_or, exists_and_left, Nat.zero_add, ne_eq, not_true_eq_false, Nat.reduceAdd, Nat.reduceLT, Nat.reduceEqDiff, Nat.reduceLeDiff]
  refine ⟨_, rfl, trivial, rfl, ?_⟩
  simp only [isInt]
  (try simp only [hm, z_get0, z_getS, z_borV, z_stillV, z_stillsV, z_stillsN, z_shareV, z_bor_con, z_still_con, z_stills_con, z_share_con, z_bor_glo, z_still_glo, z_stills_glo, z_share_glo, z_bor_bin, z_still_bin, z_stills_bin, z_share_bin, z_bor_neg, z_still_neg, z_stills_neg, z_share_neg, z_bor_nt, z_still_nt, z_stills_nt, z_share_nt, z_bor_bo, z_still_bo, z_stills_bo, z_share_bo, z_bor_cmp, z_still_cmp, z_stills_cmp, z_share_cmp, z_bor_chn, z_still_chn, z_stills_chn, z_share_chn, z_bor_ife, z_still_ife, z_stills_ife, z_share_ife, z_bor_call, z_still_call, z_stills_call, z_share_call, z_bor_calk, z_still_calk, z_stills_calk, z_share_calk, z_bor_bi, z_still_bi, z_stills_bi, z_share_bi, z_bor_isi, z_still_isi, z_stills_isi, z_share_isi, z_bor_sub, z_still_sub, z_stills_sub, z_share_sub, z_bor_slc, z_still_slc, z_stills_slc, z_share_slc, z_bor_rpr, z_still_rpr, z_stills_rpr, z_share_rpr, z_bor_tup, z_still_tup, z_stills_tup, z_share_tup, z_bor_lst, z_still_lst, z_stills_lst, z_share_lst, z_bor_lc, z_still_lc, z_stills_lc, z_share_lc, z_bor_mov, z_still_mov, z_stills_mov, z_share_mov, z_setNm, z_setTpT, z_setTpL, z_setsN, z_setsC, z_putN, z_putC, z_var, z_mov, z_con, z_glo, z_bin, z_neg, z_nt, z_bo, z_cmp, z_chn, z_ife, z_call, z_calk, z_bi, z_isi, z_sub, z_slc, z_tup, z_lst, z_rprL, z_rprT, z_lc, z_esN, z_esC, z_bsN, z_bsC, z_aN, z_aM, z_aF, z_aE, z_oN, z_oY, z_bo1, z_bo2, zt_nt, zt_bo, zt_cmp, zt_chn, zt_isi, zt_call, zt_var, zt_bi, zt_to1, zt_to2, zt_tsN, zt_ts1, i_ex, i_r1, i_r2, i_r3, i_zip, i_enum, i_rev, c_asg, c_par, c_pst, c_pag, c_aug, c_app, c_exp, c_ite, c_for, c_ret, c_rtn, c_brk, c_cnt, c_pas, c_nev, c_nil, c_cons, b_add, b_sub, b_mul, b_fdiv, b_mod, b_pow, b_shl, b_shr, b_cat, b_rep, a_add, a_sub, a_mul, a_mod, q_eqI, q_neI, q_eqS, q_neS, q_eqB, q_neB, q_eqNil, q_neNil, q_lt, q_le, q_gt, q_ge, q_is, q_isnt, r_bl, r_int, r_lst, r_tup, s_szL, s_szT, s_subL, s_subT, s_slcL, s_slcT, s_itL, s_itT, s_liL, n_lenL, n_lenT, n_abs, n_min2, n_max2, n_int, n_intB, n_listL, n_listT, n_tupL, n_strI, n_boolI, n_allL, n_anyL, n_sumL, f_non, f_bl, f_int, f_str, f_tup, f_lst, f_nil, f_cons, g_int, g_bl, g_non, g_str, g_lstF, g_tup, g_lstT, g_nil, g_cons, o_nil, o_0, o_1, z_cast0, z_cast1, z_cast2, z_cast3, z_cast4, z_cast5, z_cast6, z_cast7, z_cast8, z_cast9, z_cast10, z_cast11, z_cast12, l_ltl0, l_ltl1, l_ltl2, l_ltl3, l_ltl4, l_ltl5, l_ltl6, l_ltl7, l_ltl8, l_ltl9, l_ltl10, l_ltl11, l_ltl12, l_line0, l_line1, l_line2, l_line3, l_line4, l_line5, l_line6, l_line7, l_line8, l_line9, l_line10, l_line11, l_line12, k_NoneType_int, k_NoneType_bool, k_NoneType_str, k_NoneType_list, k_NoneType_tuple, k_NoneType_dict, k_bool_int, k_bool_bool, k_bool_str, k_bool_list, k_bool_tuple, k_bool_dict, k_int_int, k_int_bool, k_int_str, k_int_list, k_int_tuple, k_int_dict, k_str_int, k_str_bool, k_str_str, k_str_list, k_str_tuple, k_str_dict, k_tuple_int, k_tuple_bool, k_tuple_str, k_tuple_list, k_tuple_tuple, k_tuple_dict, k_list_int, k_list_bool, k_list_str, k_list_list, k_list_tuple, k_list_dict, z_at0, z_at1, z_at2, z_at3, z_at4, z_at5, z_at6, z_at7, z_at8, z_ix1_0, z_ix2_0, z_ix2_1, z_ix3_0, z_ix3_1, z_ix3_2, z_ix4_0, z_ix4_1, z_ix4_2, z_ix4_3, z_ix5_0, z_ix5_1, z_ix5_2, z_ix5_3, z_ix5_4, z_ix6_0, z_ix6_1, z_ix6_2, z_ix6_3, z_ix6_4, z_ix6_5, z_ix7_0, z_ix7_1, z_ix7_2, z_ix7_3, z_ix7_4, z_ix7_5, z_ix7_6, z_ix8_0, z_ix8_1, z_ix8_2, z_ix8_3, z_ix8_4, z_ix8_5, z_ix8_6, z_ix8_7, Bool.not_eq_true', decide_eq_false_iff_not, ite_not, Bool.false_eq_true, Int.reduceEq, wipeE, backE, IL_fz, IL_isFz, fz_fz, fzL_fzL, List.set_cons_zero, List.set_cons_succ, List.getElem?_cons_zero, List.getElem?_cons_succ, List.length_cons, List.length_nil, and_true, true_and, Bool.and_true, Bool.true_and, Bool.not_true, Bool.not_false, Bool.not_not, if_true, if_false, ite_true, ite_false, Option.map_some, Option.some.injEq, exists_eq_left, exists_eq_left', D.int.injEq, D.lst.injEq, D.bl.injEq, D.str.injEq, D.tup.injEq, List.cons_append, List.nil_append, List.not_mem_nil, not_false_eq_true, Bool.false_eq_true, List.all_cons, List.all_nil, reduceIte, reduceCtorEq, List.isEmpty_cons, List.isEmpty_nil, eq_self, decide_true, decide_false, Bool.if_true_left, exists_eq, exists_eq', decide_eq_true_eq, Int.reduceToNat, Int.reducePow, Int.reduceNeg, Int.reduceLT, Int.reduceLE, Int.reduceSub, Int.reduceAdd, and_false, false_and, List.mem_cons, or_false, false_or, exists_and_left, Nat.zero_add, ne_eq, not_true_eq_false, Nat.reduceAdd, Nat.reduceLT, Nat.reduceEqDiff, Nat.reduceLeDiff])
  exact q
/-- the place of a wheel that the dial has taken to d -/
def heldP (p d r : Int) : Int := min (max p (d - r)) d
def sp_held_place : FSpec := fun ds Q _ => ∃ p d r, ds = [.int p, .int d, .int r] ∧ Q (.int (heldP p d r)) []
theorem w_held_place {Γ : Sig} (hm : Γ.me = []) (ds : List D) (Q : D → List D → Prop) (R : Exc → Prop) (h : sp_held_place ds Q R) : wpF Γ f_held_place ds Q R := by
  obtain ⟨p, d, r, rfl, q⟩ := h
  simp only [wpF_eq, f_held_place, startE, hm, List.map_cons, List.map_nil, z_get0, z_getS, z_borV, z_stillV, z_stillsV, z_stillsN, z_shareV, z_bor_con, z_still_con, z_stills_con, z_share_con, z_bor_glo, z_still_glo, z_stills_glo, z_share_glo, z_bor_bin, z_still_bin, z_stills_bin, z_share_bin, z_bor_neg, z_still_neg, z_stills_neg, z_share_neg, z_bor_nt, z_still_nt, z_stills_nt, z_share_nt, z_bor_bo, z_still_bo, z_stills_bo, z_share_bo, z_bor_cmp, z_still_cmp, z_stills_cmp, z_share_cmp, z_bor_chn, z_still_chn, z_stills_chn, z_share_chn, z_bor_ife, z_still_ife, z_stills_ife, z_share_ife, z_bor_call, z_still_call, z_stills_call, z_share_call, z_bor_calk, z_still_calk, z_stills_calk, z_share_calk, z_bor_bi, z_still_bi, z_stills_bi, z_share_bi, z_bor_isi, z_still_isi, z_stills_isi, z_share_isi, z_bor_sub, z_still_sub, z_stills_sub, z_share_sub, z_bor_slc, z_still_slc, z_stills_slc, z_share_slc, z_bor_rpr, z_still_rpr, z_stills_rpr, z_share_rpr, z_bor_tup, z_still_tup, z_stills_tup, z_share_tup, z_bor_lst, z_still_lst, z_stills_lst, z_share_lst, z_bor_lc, z_still_lc, z_stills_lc, z_share_lc, z_bor_mov, z_still_mov, z_stills_mov, z_share_mov, z_setNm, z_setTpT, z_setTpL, z_setsN, z_setsC, z_putN, z_putC, z_var, z_mov, z_con, z_glo, z_bin, z_neg, z_nt, z_bo, z_cmp, z_chn, z_ife, z_call, z_calk, z_bi, z_isi, z_sub, z_slc, z_tup, z_lst, z_rprL, z_rprT, z_lc, z_esN, z_esC, z_bsN, z_bsC, z_aN, z_aM, z_aF, z_aE, z_oN, z_oY, z_bo1, z_bo2, zt_nt, zt_bo, zt_cmp, zt_chn, zt_isi, zt_call, zt_var, zt_bi, zt_to1, zt_to2, zt_tsN, zt_ts1, i_ex, i_r1, i_r2, i_r3, i_zip, i_enum, i_rev, c_asg, c_par, c_pst, c_pag, c_aug, c_app, c_exp, c_ite, c_for, c_ret, c_rtn, c_brk, c_cnt, c_pas, c_nev, c_nil, c_cons, b_add, b_sub, b_mul, b_fdiv, b_mod, b_pow, b_shl, b_shr, b_cat, b_rep, a_add, a_sub, a_mul, a_mod, q_eqI, q_neI, q_eqS, q_neS, q_eqB, q_neB, q_eqNil, q_neNil, q_lt, q_le, q_gt, q_ge, q_is, q_isnt, r_bl, r_int, r_lst, r_tup, s_szL, s_szT, s_subL, s_subT, s_slcL, s_slcT, s_itL, s_itT, s_liL, n_lenL, n_lenT, n_abs, n_min2, n_max2, n_int, n_intB, n_listL, n_listT, n_tupL, n_strI, n_boolI, n_allL, n_anyL, n_sumL, f_non, f_bl, f_int, f_str, f_tup, f_lst, f_nil, f_cons, g_int, g_bl, g_non, g_str, g_lstF, g_tup, g_lstT, g_nil, g_cons, o_nil, o_0, o_1, z_cast0, z_cast1, z_cast2, z_cast3, z_cast4, z_cast5, z_cast6, z_cast7, z_cast8, z_cast9, z_cast10, z_cast11, z_cast12, l_ltl0, l_ltl1, l_ltl2, l_ltl3, l_ltl4, l_ltl5, l_ltl6, l_ltl7, l_ltl8, l_ltl9, l_ltl10, l_ltl11, l_ltl12, l_line0, l_line1, l_line2, l_line3, l_line4, l_line5, l_line6, l_line7, l_line8, l_line9, l_line10, l_line11, l_line12, k_NoneType_int, k_NoneType_bool, k_NoneType_str, k_NoneType_list, k_NoneType_tuple, k_NoneType_dict, k_bool_int, k_bool_bool, k_bool_str, k_bool_list, k_bool_tuple, k_bool_dict, k_int_int, k_int_bool, k_int_str, k_int_list, k_int_tuple, k_int_dict, k_str_int, k_str_bool, k_str_str, k_str_list, k_str_tuple, k_str_dict, k_tuple_int, k_tuple_bool, k_tuple_str, k_tuple_list, k_tuple_tuple, k_tuple_dict, k_list_int, k_list_bool, k_list_str, k_list_list, k_list_tuple, k_list_dict, z_at0, z_at1, z_at2, z_at3, z_at4, z_at5, z_at6, z_at7, z_at8, z_ix1_0, z_ix2_0, z_ix2_1, z_ix3_0, z_ix3_1, z_ix3_2, z_ix4_0, z_ix4_1, z_ix4_2, z_ix4_3, z_ix5_0, z_ix5_1, z_ix5_2, z_ix5_3, z_ix5_4, z_ix6_0, z_ix6_1, z_ix6_2, z_ix6_3, z_ix6_4, z_ix6_5, z_ix7_0, z_ix7_1, z_ix7_2, z_ix7_3, z_ix7_4, z_ix7_5, z_ix7_6, z_ix8_0, z_ix8_1, z_ix8_2, z_ix8_3, z_ix8_4, z_ix8_5, z_ix8_6, z_ix8_7, Bool.not_eq_true', decide_eq_false_iff_not, ite_not, Bool.false_eq_true, Int.reduceEq, wipeE, backE, IL_fz, IL_isFz, fz_fz, fzL_fzL, List.set_cons_zero, List.set_cons_succ, List.getElem?_cons_zero, List.getElem?_cons_succ, List.length_cons, List.length_nil, and_true, true_and, Bool.and_true, Bool.true_and, Bool.not_true, Bool.not_false, Bool.not_not, if_true, if_false, ite_true, ite_false, Option.map_some, Option.some.injEq, exists_eq_left, exists_eq_left', D.int.injEq, D.lst.injEq, D.bl.injEq, D.str.injEq, D.tup.injEq, List.cons_append, List.nil_append, List.not_mem_nil, not_false_eq_true, Bool.false_eq_true, List.all_cons, List.all_nil, reduceIte, reduceCtorEq, List.isEmpty_cons, List.isEmpty_nil, eq_self, decide_true, decide_false, Bool.if_true_left, exists_eq, exists_eq', decide_eq_true_eq, Int.reduceToNat, Int.reducePow, Int.reduceNeg, Int.reduceLT, Int.reduceLE, Int.reduceSub, Int.reduceAdd, and_false, false_and, List.mem_cons, or_false, false_or, exists_and_left, Nat.zero_add, ne_eq, not_true_eq_false, Nat.reduceAdd, Nat.reduceLT, Nat.reduceEqDiff, Nat.reduceLeDiff]
  have e : (if d < if d - r > p then d - r else p then d else if d - r > p then d - r else p) = heldP p d r := by unfold heldP; omega
  rw [e]
  exact q
def Stk (b : Int) (x : D) : Prop := ∃ d m n, x = .lst true [.int d, .int m, .int n] ∧ 0 ≤ d ∧ 0 ≤ m ∧ m < 2 ^ 127 ∧ 0 ≤ n ∧ n ≤ b
theorem Stk.mono {b c : Int} {x : D} (h : Stk b x) (l : b ≤ c) : Stk c x := by
  obtain ⟨d, m, n, rfl, h1, h2, h3, h4, h5⟩ := h
  exact ⟨d, m, n, rfl, h1, h2, h3, h4, by omega⟩
theorem rng_cons (lo : Int) (n : Nat) (c : Int) : rngD lo (n + 1) c = .int lo :: rngD (lo + c) n c := by
  unfold rngD
  rw [List.range_succ_eq_map, List.map_cons, List.map_map]
  congr 1
  · simp
  · apply List.map_congr_left
    intro k _
    simp only [Function.comp, D.int.injEq]
    rw [Nat.succ_eq_add_one, Int.natCast_add, Int.add_mul]
    omega
theorem sum_le {ts : List Int} {B : Nat} (h : ∀ t ∈ ts, t.natAbs ≤ B) : (ts.map Int.natAbs).sum ≤ ts.length * B := by
  induction ts with
  | nil => simp
  | cons t ts ih =>
    have h1 := h t List.mem_cons_self
    have h2 := ih fun z hz => h z (List.mem_cons_of_mem _ hz)
    simp only [List.map_cons, List.sum_cons, List.length_cons, Nat.add_mul]
    omega
theorem bls_map (bs : List Bool) : blsD (bs.map .bl) = some bs := by
  induction bs with
  | nil => rfl
  | cons b bs ih => simp only [List.map_cons, blsD, ih, Option.map_some]
theorem ints_map (ns : List Int) : intsD (IL ns) = some ns := by
  induction ns with
  | nil => rfl
  | cons n ns ih =>
    show (intsD (IL ns)).map (n :: ·) = _
    rw [ih]; rfl
def LockD (r : Int) (ps : List Int) : D := .tup [.int r, .lst false (IL ps)]
def LockOk (r : Int) (ps : List Int) : Prop := 2 ≤ r ∧ 1 ≤ ps.length ∧ ps.length ≤ 8 ∧ ∀ p ∈ ps, 0 ≤ p
def sp_lock_fault : FSpec := fun ds Q _ => ∃ r ps, ds = [LockD r ps] ∧ LockOk r ps ∧ Q (.tup []) []
theorem w_lock_fault {Γ : Sig} (hm : Γ.me = []) (H1 : Has Γ "is_at_least" [] sp_is_at_least) (ds : List D) (Q : D → List D → Prop) (R : Exc → Prop) (h : sp_lock_fault ds Q R) : wpF Γ f_lock_fault ds Q R := by
  obtain ⟨r, ps, rfl, ⟨h1, h2, h3, h4⟩, q⟩ := h
  simp only [wpF_eq, LockD, f_lock_fault, f_lock_fault_b1, f_lock_fault_b2, f_lock_fault_b3, startE, hm, H1.sp, H1.io, List.map_cons, List.map_nil, IL_len, z_get0, z_getS, z_borV, z_stillV, z_stillsV, z_stillsN, z_shareV, z_bor_con, z_still_con, z_stills_con, z_share_con, z_bor_glo, z_still_glo, z_stills_glo, z_share_glo, z_bor_bin, z_still_bin, z_stills_bin, z_share_bin, z_bor_neg, z_still_neg, z_stills_neg, z_share_neg, z_bor_nt, z_still_nt, z_stills_nt, z_share_nt, z_bor_bo, z_still_bo, z_stills_bo, z_share_bo, z_bor_cmp, z_still_cmp, z_stills_cmp, z_share_cmp, z_bor_chn, z_still_chn, z_stills_chn, z_share_chn, z_bor_ife, z_still_ife, z_stills_ife, z_share_ife, z_bor_call, z_still_call, z_stills_call, z_share_call, z_bor_calk, z_still_calk, z_stills_calk, z_share_calk, z_bor_bi, z_still_bi, z_stills_bi, z_share_bi, z_bor_isi, z_still_isi, z_stills_isi, z_share_isi, z_bor_sub, z_still_sub, z_stills_sub, z_share_sub, z_bor_slc, z_still_slc, z_stills_slc, z_share_slc, z_bor_rpr, z_still_rpr, z_stills_rpr, z_share_rpr, z_bor_tup, z_still_tup, z_stills_tup, z_share_tup, z_bor_lst, z_still_lst, z_stills_lst, z_share_lst, z_bor_lc, z_still_lc, z_stills_lc, z_share_lc, z_bor_mov, z_still_mov, z_stills_mov, z_share_mov, z_setNm, z_setTpT, z_setTpL, z_setsN, z_setsC, z_putN, z_putC, z_var, z_mov, z_con, z_glo, z_bin, z_neg, z_nt, z_bo, z_cmp, z_chn, z_ife, z_call, z_calk, z_bi, z_isi, z_sub, z_slc, z_tup, z_lst, z_rprL, z_rprT, z_lc, z_esN, z_esC, z_bsN, z_bsC, z_aN, z_aM, z_aF, z_aE, z_oN, z_oY, z_bo1, z_bo2, zt_nt, zt_bo, zt_cmp, zt_chn, zt_isi, zt_call, zt_var, zt_bi, zt_to1, zt_to2, zt_tsN, zt_ts1, i_ex, i_r1, i_r2, i_r3, i_zip, i_enum, i_rev, c_asg, c_par, c_pst, c_pag, c_aug, c_app, c_exp, c_ite, c_for, c_ret, c_rtn, c_brk, c_cnt, c_pas, c_nev, c_nil, c_cons, b_add, b_sub, b_mul, b_fdiv, b_mod, b_pow, b_shl, b_shr, b_cat, b_rep, a_add, a_sub, a_mul, a_mod, q_eqI, q_neI, q_eqS, q_neS, q_eqB, q_neB, q_eqNil, q_neNil, q_lt, q_le, q_gt, q_ge, q_is, q_isnt, r_bl, r_int, r_lst, r_tup, s_szL, s_szT, s_subL, s_subT, s_slcL, s_slcT, s_itL, s_itT, s_liL, n_lenL, n_lenT, n_abs, n_min2, n_max2, n_int, n_intB, n_listL, n_listT, n_tupL, n_strI, n_boolI, n_allL, n_anyL, n_sumL, f_non, f_bl, f_int, f_str, f_tup, f_lst, f_nil, f_cons, g_int, g_bl, g_non, g_str, g_lstF, g_tup, g_lstT, g_nil, g_cons, o_nil, o_0, o_1, z_cast0, z_cast1, z_cast2, z_cast3, z_cast4, z_cast5, z_cast6, z_cast7, z_cast8, z_cast9, z_cast10, z_cast11, z_cast12, l_ltl0, l_ltl1, l_ltl2, l_ltl3, l_ltl4, l_ltl5, l_ltl6, l_ltl7, l_ltl8, l_ltl9, l_ltl10, l_ltl11, l_ltl12, l_line0, l_line1, l_line2, l_line3, l_line4, l_line5, l_line6, l_line7, l_line8, l_line9, l_line10, l_line11, l_line12, k_NoneType_int, k_NoneType_bool, k_NoneType_str, k_NoneType_list, k_NoneType_tuple, k_NoneType_dict, k_bool_int, k_bool_bool, k_bool_str, k_bool_list, k_bool_tuple, k_bool_dict, k_int_int, k_int_bool, k_int_str, k_int_list, k_int_tuple, k_int_dict, k_str_int, k_str_bool, k_str_str, k_str_list, k_str_tuple, k_str_dict, k_tuple_int, k_tuple_bool, k_tuple_str, k_tuple_list, k_tuple_tuple, k_tuple_dict, k_list_int, k_list_bool, k_list_str, k_list_list, k_list_tuple, k_list_dict, z_at0, z_at1, z_at2, z_at3, z_at4, z_at5, z_at6, z_at7, z_at8, z_ix1_0, z_ix2_0, z_ix2_1, z_ix3_0, z_ix3_1, z_ix3_2, z_ix4_0, z_ix4_1, z_ix4_2, z_ix4_3, z_ix5_0, z_ix5_1, z_ix5_2, z_ix5_3, z_ix5_4, z_ix6_0, z_ix6_1, z_ix6_2, z_ix6_3, z_ix6_4, z_ix6_5, z_ix7_0, z_ix7_1, z_ix7_2, z_ix7_3, z_ix7_4, z_ix7_5, z_ix7_6, z_ix8_0, z_ix8_1, z_ix8_2, z_ix8_3, z_ix8_4, z_ix8_5, z_ix8_6, z_ix8_7, Bool.not_eq_true', decide_eq_false_iff_not, ite_not, Bool.false_eq_true, Int.reduceEq, wipeE, backE, IL_fz, IL_isFz, fz_fz, fzL_fzL, List.set_cons_zero, List.set_cons_succ, List.getElem?_cons_zero, List.getElem?_cons_succ, List.length_cons, List.length_nil, and_true, true_and, Bool.and_true, Bool.true_and, Bool.not_true, Bool.not_false, Bool.not_not, if_true, if_false, ite_true, ite_false, Option.map_some, Option.some.injEq, exists_eq_left, exists_eq_left', D.int.injEq, D.lst.injEq, D.bl.injEq, D.str.injEq, D.tup.injEq, List.cons_append, List.nil_append, List.not_mem_nil, not_false_eq_true, Bool.false_eq_true, List.all_cons, List.all_nil, reduceIte, reduceCtorEq, List.isEmpty_cons, List.isEmpty_nil, eq_self, decide_true, decide_false, Bool.if_true_left, exists_eq, exists_eq', decide_eq_true_eq, Int.reduceToNat, Int.reducePow, Int.reduceNeg, Int.reduceLT, Int.reduceLE, Int.reduceSub, Int.reduceAdd, and_false, false_and, List.mem_cons, or_false, false_or, exists_and_left, Nat.zero_add, ne_eq, not_true_eq_false, Nat.reduceAdd, Nat.reduceLT, Nat.reduceEqDiff, Nat.reduceLeDiff]
  refine ⟨_, _, rfl, rfl, ?_⟩
  simp only [h1, hm, z_get0, z_getS, z_borV, z_stillV, z_stillsV, z_stillsN, z_shareV, z_bor_con, z_still_con, z_stills_con, z_share_con, z_bor_glo, z_still_glo, z_stills_glo, z_share_glo, z_bor_bin, z_still_bin, z_stills_bin, z_share_bin, z_bor_neg, z_still_neg, z_stills_neg, z_share_neg, z_bor_nt, z_still_nt, z_stills_nt, z_share_nt, z_bor_bo, z_still_bo, z_stills_bo, z_share_bo, z_bor_cmp, z_still_cmp, z_stills_cmp, z_share_cmp, z_bor_chn, z_still_chn, z_stills_chn, z_share_chn, z_bor_ife, z_still_ife, z_stills_ife, z_share_ife, z_bor_call, z_still_call, z_stills_call, z_share_call, z_bor_calk, z_still_calk, z_stills_calk, z_share_calk, z_bor_bi, z_still_bi, z_stills_bi, z_share_bi, z_bor_isi, z_still_isi, z_stills_isi, z_share_isi, z_bor_sub, z_still_sub, z_stills_sub, z_share_sub, z_bor_slc, z_still_slc, z_stills_slc, z_share_slc, z_bor_rpr, z_still_rpr, z_stills_rpr, z_share_rpr, z_bor_tup, z_still_tup, z_stills_tup, z_share_tup, z_bor_lst, z_still_lst, z_stills_lst, z_share_lst, z_bor_lc, z_still_lc, z_stills_lc, z_share_lc, z_bor_mov, z_still_mov, z_stills_mov, z_share_mov, z_setNm, z_setTpT, z_setTpL, z_setsN, z_setsC, z_putN, z_putC, z_var, z_mov, z_con, z_glo, z_bin, z_neg, z_nt, z_bo, z_cmp, z_chn, z_ife, z_call, z_calk, z_bi, z_isi, z_sub, z_slc, z_tup, z_lst, z_rprL, z_rprT, z_lc, z_esN, z_esC, z_bsN, z_bsC, z_aN, z_aM, z_aF, z_aE, z_oN, z_oY, z_bo1, z_bo2, zt_nt, zt_bo, zt_cmp, zt_chn, zt_isi, zt_call, zt_var, zt_bi, zt_to1, zt_to2, zt_tsN, zt_ts1, i_ex, i_r1, i_r2, i_r3, i_zip, i_enum, i_rev, c_asg, c_par, c_pst, c_pag, c_aug, c_app, c_exp, c_ite, c_for, c_ret, c_rtn, c_brk, c_cnt, c_pas, c_nev, c_nil, c_cons, b_add, b_sub, b_mul, b_fdiv, b_mod, b_pow, b_shl, b_shr, b_cat, b_rep, a_add, a_sub, a_mul, a_mod, q_eqI, q_neI, q_eqS, q_neS, q_eqB, q_neB, q_eqNil, q_neNil, q_lt, q_le, q_gt, q_ge, q_is, q_isnt, r_bl, r_int, r_lst, r_tup, s_szL, s_szT, s_subL, s_subT, s_slcL, s_slcT, s_itL, s_itT, s_liL, n_lenL, n_lenT, n_abs, n_min2, n_max2, n_int, n_intB, n_listL, n_listT, n_tupL, n_strI, n_boolI, n_allL, n_anyL, n_sumL, f_non, f_bl, f_int, f_str, f_tup, f_lst, f_nil, f_cons, g_int, g_bl, g_non, g_str, g_lstF, g_tup, g_lstT, g_nil, g_cons, o_nil, o_0, o_1, z_cast0, z_cast1, z_cast2, z_cast3, z_cast4, z_cast5, z_cast6, z_cast7, z_cast8, z_cast9, z_cast10, z_cast11, z_cast12, l_ltl0, l_ltl1, l_ltl2, l_ltl3, l_ltl4, l_ltl5, l_ltl6, l_ltl7, l_ltl8, l_ltl9, l_ltl10, l_ltl11, l_ltl12, l_line0, l_line1, l_line2, l_line3, l_line4, l_line5, l_line6, l_line7, l_line8, l_line9, l_line10, l_line11, l_line12, k_NoneType_int, k_NoneType_bool, k_NoneType_str, k_NoneType_list, k_NoneType_tuple, k_NoneType_dict, k_bool_int, k_bool_bool, k_bool_str, k_bool_list, k_bool_tuple, k_bool_dict, k_int_int, k_int_bool, k_int_str, k_int_list, k_int_tuple, k_int_dict, k_str_int, k_str_bool, k_str_str, k_str_list, k_str_tuple, k_str_dict, k_tuple_int, k_tuple_bool, k_tuple_str, k_tuple_list, k_tuple_tuple, k_tuple_dict, k_list_int, k_list_bool, k_list_str, k_list_list, k_list_tuple, k_list_dict, z_at0, z_at1, z_at2, z_at3, z_at4, z_at5, z_at6, z_at7, z_at8, z_ix1_0, z_ix2_0, z_ix2_1, z_ix3_0, z_ix3_1, z_ix3_2, z_ix4_0, z_ix4_1, z_ix4_2, z_ix4_3, z_ix5_0, z_ix5_1, z_ix5_2, z_ix5_3, z_ix5_4, z_ix6_0, z_ix6_1, z_ix6_2, z_ix6_3, z_ix6_4, z_ix6_5, z_ix7_0, z_ix7_1, z_ix7_2, z_ix7_3, z_ix7_4, z_ix7_5, z_ix7_6, z_ix8_0, z_ix8_1, z_ix8_2, z_ix8_3, z_ix8_4, z_ix8_5, z_ix8_6, z_ix8_7, Bool.not_eq_true', decide_eq_false_iff_not, ite_not, Bool.false_eq_true, Int.reduceEq, wipeE, backE, IL_fz, IL_isFz, fz_fz, fzL_fzL, List.set_cons_zero, List.set_cons_succ, List.getElem?_cons_zero, List.getElem?_cons_succ, List.length_cons, List.length_nil, and_true, true_and, Bool.and_true, Bool.true_and, Bool.not_true, Bool.not_false, Bool.not_not, if_true, if_false, ite_true, ite_false, Option.map_some, Option.some.injEq, exists_eq_left, exists_eq_left', D.int.injEq, D.lst.injEq, D.bl.injEq, D.str.injEq, D.tup.injEq, List.cons_append, List.nil_append, List.not_mem_nil, not_false_eq_true, Bool.false_eq_true, List.all_cons, List.all_nil, reduceIte, reduceCtorEq, List.isEmpty_cons, List.isEmpty_nil, eq_self, decide_true, decide_false, Bool.if_true_left, exists_eq, exists_eq', decide_eq_true_eq, Int.reduceToNat, Int.reducePow, Int.reduceNeg, Int.reduceLT, Int.reduceLE, Int.reduceSub, Int.reduceAdd, and_false, false_and, List.mem_cons, or_false, false_or, exists_and_left, Nat.zero_add, ne_eq, not_true_eq_false, Nat.reduceAdd, Nat.reduceLT, Nat.reduceEqDiff, Nat.reduceLeDiff]
  rw [if_pos (by omega), if_pos (by omega)]
  refine lcD (fun items acc e => ∃ (l : List Int) (n : Nat) (a : Option D), items = IL l ∧ (∀ p ∈ l, 0 ≤ p) ∧ acc = (List.replicate n true).map .bl ∧ e = [some (.tup [.int r, .lst false (IL ps)]), some (.int r), some (.lst false (IL ps)), a] ∧ n + l.length = ps.length) ⟨ps, 0, _, rfl, h4, rfl, rfl, by omega⟩ ?_ ?_
  · rintro a e ⟨l, n, u, hi, _, rfl, rfl, _⟩
    refine ⟨_, bls_map _, ?_⟩
    rw [show (List.replicate n true).all id = true from by simp]
    exact q
  · rintro x xs a e k ⟨l, n, u, hi, hp, rfl, rfl, hn⟩ hk
    cases l with
    | nil => simp [IL] at hi
    | cons p l =>
      simp only [IL_cons, List.cons.injEq] at hi
      obtain ⟨rfl, rfl⟩ := hi
      simp only [List.length_cons] at hn
      simp only [lcStep, hm, H1.sp, H1.io, z_get0, z_getS, z_borV, z_stillV, z_stillsV, z_stillsN, z_shareV, z_bor_con, z_still_con, z_stills_con, z_share_con, z_bor_glo, z_still_glo, z_stills_glo, z_share_glo, z_bor_bin, z_still_bin, z_stills_bin, z_share_bin, z_bor_neg, z_still_neg, z_stills_neg, z_share_neg, z_bor_nt, z_still_nt, z_stills_nt, z_share_nt, z_bor_bo, z_still_bo, z_stills_bo, z_share_bo, z_bor_cmp, z_still_cmp, z_stills_cmp, z_share_cmp, z_bor_chn, z_still_chn, z_stills_chn, z_share_chn, z_bor_ife, z_still_ife, z_stills_ife, z_share_ife, z_bor_call, z_still_call, z_stills_call, z_share_call, z_bor_calk, z_still_calk, z_stills_calk, z_share_calk, z_bor_bi, z_still_bi, z_stills_bi, z_share_bi, z_bor_isi, z_still_isi, z_stills_isi, z_share_isi, z_bor_sub, z_still_sub, z_stills_sub, z_share_sub, z_bor_slc, z_still_slc, z_stills_slc, z_share_slc, z_bor_rpr, z_still_rpr, z_stills_rpr, z_share_rpr, z_bor_tup, z_still_tup, z_stills_tup, z_share_tup, z_bor_lst, z_still_lst, z_stills_lst, z_share_lst, z_bor_lc, z_still_lc, z_stills_lc, z_share_lc, z_bor_mov, z_still_mov, z_stills_mov, z_share_mov, z_setNm, z_setTpT, z_setTpL, z_setsN, z_setsC, z_putN, z_putC, z_var, z_mov, z_con, z_glo, z_bin, z_neg, z_nt, z_bo, z_cmp, z_chn, z_ife, z_call, z_calk, z_bi, z_isi, z_sub, z_slc, z_tup, z_lst, z_rprL, z_rprT, z_lc, z_esN, z_esC, z_bsN, z_bsC, z_aN, z_aM, z_aF, z_aE, z_oN, z_oY, z_bo1, z_bo2, zt_nt, zt_bo, zt_cmp, zt_chn, zt_isi, zt_call, zt_var, zt_bi, zt_to1, zt_to2, zt_tsN, zt_ts1, i_ex, i_r1, i_r2, i_r3, i_zip, i_enum, i_rev, c_asg, c_par, c_pst, c_pag, c_aug, c_app, c_exp, c_ite, c_for, c_ret, c_rtn, c_brk, c_cnt, c_pas, c_nev, c_nil, c_cons, b_add, b_sub, b_mul, b_fdiv, b_mod, b_pow, b_shl, b_shr, b_cat, b_rep, a_add, a_sub, a_mul, a_mod, q_eqI, q_neI, q_eqS, q_neS, q_eqB, q_neB, q_eqNil, q_neNil, q_lt, q_le, q_gt, q_ge, q_is, q_isnt, r_bl, r_int, r_lst, r_tup, s_szL, s_szT, s_subL, s_subT, s_slcL, s_slcT, s_itL, s_itT, s_liL, n_lenL, n_lenT, n_abs, n_min2, n_max2, n_int, n_intB, n_listL, n_listT, n_tupL, n_strI, n_boolI, n_allL, n_anyL, n_sumL, f_non, f_bl, f_int, f_str, f_tup, f_lst, f_nil, f_cons, g_int, g_bl, g_non, g_str, g_lstF, g_tup, g_lstT, g_nil, g_cons, o_nil, o_0, o_1, z_cast0, z_cast1, z_cast2, z_cast3, z_cast4, z_cast5, z_cast6, z_cast7, z_cast8, z_cast9, z_cast10, z_cast11, z_cast12, l_ltl0, l_ltl1, l_ltl2, l_ltl3, l_ltl4, l_ltl5, l_ltl6, l_ltl7, l_ltl8, l_ltl9, l_ltl10, l_ltl11, l_ltl12, l_line0, l_line1, l_line2, l_line3, l_line4, l_line5, l_line6, l_line7, l_line8, l_line9, l_line10, l_line11, l_line12, k_NoneType_int, k_NoneType_bool, k_NoneType_str, k_NoneType_list, k_NoneType_tuple, k_NoneType_dict, k_bool_int, k_bool_bool, k_bool_str, k_bool_list, k_bool_tuple, k_bool_dict, k_int_int, k_int_bool, k_int_str, k_int_list, k_int_tuple, k_int_dict, k_str_int, k_str_bool, k_str_str, k_str_list, k_str_tuple, k_str_dict, k_tuple_int, k_tuple_bool, k_tuple_str, k_tuple_list, k_tuple_tuple, k_tuple_dict, k_list_int, k_list_bool, k_list_str, k_list_list, k_list_tuple, k_list_dict, z_at0, z_at1, z_at2, z_at3, z_at4, z_at5, z_at6, z_at7, z_at8, z_ix1_0, z_ix2_0, z_ix2_1, z_ix3_0, z_ix3_1, z_ix3_2, z_ix4_0, z_ix4_1, z_ix4_2, z_ix4_3, z_ix5_0, z_ix5_1, z_ix5_2, z_ix5_3, z_ix5_4, z_ix6_0, z_ix6_1, z_ix6_2, z_ix6_3, z_ix6_4, z_ix6_5, z_ix7_0, z_ix7_1, z_ix7_2, z_ix7_3, z_ix7_4, z_ix7_5, z_ix7_6, z_ix8_0, z_ix8_1, z_ix8_2, z_ix8_3, z_ix8_4, z_ix8_5, z_ix8_6, z_ix8_7, Bool.not_eq_true', decide_eq_false_iff_not, ite_not, Bool.false_eq_true, Int.reduceEq, wipeE, backE, IL_fz, IL_isFz, fz_fz, fzL_fzL, List.set_cons_zero, List.set_cons_succ, List.getElem?_cons_zero, List.getElem?_cons_succ, List.length_cons, List.length_nil, and_true, true_and, Bool.and_true, Bool.true_and, Bool.not_true, Bool.not_false, Bool.not_not, if_true, if_false, ite_true, ite_false, Option.map_some, Option.some.injEq, exists_eq_left, exists_eq_left', D.int.injEq, D.lst.injEq, D.bl.injEq, D.str.injEq, D.tup.injEq, List.cons_append, List.nil_append, List.not_mem_nil, not_false_eq_true, Bool.false_eq_true, List.all_cons, List.all_nil, reduceIte, reduceCtorEq, List.isEmpty_cons, List.isEmpty_nil, eq_self, decide_true, decide_false, Bool.if_true_left, exists_eq, exists_eq', decide_eq_true_eq, Int.reduceToNat, Int.reducePow, Int.reduceNeg, Int.reduceLT, Int.reduceLE, Int.reduceSub, Int.reduceAdd, and_false, false_and, List.mem_cons, or_false, false_or, exists_and_left, Nat.zero_add, ne_eq, not_true_eq_false, Nat.reduceAdd, Nat.reduceLT, Nat.reduceEqDiff, Nat.reduceLeDiff]
      refine ⟨_, _, rfl, rfl, ?_⟩
      simp only [hp p List.mem_cons_self, hm, z_get0, z_getS, z_borV, z_stillV, z_stillsV, z_stillsN, z_shareV, z_bor_con, z_still_con, z_stills_con, z_share_con, z_bor_glo, z_still_glo, z_stills_glo, z_share_glo, z_bor_bin, z_still_bin, z_stills_bin, z_share_bin, z_bor_neg, z_still_neg, z_stills_neg, z_share_neg, z_bor_nt, z_still_nt, z_stills_nt, z_share_nt, z_bor_bo, z_still_bo, z_stills_bo, z_share_bo, z_bor_cmp, z_still_cmp, z_stills_cmp, z_share_cmp, z_bor_chn, z_still_chn, z_stills_chn, z_share_chn, z_bor_ife, z_still_ife, z_stills_ife, z_share_ife, z_bor_call, z_still_call, z_stills_call, z_share_call, z_bor_calk, z_still_calk, z_stills_calk, z_share_calk, z_bor_bi, z_still_bi, z_stills_bi, z_share_bi, z_bor_isi, z_still_isi, z_stills_isi, z_share_isi, z_bor_sub, z_still_sub, z_stills_sub, z_share_sub, z_bor_slc, z_still_slc, z_stills_slc, z_share_slc, z_bor_rpr, z_still_rpr, z_stills_rpr, z_share_rpr, z_bor_tup, z_still_tup, z_stills_tup, z_share_tup, z_bor_lst, z_still_lst, z_stills_lst, z_share_lst, z_bor_lc, z_still_lc, z_stills_lc, z_share_lc, z_bor_mov, z_still_mov, z_stills_mov, z_share_mov, z_setNm, z_setTpT, z_setTpL, z_setsN, z_setsC, z_putN, z_putC, z_var, z_mov, z_con, z_glo, z_bin, z_neg, z_nt, z_bo, z_cmp, z_chn, z_ife, z_call, z_calk, z_bi, z_isi, z_sub, z_slc, z_tup, z_lst, z_rprL, z_rprT, z_lc, z_esN, z_esC, z_bsN, z_bsC, z_aN, z_aM, z_aF, z_aE, z_oN, z_oY, z_bo1, z_bo2, zt_nt, zt_bo, zt_cmp, zt_chn, zt_isi, zt_call, zt_var, zt_bi, zt_to1, zt_to2, zt_tsN, zt_ts1, i_ex, i_r1, i_r2, i_r3, i_zip, i_enum, i_rev, c_asg, c_par, c_pst, c_pag, c_aug, c_app, c_exp, c_ite, c_for, c_ret, c_rtn, c_brk, c_cnt, c_pas, c_nev, c_nil, c_cons, b_add, b_sub, b_mul, b_fdiv, b_mod, b_pow, b_shl, b_shr, b_cat, b_rep, a_add, a_sub, a_mul, a_mod, q_eqI, q_neI, q_eqS, q_neS, q_eqB, q_neB, q_eqNil, q_neNil, q_lt, q_le, q_gt, q_ge, q_is, q_isnt, r_bl, r_int, r_lst, r_tup, s_szL, s_szT, s_subL, s_subT, s_slcL, s_slcT, s_itL, s_itT, s_liL, n_lenL, n_lenT, n_abs, n_min2, n_max2, n_int, n_intB, n_listL, n_listT, n_tupL, n_strI, n_boolI, n_allL, n_anyL, n_sumL, f_non, f_bl, f_int, f_str, f_tup, f_lst, f_nil, f_cons, g_int, g_bl, g_non, g_str, g_lstF, g_tup, g_lstT, g_nil, g_cons, o_nil, o_0, o_1, z_cast0, z_cast1, z_cast2, z_cast3, z_cast4, z_cast5, z_cast6, z_cast7, z_cast8, z_cast9, z_cast10, z_cast11, z_cast12, l_ltl0, l_ltl1, l_ltl2, l_ltl3, l_ltl4, l_ltl5, l_ltl6, l_ltl7, l_ltl8, l_ltl9, l_ltl10, l_ltl11, l_ltl12, l_line0, l_line1, l_line2, l_line3, l_line4, l_line5, l_line6, l_line7, l_line8, l_line9, l_line10, l_line11, l_line12, k_NoneType_int, k_NoneType_bool, k_NoneType_str, k_NoneType_list, k_NoneType_tuple, k_NoneType_dict, k_bool_int, k_bool_bool, k_bool_str, k_bool_list, k_bool_tuple, k_bool_dict, k_int_int, k_int_bool, k_int_str, k_int_list, k_int_tuple, k_int_dict, k_str_int, k_str_bool, k_str_str, k_str_list, k_str_tuple, k_str_dict, k_tuple_int, k_tuple_bool, k_tuple_str, k_tuple_list, k_tuple_tuple, k_tuple_dict, k_list_int, k_list_bool, k_list_str, k_list_list, k_list_tuple, k_list_dict, z_at0, z_at1, z_at2, z_at3, z_at4, z_at5, z_at6, z_at7, z_at8, z_ix1_0, z_ix2_0, z_ix2_1, z_ix3_0, z_ix3_1, z_ix3_2, z_ix4_0, z_ix4_1, z_ix4_2, z_ix4_3, z_ix5_0, z_ix5_1, z_ix5_2, z_ix5_3, z_ix5_4, z_ix6_0, z_ix6_1, z_ix6_2, z_ix6_3, z_ix6_4, z_ix6_5, z_ix7_0, z_ix7_1, z_ix7_2, z_ix7_3, z_ix7_4, z_ix7_5, z_ix7_6, z_ix8_0, z_ix8_1, z_ix8_2, z_ix8_3, z_ix8_4, z_ix8_5, z_ix8_6, z_ix8_7, Bool.not_eq_true', decide_eq_false_iff_not, ite_not, Bool.false_eq_true, Int.reduceEq, wipeE, backE, IL_fz, IL_isFz, fz_fz, fzL_fzL, List.set_cons_zero, List.set_cons_succ, List.getElem?_cons_zero, List.getElem?_cons_succ, List.length_cons, List.length_nil, and_true, true_and, Bool.and_true, Bool.true_and, Bool.not_true, Bool.not_false, Bool.not_not, if_true, if_false, ite_true, ite_false, Option.map_some, Option.some.injEq, exists_eq_left, exists_eq_left', D.int.injEq, D.lst.injEq, D.bl.injEq, D.str.injEq, D.tup.injEq, List.cons_append, List.nil_append, List.not_mem_nil, not_false_eq_true, Bool.false_eq_true, List.all_cons, List.all_nil, reduceIte, reduceCtorEq, List.isEmpty_cons, List.isEmpty_nil, eq_self, decide_true, decide_false, Bool.if_true_left, exists_eq, exists_eq', decide_eq_true_eq, Int.reduceToNat, Int.reducePow, Int.reduceNeg, Int.reduceLT, Int.reduceLE, Int.reduceSub, Int.reduceAdd, and_false, false_and, List.mem_cons, or_false, false_or, exists_and_left, Nat.zero_add, ne_eq, not_true_eq_false, Nat.reduceAdd, Nat.reduceLT, Nat.reduceEqDiff, Nat.reduceLeDiff]
      refine ⟨by simp only [List.length_map, List.length_replicate]; exact Nat.lt_of_lt_of_le (by omega) (Nat.le_of_ble_eq_true (rfl : Nat.ble 8 sizeLine = true)), hk _ _ ⟨l, n + 1, _, rfl, fun z hz => hp z (List.mem_cons_of_mem _ hz), ?_, rfl, by omega⟩⟩
      rw [List.replicate_succ', List.map_append]; rfl
def sp_require_lock : FSpec := fun ds Q _ => ∃ r ps, ds = [LockD r ps] ∧ LockOk r ps ∧ Q .non []
theorem w_require_lock {Γ : Sig} (hm : Γ.me = []) (H1 : Has Γ "lock_fault" [] sp_lock_fault) (ds : List D) (Q : D → List D → Prop) (R : Exc → Prop) (h : sp_require_lock ds Q R) : wpF Γ f_require_lock ds Q R := by
  obtain ⟨r, ps, rfl, ht, q⟩ := h
  simp only [wpF_eq, LockD, f_require_lock, f_require_lock_b1, startE, hm, H1.sp, H1.io, List.map_cons, List.map_nil, z_get0, z_getS, z_borV, z_stillV, z_stillsV, z_stillsN, z_shareV, z_bor_con, z_still_con, z_stills_con, z_share_con, z_bor_glo, z_still_glo, z_stills_glo, z_share_glo, z_bor_bin, z_still_bin, z_stills_bin, z_share_bin, z_bor_neg, z_still_neg, z_stills_neg, z_share_neg, z_bor_nt, z_still_nt, z_stills_nt, z_share_nt, z_bor_bo, z_still_bo, z_stills_bo, z_share_bo, z_bor_cmp, z_still_cmp, z_stills_cmp, z_share_cmp, z_bor_chn, z_still_chn, z_stills_chn, z_share_chn, z_bor_ife, z_still_ife, z_stills_ife, z_share_ife, z_bor_call, z_still_call, z_stills_call, z_share_call, z_bor_calk, z_still_calk, z_stills_calk, z_share_calk, z_bor_bi, z_still_bi, z_stills_bi, z_share_bi, z_bor_isi, z_still_isi, z_stills_isi, z_share_isi, z_bor_sub, z_still_sub, z_stills_sub, z_share_sub, z_bor_slc, z_still_slc, z_stills_slc, z_share_slc, z_bor_rpr, z_still_rpr, z_stills_rpr, z_share_rpr, z_bor_tup, z_still_tup, z_stills_tup, z_share_tup, z_bor_lst, z_still_lst, z_stills_lst, z_share_lst, z_bor_lc, z_still_lc, z_stills_lc, z_share_lc, z_bor_mov, z_still_mov, z_stills_mov, z_share_mov, z_setNm, z_setTpT, z_setTpL, z_setsN, z_setsC, z_putN, z_putC, z_var, z_mov, z_con, z_glo, z_bin, z_neg, z_nt, z_bo, z_cmp, z_chn, z_ife, z_call, z_calk, z_bi, z_isi, z_sub, z_slc, z_tup, z_lst, z_rprL, z_rprT, z_lc, z_esN, z_esC, z_bsN, z_bsC, z_aN, z_aM, z_aF, z_aE, z_oN, z_oY, z_bo1, z_bo2, zt_nt, zt_bo, zt_cmp, zt_chn, zt_isi, zt_call, zt_var, zt_bi, zt_to1, zt_to2, zt_tsN, zt_ts1, i_ex, i_r1, i_r2, i_r3, i_zip, i_enum, i_rev, c_asg, c_par, c_pst, c_pag, c_aug, c_app, c_exp, c_ite, c_for, c_ret, c_rtn, c_brk, c_cnt, c_pas, c_nev, c_nil, c_cons, b_add, b_sub, b_mul, b_fdiv, b_mod, b_pow, b_shl, b_shr, b_cat, b_rep, a_add, a_sub, a_mul, a_mod, q_eqI, q_neI, q_eqS, q_neS, q_eqB, q_neB, q_eqNil, q_neNil, q_lt, q_le, q_gt, q_ge, q_is, q_isnt, r_bl, r_int, r_lst, r_tup, s_szL, s_szT, s_subL, s_subT, s_slcL, s_slcT, s_itL, s_itT, s_liL, n_lenL, n_lenT, n_abs, n_min2, n_max2, n_int, n_intB, n_listL, n_listT, n_tupL, n_strI, n_boolI, n_allL, n_anyL, n_sumL, f_non, f_bl, f_int, f_str, f_tup, f_lst, f_nil, f_cons, g_int, g_bl, g_non, g_str, g_lstF, g_tup, g_lstT, g_nil, g_cons, o_nil, o_0, o_1, z_cast0, z_cast1, z_cast2, z_cast3, z_cast4, z_cast5, z_cast6, z_cast7, z_cast8, z_cast9, z_cast10, z_cast11, z_cast12, l_ltl0, l_ltl1, l_ltl2, l_ltl3, l_ltl4, l_ltl5, l_ltl6, l_ltl7, l_ltl8, l_ltl9, l_ltl10, l_ltl11, l_ltl12, l_line0, l_line1, l_line2, l_line3, l_line4, l_line5, l_line6, l_line7, l_line8, l_line9, l_line10, l_line11, l_line12, k_NoneType_int, k_NoneType_bool, k_NoneType_str, k_NoneType_list, k_NoneType_tuple, k_NoneType_dict, k_bool_int, k_bool_bool, k_bool_str, k_bool_list, k_bool_tuple, k_bool_dict, k_int_int, k_int_bool, k_int_str, k_int_list, k_int_tuple, k_int_dict, k_str_int, k_str_bool, k_str_str, k_str_list, k_str_tuple, k_str_dict, k_tuple_int, k_tuple_bool, k_tuple_str, k_tuple_list, k_tuple_tuple, k_tuple_dict, k_list_int, k_list_bool, k_list_str, k_list_list, k_list_tuple, k_list_dict, z_at0, z_at1, z_at2, z_at3, z_at4, z_at5, z_at6, z_at7, z_at8, z_ix1_0, z_ix2_0, z_ix2_1, z_ix3_0, z_ix3_1, z_ix3_2, z_ix4_0, z_ix4_1, z_ix4_2, z_ix4_3, z_ix5_0, z_ix5_1, z_ix5_2, z_ix5_3, z_ix5_4, z_ix6_0, z_ix6_1, z_ix6_2, z_ix6_3, z_ix6_4, z_ix6_5, z_ix7_0, z_ix7_1, z_ix7_2, z_ix7_3, z_ix7_4, z_ix7_5, z_ix7_6, z_ix8_0, z_ix8_1, z_ix8_2, z_ix8_3, z_ix8_4, z_ix8_5, z_ix8_6, z_ix8_7, Bool.not_eq_true', decide_eq_false_iff_not, ite_not, Bool.false_eq_true, Int.reduceEq, wipeE, backE, IL_fz, IL_isFz, fz_fz, fzL_fzL, List.set_cons_zero, List.set_cons_succ, List.getElem?_cons_zero, List.getElem?_cons_succ, List.length_cons, List.length_nil, and_true, true_and, Bool.and_true, Bool.true_and, Bool.not_true, Bool.not_false, Bool.not_not, if_true, if_false, ite_true, ite_false, Option.map_some, Option.some.injEq, exists_eq_left, exists_eq_left', D.int.injEq, D.lst.injEq, D.bl.injEq, D.str.injEq, D.tup.injEq, List.cons_append, List.nil_append, List.not_mem_nil, not_false_eq_true, Bool.false_eq_true, List.all_cons, List.all_nil, reduceIte, reduceCtorEq, List.isEmpty_cons, List.isEmpty_nil, eq_self, decide_true, decide_false, Bool.if_true_left, exists_eq, exists_eq', decide_eq_true_eq, Int.reduceToNat, Int.reducePow, Int.reduceNeg, Int.reduceLT, Int.reduceLE, Int.reduceSub, Int.reduceAdd, and_false, false_and, List.mem_cons, or_false, false_or, exists_and_left, Nat.zero_add, ne_eq, not_true_eq_false, Nat.reduceAdd, Nat.reduceLT, Nat.reduceEqDiff, Nat.reduceLeDiff]
  refine ⟨_, ps, rfl, ht, rfl, ?_⟩
  refine cmp_nsame rfl rfl ?_
  (try simp only [hm, z_get0, z_getS, z_borV, z_stillV, z_stillsV, z_stillsN, z_shareV, z_bor_con, z_still_con, z_stills_con, z_share_con, z_bor_glo, z_still_glo, z_stills_glo, z_share_glo, z_bor_bin, z_still_bin, z_stills_bin, z_share_bin, z_bor_neg, z_still_neg, z_stills_neg, z_share_neg, z_bor_nt, z_still_nt, z_stills_nt, z_share_nt, z_bor_bo, z_still_bo, z_stills_bo, z_share_bo, z_bor_cmp, z_still_cmp, z_stills_cmp, z_share_cmp, z_bor_chn, z_still_chn, z_stills_chn, z_share_chn, z_bor_ife, z_still_ife, z_stills_ife, z_share_ife, z_bor_call, z_still_call, z_stills_call, z_share_call, z_bor_calk, z_still_calk, z_stills_calk, z_share_calk, z_bor_bi, z_still_bi, z_stills_bi, z_share_bi, z_bor_isi, z_still_isi, z_stills_isi, z_share_isi, z_bor_sub, z_still_sub, z_stills_sub, z_share_sub, z_bor_slc, z_still_slc, z_stills_slc, z_share_slc, z_bor_rpr, z_still_rpr, z_stills_rpr, z_share_rpr, z_bor_tup, z_still_tup, z_stills_tup, z_share_tup, z_bor_lst, z_still_lst, z_stills_lst, z_share_lst, z_bor_lc, z_still_lc, z_stills_lc, z_share_lc, z_bor_mov, z_still_mov, z_stills_mov, z_share_mov, z_setNm, z_setTpT, z_setTpL, z_setsN, z_setsC, z_putN, z_putC, z_var, z_mov, z_con, z_glo, z_bin, z_neg, z_nt, z_bo, z_cmp, z_chn, z_ife, z_call, z_calk, z_bi, z_isi, z_sub, z_slc, z_tup, z_lst, z_rprL, z_rprT, z_lc, z_esN, z_esC, z_bsN, z_bsC, z_aN, z_aM, z_aF, z_aE, z_oN, z_oY, z_bo1, z_bo2, zt_nt, zt_bo, zt_cmp, zt_chn, zt_isi, zt_call, zt_var, zt_bi, zt_to1, zt_to2, zt_tsN, zt_ts1, i_ex, i_r1, i_r2, i_r3, i_zip, i_enum, i_rev, c_asg, c_par, c_pst, c_pag, c_aug, c_app, c_exp, c_ite, c_for, c_ret, c_rtn, c_brk, c_cnt, c_pas, c_nev, c_nil, c_cons, b_add, b_sub, b_mul, b_fdiv, b_mod, b_pow, b_shl, b_shr, b_cat, b_rep, a_add, a_sub, a_mul, a_mod, q_eqI, q_neI, q_eqS, q_neS, q_eqB, q_neB, q_eqNil, q_neNil, q_lt, q_le, q_gt, q_ge, q_is, q_isnt, r_bl, r_int, r_lst, r_tup, s_szL, s_szT, s_subL, s_subT, s_slcL, s_slcT, s_itL, s_itT, s_liL, n_lenL, n_lenT, n_abs, n_min2, n_max2, n_int, n_intB, n_listL, n_listT, n_tupL, n_strI, n_boolI, n_allL, n_anyL, n_sumL, f_non, f_bl, f_int, f_str, f_tup, f_lst, f_nil, f_cons, g_int, g_bl, g_non, g_str, g_lstF, g_tup, g_lstT, g_nil, g_cons, o_nil, o_0, o_1, z_cast0, z_cast1, z_cast2, z_cast3, z_cast4, z_cast5, z_cast6, z_cast7, z_cast8, z_cast9, z_cast10, z_cast11, z_cast12, l_ltl0, l_ltl1, l_ltl2, l_ltl3, l_ltl4, l_ltl5, l_ltl6, l_ltl7, l_ltl8, l_ltl9, l_ltl10, l_ltl11, l_ltl12, l_line0, l_line1, l_line2, l_line3, l_line4, l_line5, l_line6, l_line7, l_line8, l_line9, l_line10, l_line11, l_line12, k_NoneType_int, k_NoneType_bool, k_NoneType_str, k_NoneType_list, k_NoneType_tuple, k_NoneType_dict, k_bool_int, k_bool_bool, k_bool_str, k_bool_list, k_bool_tuple, k_bool_dict, k_int_int, k_int_bool, k_int_str, k_int_list, k_int_tuple, k_int_dict, k_str_int, k_str_bool, k_str_str, k_str_list, k_str_tuple, k_str_dict, k_tuple_int, k_tuple_bool, k_tuple_str, k_tuple_list, k_tuple_tuple, k_tuple_dict, k_list_int, k_list_bool, k_list_str, k_list_list, k_list_tuple, k_list_dict, z_at0, z_at1, z_at2, z_at3, z_at4, z_at5, z_at6, z_at7, z_at8, z_ix1_0, z_ix2_0, z_ix2_1, z_ix3_0, z_ix3_1, z_ix3_2, z_ix4_0, z_ix4_1, z_ix4_2, z_ix4_3, z_ix5_0, z_ix5_1, z_ix5_2, z_ix5_3, z_ix5_4, z_ix6_0, z_ix6_1, z_ix6_2, z_ix6_3, z_ix6_4, z_ix6_5, z_ix7_0, z_ix7_1, z_ix7_2, z_ix7_3, z_ix7_4, z_ix7_5, z_ix7_6, z_ix8_0, z_ix8_1, z_ix8_2, z_ix8_3, z_ix8_4, z_ix8_5, z_ix8_6, z_ix8_7, Bool.not_eq_true', decide_eq_false_iff_not, ite_not, Bool.false_eq_true, Int.reduceEq, wipeE, backE, IL_fz, IL_isFz, fz_fz, fzL_fzL, List.set_cons_zero, List.set_cons_succ, List.getElem?_cons_zero, List.getElem?_cons_succ, List.length_cons, List.length_nil, and_true, true_and, Bool.and_true, Bool.true_and, Bool.not_true, Bool.not_false, Bool.not_not, if_true, if_false, ite_true, ite_false, Option.map_some, Option.some.injEq, exists_eq_left, exists_eq_left', D.int.injEq, D.lst.injEq, D.bl.injEq, D.str.injEq, D.tup.injEq, List.cons_append, List.nil_append, List.not_mem_nil, not_false_eq_true, Bool.false_eq_true, List.all_cons, List.all_nil, reduceIte, reduceCtorEq, List.isEmpty_cons, List.isEmpty_nil, eq_self, decide_true, decide_false, Bool.if_true_left, exists_eq, exists_eq', decide_eq_true_eq, Int.reduceToNat, Int.reducePow, Int.reduceNeg, Int.reduceLT, Int.reduceLE, Int.reduceSub, Int.reduceAdd, and_false, false_and, List.mem_cons, or_false, false_or, exists_and_left, Nat.zero_add, ne_eq, not_true_eq_false, Nat.reduceAdd, Nat.reduceLT, Nat.reduceEqDiff, Nat.reduceLeDiff])
  exact q
/-- the wheels behind the dial at d -/
def Chain : Int → List Int → List Int → Prop
  | _, [], [] => True
  | d, q :: qs, p :: ps => 0 ≤ d - p ∧ d - p ≤ q ∧ Chain p qs ps
  | _, _, _ => False
def sp_places_right : FSpec := fun ds Q _ => ∃ d qs ps, ds = [.lst false (IL qs), .int d, .lst false (IL ps)] ∧ Chain d qs ps ∧ Q (.bl true) []
theorem Chain.len : ∀ {qs ps : List Int} {d : Int}, Chain d qs ps → ps.length = qs.length
  | [], [], _, _ => rfl
  | q :: qs, p :: ps, _, h => by rw [List.length_cons, List.length_cons, Chain.len h.2.2]
  | [], _ :: _, _, h => h.elim
  | _ :: _, [], _, h => h.elim
def zipD (qs ps : List Int) : List D := (IL qs).zipWith (fun x y => .tup [x, y]) (IL ps)
theorem w_places_right {Γ : Sig} (hm : Γ.me = []) (H1 : Has Γ "is_integer" [] sp_is_integer) (ds : List D) (Q : D → List D → Prop) (R : Exc → Prop) (h : sp_places_right ds Q R) : wpF Γ f_places_right ds Q R := by
  obtain ⟨d, qs, ps, rfl, hc, q⟩ := h
  have hl := hc.len
  simp only [wpF_eq, f_places_right, f_places_right_b2, startE, hm, H1.sp, H1.io, List.map_cons, List.map_nil, IL_len, hl, z_get0, z_getS, z_borV, z_stillV, z_stillsV, z_stillsN, z_shareV, z_bor_con, z_still_con, z_stills_con, z_share_con, z_bor_glo, z_still_glo, z_stills_glo, z_share_glo, z_bor_bin, z_still_bin, z_stills_bin, z_share_bin, z_bor_neg, z_still_neg, z_stills_neg, z_share_neg, z_bor_nt, z_still_nt, z_stills_nt, z_share_nt, z_bor_bo, z_still_bo, z_stills_bo, z_share_bo, z_bor_cmp, z_still_cmp, z_stills_cmp, z_share_cmp, z_bor_chn, z_still_chn, z_stills_chn, z_share_chn, z_bor_ife, z_still_ife, z_stills_ife, z_share_ife, z_bor_call, z_still_call, z_stills_call, z_share_call, z_bor_calk, z_still_calk, z_stills_calk, z_share_calk, z_bor_bi, z_still_bi, z_stills_bi, z_share_bi, z_bor_isi, z_still_isi, z_stills_isi, z_share_isi, z_bor_sub, z_still_sub, z_stills_sub, z_share_sub, z_bor_slc, z_still_slc, z_stills_slc, z_share_slc, z_bor_rpr, z_still_rpr, z_stills_rpr, z_share_rpr, z_bor_tup, z_still_tup, z_stills_tup, z_share_tup, z_bor_lst, z_still_lst, z_stills_lst, z_share_lst, z_bor_lc, z_still_lc, z_stills_lc, z_share_lc, z_bor_mov, z_still_mov, z_stills_mov, z_share_mov, z_setNm, z_setTpT, z_setTpL, z_setsN, z_setsC, z_putN, z_putC, z_var, z_mov, z_con, z_glo, z_bin, z_neg, z_nt, z_bo, z_cmp, z_chn, z_ife, z_call, z_calk, z_bi, z_isi, z_sub, z_slc, z_tup, z_lst, z_rprL, z_rprT, z_lc, z_esN, z_esC, z_bsN, z_bsC, z_aN, z_aM, z_aF, z_aE, z_oN, z_oY, z_bo1, z_bo2, zt_nt, zt_bo, zt_cmp, zt_chn, zt_isi, zt_call, zt_var, zt_bi, zt_to1, zt_to2, zt_tsN, zt_ts1, i_ex, i_r1, i_r2, i_r3, i_zip, i_enum, i_rev, c_asg, c_par, c_pst, c_pag, c_aug, c_app, c_exp, c_ite, c_for, c_ret, c_rtn, c_brk, c_cnt, c_pas, c_nev, c_nil, c_cons, b_add, b_sub, b_mul, b_fdiv, b_mod, b_pow, b_shl, b_shr, b_cat, b_rep, a_add, a_sub, a_mul, a_mod, q_eqI, q_neI, q_eqS, q_neS, q_eqB, q_neB, q_eqNil, q_neNil, q_lt, q_le, q_gt, q_ge, q_is, q_isnt, r_bl, r_int, r_lst, r_tup, s_szL, s_szT, s_subL, s_subT, s_slcL, s_slcT, s_itL, s_itT, s_liL, n_lenL, n_lenT, n_abs, n_min2, n_max2, n_int, n_intB, n_listL, n_listT, n_tupL, n_strI, n_boolI, n_allL, n_anyL, n_sumL, f_non, f_bl, f_int, f_str, f_tup, f_lst, f_nil, f_cons, g_int, g_bl, g_non, g_str, g_lstF, g_tup, g_lstT, g_nil, g_cons, o_nil, o_0, o_1, z_cast0, z_cast1, z_cast2, z_cast3, z_cast4, z_cast5, z_cast6, z_cast7, z_cast8, z_cast9, z_cast10, z_cast11, z_cast12, l_ltl0, l_ltl1, l_ltl2, l_ltl3, l_ltl4, l_ltl5, l_ltl6, l_ltl7, l_ltl8, l_ltl9, l_ltl10, l_ltl11, l_ltl12, l_line0, l_line1, l_line2, l_line3, l_line4, l_line5, l_line6, l_line7, l_line8, l_line9, l_line10, l_line11, l_line12, k_NoneType_int, k_NoneType_bool, k_NoneType_str, k_NoneType_list, k_NoneType_tuple, k_NoneType_dict, k_bool_int, k_bool_bool, k_bool_str, k_bool_list, k_bool_tuple, k_bool_dict, k_int_int, k_int_bool, k_int_str, k_int_list, k_int_tuple, k_int_dict, k_str_int, k_str_bool, k_str_str, k_str_list, k_str_tuple, k_str_dict, k_tuple_int, k_tuple_bool, k_tuple_str, k_tuple_list, k_tuple_tuple, k_tuple_dict, k_list_int, k_list_bool, k_list_str, k_list_list, k_list_tuple, k_list_dict, z_at0, z_at1, z_at2, z_at3, z_at4, z_at5, z_at6, z_at7, z_at8, z_ix1_0, z_ix2_0, z_ix2_1, z_ix3_0, z_ix3_1, z_ix3_2, z_ix4_0, z_ix4_1, z_ix4_2, z_ix4_3, z_ix5_0, z_ix5_1, z_ix5_2, z_ix5_3, z_ix5_4, z_ix6_0, z_ix6_1, z_ix6_2, z_ix6_3, z_ix6_4, z_ix6_5, z_ix7_0, z_ix7_1, z_ix7_2, z_ix7_3, z_ix7_4, z_ix7_5, z_ix7_6, z_ix8_0, z_ix8_1, z_ix8_2, z_ix8_3, z_ix8_4, z_ix8_5, z_ix8_6, z_ix8_7, Bool.not_eq_true', decide_eq_false_iff_not, ite_not, Bool.false_eq_true, Int.reduceEq, wipeE, backE, IL_fz, IL_isFz, fz_fz, fzL_fzL, List.set_cons_zero, List.set_cons_succ, List.getElem?_cons_zero, List.getElem?_cons_succ, List.length_cons, List.length_nil, and_true, true_and, Bool.and_true, Bool.true_and, Bool.not_true, Bool.not_false, Bool.not_not, if_true, if_false, ite_true, ite_false, Option.map_some, Option.some.injEq, exists_eq_left, exists_eq_left', D.int.injEq, D.lst.injEq, D.bl.injEq, D.str.injEq, D.tup.injEq, List.cons_append, List.nil_append, List.not_mem_nil, not_false_eq_true, Bool.false_eq_true, List.all_cons, List.all_nil, reduceIte, reduceCtorEq, List.isEmpty_cons, List.isEmpty_nil, eq_self, decide_true, decide_false, Bool.if_true_left, exists_eq, exists_eq', decide_eq_true_eq, Int.reduceToNat, Int.reducePow, Int.reduceNeg, Int.reduceLT, Int.reduceLE, Int.reduceSub, Int.reduceAdd, and_false, false_and, List.mem_cons, or_false, false_or, exists_and_left, Nat.zero_add, ne_eq, not_true_eq_false, Nat.reduceAdd, Nat.reduceLT, Nat.reduceEqDiff, Nat.reduceLeDiff]
  refine forDK (fun items e => ∃ (l1 l2 : List Int) (a : Int) (u v : Option D), items = zipD l1 l2 ∧ Chain a l1 l2 ∧ e = [some (.lst false (IL qs)), some (.int d), some (.lst false (IL ps)), some (.int a), u, v]) ⟨qs, ps, d, none, none, rfl, hc, rfl⟩ ?_ ?_
  · rintro e ⟨l1, l2, a, u, v, hi, _, rfl⟩
    exact q
  · rintro x xs e k bk ⟨l1, l2, a, u, v, hi, hch, rfl⟩ hk _
    cases l1 with
    | nil => cases l2 <;> cases hi
    | cons q1 l1 =>
      cases l2 with
      | nil => cases hi
      | cons p1 l2 =>
        obtain ⟨rfl, rfl⟩ := List.cons.inj hi
        obtain ⟨c1, c2, c3⟩ := hch
        simp only [f_places_right_b2, f_places_right_b1, hm, H1.sp, H1.io, z_get0, z_getS, z_borV, z_stillV, z_stillsV, z_stillsN, z_shareV, z_bor_con, z_still_con, z_stills_con, z_share_con, z_bor_glo, z_still_glo, z_stills_glo, z_share_glo, z_bor_bin, z_still_bin, z_stills_bin, z_share_bin, z_bor_neg, z_still_neg, z_stills_neg, z_share_neg, z_bor_nt, z_still_nt, z_stills_nt, z_share_nt, z_bor_bo, z_still_bo, z_stills_bo, z_share_bo, z_bor_cmp, z_still_cmp, z_stills_cmp, z_share_cmp, z_bor_chn, z_still_chn, z_stills_chn, z_share_chn, z_bor_ife, z_still_ife, z_stills_ife, z_share_ife, z_bor_call, z_still_call, z_stills_call, z_share_call, z_bor_calk, z_still_calk, z_stills_calk, z_share_calk, z_bor_bi, z_still_bi, z_stills_bi, z_share_bi, z_bor_isi, z_still_isi, z_stills_isi, z_share_isi, z_bor_sub, z_still_sub, z_stills_sub, z_share_sub, z_bor_slc, z_still_slc, z_stills_slc, z_share_slc, z_bor_rpr, z_still_rpr, z_stills_rpr, z_share_rpr, z_bor_tup, z_still_tup, z_stills_tup, z_share_tup, z_bor_lst, z_still_lst, z_stills_lst, z_share_lst, z_bor_lc, z_still_lc, z_stills_lc, z_share_lc, z_bor_mov, z_still_mov, z_stills_mov, z_share_mov, z_setNm, z_setTpT, z_setTpL, z_setsN, z_setsC, z_putN, z_putC, z_var, z_mov, z_con, z_glo, z_bin, z_neg, z_nt, z_bo, z_cmp, z_chn, z_ife, z_call, z_calk, z_bi, z_isi, z_sub, z_slc, z_tup, z_lst, z_rprL, z_rprT, z_lc, z_esN, z_esC, z_bsN, z_bsC, z_aN, z_aM, z_aF, z_aE, z_oN, z_oY, z_bo1, z_bo2, zt_nt, zt_bo, zt_cmp, zt_chn, zt_isi, zt_call, zt_var, zt_bi, zt_to1, zt_to2, zt_tsN, zt_ts1, i_ex, i_r1, i_r2, i_r3, i_zip, i_enum, i_rev, c_asg, c_par, c_pst, c_pag, c_aug, c_app, c_exp, c_ite, c_for, c_ret, c_rtn, c_brk, c_cnt, c_pas, c_nev, c_nil, c_cons, b_add, b_sub, b_mul, b_fdiv, b_mod, b_pow, b_shl, b_shr, b_cat, b_rep, a_add, a_sub, a_mul, a_mod, q_eqI, q_neI, q_eqS, q_neS, q_eqB, q_neB, q_eqNil, q_neNil, q_lt, q_le, q_gt, q_ge, q_is, q_isnt, r_bl, r_int, r_lst, r_tup, s_szL, s_szT, s_subL, s_subT, s_slcL, s_slcT, s_itL, s_itT, s_liL, n_lenL, n_lenT, n_abs, n_min2, n_max2, n_int, n_intB, n_listL, n_listT, n_tupL, n_strI, n_boolI, n_allL, n_anyL, n_sumL, f_non, f_bl, f_int, f_str, f_tup, f_lst, f_nil, f_cons, g_int, g_bl, g_non, g_str, g_lstF, g_tup, g_lstT, g_nil, g_cons, o_nil, o_0, o_1, z_cast0, z_cast1, z_cast2, z_cast3, z_cast4, z_cast5, z_cast6, z_cast7, z_cast8, z_cast9, z_cast10, z_cast11, z_cast12, l_ltl0, l_ltl1, l_ltl2, l_ltl3, l_ltl4, l_ltl5, l_ltl6, l_ltl7, l_ltl8, l_ltl9, l_ltl10, l_ltl11, l_ltl12, l_line0, l_line1, l_line2, l_line3, l_line4, l_line5, l_line6, l_line7, l_line8, l_line9, l_line10, l_line11, l_line12, k_NoneType_int, k_NoneType_bool, k_NoneType_str, k_NoneType_list, k_NoneType_tuple, k_NoneType_dict, k_bool_int, k_bool_bool, k_bool_str, k_bool_list, k_bool_tuple, k_bool_dict, k_int_int, k_int_bool, k_int_str, k_int_list, k_int_tuple, k_int_dict, k_str_int, k_str_bool, k_str_str, k_str_list, k_str_tuple, k_str_dict, k_tuple_int, k_tuple_bool, k_tuple_str, k_tuple_list, k_tuple_tuple, k_tuple_dict, k_list_int, k_list_bool, k_list_str, k_list_list, k_list_tuple, k_list_dict, z_at0, z_at1, z_at2, z_at3, z_at4, z_at5, z_at6, z_at7, z_at8, z_ix1_0, z_ix2_0, z_ix2_1, z_ix3_0, z_ix3_1, z_ix3_2, z_ix4_0, z_ix4_1, z_ix4_2, z_ix4_3, z_ix5_0, z_ix5_1, z_ix5_2, z_ix5_3, z_ix5_4, z_ix6_0, z_ix6_1, z_ix6_2, z_ix6_3, z_ix6_4, z_ix6_5, z_ix7_0, z_ix7_1, z_ix7_2, z_ix7_3, z_ix7_4, z_ix7_5, z_ix7_6, z_ix8_0, z_ix8_1, z_ix8_2, z_ix8_3, z_ix8_4, z_ix8_5, z_ix8_6, z_ix8_7, Bool.not_eq_true', decide_eq_false_iff_not, ite_not, Bool.false_eq_true, Int.reduceEq, wipeE, backE, IL_fz, IL_isFz, fz_fz, fzL_fzL, List.set_cons_zero, List.set_cons_succ, List.getElem?_cons_zero, List.getElem?_cons_succ, List.length_cons, List.length_nil, and_true, true_and, Bool.and_true, Bool.true_and, Bool.not_true, Bool.not_false, Bool.not_not, if_true, if_false, ite_true, ite_false, Option.map_some, Option.some.injEq, exists_eq_left, exists_eq_left', D.int.injEq, D.lst.injEq, D.bl.injEq, D.str.injEq, D.tup.injEq, List.cons_append, List.nil_append, List.not_mem_nil, not_false_eq_true, Bool.false_eq_true, List.all_cons, List.all_nil, reduceIte, reduceCtorEq, List.isEmpty_cons, List.isEmpty_nil, eq_self, decide_true, decide_false, Bool.if_true_left, exists_eq, exists_eq', decide_eq_true_eq, Int.reduceToNat, Int.reducePow, Int.reduceNeg, Int.reduceLT, Int.reduceLE, Int.reduceSub, Int.reduceAdd, and_false, false_and, List.mem_cons, or_false, false_or, exists_and_left, Nat.zero_add, ne_eq, not_true_eq_false, Nat.reduceAdd, Nat.reduceLT, Nat.reduceEqDiff, Nat.reduceLeDiff]
        refine ⟨_, rfl, trivial, rfl, ?_⟩
        simp only [isInt, c1, c2, hm, z_get0, z_getS, z_borV, z_stillV, z_stillsV, z_stillsN, z_shareV, z_bor_con, z_still_con, z_stills_con, z_share_con, z_bor_glo, z_still_glo, z_stills_glo, z_share_glo, z_bor_bin, z_still_bin, z_stills_bin, z_share_bin, z_bor_neg, z_still_neg, z_stills_neg, z_share_neg, z_bor_nt, z_still_nt, z_stills_nt, z_share_nt, z_bor_bo, z_still_bo, z_stills_bo, z_share_bo, z_bor_cmp, z_still_cmp, z_stills_cmp, z_share_cmp, z_bor_chn, z_still_chn, z_stills_chn, z_share_chn, z_bor_ife, z_still_ife, z_stills_ife, z_share_ife, z_bor_call, z_still_call, z_stills_call, z_share_call, z_bor_calk, z_still_calk, z_stills_calk, z_share_calk, z_bor_bi, z_still_bi, z_stills_bi, z_share_bi, z_bor_isi, z_still_isi, z_stills_isi, z_share_isi, z_bor_sub, z_still_sub, z_stills_sub, z_share_sub, z_bor_slc, z_still_slc, z_stills_slc, z_share_slc, z_bor_rpr, z_still_rpr, z_stills_rpr, z_share_rpr, z_bor_tup, z_still_tup, z_stills_tup, z_share_tup, z_bor_lst, z_still_lst, z_stills_lst, z_share_lst, z_bor_lc, z_still_lc, z_stills_lc, z_share_lc, z_bor_mov, z_still_mov, z_stills_mov, z_share_mov, z_setNm, z_setTpT, z_setTpL, z_setsN, z_setsC, z_putN, z_putC, z_var, z_mov, z_con, z_glo, z_bin, z_neg, z_nt, z_bo, z_cmp, z_chn, z_ife, z_call, z_calk, z_bi, z_isi, z_sub, z_slc, z_tup, z_lst, z_rprL, z_rprT, z_lc, z_esN, z_esC, z_bsN, z_bsC, z_aN, z_aM, z_aF, z_aE, z_oN, z_oY, z_bo1, z_bo2, zt_nt, zt_bo, zt_cmp, zt_chn, zt_isi, zt_call, zt_var, zt_bi, zt_to1, zt_to2, zt_tsN, zt_ts1, i_ex, i_r1, i_r2, i_r3, i_zip, i_enum, i_rev, c_asg, c_par, c_pst, c_pag, c_aug, c_app, c_exp, c_ite, c_for, c_ret, c_rtn, c_brk, c_cnt, c_pas, c_nev, c_nil, c_cons, b_add, b_sub, b_mul, b_fdiv, b_mod, b_pow, b_shl, b_shr, b_cat, b_rep, a_add, a_sub, a_mul, a_mod, q_eqI, q_neI, q_eqS, q_neS, q_eqB, q_neB, q_eqNil, q_neNil, q_lt, q_le, q_gt, q_ge, q_is, q_isnt, r_bl, r_int, r_lst, r_tup, s_szL, s_szT, s_subL, s_subT, s_slcL, s_slcT, s_itL, s_itT, s_liL, n_lenL, n_lenT, n_abs, n_min2, n_max2, n_int, n_intB, n_listL, n_listT, n_tupL, n_strI, n_boolI, n_allL, n_anyL, n_sumL, f_non, f_bl, f_int, f_str, f_tup, f_lst, f_nil, f_cons, g_int, g_bl, g_non, g_str, g_lstF, g_tup, g_lstT, g_nil, g_cons, o_nil, o_0, o_1, z_cast0, z_cast1, z_cast2, z_cast3, z_cast4, z_cast5, z_cast6, z_cast7, z_cast8, z_cast9, z_cast10, z_cast11, z_cast12, l_ltl0, l_ltl1, l_ltl2, l_ltl3, l_ltl4, l_ltl5, l_ltl6, l_ltl7, l_ltl8, l_ltl9, l_ltl10, l_ltl11, l_ltl12, l_line0, l_line1, l_line2, l_line3, l_line4, l_line5, l_line6, l_line7, l_line8, l_line9, l_line10, l_line11, l_line12, k_NoneType_int, k_NoneType_bool, k_NoneType_str, k_NoneType_list, k_NoneType_tuple, k_NoneType_dict, k_bool_int, k_bool_bool, k_bool_str, k_bool_list, k_bool_tuple, k_bool_dict, k_int_int, k_int_bool, k_int_str, k_int_list, k_int_tuple, k_int_dict, k_str_int, k_str_bool, k_str_str, k_str_list, k_str_tuple, k_str_dict, k_tuple_int, k_tuple_bool, k_tuple_str, k_tuple_list, k_tuple_tuple, k_tuple_dict, k_list_int, k_list_bool, k_list_str, k_list_list, k_list_tuple, k_list_dict, z_at0, z_at1, z_at2, z_at3, z_at4, z_at5, z_at6, z_at7, z_at8, z_ix1_0, z_ix2_0, z_ix2_1, z_ix3_0, z_ix3_1, z_ix3_2, z_ix4_0, z_ix4_1, z_ix4_2, z_ix4_3, z_ix5_0, z_ix5_1, z_ix5_2, z_ix5_3, z_ix5_4, z_ix6_0, z_ix6_1, z_ix6_2, z_ix6_3, z_ix6_4, z_ix6_5, z_ix7_0, z_ix7_1, z_ix7_2, z_ix7_3, z_ix7_4, z_ix7_5, z_ix7_6, z_ix8_0, z_ix8_1, z_ix8_2, z_ix8_3, z_ix8_4, z_ix8_5, z_ix8_6, z_ix8_7, Bool.not_eq_true', decide_eq_false_iff_not, ite_not, Bool.false_eq_true, Int.reduceEq, wipeE, backE, IL_fz, IL_isFz, fz_fz, fzL_fzL, List.set_cons_zero, List.set_cons_succ, List.getElem?_cons_zero, List.getElem?_cons_succ, List.length_cons, List.length_nil, and_true, true_and, Bool.and_true, Bool.true_and, Bool.not_true, Bool.not_false, Bool.not_not, if_true, if_false, ite_true, ite_false, Option.map_some, Option.some.injEq, exists_eq_left, exists_eq_left', D.int.injEq, D.lst.injEq, D.bl.injEq, D.str.injEq, D.tup.injEq, List.cons_append, List.nil_append, List.not_mem_nil, not_false_eq_true, Bool.false_eq_true, List.all_cons, List.all_nil, reduceIte, reduceCtorEq, List.isEmpty_cons, List.isEmpty_nil, eq_self, decide_true, decide_false, Bool.if_true_left, exists_eq, exists_eq', decide_eq_true_eq, Int.reduceToNat, Int.reducePow, Int.reduceNeg, Int.reduceLT, Int.reduceLE, Int.reduceSub, Int.reduceAdd, and_false, false_and, List.mem_cons, or_false, false_or, exists_and_left, Nat.zero_add, ne_eq, not_true_eq_false, Nat.reduceAdd, Nat.reduceLT, Nat.reduceEqDiff, Nat.reduceLeDiff]
        exact hk _ ⟨l1, l2, p1, _, _, rfl, c3, rfl⟩
def StateD (d : Int) (ps : List Int) : D := .tup [.int d, .lst false (IL ps)]
def sp_state_fault : FSpec := fun ds Q _ => ∃ r qs d ps, ds = [LockD r qs, StateD d ps] ∧ Chain d qs ps ∧ Q (.tup []) []
theorem w_state_fault {Γ : Sig} (hm : Γ.me = []) (H1 : Has Γ "is_integer" [] sp_is_integer) (H2 : Has Γ "places_right" [] sp_places_right) (ds : List D) (Q : D → List D → Prop) (R : Exc → Prop) (h : sp_state_fault ds Q R) : wpF Γ f_state_fault ds Q R := by
  obtain ⟨r, qs, d, ps, rfl, hc, q⟩ := h
  simp only [wpF_eq, LockD, StateD, f_state_fault, f_state_fault_b1, f_state_fault_b2, startE, hm, H1.sp, H1.io, H2.sp, H2.io, List.map_cons, List.map_nil, IL_len, z_get0, z_getS, z_borV, z_stillV, z_stillsV, z_stillsN, z_shareV, z_bor_con, z_still_con, z_stills_con, z_share_con, z_bor_glo, z_still_glo, z_stills_glo, z_share_glo, z_bor_bin, z_still_bin, z_stills_bin, z_share_bin, z_bor_neg, z_still_neg, z_stills_neg, z_share_neg, z_bor_nt, z_still_nt, z_stills_nt, z_share_nt, z_bor_bo, z_still_bo, z_stills_bo, z_share_bo, z_bor_cmp, z_still_cmp, z_stills_cmp, z_share_cmp, z_bor_chn, z_still_chn, z_stills_chn, z_share_chn, z_bor_ife, z_still_ife, z_stills_ife, z_share_ife, z_bor_call, z_still_call, z_stills_call, z_share_call, z_bor_calk, z_still_calk, z_stills_calk, z_share_calk, z_bor_bi, z_still_bi, z_stills_bi, z_share_bi, z_bor_isi, z_still_isi, z_stills_isi, z_share_isi, z_bor_sub, z_still_sub, z_stills_sub, z_share_sub, z_bor_slc, z_still_slc, z_stills_slc, z_share_slc, z_bor_rpr, z_still_rpr, z_stills_rpr, z_share_rpr, z_bor_tup, z_still_tup, z_stills_tup, z_share_tup, z_bor_lst, z_still_lst, z_stills_lst, z_share_lst, z_bor_lc, z_still_lc, z_stills_lc, z_share_lc, z_bor_mov, z_still_mov, z_stills_mov, z_share_mov, z_setNm, z_setTpT, z_setTpL, z_setsN, z_setsC, z_putN, z_putC, z_var, z_mov, z_con, z_glo, z_bin, z_neg, z_nt, z_bo, z_cmp, z_chn, z_ife, z_call, z_calk, z_bi, z_isi, z_sub, z_slc, z_tup, z_lst, z_rprL, z_rprT, z_lc, z_esN, z_esC, z_bsN, z_bsC, z_aN, z_aM, z_aF, z_aE, z_oN, z_oY, z_bo1, z_bo2, zt_nt, zt_bo, zt_cmp, zt_chn, zt_isi, zt_call, zt_var, zt_bi, zt_to1, zt_to2, zt_tsN, zt_ts1, i_ex, i_r1, i_r2, i_r3, i_zip, i_enum, i_rev, c_asg, c_par, c_pst, c_pag, c_aug, c_app, c_exp, c_ite, c_for, c_ret, c_rtn, c_brk, c_cnt, c_pas, c_nev, c_nil, c_cons, b_add, b_sub, b_mul, b_fdiv, b_mod, b_pow, b_shl, b_shr, b_cat, b_rep, a_add, a_sub, a_mul, a_mod, q_eqI, q_neI, q_eqS, q_neS, q_eqB, q_neB, q_eqNil, q_neNil, q_lt, q_le, q_gt, q_ge, q_is, q_isnt, r_bl, r_int, r_lst, r_tup, s_szL, s_szT, s_subL, s_subT, s_slcL, s_slcT, s_itL, s_itT, s_liL, n_lenL, n_lenT, n_abs, n_min2, n_max2, n_int, n_intB, n_listL, n_listT, n_tupL, n_strI, n_boolI, n_allL, n_anyL, n_sumL, f_non, f_bl, f_int, f_str, f_tup, f_lst, f_nil, f_cons, g_int, g_bl, g_non, g_str, g_lstF, g_tup, g_lstT, g_nil, g_cons, o_nil, o_0, o_1, z_cast0, z_cast1, z_cast2, z_cast3, z_cast4, z_cast5, z_cast6, z_cast7, z_cast8, z_cast9, z_cast10, z_cast11, z_cast12, l_ltl0, l_ltl1, l_ltl2, l_ltl3, l_ltl4, l_ltl5, l_ltl6, l_ltl7, l_ltl8, l_ltl9, l_ltl10, l_ltl11, l_ltl12, l_line0, l_line1, l_line2, l_line3, l_line4, l_line5, l_line6, l_line7, l_line8, l_line9, l_line10, l_line11, l_line12, k_NoneType_int, k_NoneType_bool, k_NoneType_str, k_NoneType_list, k_NoneType_tuple, k_NoneType_dict, k_bool_int, k_bool_bool, k_bool_str, k_bool_list, k_bool_tuple, k_bool_dict, k_int_int, k_int_bool, k_int_str, k_int_list, k_int_tuple, k_int_dict, k_str_int, k_str_bool, k_str_str, k_str_list, k_str_tuple, k_str_dict, k_tuple_int, k_tuple_bool, k_tuple_str, k_tuple_list, k_tuple_tuple, k_tuple_dict, k_list_int, k_list_bool, k_list_str, k_list_list, k_list_tuple, k_list_dict, z_at0, z_at1, z_at2, z_at3, z_at4, z_at5, z_at6, z_at7, z_at8, z_ix1_0, z_ix2_0, z_ix2_1, z_ix3_0, z_ix3_1, z_ix3_2, z_ix4_0, z_ix4_1, z_ix4_2, z_ix4_3, z_ix5_0, z_ix5_1, z_ix5_2, z_ix5_3, z_ix5_4, z_ix6_0, z_ix6_1, z_ix6_2, z_ix6_3, z_ix6_4, z_ix6_5, z_ix7_0, z_ix7_1, z_ix7_2, z_ix7_3, z_ix7_4, z_ix7_5, z_ix7_6, z_ix8_0, z_ix8_1, z_ix8_2, z_ix8_3, z_ix8_4, z_ix8_5, z_ix8_6, z_ix8_7, Bool.not_eq_true', decide_eq_false_iff_not, ite_not, Bool.false_eq_true, Int.reduceEq, wipeE, backE, IL_fz, IL_isFz, fz_fz, fzL_fzL, List.set_cons_zero, List.set_cons_succ, List.getElem?_cons_zero, List.getElem?_cons_succ, List.length_cons, List.length_nil, and_true, true_and, Bool.and_true, Bool.true_and, Bool.not_true, Bool.not_false, Bool.not_not, if_true, if_false, ite_true, ite_false, Option.map_some, Option.some.injEq, exists_eq_left, exists_eq_left', D.int.injEq, D.lst.injEq, D.bl.injEq, D.str.injEq, D.tup.injEq, List.cons_append, List.nil_append, List.not_mem_nil, not_false_eq_true, Bool.false_eq_true, List.all_cons, List.all_nil, reduceIte, reduceCtorEq, List.isEmpty_cons, List.isEmpty_nil, eq_self, decide_true, decide_false, Bool.if_true_left, exists_eq, exists_eq', decide_eq_true_eq, Int.reduceToNat, Int.reducePow, Int.reduceNeg, Int.reduceLT, Int.reduceLE, Int.reduceSub, Int.reduceAdd, and_false, false_and, List.mem_cons, or_false, false_or, exists_and_left, Nat.zero_add, ne_eq, not_true_eq_false, Nat.reduceAdd, Nat.reduceLT, Nat.reduceEqDiff, Nat.reduceLeDiff]
  refine ⟨_, rfl, trivial, rfl, ?_⟩
  simp only [isInt, hm, H2.sp, H2.io, z_get0, z_getS, z_borV, z_stillV, z_stillsV, z_stillsN, z_shareV, z_bor_con, z_still_con, z_stills_con, z_share_con, z_bor_glo, z_still_glo, z_stills_glo, z_share_glo, z_bor_bin, z_still_bin, z_stills_bin, z_share_bin, z_bor_neg, z_still_neg, z_stills_neg, z_share_neg, z_bor_nt, z_still_nt, z_stills_nt, z_share_nt, z_bor_bo, z_still_bo, z_stills_bo, z_share_bo, z_bor_cmp, z_still_cmp, z_stills_cmp, z_share_cmp, z_bor_chn, z_still_chn, z_stills_chn, z_share_chn, z_bor_ife, z_still_ife, z_stills_ife, z_share_ife, z_bor_call, z_still_call, z_stills_call, z_share_call, z_bor_calk, z_still_calk, z_stills_calk, z_share_calk, z_bor_bi, z_still_bi, z_stills_bi, z_share_bi, z_bor_isi, z_still_isi, z_stills_isi, z_share_isi, z_bor_sub, z_still_sub, z_stills_sub, z_share_sub, z_bor_slc, z_still_slc, z_stills_slc, z_share_slc, z_bor_rpr, z_still_rpr, z_stills_rpr, z_share_rpr, z_bor_tup, z_still_tup, z_stills_tup, z_share_tup, z_bor_lst, z_still_lst, z_stills_lst, z_share_lst, z_bor_lc, z_still_lc, z_stills_lc, z_share_lc, z_bor_mov, z_still_mov, z_stills_mov, z_share_mov, z_setNm, z_setTpT, z_setTpL, z_setsN, z_setsC, z_putN, z_putC, z_var, z_mov, z_con, z_glo, z_bin, z_neg, z_nt, z_bo, z_cmp, z_chn, z_ife, z_call, z_calk, z_bi, z_isi, z_sub, z_slc, z_tup, z_lst, z_rprL, z_rprT, z_lc, z_esN, z_esC, z_bsN, z_bsC, z_aN, z_aM, z_aF, z_aE, z_oN, z_oY, z_bo1, z_bo2, zt_nt, zt_bo, zt_cmp, zt_chn, zt_isi, zt_call, zt_var, zt_bi, zt_to1, zt_to2, zt_tsN, zt_ts1, i_ex, i_r1, i_r2, i_r3, i_zip, i_enum, i_rev, c_asg, c_par, c_pst, c_pag, c_aug, c_app, c_exp, c_ite, c_for, c_ret, c_rtn, c_brk, c_cnt, c_pas, c_nev, c_nil, c_cons, b_add, b_sub, b_mul, b_fdiv, b_mod, b_pow, b_shl, b_shr, b_cat, b_rep, a_add, a_sub, a_mul, a_mod, q_eqI, q_neI, q_eqS, q_neS, q_eqB, q_neB, q_eqNil, q_neNil, q_lt, q_le, q_gt, q_ge, q_is, q_isnt, r_bl, r_int, r_lst, r_tup, s_szL, s_szT, s_subL, s_subT, s_slcL, s_slcT, s_itL, s_itT, s_liL, n_lenL, n_lenT, n_abs, n_min2, n_max2, n_int, n_intB, n_listL, n_listT, n_tupL, n_strI, n_boolI, n_allL, n_anyL, n_sumL, f_non, f_bl, f_int, f_str, f_tup, f_lst, f_nil, f_cons, g_int, g_bl, g_non, g_str, g_lstF, g_tup, g_lstT, g_nil, g_cons, o_nil, o_0, o_1, z_cast0, z_cast1, z_cast2, z_cast3, z_cast4, z_cast5, z_cast6, z_cast7, z_cast8, z_cast9, z_cast10, z_cast11, z_cast12, l_ltl0, l_ltl1, l_ltl2, l_ltl3, l_ltl4, l_ltl5, l_ltl6, l_ltl7, l_ltl8, l_ltl9, l_ltl10, l_ltl11, l_ltl12, l_line0, l_line1, l_line2, l_line3, l_line4, l_line5, l_line6, l_line7, l_line8, l_line9, l_line10, l_line11, l_line12, k_NoneType_int, k_NoneType_bool, k_NoneType_str, k_NoneType_list, k_NoneType_tuple, k_NoneType_dict, k_bool_int, k_bool_bool, k_bool_str, k_bool_list, k_bool_tuple, k_bool_dict, k_int_int, k_int_bool, k_int_str, k_int_list, k_int_tuple, k_int_dict, k_str_int, k_str_bool, k_str_str, k_str_list, k_str_tuple, k_str_dict, k_tuple_int, k_tuple_bool, k_tuple_str, k_tuple_list, k_tuple_tuple, k_tuple_dict, k_list_int, k_list_bool, k_list_str, k_list_list, k_list_tuple, k_list_dict, z_at0, z_at1, z_at2, z_at3, z_at4, z_at5, z_at6, z_at7, z_at8, z_ix1_0, z_ix2_0, z_ix2_1, z_ix3_0, z_ix3_1, z_ix3_2, z_ix4_0, z_ix4_1, z_ix4_2, z_ix4_3, z_ix5_0, z_ix5_1, z_ix5_2, z_ix5_3, z_ix5_4, z_ix6_0, z_ix6_1, z_ix6_2, z_ix6_3, z_ix6_4, z_ix6_5, z_ix7_0, z_ix7_1, z_ix7_2, z_ix7_3, z_ix7_4, z_ix7_5, z_ix7_6, z_ix8_0, z_ix8_1, z_ix8_2, z_ix8_3, z_ix8_4, z_ix8_5, z_ix8_6, z_ix8_7, Bool.not_eq_true', decide_eq_false_iff_not, ite_not, Bool.false_eq_true, Int.reduceEq, wipeE, backE, IL_fz, IL_isFz, fz_fz, fzL_fzL, List.set_cons_zero, List.set_cons_succ, List.getElem?_cons_zero, List.getElem?_cons_succ, List.length_cons, List.length_nil, and_true, true_and, Bool.and_true, Bool.true_and, Bool.not_true, Bool.not_false, Bool.not_not, if_true, if_false, ite_true, ite_false, Option.map_some, Option.some.injEq, exists_eq_left, exists_eq_left', D.int.injEq, D.lst.injEq, D.bl.injEq, D.str.injEq, D.tup.injEq, List.cons_append, List.nil_append, List.not_mem_nil, not_false_eq_true, Bool.false_eq_true, List.all_cons, List.all_nil, reduceIte, reduceCtorEq, List.isEmpty_cons, List.isEmpty_nil, eq_self, decide_true, decide_false, Bool.if_true_left, exists_eq, exists_eq', decide_eq_true_eq, Int.reduceToNat, Int.reducePow, Int.reduceNeg, Int.reduceLT, Int.reduceLE, Int.reduceSub, Int.reduceAdd, and_false, false_and, List.mem_cons, or_false, false_or, exists_and_left, Nat.zero_add, ne_eq, not_true_eq_false, Nat.reduceAdd, Nat.reduceLT, Nat.reduceEqDiff, Nat.reduceLeDiff]
  refine ⟨_, _, _, rfl, hc, rfl, ?_⟩
  (try simp only [hm, z_get0, z_getS, z_borV, z_stillV, z_stillsV, z_stillsN, z_shareV, z_bor_con, z_still_con, z_stills_con, z_share_con, z_bor_glo, z_still_glo, z_stills_glo, z_share_glo, z_bor_bin, z_still_bin, z_stills_bin, z_share_bin, z_bor_neg, z_still_neg, z_stills_neg, z_share_neg, z_bor_nt, z_still_nt, z_stills_nt, z_share_nt, z_bor_bo, z_still_bo, z_stills_bo, z_share_bo, z_bor_cmp, z_still_cmp, z_stills_cmp, z_share_cmp, z_bor_chn, z_still_chn, z_stills_chn, z_share_chn, z_bor_ife, z_still_ife, z_stills_ife, z_share_ife, z_bor_call, z_still_call, z_stills_call, z_share_call, z_bor_calk, z_still_calk, z_stills_calk, z_share_calk, z_bor_bi, z_still_bi, z_stills_bi, z_share_bi, z_bor_isi, z_still_isi, z_stills_isi, z_share_isi, z_bor_sub, z_still_sub, z_stills_sub, z_share_sub, z_bor_slc, z_still_slc, z_stills_slc, z_share_slc, z_bor_rpr, z_still_rpr, z_stills_rpr, z_share_rpr, z_bor_tup, z_still_tup, z_stills_tup, z_share_tup, z_bor_lst, z_still_lst, z_stills_lst, z_share_lst, z_bor_lc, z_still_lc, z_stills_lc, z_share_lc, z_bor_mov, z_still_mov, z_stills_mov, z_share_mov, z_setNm, z_setTpT, z_setTpL, z_setsN, z_setsC, z_putN, z_putC, z_var, z_mov, z_con, z_glo, z_bin, z_neg, z_nt, z_bo, z_cmp, z_chn, z_ife, z_call, z_calk, z_bi, z_isi, z_sub, z_slc, z_tup, z_lst, z_rprL, z_rprT, z_lc, z_esN, z_esC, z_bsN, z_bsC, z_aN, z_aM, z_aF, z_aE, z_oN, z_oY, z_bo1, z_bo2, zt_nt, zt_bo, zt_cmp, zt_chn, zt_isi, zt_call, zt_var, zt_bi, zt_to1, zt_to2, zt_tsN, zt_ts1, i_ex, i_r1, i_r2, i_r3, i_zip, i_enum, i_rev, c_asg, c_par, c_pst, c_pag, c_aug, c_app, c_exp, c_ite, c_for, c_ret, c_rtn, c_brk, c_cnt, c_pas, c_nev, c_nil, c_cons, b_add, b_sub, b_mul, b_fdiv, b_mod, b_pow, b_shl, b_shr, b_cat, b_rep, a_add, a_sub, a_mul, a_mod, q_eqI, q_neI, q_eqS, q_neS, q_eqB, q_neB, q_eqNil, q_neNil, q_lt, q_le, q_gt, q_ge, q_is, q_isnt, r_bl, r_int, r_lst, r_tup, s_szL, s_szT, s_subL, s_subT, s_slcL, s_slcT, s_itL, s_itT, s_liL, n_lenL, n_lenT, n_abs, n_min2, n_max2, n_int, n_intB, n_listL, n_listT, n_tupL, n_strI, n_boolI, n_allL, n_anyL, n_sumL, f_non, f_bl, f_int, f_str, f_tup, f_lst, f_nil, f_cons, g_int, g_bl, g_non, g_str, g_lstF, g_tup, g_lstT, g_nil, g_cons, o_nil, o_0, o_1, z_cast0, z_cast1, z_cast2, z_cast3, z_cast4, z_cast5, z_cast6, z_cast7, z_cast8, z_cast9, z_cast10, z_cast11, z_cast12, l_ltl0, l_ltl1, l_ltl2, l_ltl3, l_ltl4, l_ltl5, l_ltl6, l_ltl7, l_ltl8, l_ltl9, l_ltl10, l_ltl11, l_ltl12, l_line0, l_line1, l_line2, l_line3, l_line4, l_line5, l_line6, l_line7, l_line8, l_line9, l_line10, l_line11, l_line12, k_NoneType_int, k_NoneType_bool, k_NoneType_str, k_NoneType_list, k_NoneType_tuple, k_NoneType_dict, k_bool_int, k_bool_bool, k_bool_str, k_bool_list, k_bool_tuple, k_bool_dict, k_int_int, k_int_bool, k_int_str, k_int_list, k_int_tuple, k_int_dict, k_str_int, k_str_bool, k_str_str, k_str_list, k_str_tuple, k_str_dict, k_tuple_int, k_tuple_bool, k_tuple_str, k_tuple_list, k_tuple_tuple, k_tuple_dict, k_list_int, k_list_bool, k_list_str, k_list_list, k_list_tuple, k_list_dict, z_at0, z_at1, z_at2, z_at3, z_at4, z_at5, z_at6, z_at7, z_at8, z_ix1_0, z_ix2_0, z_ix2_1, z_ix3_0, z_ix3_1, z_ix3_2, z_ix4_0, z_ix4_1, z_ix4_2, z_ix4_3, z_ix5_0, z_ix5_1, z_ix5_2, z_ix5_3, z_ix5_4, z_ix6_0, z_ix6_1, z_ix6_2, z_ix6_3, z_ix6_4, z_ix6_5, z_ix7_0, z_ix7_1, z_ix7_2, z_ix7_3, z_ix7_4, z_ix7_5, z_ix7_6, z_ix8_0, z_ix8_1, z_ix8_2, z_ix8_3, z_ix8_4, z_ix8_5, z_ix8_6, z_ix8_7, Bool.not_eq_true', decide_eq_false_iff_not, ite_not, Bool.false_eq_true, Int.reduceEq, wipeE, backE, IL_fz, IL_isFz, fz_fz, fzL_fzL, List.set_cons_zero, List.set_cons_succ, List.getElem?_cons_zero, List.getElem?_cons_succ, List.length_cons, List.length_nil, and_true, true_and, Bool.and_true, Bool.true_and, Bool.not_true, Bool.not_false, Bool.not_not, if_true, if_false, ite_true, ite_false, Option.map_some, Option.some.injEq, exists_eq_left, exists_eq_left', D.int.injEq, D.lst.injEq, D.bl.injEq, D.str.injEq, D.tup.injEq, List.cons_append, List.nil_append, List.not_mem_nil, not_false_eq_true, Bool.false_eq_true, List.all_cons, List.all_nil, reduceIte, reduceCtorEq, List.isEmpty_cons, List.isEmpty_nil, eq_self, decide_true, decide_false, Bool.if_true_left, exists_eq, exists_eq', decide_eq_true_eq, Int.reduceToNat, Int.reducePow, Int.reduceNeg, Int.reduceLT, Int.reduceLE, Int.reduceSub, Int.reduceAdd, and_false, false_and, List.mem_cons, or_false, false_or, exists_and_left, Nat.zero_add, ne_eq, not_true_eq_false, Nat.reduceAdd, Nat.reduceLT, Nat.reduceEqDiff, Nat.reduceLeDiff])
  exact q
def sp_require_state : FSpec := fun ds Q _ => ∃ r qs d ps, ds = [LockD r qs, StateD d ps] ∧ Chain d qs ps ∧ Q .non []
theorem w_require_state {Γ : Sig} (hm : Γ.me = []) (H1 : Has Γ "state_fault" [] sp_state_fault) (ds : List D) (Q : D → List D → Prop) (R : Exc → Prop) (h : sp_require_state ds Q R) : wpF Γ f_require_state ds Q R := by
  obtain ⟨r, qs, d, ps, rfl, ht, q⟩ := h
  simp only [wpF_eq, LockD, StateD, f_require_state, f_require_state_b1, startE, hm, H1.sp, H1.io, List.map_cons, List.map_nil, z_get0, z_getS, z_borV, z_stillV, z_stillsV, z_stillsN, z_shareV, z_bor_con, z_still_con, z_stills_con, z_share_con, z_bor_glo, z_still_glo, z_stills_glo, z_share_glo, z_bor_bin, z_still_bin, z_stills_bin, z_share_bin, z_bor_neg, z_still_neg, z_stills_neg, z_share_neg, z_bor_nt, z_still_nt, z_stills_nt, z_share_nt, z_bor_bo, z_still_bo, z_stills_bo, z_share_bo, z_bor_cmp, z_still_cmp, z_stills_cmp, z_share_cmp, z_bor_chn, z_still_chn, z_stills_chn, z_share_chn, z_bor_ife, z_still_ife, z_stills_ife, z_share_ife, z_bor_call, z_still_call, z_stills_call, z_share_call, z_bor_calk, z_still_calk, z_stills_calk, z_share_calk, z_bor_bi, z_still_bi, z_stills_bi, z_share_bi, z_bor_isi, z_still_isi, z_stills_isi, z_share_isi, z_bor_sub, z_still_sub, z_stills_sub, z_share_sub, z_bor_slc, z_still_slc, z_stills_slc, z_share_slc, z_bor_rpr, z_still_rpr, z_stills_rpr, z_share_rpr, z_bor_tup, z_still_tup, z_stills_tup, z_share_tup, z_bor_lst, z_still_lst, z_stills_lst, z_share_lst, z_bor_lc, z_still_lc, z_stills_lc, z_share_lc, z_bor_mov, z_still_mov, z_stills_mov, z_share_mov, z_setNm, z_setTpT, z_setTpL, z_setsN, z_setsC, z_putN, z_putC, z_var, z_mov, z_con, z_glo, z_bin, z_neg, z_nt, z_bo, z_cmp, z_chn, z_ife, z_call, z_calk, z_bi, z_isi, z_sub, z_slc, z_tup, z_lst, z_rprL, z_rprT, z_lc, z_esN, z_esC, z_bsN, z_bsC, z_aN, z_aM, z_aF, z_aE, z_oN, z_oY, z_bo1, z_bo2, zt_nt, zt_bo, zt_cmp, zt_chn, zt_isi, zt_call, zt_var, zt_bi, zt_to1, zt_to2, zt_tsN, zt_ts1, i_ex, i_r1, i_r2, i_r3, i_zip, i_enum, i_rev, c_asg, c_par, c_pst, c_pag, c_aug, c_app, c_exp, c_ite, c_for, c_ret, c_rtn, c_brk, c_cnt, c_pas, c_nev, c_nil, c_cons, b_add, b_sub, b_mul, b_fdiv, b_mod, b_pow, b_shl, b_shr, b_cat, b_rep, a_add, a_sub, a_mul, a_mod, q_eqI, q_neI, q_eqS, q_neS, q_eqB, q_neB, q_eqNil, q_neNil, q_lt, q_le, q_gt, q_ge, q_is, q_isnt, r_bl, r_int, r_lst, r_tup, s_szL, s_szT, s_subL, s_subT, s_slcL, s_slcT, s_itL, s_itT, s_liL, n_lenL, n_lenT, n_abs, n_min2, n_max2, n_int, n_intB, n_listL, n_listT, n_tupL, n_strI, n_boolI, n_allL, n_anyL, n_sumL, f_non, f_bl, f_int, f_str, f_tup, f_lst, f_nil, f_cons, g_int, g_bl, g_non, g_str, g_lstF, g_tup, g_lstT, g_nil, g_cons, o_nil, o_0, o_1, z_cast0, z_cast1, z_cast2, z_cast3, z_cast4, z_cast5, z_cast6, z_cast7, z_cast8, z_cast9, z_cast10, z_cast11, z_cast12, l_ltl0, l_ltl1, l_ltl2, l_ltl3, l_ltl4, l_ltl5, l_ltl6, l_ltl7, l_ltl8, l_ltl9, l_ltl10, l_ltl11, l_ltl12, l_line0, l_line1, l_line2, l_line3, l_line4, l_line5, l_line6, l_line7, l_line8, l_line9, l_line10, l_line11, l_line12, k_NoneType_int, k_NoneType_bool, k_NoneType_str, k_NoneType_list, k_NoneType_tuple, k_NoneType_dict, k_bool_int, k_bool_bool, k_bool_str, k_bool_list, k_bool_tuple, k_bool_dict, k_int_int, k_int_bool, k_int_str, k_int_list, k_int_tuple, k_int_dict, k_str_int, k_str_bool, k_str_str, k_str_list, k_str_tuple, k_str_dict, k_tuple_int, k_tuple_bool, k_tuple_str, k_tuple_list, k_tuple_tuple, k_tuple_dict, k_list_int, k_list_bool, k_list_str, k_list_list, k_list_tuple, k_list_dict, z_at0, z_at1, z_at2, z_at3, z_at4, z_at5, z_at6, z_at7, z_at8, z_ix1_0, z_ix2_0, z_ix2_1, z_ix3_0, z_ix3_1, z_ix3_2, z_ix4_0, z_ix4_1, z_ix4_2, z_ix4_3, z_ix5_0, z_ix5_1, z_ix5_2, z_ix5_3, z_ix5_4, z_ix6_0, z_ix6_1, z_ix6_2, z_ix6_3, z_ix6_4, z_ix6_5, z_ix7_0, z_ix7_1, z_ix7_2, z_ix7_3, z_ix7_4, z_ix7_5, z_ix7_6, z_ix8_0, z_ix8_1, z_ix8_2, z_ix8_3, z_ix8_4, z_ix8_5, z_ix8_6, z_ix8_7, Bool.not_eq_true', decide_eq_false_iff_not, ite_not, Bool.false_eq_true, Int.reduceEq, wipeE, backE, IL_fz, IL_isFz, fz_fz, fzL_fzL, List.set_cons_zero, List.set_cons_succ, List.getElem?_cons_zero, List.getElem?_cons_succ, List.length_cons, List.length_nil, and_true, true_and, Bool.and_true, Bool.true_and, Bool.not_true, Bool.not_false, Bool.not_not, if_true, if_false, ite_true, ite_false, Option.map_some, Option.some.injEq, exists_eq_left, exists_eq_left', D.int.injEq, D.lst.injEq, D.bl.injEq, D.str.injEq, D.tup.injEq, List.cons_append, List.nil_append, List.not_mem_nil, not_false_eq_true, Bool.false_eq_true, List.all_cons, List.all_nil, reduceIte, reduceCtorEq, List.isEmpty_cons, List.isEmpty_nil, eq_self, decide_true, decide_false, Bool.if_true_left, exists_eq, exists_eq', decide_eq_true_eq, Int.reduceToNat, Int.reducePow, Int.reduceNeg, Int.reduceLT, Int.reduceLE, Int.reduceSub, Int.reduceAdd, and_false, false_and, List.mem_cons, or_false, false_or, exists_and_left, Nat.zero_add, ne_eq, not_true_eq_false, Nat.reduceAdd, Nat.reduceLT, Nat.reduceEqDiff, Nat.reduceLeDiff]
  refine ⟨_, qs, _, ps, rfl, ht, rfl, ?_⟩
  refine cmp_nsame rfl rfl ?_
  (try simp only [hm, z_get0, z_getS, z_borV, z_stillV, z_stillsV, z_stillsN, z_shareV, z_bor_con, z_still_con, z_stills_con, z_share_con, z_bor_glo, z_still_glo, z_stills_glo, z_share_glo, z_bor_bin, z_still_bin, z_stills_bin, z_share_bin, z_bor_neg, z_still_neg, z_stills_neg, z_share_neg, z_bor_nt, z_still_nt, z_stills_nt, z_share_nt, z_bor_bo, z_still_bo, z_stills_bo, z_share_bo, z_bor_cmp, z_still_cmp, z_stills_cmp, z_share_cmp, z_bor_chn, z_still_chn, z_stills_chn, z_share_chn, z_bor_ife, z_still_ife, z_stills_ife, z_share_ife, z_bor_call, z_still_call, z_stills_call, z_share_call, z_bor_calk, z_still_calk, z_stills_calk, z_share_calk, z_bor_bi, z_still_bi, z_stills_bi, z_share_bi, z_bor_isi, z_still_isi, z_stills_isi, z_share_isi, z_bor_sub, z_still_sub, z_stills_sub, z_share_sub, z_bor_slc, z_still_slc, z_stills_slc, z_share_slc, z_bor_rpr, z_still_rpr, z_stills_rpr, z_share_rpr, z_bor_tup, z_still_tup, z_stills_tup, z_share_tup, z_bor_lst, z_still_lst, z_stills_lst, z_share_lst, z_bor_lc, z_still_lc, z_stills_lc, z_share_lc, z_bor_mov, z_still_mov, z_stills_mov, z_share_mov, z_setNm, z_setTpT, z_setTpL, z_setsN, z_setsC, z_putN, z_putC, z_var, z_mov, z_con, z_glo, z_bin, z_neg, z_nt, z_bo, z_cmp, z_chn, z_ife, z_call, z_calk, z_bi, z_isi, z_sub, z_slc, z_tup, z_lst, z_rprL, z_rprT, z_lc, z_esN, z_esC, z_bsN, z_bsC, z_aN, z_aM, z_aF, z_aE, z_oN, z_oY, z_bo1, z_bo2, zt_nt, zt_bo, zt_cmp, zt_chn, zt_isi, zt_call, zt_var, zt_bi, zt_to1, zt_to2, zt_tsN, zt_ts1, i_ex, i_r1, i_r2, i_r3, i_zip, i_enum, i_rev, c_asg, c_par, c_pst, c_pag, c_aug, c_app, c_exp, c_ite, c_for, c_ret, c_rtn, c_brk, c_cnt, c_pas, c_nev, c_nil, c_cons, b_add, b_sub, b_mul, b_fdiv, b_mod, b_pow, b_shl, b_shr, b_cat, b_rep, a_add, a_sub, a_mul, a_mod, q_eqI, q_neI, q_eqS, q_neS, q_eqB, q_neB, q_eqNil, q_neNil, q_lt, q_le, q_gt, q_ge, q_is, q_isnt, r_bl, r_int, r_lst, r_tup, s_szL, s_szT, s_subL, s_subT, s_slcL, s_slcT, s_itL, s_itT, s_liL, n_lenL, n_lenT, n_abs, n_min2, n_max2, n_int, n_intB, n_listL, n_listT, n_tupL, n_strI, n_boolI, n_allL, n_anyL, n_sumL, f_non, f_bl, f_int, f_str, f_tup, f_lst, f_nil, f_cons, g_int, g_bl, g_non, g_str, g_lstF, g_tup, g_lstT, g_nil, g_cons, o_nil, o_0, o_1, z_cast0, z_cast1, z_cast2, z_cast3, z_cast4, z_cast5, z_cast6, z_cast7, z_cast8, z_cast9, z_cast10, z_cast11, z_cast12, l_ltl0, l_ltl1, l_ltl2, l_ltl3, l_ltl4, l_ltl5, l_ltl6, l_ltl7, l_ltl8, l_ltl9, l_ltl10, l_ltl11, l_ltl12, l_line0, l_line1, l_line2, l_line3, l_line4, l_line5, l_line6, l_line7, l_line8, l_line9, l_line10, l_line11, l_line12, k_NoneType_int, k_NoneType_bool, k_NoneType_str, k_NoneType_list, k_NoneType_tuple, k_NoneType_dict, k_bool_int, k_bool_bool, k_bool_str, k_bool_list, k_bool_tuple, k_bool_dict, k_int_int, k_int_bool, k_int_str, k_int_list, k_int_tuple, k_int_dict, k_str_int, k_str_bool, k_str_str, k_str_list, k_str_tuple, k_str_dict, k_tuple_int, k_tuple_bool, k_tuple_str, k_tuple_list, k_tuple_tuple, k_tuple_dict, k_list_int, k_list_bool, k_list_str, k_list_list, k_list_tuple, k_list_dict, z_at0, z_at1, z_at2, z_at3, z_at4, z_at5, z_at6, z_at7, z_at8, z_ix1_0, z_ix2_0, z_ix2_1, z_ix3_0, z_ix3_1, z_ix3_2, z_ix4_0, z_ix4_1, z_ix4_2, z_ix4_3, z_ix5_0, z_ix5_1, z_ix5_2, z_ix5_3, z_ix5_4, z_ix6_0, z_ix6_1, z_ix6_2, z_ix6_3, z_ix6_4, z_ix6_5, z_ix7_0, z_ix7_1, z_ix7_2, z_ix7_3, z_ix7_4, z_ix7_5, z_ix7_6, z_ix8_0, z_ix8_1, z_ix8_2, z_ix8_3, z_ix8_4, z_ix8_5, z_ix8_6, z_ix8_7, Bool.not_eq_true', decide_eq_false_iff_not, ite_not, Bool.false_eq_true, Int.reduceEq, wipeE, backE, IL_fz, IL_isFz, fz_fz, fzL_fzL, List.set_cons_zero, List.set_cons_succ, List.getElem?_cons_zero, List.getElem?_cons_succ, List.length_cons, List.length_nil, and_true, true_and, Bool.and_true, Bool.true_and, Bool.not_true, Bool.not_false, Bool.not_not, if_true, if_false, ite_true, ite_false, Option.map_some, Option.some.injEq, exists_eq_left, exists_eq_left', D.int.injEq, D.lst.injEq, D.bl.injEq, D.str.injEq, D.tup.injEq, List.cons_append, List.nil_append, List.not_mem_nil, not_false_eq_true, Bool.false_eq_true, List.all_cons, List.all_nil, reduceIte, reduceCtorEq, List.isEmpty_cons, List.isEmpty_nil, eq_self, decide_true, decide_false, Bool.if_true_left, exists_eq, exists_eq', decide_eq_true_eq, Int.reduceToNat, Int.reducePow, Int.reduceNeg, Int.reduceLT, Int.reduceLE, Int.reduceSub, Int.reduceAdd, and_false, false_and, List.mem_cons, or_false, false_or, exists_and_left, Nat.zero_add, ne_eq, not_true_eq_false, Nat.reduceAdd, Nat.reduceLT, Nat.reduceEqDiff, Nat.reduceLeDiff])
  exact q
/-- the reaches of the wheels -/
def sumsS : Int → List Int → List Int
  | _, [] => []
  | a, p :: ps => (a + p) :: sumsS (a + p) ps
theorem sumsS_len : ∀ (ps : List Int) (a : Int), (sumsS a ps).length = ps.length
  | [], _ => rfl
  | p :: ps, a => by simp only [sumsS, List.length_cons, sumsS_len ps]
def sp_wheel_reaches : FSpec := fun ds Q _ => ∃ r ps, ds = [LockD r ps] ∧ ps.length ≤ 8 ∧ Q (.lst true (IL (sumsS 0 ps))) []
theorem w_wheel_reaches {Γ : Sig} (hm : Γ.me = []) (ds : List D) (Q : D → List D → Prop) (R : Exc → Prop) (h : sp_wheel_reaches ds Q R) : wpF Γ f_wheel_reaches ds Q R := by
  obtain ⟨r, ps, rfl, hl, q⟩ := h
  simp only [wpF_eq, LockD, f_wheel_reaches, startE, hm, List.map_cons, List.map_nil, IL_len, z_get0, z_getS, z_borV, z_stillV, z_stillsV, z_stillsN, z_shareV, z_bor_con, z_still_con, z_stills_con, z_share_con, z_bor_glo, z_still_glo, z_stills_glo, z_share_glo, z_bor_bin, z_still_bin, z_stills_bin, z_share_bin, z_bor_neg, z_still_neg, z_stills_neg, z_share_neg, z_bor_nt, z_still_nt, z_stills_nt, z_share_nt, z_bor_bo, z_still_bo, z_stills_bo, z_share_bo, z_bor_cmp, z_still_cmp, z_stills_cmp, z_share_cmp, z_bor_chn, z_still_chn, z_stills_chn, z_share_chn, z_bor_ife, z_still_ife, z_stills_ife, z_share_ife, z_bor_call, z_still_call, z_stills_call, z_share_call, z_bor_calk, z_still_calk, z_stills_calk, z_share_calk, z_bor_bi, z_still_bi, z_stills_bi, z_share_bi, z_bor_isi, z_still_isi, z_stills_isi, z_share_isi, z_bor_sub, z_still_sub, z_stills_sub, z_share_sub, z_bor_slc, z_still_slc, z_stills_slc, z_share_slc, z_bor_rpr, z_still_rpr, z_stills_rpr, z_share_rpr, z_bor_tup, z_still_tup, z_stills_tup, z_share_tup, z_bor_lst, z_still_lst, z_stills_lst, z_share_lst, z_bor_lc, z_still_lc, z_stills_lc, z_share_lc, z_bor_mov, z_still_mov, z_stills_mov, z_share_mov, z_setNm, z_setTpT, z_setTpL, z_setsN, z_setsC, z_putN, z_putC, z_var, z_mov, z_con, z_glo, z_bin, z_neg, z_nt, z_bo, z_cmp, z_chn, z_ife, z_call, z_calk, z_bi, z_isi, z_sub, z_slc, z_tup, z_lst, z_rprL, z_rprT, z_lc, z_esN, z_esC, z_bsN, z_bsC, z_aN, z_aM, z_aF, z_aE, z_oN, z_oY, z_bo1, z_bo2, zt_nt, zt_bo, zt_cmp, zt_chn, zt_isi, zt_call, zt_var, zt_bi, zt_to1, zt_to2, zt_tsN, zt_ts1, i_ex, i_r1, i_r2, i_r3, i_zip, i_enum, i_rev, c_asg, c_par, c_pst, c_pag, c_aug, c_app, c_exp, c_ite, c_for, c_ret, c_rtn, c_brk, c_cnt, c_pas, c_nev, c_nil, c_cons, b_add, b_sub, b_mul, b_fdiv, b_mod, b_pow, b_shl, b_shr, b_cat, b_rep, a_add, a_sub, a_mul, a_mod, q_eqI, q_neI, q_eqS, q_neS, q_eqB, q_neB, q_eqNil, q_neNil, q_lt, q_le, q_gt, q_ge, q_is, q_isnt, r_bl, r_int, r_lst, r_tup, s_szL, s_szT, s_subL, s_subT, s_slcL, s_slcT, s_itL, s_itT, s_liL, n_lenL, n_lenT, n_abs, n_min2, n_max2, n_int, n_intB, n_listL, n_listT, n_tupL, n_strI, n_boolI, n_allL, n_anyL, n_sumL, f_non, f_bl, f_int, f_str, f_tup, f_lst, f_nil, f_cons, g_int, g_bl, g_non, g_str, g_lstF, g_tup, g_lstT, g_nil, g_cons, o_nil, o_0, o_1, z_cast0, z_cast1, z_cast2, z_cast3, z_cast4, z_cast5, z_cast6, z_cast7, z_cast8, z_cast9, z_cast10, z_cast11, z_cast12, l_ltl0, l_ltl1, l_ltl2, l_ltl3, l_ltl4, l_ltl5, l_ltl6, l_ltl7, l_ltl8, l_ltl9, l_ltl10, l_ltl11, l_ltl12, l_line0, l_line1, l_line2, l_line3, l_line4, l_line5, l_line6, l_line7, l_line8, l_line9, l_line10, l_line11, l_line12, k_NoneType_int, k_NoneType_bool, k_NoneType_str, k_NoneType_list, k_NoneType_tuple, k_NoneType_dict, k_bool_int, k_bool_bool, k_bool_str, k_bool_list, k_bool_tuple, k_bool_dict, k_int_int, k_int_bool, k_int_str, k_int_list, k_int_tuple, k_int_dict, k_str_int, k_str_bool, k_str_str, k_str_list, k_str_tuple, k_str_dict, k_tuple_int, k_tuple_bool, k_tuple_str, k_tuple_list, k_tuple_tuple, k_tuple_dict, k_list_int, k_list_bool, k_list_str, k_list_list, k_list_tuple, k_list_dict, z_at0, z_at1, z_at2, z_at3, z_at4, z_at5, z_at6, z_at7, z_at8, z_ix1_0, z_ix2_0, z_ix2_1, z_ix3_0, z_ix3_1, z_ix3_2, z_ix4_0, z_ix4_1, z_ix4_2, z_ix4_3, z_ix5_0, z_ix5_1, z_ix5_2, z_ix5_3, z_ix5_4, z_ix6_0, z_ix6_1, z_ix6_2, z_ix6_3, z_ix6_4, z_ix6_5, z_ix7_0, z_ix7_1, z_ix7_2, z_ix7_3, z_ix7_4, z_ix7_5, z_ix7_6, z_ix8_0, z_ix8_1, z_ix8_2, z_ix8_3, z_ix8_4, z_ix8_5, z_ix8_6, z_ix8_7, Bool.not_eq_true', decide_eq_false_iff_not, ite_not, Bool.false_eq_true, Int.reduceEq, wipeE, backE, IL_fz, IL_isFz, fz_fz, fzL_fzL, List.set_cons_zero, List.set_cons_succ, List.getElem?_cons_zero, List.getElem?_cons_succ, List.length_cons, List.length_nil, and_true, true_and, Bool.and_true, Bool.true_and, Bool.not_true, Bool.not_false, Bool.not_not, if_true, if_false, ite_true, ite_false, Option.map_some, Option.some.injEq, exists_eq_left, exists_eq_left', D.int.injEq, D.lst.injEq, D.bl.injEq, D.str.injEq, D.tup.injEq, List.cons_append, List.nil_append, List.not_mem_nil, not_false_eq_true, Bool.false_eq_true, List.all_cons, List.all_nil, reduceIte, reduceCtorEq, List.isEmpty_cons, List.isEmpty_nil, eq_self, decide_true, decide_false, Bool.if_true_left, exists_eq, exists_eq', decide_eq_true_eq, Int.reduceToNat, Int.reducePow, Int.reduceNeg, Int.reduceLT, Int.reduceLE, Int.reduceSub, Int.reduceAdd, and_false, false_and, List.mem_cons, or_false, false_or, exists_and_left, Nat.zero_add, ne_eq, not_true_eq_false, Nat.reduceAdd, Nat.reduceLT, Nat.reduceEqDiff, Nat.reduceLeDiff]
  refine forDK (fun items e => ∃ (l g : List Int) (a : Int) (u : Option D), items = IL l ∧ g ++ sumsS a l = sumsS 0 ps ∧ g.length + l.length ≤ 8 ∧ e = [some (.tup [.int r, .lst false (IL ps)]), some (.lst true (IL g)), some (.int a), u]) ⟨ps, [], 0, none, rfl, rfl, by simpa using hl, rfl⟩ ?_ ?_
  · rintro e ⟨l, g, a, u, hi, hg, _, rfl⟩
    cases l with
    | cons _ _ => simp [IL] at hi
    | nil =>
      simp only [sumsS, List.append_nil] at hg
      rw [← hg] at q
      exact q
  · rintro x xs e k bk ⟨l, g, a, u, hi, hg, hn, rfl⟩ hk _
    cases l with
    | nil => simp [IL] at hi
    | cons p l =>
      simp only [IL_cons, List.cons.injEq] at hi
      obtain ⟨rfl, rfl⟩ := hi
      simp only [List.length_cons] at hn
      simp only [f_wheel_reaches_b1, flatD, hm, IL_len, z_get0, z_getS, z_borV, z_stillV, z_stillsV, z_stillsN, z_shareV, z_bor_con, z_still_con, z_stills_con, z_share_con, z_bor_glo, z_still_glo, z_stills_glo, z_share_glo, z_bor_bin, z_still_bin, z_stills_bin, z_share_bin, z_bor_neg, z_still_neg, z_stills_neg, z_share_neg, z_bor_nt, z_still_nt, z_stills_nt, z_share_nt, z_bor_bo, z_still_bo, z_stills_bo, z_share_bo, z_bor_cmp, z_still_cmp, z_stills_cmp, z_share_cmp, z_bor_chn, z_still_chn, z_stills_chn, z_share_chn, z_bor_ife, z_still_ife, z_stills_ife, z_share_ife, z_bor_call, z_still_call, z_stills_call, z_share_call, z_bor_calk, z_still_calk, z_stills_calk, z_share_calk, z_bor_bi, z_still_bi, z_stills_bi, z_share_bi, z_bor_isi, z_still_isi, z_stills_isi, z_share_isi, z_bor_sub, z_still_sub, z_stills_sub, z_share_sub, z_bor_slc, z_still_slc, z_stills_slc, z_share_slc, z_bor_rpr, z_still_rpr, z_stills_rpr, z_share_rpr, z_bor_tup, z_still_tup, z_stills_tup, z_share_tup, z_bor_lst, z_still_lst, z_stills_lst, z_share_lst, z_bor_lc, z_still_lc, z_stills_lc, z_share_lc, z_bor_mov, z_still_mov, z_stills_mov, z_share_mov, z_setNm, z_setTpT, z_setTpL, z_setsN, z_setsC, z_putN, z_putC, z_var, z_mov, z_con, z_glo, z_bin, z_neg, z_nt, z_bo, z_cmp, z_chn, z_ife, z_call, z_calk, z_bi, z_isi, z_sub, z_slc, z_tup, z_lst, z_rprL, z_rprT, z_lc, z_esN, z_esC, z_bsN, z_bsC, z_aN, z_aM, z_aF, z_aE, z_oN, z_oY, z_bo1, z_bo2, zt_nt, zt_bo, zt_cmp, zt_chn, zt_isi, zt_call, zt_var, zt_bi, zt_to1, zt_to2, zt_tsN, zt_ts1, i_ex, i_r1, i_r2, i_r3, i_zip, i_enum, i_rev, c_asg, c_par, c_pst, c_pag, c_aug, c_app, c_exp, c_ite, c_for, c_ret, c_rtn, c_brk, c_cnt, c_pas, c_nev, c_nil, c_cons, b_add, b_sub, b_mul, b_fdiv, b_mod, b_pow, b_shl, b_shr, b_cat, b_rep, a_add, a_sub, a_mul, a_mod, q_eqI, q_neI, q_eqS, q_neS, q_eqB, q_neB, q_eqNil, q_neNil, q_lt, q_le, q_gt, q_ge, q_is, q_isnt, r_bl, r_int, r_lst, r_tup, s_szL, s_szT, s_subL, s_subT, s_slcL, s_slcT, s_itL, s_itT, s_liL, n_lenL, n_lenT, n_abs, n_min2, n_max2, n_int, n_intB, n_listL, n_listT, n_tupL, n_strI, n_boolI, n_allL, n_anyL, n_sumL, f_non, f_bl, f_int, f_str, f_tup, f_lst, f_nil, f_cons, g_int, g_bl, g_non, g_str, g_lstF, g_tup, g_lstT, g_nil, g_cons, o_nil, o_0, o_1, z_cast0, z_cast1, z_cast2, z_cast3, z_cast4, z_cast5, z_cast6, z_cast7, z_cast8, z_cast9, z_cast10, z_cast11, z_cast12, l_ltl0, l_ltl1, l_ltl2, l_ltl3, l_ltl4, l_ltl5, l_ltl6, l_ltl7, l_ltl8, l_ltl9, l_ltl10, l_ltl11, l_ltl12, l_line0, l_line1, l_line2, l_line3, l_line4, l_line5, l_line6, l_line7, l_line8, l_line9, l_line10, l_line11, l_line12, k_NoneType_int, k_NoneType_bool, k_NoneType_str, k_NoneType_list, k_NoneType_tuple, k_NoneType_dict, k_bool_int, k_bool_bool, k_bool_str, k_bool_list, k_bool_tuple, k_bool_dict, k_int_int, k_int_bool, k_int_str, k_int_list, k_int_tuple, k_int_dict, k_str_int, k_str_bool, k_str_str, k_str_list, k_str_tuple, k_str_dict, k_tuple_int, k_tuple_bool, k_tuple_str, k_tuple_list, k_tuple_tuple, k_tuple_dict, k_list_int, k_list_bool, k_list_str, k_list_list, k_list_tuple, k_list_dict, z_at0, z_at1, z_at2, z_at3, z_at4, z_at5, z_at6, z_at7, z_at8, z_ix1_0, z_ix2_0, z_ix2_1, z_ix3_0, z_ix3_1, z_ix3_2, z_ix4_0, z_ix4_1, z_ix4_2, z_ix4_3, z_ix5_0, z_ix5_1, z_ix5_2, z_ix5_3, z_ix5_4, z_ix6_0, z_ix6_1, z_ix6_2, z_ix6_3, z_ix6_4, z_ix6_5, z_ix7_0, z_ix7_1, z_ix7_2, z_ix7_3, z_ix7_4, z_ix7_5, z_ix7_6, z_ix8_0, z_ix8_1, z_ix8_2, z_ix8_3, z_ix8_4, z_ix8_5, z_ix8_6, z_ix8_7, Bool.not_eq_true', decide_eq_false_iff_not, ite_not, Bool.false_eq_true, Int.reduceEq, wipeE, backE, IL_fz, IL_isFz, fz_fz, fzL_fzL, List.set_cons_zero, List.set_cons_succ, List.getElem?_cons_zero, List.getElem?_cons_succ, List.length_cons, List.length_nil, and_true, true_and, Bool.and_true, Bool.true_and, Bool.not_true, Bool.not_false, Bool.not_not, if_true, if_false, ite_true, ite_false, Option.map_some, Option.some.injEq, exists_eq_left, exists_eq_left', D.int.injEq, D.lst.injEq, D.bl.injEq, D.str.injEq, D.tup.injEq, List.cons_append, List.nil_append, List.not_mem_nil, not_false_eq_true, Bool.false_eq_true, List.all_cons, List.all_nil, reduceIte, reduceCtorEq, List.isEmpty_cons, List.isEmpty_nil, eq_self, decide_true, decide_false, Bool.if_true_left, exists_eq, exists_eq', decide_eq_true_eq, Int.reduceToNat, Int.reducePow, Int.reduceNeg, Int.reduceLT, Int.reduceLE, Int.reduceSub, Int.reduceAdd, and_false, false_and, List.mem_cons, or_false, false_or, exists_and_left, Nat.zero_add, ne_eq, not_true_eq_false, Nat.reduceAdd, Nat.reduceLT, Nat.reduceEqDiff, Nat.reduceLeDiff]
      rw [IL_app]
      refine ⟨Nat.lt_of_lt_of_le (by omega) (Nat.le_of_ble_eq_true (rfl : Nat.ble 9 sizeLine = true)), hk _ ⟨l, _, _, _, rfl, ?_, by rw [List.length_append]; simp; omega, rfl⟩⟩
      rw [← hg, List.append_assoc]; rfl
/-- all wheels, turned by turns -/
def heldL (d : Int) : List Int → List Int → List Int
  | p :: ps, r :: rs => heldP p d r :: heldL d ps rs
  | _, _ => []
theorem heldL_len (d : Int) : ∀ (ps rs : List Int), (heldL d ps rs).length = min ps.length rs.length
  | [], rs => by simp [heldL]
  | _ :: _, [] => by simp [heldL]
  | p :: ps, r :: rs => by simp only [heldL, List.length_cons, heldL_len d ps rs]; omega
def walkL (rs : List Int) : List Int → List Int → Int → List Int
  | [], ps, _ => ps
  | t :: ts, ps, d => walkL rs ts (heldL (d + t) ps rs) (d + t)
def sp_state_behind : FSpec := fun ds Q _ => ∃ r qs d ps o ts, ds = [LockD r qs, StateD d ps, .lst o (IL ts)] ∧ qs.length ≤ 8 ∧ ps.length = qs.length ∧ Q (.tup [.int (d + ts.sum), .lst true (IL (walkL (sumsS 0 qs) ts ps d))]) []
theorem w_state_behind {Γ : Sig} (hm : Γ.me = []) (H1 : Has Γ "wheel_reaches" [] sp_wheel_reaches) (H2 : Has Γ "held_place" [] sp_held_place) (ds : List D) (Q : D → List D → Prop) (R : Exc → Prop) (h : sp_state_behind ds Q R) : wpF Γ f_state_behind ds Q R := by
  obtain ⟨r, qs, d, ps, o, ts, rfl, hl, hl2, q⟩ := h
  simp only [wpF_eq, LockD, StateD, f_state_behind, startE, hm, H1.sp, H1.io, List.map_cons, List.map_nil, IL_len, z_get0, z_getS, z_borV, z_stillV, z_stillsV, z_stillsN, z_shareV, z_bor_con, z_still_con, z_stills_con, z_share_con, z_bor_glo, z_still_glo, z_stills_glo, z_share_glo, z_bor_bin, z_still_bin, z_stills_bin, z_share_bin, z_bor_neg, z_still_neg, z_stills_neg, z_share_neg, z_bor_nt, z_still_nt, z_stills_nt, z_share_nt, z_bor_bo, z_still_bo, z_stills_bo, z_share_bo, z_bor_cmp, z_still_cmp, z_stills_cmp, z_share_cmp, z_bor_chn, z_still_chn, z_stills_chn, z_share_chn, z_bor_ife, z_still_ife, z_stills_ife, z_share_ife, z_bor_call, z_still_call, z_stills_call, z_share_call, z_bor_calk, z_still_calk, z_stills_calk, z_share_calk, z_bor_bi, z_still_bi, z_stills_bi, z_share_bi, z_bor_isi, z_still_isi, z_stills_isi, z_share_isi, z_bor_sub, z_still_sub, z_stills_sub, z_share_sub, z_bor_slc, z_still_slc, z_stills_slc, z_share_slc, z_bor_rpr, z_still_rpr, z_stills_rpr, z_share_rpr, z_bor_tup, z_still_tup, z_stills_tup, z_share_tup, z_bor_lst, z_still_lst, z_stills_lst, z_share_lst, z_bor_lc, z_still_lc, z_stills_lc, z_share_lc, z_bor_mov, z_still_mov, z_stills_mov, z_share_mov, z_setNm, z_setTpT, z_setTpL, z_setsN, z_setsC, z_putN, z_putC, z_var, z_mov, z_con, z_glo, z_bin, z_neg, z_nt, z_bo, z_cmp, z_chn, z_ife, z_call, z_calk, z_bi, z_isi, z_sub, z_slc, z_tup, z_lst, z_rprL, z_rprT, z_lc, z_esN, z_esC, z_bsN, z_bsC, z_aN, z_aM, z_aF, z_aE, z_oN, z_oY, z_bo1, z_bo2, zt_nt, zt_bo, zt_cmp, zt_chn, zt_isi, zt_call, zt_var, zt_bi, zt_to1, zt_to2, zt_tsN, zt_ts1, i_ex, i_r1, i_r2, i_r3, i_zip, i_enum, i_rev, c_asg, c_par, c_pst, c_pag, c_aug, c_app, c_exp, c_ite, c_for, c_ret, c_rtn, c_brk, c_cnt, c_pas, c_nev, c_nil, c_cons, b_add, b_sub, b_mul, b_fdiv, b_mod, b_pow, b_shl, b_shr, b_cat, b_rep, a_add, a_sub, a_mul, a_mod, q_eqI, q_neI, q_eqS, q_neS, q_eqB, q_neB, q_eqNil, q_neNil, q_lt, q_le, q_gt, q_ge, q_is, q_isnt, r_bl, r_int, r_lst, r_tup, s_szL, s_szT, s_subL, s_subT, s_slcL, s_slcT, s_itL, s_itT, s_liL, n_lenL, n_lenT, n_abs, n_min2, n_max2, n_int, n_intB, n_listL, n_listT, n_tupL, n_strI, n_boolI, n_allL, n_anyL, n_sumL, f_non, f_bl, f_int, f_str, f_tup, f_lst, f_nil, f_cons, g_int, g_bl, g_non, g_str, g_lstF, g_tup, g_lstT, g_nil, g_cons, o_nil, o_0, o_1, z_cast0, z_cast1, z_cast2, z_cast3, z_cast4, z_cast5, z_cast6, z_cast7, z_cast8, z_cast9, z_cast10, z_cast11, z_cast12, l_ltl0, l_ltl1, l_ltl2, l_ltl3, l_ltl4, l_ltl5, l_ltl6, l_ltl7, l_ltl8, l_ltl9, l_ltl10, l_ltl11, l_ltl12, l_line0, l_line1, l_line2, l_line3, l_line4, l_line5, l_line6, l_line7, l_line8, l_line9, l_line10, l_line11, l_line12, k_NoneType_int, k_NoneType_bool, k_NoneType_str, k_NoneType_list, k_NoneType_tuple, k_NoneType_dict, k_bool_int, k_bool_bool, k_bool_str, k_bool_list, k_bool_tuple, k_bool_dict, k_int_int, k_int_bool, k_int_str, k_int_list, k_int_tuple, k_int_dict, k_str_int, k_str_bool, k_str_str, k_str_list, k_str_tuple, k_str_dict, k_tuple_int, k_tuple_bool, k_tuple_str, k_tuple_list, k_tuple_tuple, k_tuple_dict, k_list_int, k_list_bool, k_list_str, k_list_list, k_list_tuple, k_list_dict, z_at0, z_at1, z_at2, z_at3, z_at4, z_at5, z_at6, z_at7, z_at8, z_ix1_0, z_ix2_0, z_ix2_1, z_ix3_0, z_ix3_1, z_ix3_2, z_ix4_0, z_ix4_1, z_ix4_2, z_ix4_3, z_ix5_0, z_ix5_1, z_ix5_2, z_ix5_3, z_ix5_4, z_ix6_0, z_ix6_1, z_ix6_2, z_ix6_3, z_ix6_4, z_ix6_5, z_ix7_0, z_ix7_1, z_ix7_2, z_ix7_3, z_ix7_4, z_ix7_5, z_ix7_6, z_ix8_0, z_ix8_1, z_ix8_2, z_ix8_3, z_ix8_4, z_ix8_5, z_ix8_6, z_ix8_7, Bool.not_eq_true', decide_eq_false_iff_not, ite_not, Bool.false_eq_true, Int.reduceEq, wipeE, backE, IL_fz, IL_isFz, fz_fz, fzL_fzL, List.set_cons_zero, List.set_cons_succ, List.getElem?_cons_zero, List.getElem?_cons_succ, List.length_cons, List.length_nil, and_true, true_and, Bool.and_true, Bool.true_and, Bool.not_true, Bool.not_false, Bool.not_not, if_true, if_false, ite_true, ite_false, Option.map_some, Option.some.injEq, exists_eq_left, exists_eq_left', D.int.injEq, D.lst.injEq, D.bl.injEq, D.str.injEq, D.tup.injEq, List.cons_append, List.nil_append, List.not_mem_nil, not_false_eq_true, Bool.false_eq_true, List.all_cons, List.all_nil, reduceIte, reduceCtorEq, List.isEmpty_cons, List.isEmpty_nil, eq_self, decide_true, decide_false, Bool.if_true_left, exists_eq, exists_eq', decide_eq_true_eq, Int.reduceToNat, Int.reducePow, Int.reduceNeg, Int.reduceLT, Int.reduceLE, Int.reduceSub, Int.reduceAdd, and_false, false_and, List.mem_cons, or_false, false_or, exists_and_left, Nat.zero_add, ne_eq, not_true_eq_false, Nat.reduceAdd, Nat.reduceLT, Nat.reduceEqDiff, Nat.reduceLeDiff]
  refine ⟨_, qs, rfl, hl, rfl, ?_⟩
  (try simp only [hm, z_get0, z_getS, z_borV, z_stillV, z_stillsV, z_stillsN, z_shareV, z_bor_con, z_still_con, z_stills_con, z_share_con, z_bor_glo, z_still_glo, z_stills_glo, z_share_glo, z_bor_bin, z_still_bin, z_stills_bin, z_share_bin, z_bor_neg, z_still_neg, z_stills_neg, z_share_neg, z_bor_nt, z_still_nt, z_stills_nt, z_share_nt, z_bor_bo, z_still_bo, z_stills_bo, z_share_bo, z_bor_cmp, z_still_cmp, z_stills_cmp, z_share_cmp, z_bor_chn, z_still_chn, z_stills_chn, z_share_chn, z_bor_ife, z_still_ife, z_stills_ife, z_share_ife, z_bor_call, z_still_call, z_stills_call, z_share_call, z_bor_calk, z_still_calk, z_stills_calk, z_share_calk, z_bor_bi, z_still_bi, z_stills_bi, z_share_bi, z_bor_isi, z_still_isi, z_stills_isi, z_share_isi, z_bor_sub, z_still_sub, z_stills_sub, z_share_sub, z_bor_slc, z_still_slc, z_stills_slc, z_share_slc, z_bor_rpr, z_still_rpr, z_stills_rpr, z_share_rpr, z_bor_tup, z_still_tup, z_stills_tup, z_share_tup, z_bor_lst, z_still_lst, z_stills_lst, z_share_lst, z_bor_lc, z_still_lc, z_stills_lc, z_share_lc, z_bor_mov, z_still_mov, z_stills_mov, z_share_mov, z_setNm, z_setTpT, z_setTpL, z_setsN, z_setsC, z_putN, z_putC, z_var, z_mov, z_con, z_glo, z_bin, z_neg, z_nt, z_bo, z_cmp, z_chn, z_ife, z_call, z_calk, z_bi, z_isi, z_sub, z_slc, z_tup, z_lst, z_rprL, z_rprT, z_lc, z_esN, z_esC, z_bsN, z_bsC, z_aN, z_aM, z_aF, z_aE, z_oN, z_oY, z_bo1, z_bo2, zt_nt, zt_bo, zt_cmp, zt_chn, zt_isi, zt_call, zt_var, zt_bi, zt_to1, zt_to2, zt_tsN, zt_ts1, i_ex, i_r1, i_r2, i_r3, i_zip, i_enum, i_rev, c_asg, c_par, c_pst, c_pag, c_aug, c_app, c_exp, c_ite, c_for, c_ret, c_rtn, c_brk, c_cnt, c_pas, c_nev, c_nil, c_cons, b_add, b_sub, b_mul, b_fdiv, b_mod, b_pow, b_shl, b_shr, b_cat, b_rep, a_add, a_sub, a_mul, a_mod, q_eqI, q_neI, q_eqS, q_neS, q_eqB, q_neB, q_eqNil, q_neNil, q_lt, q_le, q_gt, q_ge, q_is, q_isnt, r_bl, r_int, r_lst, r_tup, s_szL, s_szT, s_subL, s_subT, s_slcL, s_slcT, s_itL, s_itT, s_liL, n_lenL, n_lenT, n_abs, n_min2, n_max2, n_int, n_intB, n_listL, n_listT, n_tupL, n_strI, n_boolI, n_allL, n_anyL, n_sumL, f_non, f_bl, f_int, f_str, f_tup, f_lst, f_nil, f_cons, g_int, g_bl, g_non, g_str, g_lstF, g_tup, g_lstT, g_nil, g_cons, o_nil, o_0, o_1, z_cast0, z_cast1, z_cast2, z_cast3, z_cast4, z_cast5, z_cast6, z_cast7, z_cast8, z_cast9, z_cast10, z_cast11, z_cast12, l_ltl0, l_ltl1, l_ltl2, l_ltl3, l_ltl4, l_ltl5, l_ltl6, l_ltl7, l_ltl8, l_ltl9, l_ltl10, l_ltl11, l_ltl12, l_line0, l_line1, l_line2, l_line3, l_line4, l_line5, l_line6, l_line7, l_line8, l_line9, l_line10, l_line11, l_line12, k_NoneType_int, k_NoneType_bool, k_NoneType_str, k_NoneType_list, k_NoneType_tuple, k_NoneType_dict, k_bool_int, k_bool_bool, k_bool_str, k_bool_list, k_bool_tuple, k_bool_dict, k_int_int, k_int_bool, k_int_str, k_int_list, k_int_tuple, k_int_dict, k_str_int, k_str_bool, k_str_str, k_str_list, k_str_tuple, k_str_dict, k_tuple_int, k_tuple_bool, k_tuple_str, k_tuple_list, k_tuple_tuple, k_tuple_dict, k_list_int, k_list_bool, k_list_str, k_list_list, k_list_tuple, k_list_dict, z_at0, z_at1, z_at2, z_at3, z_at4, z_at5, z_at6, z_at7, z_at8, z_ix1_0, z_ix2_0, z_ix2_1, z_ix3_0, z_ix3_1, z_ix3_2, z_ix4_0, z_ix4_1, z_ix4_2, z_ix4_3, z_ix5_0, z_ix5_1, z_ix5_2, z_ix5_3, z_ix5_4, z_ix6_0, z_ix6_1, z_ix6_2, z_ix6_3, z_ix6_4, z_ix6_5, z_ix7_0, z_ix7_1, z_ix7_2, z_ix7_3, z_ix7_4, z_ix7_5, z_ix7_6, z_ix8_0, z_ix8_1, z_ix8_2, z_ix8_3, z_ix8_4, z_ix8_5, z_ix8_6, z_ix8_7, Bool.not_eq_true', decide_eq_false_iff_not, ite_not, Bool.false_eq_true, Int.reduceEq, wipeE, backE, IL_fz, IL_isFz, fz_fz, fzL_fzL, List.set_cons_zero, List.set_cons_succ, List.getElem?_cons_zero, List.getElem?_cons_succ, List.length_cons, List.length_nil, and_true, true_and, Bool.and_true, Bool.true_and, Bool.not_true, Bool.not_false, Bool.not_not, if_true, if_false, ite_true, ite_false, Option.map_some, Option.some.injEq, exists_eq_left, exists_eq_left', D.int.injEq, D.lst.injEq, D.bl.injEq, D.str.injEq, D.tup.injEq, List.cons_append, List.nil_append, List.not_mem_nil, not_false_eq_true, Bool.false_eq_true, List.all_cons, List.all_nil, reduceIte, reduceCtorEq, List.isEmpty_cons, List.isEmpty_nil, eq_self, decide_true, decide_false, Bool.if_true_left, exists_eq, exists_eq', decide_eq_true_eq, Int.reduceToNat, Int.reducePow, Int.reduceNeg, Int.reduceLT, Int.reduceLE, Int.reduceSub, Int.reduceAdd, and_false, false_and, List.mem_cons, or_false, false_or, exists_and_left, Nat.zero_add, ne_eq, not_true_eq_false, Nat.reduceAdd, Nat.reduceLT, Nat.reduceEqDiff, Nat.reduceLeDiff])
  have hs := sumsS_len qs 0
  refine forDK (fun items e => ∃ (l ps' : List Int) (d' : Int) (o1 o2 : Bool) (a u v : Option D), items = IL l ∧ d' + l.sum = d + ts.sum ∧ ps'.length = qs.length ∧ walkL (sumsS 0 qs) l ps' d' = walkL (sumsS 0 qs) ts ps d ∧ e = [some (.tup [.int r, .lst false (IL qs)]), some (.tup [.int d, .lst false (IL ps)]), some (.lst false (IL ts)), some (.int d'), some (.lst true (IL ps')), some (.lst o2 (IL (sumsS 0 qs))), a, u, v])
    ⟨ts, ps, d, true, true, none, none, none, rfl, rfl, hl2, rfl, rfl⟩ ?_ ?_
  · rintro e ⟨l, ps', d', o1, o2, a, u, v, hi, h1, h2, h3, rfl⟩
    cases l with
    | cons _ _ => simp [IL] at hi
    | nil =>
      simp only [hm, z_get0, z_getS, z_borV, z_stillV, z_stillsV, z_stillsN, z_shareV, z_bor_con, z_still_con, z_stills_con, z_share_con, z_bor_glo, z_still_glo, z_stills_glo, z_share_glo, z_bor_bin, z_still_bin, z_stills_bin, z_share_bin, z_bor_neg, z_still_neg, z_stills_neg, z_share_neg, z_bor_nt, z_still_nt, z_stills_nt, z_share_nt, z_bor_bo, z_still_bo, z_stills_bo, z_share_bo, z_bor_cmp, z_still_cmp, z_stills_cmp, z_share_cmp, z_bor_chn, z_still_chn, z_stills_chn, z_share_chn, z_bor_ife, z_still_ife, z_stills_ife, z_share_ife, z_bor_call, z_still_call, z_stills_call, z_share_call, z_bor_calk, z_still_calk, z_stills_calk, z_share_calk, z_bor_bi, z_still_bi, z_stills_bi, z_share_bi, z_bor_isi, z_still_isi, z_stills_isi, z_share_isi, z_bor_sub, z_still_sub, z_stills_sub, z_share_sub, z_bor_slc, z_still_slc, z_stills_slc, z_share_slc, z_bor_rpr, z_still_rpr, z_stills_rpr, z_share_rpr, z_bor_tup, z_still_tup, z_stills_tup, z_share_tup, z_bor_lst, z_still_lst, z_stills_lst, z_share_lst, z_bor_lc, z_still_lc, z_stills_lc, z_share_lc, z_bor_mov, z_still_mov, z_stills_mov, z_share_mov, z_setNm, z_setTpT, z_setTpL, z_setsN, z_setsC, z_putN, z_putC, z_var, z_mov, z_con, z_glo, z_bin, z_neg, z_nt, z_bo, z_cmp, z_chn, z_ife, z_call, z_calk, z_bi, z_isi, z_sub, z_slc, z_tup, z_lst, z_rprL, z_rprT, z_lc, z_esN, z_esC, z_bsN, z_bsC, z_aN, z_aM, z_aF, z_aE, z_oN, z_oY, z_bo1, z_bo2, zt_nt, zt_bo, zt_cmp, zt_chn, zt_isi, zt_call, zt_var, zt_bi, zt_to1, zt_to2, zt_tsN, zt_ts1, i_ex, i_r1, i_r2, i_r3, i_zip, i_enum, i_rev, c_asg, c_par, c_pst, c_pag, c_aug, c_app, c_exp, c_ite, c_for, c_ret, c_rtn, c_brk, c_cnt, c_pas, c_nev, c_nil, c_cons, b_add, b_sub, b_mul, b_fdiv, b_mod, b_pow, b_shl, b_shr, b_cat, b_rep, a_add, a_sub, a_mul, a_mod, q_eqI, q_neI, q_eqS, q_neS, q_eqB, q_neB, q_eqNil, q_neNil, q_lt, q_le, q_gt, q_ge, q_is, q_isnt, r_bl, r_int, r_lst, r_tup, s_szL, s_szT, s_subL, s_subT, s_slcL, s_slcT, s_itL, s_itT, s_liL, n_lenL, n_lenT, n_abs, n_min2, n_max2, n_int, n_intB, n_listL, n_listT, n_tupL, n_strI, n_boolI, n_allL, n_anyL, n_sumL, f_non, f_bl, f_int, f_str, f_tup, f_lst, f_nil, f_cons, g_int, g_bl, g_non, g_str, g_lstF, g_tup, g_lstT, g_nil, g_cons, o_nil, o_0, o_1, z_cast0, z_cast1, z_cast2, z_cast3, z_cast4, z_cast5, z_cast6, z_cast7, z_cast8, z_cast9, z_cast10, z_cast11, z_cast12, l_ltl0, l_ltl1, l_ltl2, l_ltl3, l_ltl4, l_ltl5, l_ltl6, l_ltl7, l_ltl8, l_ltl9, l_ltl10, l_ltl11, l_ltl12, l_line0, l_line1, l_line2, l_line3, l_line4, l_line5, l_line6, l_line7, l_line8, l_line9, l_line10, l_line11, l_line12, k_NoneType_int, k_NoneType_bool, k_NoneType_str, k_NoneType_list, k_NoneType_tuple, k_NoneType_dict, k_bool_int, k_bool_bool, k_bool_str, k_bool_list, k_bool_tuple, k_bool_dict, k_int_int, k_int_bool, k_int_str, k_int_list, k_int_tuple, k_int_dict, k_str_int, k_str_bool, k_str_str, k_str_list, k_str_tuple, k_str_dict, k_tuple_int, k_tuple_bool, k_tuple_str, k_tuple_list, k_tuple_tuple, k_tuple_dict, k_list_int, k_list_bool, k_list_str, k_list_list, k_list_tuple, k_list_dict, z_at0, z_at1, z_at2, z_at3, z_at4, z_at5, z_at6, z_at7, z_at8, z_ix1_0, z_ix2_0, z_ix2_1, z_ix3_0, z_ix3_1, z_ix3_2, z_ix4_0, z_ix4_1, z_ix4_2, z_ix4_3, z_ix5_0, z_ix5_1, z_ix5_2, z_ix5_3, z_ix5_4, z_ix6_0, z_ix6_1, z_ix6_2, z_ix6_3, z_ix6_4, z_ix6_5, z_ix7_0, z_ix7_1, z_ix7_2, z_ix7_3, z_ix7_4, z_ix7_5, z_ix7_6, z_ix8_0, z_ix8_1, z_ix8_2, z_ix8_3, z_ix8_4, z_ix8_5, z_ix8_6, z_ix8_7, Bool.not_eq_true', decide_eq_false_iff_not, ite_not, Bool.false_eq_true, Int.reduceEq, wipeE, backE, IL_fz, IL_isFz, fz_fz, fzL_fzL, List.set_cons_zero, List.set_cons_succ, List.getElem?_cons_zero, List.getElem?_cons_succ, List.length_cons, List.length_nil, and_true, true_and, Bool.and_true, Bool.true_and, Bool.not_true, Bool.not_false, Bool.not_not, if_true, if_false, ite_true, ite_false, Option.map_some, Option.some.injEq, exists_eq_left, exists_eq_left', D.int.injEq, D.lst.injEq, D.bl.injEq, D.str.injEq, D.tup.injEq, List.cons_append, List.nil_append, List.not_mem_nil, not_false_eq_true, Bool.false_eq_true, List.all_cons, List.all_nil, reduceIte, reduceCtorEq, List.isEmpty_cons, List.isEmpty_nil, eq_self, decide_true, decide_false, Bool.if_true_left, exists_eq, exists_eq', decide_eq_true_eq, Int.reduceToNat, Int.reducePow, Int.reduceNeg, Int.reduceLT, Int.reduceLE, Int.reduceSub, Int.reduceAdd, and_false, false_and, List.mem_cons, or_false, false_or, exists_and_left, Nat.zero_add, ne_eq, not_true_eq_false, Nat.reduceAdd, Nat.reduceLT, Nat.reduceEqDiff, Nat.reduceLeDiff]
      have h1' : d' = d + ts.sum := by simpa using h1
      have h3' : ps' = walkL (sumsS 0 qs) ts ps d := h3
      rw [h1', h3']
      exact q
  · rintro x xs e k bk ⟨l, ps', d', o1, o2, a, u, v, hi, h1, h2, h3, rfl⟩ hk _
    cases l with
    | nil => simp [IL] at hi
    | cons t l =>
      simp only [IL_cons, List.cons.injEq] at hi
      obtain ⟨rfl, rfl⟩ := hi
      simp only [f_state_behind_b1, flatD, hm, IL_len, z_get0, z_getS, z_borV, z_stillV, z_stillsV, z_stillsN, z_shareV, z_bor_con, z_still_con, z_stills_con, z_share_con, z_bor_glo, z_still_glo, z_stills_glo, z_share_glo, z_bor_bin, z_still_bin, z_stills_bin, z_share_bin, z_bor_neg, z_still_neg, z_stills_neg, z_share_neg, z_bor_nt, z_still_nt, z_stills_nt, z_share_nt, z_bor_bo, z_still_bo, z_stills_bo, z_share_bo, z_bor_cmp, z_still_cmp, z_stills_cmp, z_share_cmp, z_bor_chn, z_still_chn, z_stills_chn, z_share_chn, z_bor_ife, z_still_ife, z_stills_ife, z_share_ife, z_bor_call, z_still_call, z_stills_call, z_share_call, z_bor_calk, z_still_calk, z_stills_calk, z_share_calk, z_bor_bi, z_still_bi, z_stills_bi, z_share_bi, z_bor_isi, z_still_isi, z_stills_isi, z_share_isi, z_bor_sub, z_still_sub, z_stills_sub, z_share_sub, z_bor_slc, z_still_slc, z_stills_slc, z_share_slc, z_bor_rpr, z_still_rpr, z_stills_rpr, z_share_rpr, z_bor_tup, z_still_tup, z_stills_tup, z_share_tup, z_bor_lst, z_still_lst, z_stills_lst, z_share_lst, z_bor_lc, z_still_lc, z_stills_lc, z_share_lc, z_bor_mov, z_still_mov, z_stills_mov, z_share_mov, z_setNm, z_setTpT, z_setTpL, z_setsN, z_setsC, z_putN, z_putC, z_var, z_mov, z_con, z_glo, z_bin, z_neg, z_nt, z_bo, z_cmp, z_chn, z_ife, z_call, z_calk, z_bi, z_isi, z_sub, z_slc, z_tup, z_lst, z_rprL, z_rprT, z_lc, z_esN, z_esC, z_bsN, z_bsC, z_aN, z_aM, z_aF, z_aE, z_oN, z_oY, z_bo1, z_bo2, zt_nt, zt_bo, zt_cmp, zt_chn, zt_isi, zt_call, zt_var, zt_bi, zt_to1, zt_to2, zt_tsN, zt_ts1, i_ex, i_r1, i_r2, i_r3, i_zip, i_enum, i_rev, c_asg, c_par, c_pst, c_pag, c_aug, c_app, c_exp, c_ite, c_for, c_ret, c_rtn, c_brk, c_cnt, c_pas, c_nev, c_nil, c_cons, b_add, b_sub, b_mul, b_fdiv, b_mod, b_pow, b_shl, b_shr, b_cat, b_rep, a_add, a_sub, a_mul, a_mod, q_eqI, q_neI, q_eqS, q_neS, q_eqB, q_neB, q_eqNil, q_neNil, q_lt, q_le, q_gt, q_ge, q_is, q_isnt, r_bl, r_int, r_lst, r_tup, s_szL, s_szT, s_subL, s_subT, s_slcL, s_slcT, s_itL, s_itT, s_liL, n_lenL, n_lenT, n_abs, n_min2, n_max2, n_int, n_intB, n_listL, n_listT, n_tupL, n_strI, n_boolI, n_allL, n_anyL, n_sumL, f_non, f_bl, f_int, f_str, f_tup, f_lst, f_nil, f_cons, g_int, g_bl, g_non, g_str, g_lstF, g_tup, g_lstT, g_nil, g_cons, o_nil, o_0, o_1, z_cast0, z_cast1, z_cast2, z_cast3, z_cast4, z_cast5, z_cast6, z_cast7, z_cast8, z_cast9, z_cast10, z_cast11, z_cast12, l_ltl0, l_ltl1, l_ltl2, l_ltl3, l_ltl4, l_ltl5, l_ltl6, l_ltl7, l_ltl8, l_ltl9, l_ltl10, l_ltl11, l_ltl12, l_line0, l_line1, l_line2, l_line3, l_line4, l_line5, l_line6, l_line7, l_line8, l_line9, l_line10, l_line11, l_line12, k_NoneType_int, k_NoneType_bool, k_NoneType_str, k_NoneType_list, k_NoneType_tuple, k_NoneType_dict, k_bool_int, k_bool_bool, k_bool_str, k_bool_list, k_bool_tuple, k_bool_dict, k_int_int, k_int_bool, k_int_str, k_int_list, k_int_tuple, k_int_dict, k_str_int, k_str_bool, k_str_str, k_str_list, k_str_tuple, k_str_dict, k_tuple_int, k_tuple_bool, k_tuple_str, k_tuple_list, k_tuple_tuple, k_tuple_dict, k_list_int, k_list_bool, k_list_str, k_list_list, k_list_tuple, k_list_dict, z_at0, z_at1, z_at2, z_at3, z_at4, z_at5, z_at6, z_at7, z_at8, z_ix1_0, z_ix2_0, z_ix2_1, z_ix3_0, z_ix3_1, z_ix3_2, z_ix4_0, z_ix4_1, z_ix4_2, z_ix4_3, z_ix5_0, z_ix5_1, z_ix5_2, z_ix5_3, z_ix5_4, z_ix6_0, z_ix6_1, z_ix6_2, z_ix6_3, z_ix6_4, z_ix6_5, z_ix7_0, z_ix7_1, z_ix7_2, z_ix7_3, z_ix7_4, z_ix7_5, z_ix7_6, z_ix8_0, z_ix8_1, z_ix8_2, z_ix8_3, z_ix8_4, z_ix8_5, z_ix8_6, z_ix8_7, Bool.not_eq_true', decide_eq_false_iff_not, ite_not, Bool.false_eq_true, Int.reduceEq, wipeE, backE, IL_fz, IL_isFz, fz_fz, fzL_fzL, List.set_cons_zero, List.set_cons_succ, List.getElem?_cons_zero, List.getElem?_cons_succ, List.length_cons, List.length_nil, and_true, true_and, Bool.and_true, Bool.true_and, Bool.not_true, Bool.not_false, Bool.not_not, if_true, if_false, ite_true, ite_false, Option.map_some, Option.some.injEq, exists_eq_left, exists_eq_left', D.int.injEq, D.lst.injEq, D.bl.injEq, D.str.injEq, D.tup.injEq, List.cons_append, List.nil_append, List.not_mem_nil, not_false_eq_true, Bool.false_eq_true, List.all_cons, List.all_nil, reduceIte, reduceCtorEq, List.isEmpty_cons, List.isEmpty_nil, eq_self, decide_true, decide_false, Bool.if_true_left, exists_eq, exists_eq', decide_eq_true_eq, Int.reduceToNat, Int.reducePow, Int.reduceNeg, Int.reduceLT, Int.reduceLE, Int.reduceSub, Int.reduceAdd, and_false, false_and, List.mem_cons, or_false, false_or, exists_and_left, Nat.zero_add, ne_eq, not_true_eq_false, Nat.reduceAdd, Nat.reduceLT, Nat.reduceEqDiff, Nat.reduceLeDiff]
      refine lcD (fun items acc e => ∃ (l1 l2 g : List Int) (u v : Option D), items = zipD l1 l2 ∧ l1.length = l2.length ∧ acc = IL g ∧ g ++ heldL (d' + t) l1 l2 = heldL (d' + t) ps' (sumsS 0 qs) ∧ g.length + l1.length ≤ 8 ∧
        e = [some (.tup [.int r, .lst false (IL qs)]), some (.tup [.int d, .lst false (IL ps)]), some (.lst false (IL ts)), some (.int (d' + t)), some (.lst false (IL ps')), some (.lst false (IL (sumsS 0 qs))), some (.int t), u, v]) ⟨ps', sumsS 0 qs, [], _, _, rfl, by rw [hs, h2], rfl, rfl, by simp; omega, rfl⟩ ?_ ?_
      · rintro acc e ⟨l1, l2, g, u', v', hi, hl3, rfl, hg, _, rfl⟩
        have e1 : l1 = [] := by cases l1 with
          | nil => rfl
          | cons _ _ => cases l2 with
            | nil => simp at hl3
            | cons _ _ => cases hi
        subst e1
        have e2 : g = heldL (d' + t) ps' (sumsS 0 qs) := by rw [← hg]; simp [heldL]
        subst e2
        (try simp only [hm, z_get0, z_getS, z_borV, z_stillV, z_stillsV, z_stillsN, z_shareV, z_bor_con, z_still_con, z_stills_con, z_share_con, z_bor_glo, z_still_glo, z_stills_glo, z_share_glo, z_bor_bin, z_still_bin, z_stills_bin, z_share_bin, z_bor_neg, z_still_neg, z_stills_neg, z_share_neg, z_bor_nt, z_still_nt, z_stills_nt, z_share_nt, z_bor_bo, z_still_bo, z_stills_bo, z_share_bo, z_bor_cmp, z_still_cmp, z_stills_cmp, z_share_cmp, z_bor_chn, z_still_chn, z_stills_chn, z_share_chn, z_bor_ife, z_still_ife, z_stills_ife, z_share_ife, z_bor_call, z_still_call, z_stills_call, z_share_call, z_bor_calk, z_still_calk, z_stills_calk, z_share_calk, z_bor_bi, z_still_bi, z_stills_bi, z_share_bi, z_bor_isi, z_still_isi, z_stills_isi, z_share_isi, z_bor_sub, z_still_sub, z_stills_sub, z_share_sub, z_bor_slc, z_still_slc, z_stills_slc, z_share_slc, z_bor_rpr, z_still_rpr, z_stills_rpr, z_share_rpr, z_bor_tup, z_still_tup, z_stills_tup, z_share_tup, z_bor_lst, z_still_lst, z_stills_lst, z_share_lst, z_bor_lc, z_still_lc, z_stills_lc, z_share_lc, z_bor_mov, z_still_mov, z_stills_mov, z_share_mov, z_setNm, z_setTpT, z_setTpL, z_setsN, z_setsC, z_putN, z_putC, z_var, z_mov, z_con, z_glo, z_bin, z_neg, z_nt, z_bo, z_cmp, z_chn, z_ife, z_call, z_calk, z_bi, z_isi, z_sub, z_slc, z_tup, z_lst, z_rprL, z_rprT, z_lc, z_esN, z_esC, z_bsN, z_bsC, z_aN, z_aM, z_aF, z_aE, z_oN, z_oY, z_bo1, z_bo2, zt_nt, zt_bo, zt_cmp, zt_chn, zt_isi, zt_call, zt_var, zt_bi, zt_to1, zt_to2, zt_tsN, zt_ts1, i_ex, i_r1, i_r2, i_r3, i_zip, i_enum, i_rev, c_asg, c_par, c_pst, c_pag, c_aug, c_app, c_exp, c_ite, c_for, c_ret, c_rtn, c_brk, c_cnt, c_pas, c_nev, c_nil, c_cons, b_add, b_sub, b_mul, b_fdiv, b_mod, b_pow, b_shl, b_shr, b_cat, b_rep, a_add, a_sub, a_mul, a_mod, q_eqI, q_neI, q_eqS, q_neS, q_eqB, q_neB, q_eqNil, q_neNil, q_lt, q_le, q_gt, q_ge, q_is, q_isnt, r_bl, r_int, r_lst, r_tup, s_szL, s_szT, s_subL, s_subT, s_slcL, s_slcT, s_itL, s_itT, s_liL, n_lenL, n_lenT, n_abs, n_min2, n_max2, n_int, n_intB, n_listL, n_listT, n_tupL, n_strI, n_boolI, n_allL, n_anyL, n_sumL, f_non, f_bl, f_int, f_str, f_tup, f_lst, f_nil, f_cons, g_int, g_bl, g_non, g_str, g_lstF, g_tup, g_lstT, g_nil, g_cons, o_nil, o_0, o_1, z_cast0, z_cast1, z_cast2, z_cast3, z_cast4, z_cast5, z_cast6, z_cast7, z_cast8, z_cast9, z_cast10, z_cast11, z_cast12, l_ltl0, l_ltl1, l_ltl2, l_ltl3, l_ltl4, l_ltl5, l_ltl6, l_ltl7, l_ltl8, l_ltl9, l_ltl10, l_ltl11, l_ltl12, l_line0, l_line1, l_line2, l_line3, l_line4, l_line5, l_line6, l_line7, l_line8, l_line9, l_line10, l_line11, l_line12, k_NoneType_int, k_NoneType_bool, k_NoneType_str, k_NoneType_list, k_NoneType_tuple, k_NoneType_dict, k_bool_int, k_bool_bool, k_bool_str, k_bool_list, k_bool_tuple, k_bool_dict, k_int_int, k_int_bool, k_int_str, k_int_list, k_int_tuple, k_int_dict, k_str_int, k_str_bool, k_str_str, k_str_list, k_str_tuple, k_str_dict, k_tuple_int, k_tuple_bool, k_tuple_str, k_tuple_list, k_tuple_tuple, k_tuple_dict, k_list_int, k_list_bool, k_list_str, k_list_list, k_list_tuple, k_list_dict, z_at0, z_at1, z_at2, z_at3, z_at4, z_at5, z_at6, z_at7, z_at8, z_ix1_0, z_ix2_0, z_ix2_1, z_ix3_0, z_ix3_1, z_ix3_2, z_ix4_0, z_ix4_1, z_ix4_2, z_ix4_3, z_ix5_0, z_ix5_1, z_ix5_2, z_ix5_3, z_ix5_4, z_ix6_0, z_ix6_1, z_ix6_2, z_ix6_3, z_ix6_4, z_ix6_5, z_ix7_0, z_ix7_1, z_ix7_2, z_ix7_3, z_ix7_4, z_ix7_5, z_ix7_6, z_ix8_0, z_ix8_1, z_ix8_2, z_ix8_3, z_ix8_4, z_ix8_5, z_ix8_6, z_ix8_7, Bool.not_eq_true', decide_eq_false_iff_not, ite_not, Bool.false_eq_true, Int.reduceEq, wipeE, backE, IL_fz, IL_isFz, fz_fz, fzL_fzL, List.set_cons_zero, List.set_cons_succ, List.getElem?_cons_zero, List.getElem?_cons_succ, List.length_cons, List.length_nil, and_true, true_and, Bool.and_true, Bool.true_and, Bool.not_true, Bool.not_false, Bool.not_not, if_true, if_false, ite_true, ite_false, Option.map_some, Option.some.injEq, exists_eq_left, exists_eq_left', D.int.injEq, D.lst.injEq, D.bl.injEq, D.str.injEq, D.tup.injEq, List.cons_append, List.nil_append, List.not_mem_nil, not_false_eq_true, Bool.false_eq_true, List.all_cons, List.all_nil, reduceIte, reduceCtorEq, List.isEmpty_cons, List.isEmpty_nil, eq_self, decide_true, decide_false, Bool.if_true_left, exists_eq, exists_eq', decide_eq_true_eq, Int.reduceToNat, Int.reducePow, Int.reduceNeg, Int.reduceLT, Int.reduceLE, Int.reduceSub, Int.reduceAdd, and_false, false_and, List.mem_cons, or_false, false_or, exists_and_left, Nat.zero_add, ne_eq, not_true_eq_false, Nat.reduceAdd, Nat.reduceLT, Nat.reduceEqDiff, Nat.reduceLeDiff])
        refine hk _ ⟨l, _, _, true, _, _, _, _, rfl, by rw [← h1, List.sum_cons]; omega, ?_, h3, rfl⟩
        rw [heldL_len, hs, h2]; omega
      · rintro x xs acc e k2 ⟨l1, l2, g, u', v', hi, hl3, rfl, hg, hn, rfl⟩ hk2
        cases l1 with
        | nil => cases l2 <;> cases hi
        | cons p1 l1 =>
          cases l2 with
          | nil => simp at hl3
          | cons r1 l2 =>
            obtain ⟨rfl, rfl⟩ := List.cons.inj hi
            simp only [List.length_cons] at hl3 hn
            simp only [lcStep, hm, H2.sp, H2.io, IL_len, z_get0, z_getS, z_borV, z_stillV, z_stillsV, z_stillsN, z_shareV, z_bor_con, z_still_con, z_stills_con, z_share_con, z_bor_glo, z_still_glo, z_stills_glo, z_share_glo, z_bor_bin, z_still_bin, z_stills_bin, z_share_bin, z_bor_neg, z_still_neg, z_stills_neg, z_share_neg, z_bor_nt, z_still_nt, z_stills_nt, z_share_nt, z_bor_bo, z_still_bo, z_stills_bo, z_share_bo, z_bor_cmp, z_still_cmp, z_stills_cmp, z_share_cmp, z_bor_chn, z_still_chn, z_stills_chn, z_share_chn, z_bor_ife, z_still_ife, z_stills_ife, z_share_ife, z_bor_call, z_still_call, z_stills_call, z_share_call, z_bor_calk, z_still_calk, z_stills_calk, z_share_calk, z_bor_bi, z_still_bi, z_stills_bi, z_share_bi, z_bor_isi, z_still_isi, z_stills_isi, z_share_isi, z_bor_sub, z_still_sub, z_stills_sub, z_share_sub, z_bor_slc, z_still_slc, z_stills_slc, z_share_slc, z_bor_rpr, z_still_rpr, z_stills_rpr, z_share_rpr, z_bor_tup, z_still_tup, z_stills_tup, z_share_tup, z_bor_lst, z_still_lst, z_stills_lst, z_share_lst, z_bor_lc, z_still_lc, z_stills_lc, z_share_lc, z_bor_mov, z_still_mov, z_stills_mov, z_share_mov, z_setNm, z_setTpT, z_setTpL, z_setsN, z_setsC, z_putN, z_putC, z_var, z_mov, z_con, z_glo, z_bin, z_neg, z_nt, z_bo, z_cmp, z_chn, z_ife, z_call, z_calk, z_bi, z_isi, z_sub, z_slc, z_tup, z_lst, z_rprL, z_rprT, z_lc, z_esN, z_esC, z_bsN, z_bsC, z_aN, z_aM, z_aF, z_aE, z_oN, z_oY, z_bo1, z_bo2, zt_nt, zt_bo, zt_cmp, zt_chn, zt_isi, zt_call, zt_var, zt_bi, zt_to1, zt_to2, zt_tsN, zt_ts1, i_ex, i_r1, i_r2, i_r3, i_zip, i_enum, i_rev, c_asg, c_par, c_pst, c_pag, c_aug, c_app, c_exp, c_ite, c_for, c_ret, c_rtn, c_brk, c_cnt, c_pas, c_nev, c_nil, c_cons, b_add, b_sub, b_mul, b_fdiv, b_mod, b_pow, b_shl, b_shr, b_cat, b_rep, a_add, a_sub, a_mul, a_mod, q_eqI, q_neI, q_eqS, q_neS, q_eqB, q_neB, q_eqNil, q_neNil, q_lt, q_le, q_gt, q_ge, q_is, q_isnt, r_bl, r_int, r_lst, r_tup, s_szL, s_szT, s_subL, s_subT, s_slcL, s_slcT, s_itL, s_itT, s_liL, n_lenL, n_lenT, n_abs, n_min2, n_max2, n_int, n_intB, n_listL, n_listT, n_tupL, n_strI, n_boolI, n_allL, n_anyL, n_sumL, f_non, f_bl, f_int, f_str, f_tup, f_lst, f_nil, f_cons, g_int, g_bl, g_non, g_str, g_lstF, g_tup, g_lstT, g_nil, g_cons, o_nil, o_0, o_1, z_cast0, z_cast1, z_cast2, z_cast3, z_cast4, z_cast5, z_cast6, z_cast7, z_cast8, z_cast9, z_cast10, z_cast11, z_cast12, l_ltl0, l_ltl1, l_ltl2, l_ltl3, l_ltl4, l_ltl5, l_ltl6, l_ltl7, l_ltl8, l_ltl9, l_ltl10, l_ltl11, l_ltl12, l_line0, l_line1, l_line2, l_line3, l_line4, l_line5, l_line6, l_line7, l_line8, l_line9, l_line10, l_line11, l_line12, k_NoneType_int, k_NoneType_bool, k_NoneType_str, k_NoneType_list, k_NoneType_tuple, k_NoneType_dict, k_bool_int, k_bool_bool, k_bool_str, k_bool_list, k_bool_tuple, k_bool_dict, k_int_int, k_int_bool, k_int_str, k_int_list, k_int_tuple, k_int_dict, k_str_int, k_str_bool, k_str_str, k_str_list, k_str_tuple, k_str_dict, k_tuple_int, k_tuple_bool, k_tuple_str, k_tuple_list, k_tuple_tuple, k_tuple_dict, k_list_int, k_list_bool, k_list_str, k_list_list, k_list_tuple, k_list_dict, z_at0, z_at1, z_at2, z_at3, z_at4, z_at5, z_at6, z_at7, z_at8, z_ix1_0, z_ix2_0, z_ix2_1, z_ix3_0, z_ix3_1, z_ix3_2, z_ix4_0, z_ix4_1, z_ix4_2, z_ix4_3, z_ix5_0, z_ix5_1, z_ix5_2, z_ix5_3, z_ix5_4, z_ix6_0, z_ix6_1, z_ix6_2, z_ix6_3, z_ix6_4, z_ix6_5, z_ix7_0, z_ix7_1, z_ix7_2, z_ix7_3, z_ix7_4, z_ix7_5, z_ix7_6, z_ix8_0, z_ix8_1, z_ix8_2, z_ix8_3, z_ix8_4, z_ix8_5, z_ix8_6, z_ix8_7, Bool.not_eq_true', decide_eq_false_iff_not, ite_not, Bool.false_eq_true, Int.reduceEq, wipeE, backE, IL_fz, IL_isFz, fz_fz, fzL_fzL, List.set_cons_zero, List.set_cons_succ, List.getElem?_cons_zero, List.getElem?_cons_succ, List.length_cons, List.length_nil, and_true, true_and, Bool.and_true, Bool.true_and, Bool.not_true, Bool.not_false, Bool.not_not, if_true, if_false, ite_true, ite_false, Option.map_some, Option.some.injEq, exists_eq_left, exists_eq_left', D.int.injEq, D.lst.injEq, D.bl.injEq, D.str.injEq, D.tup.injEq, List.cons_append, List.nil_append, List.not_mem_nil, not_false_eq_true, Bool.false_eq_true, List.all_cons, List.all_nil, reduceIte, reduceCtorEq, List.isEmpty_cons, List.isEmpty_nil, eq_self, decide_true, decide_false, Bool.if_true_left, exists_eq, exists_eq', decide_eq_true_eq, Int.reduceToNat, Int.reducePow, Int.reduceNeg, Int.reduceLT, Int.reduceLE, Int.reduceSub, Int.reduceAdd, and_false, false_and, List.mem_cons, or_false, false_or, exists_and_left, Nat.zero_add, ne_eq, not_true_eq_false, Nat.reduceAdd, Nat.reduceLT, Nat.reduceEqDiff, Nat.reduceLeDiff]
            refine ⟨_, _, _, rfl, rfl, ?_⟩
            simp only [hm, IL_len, IL_app, z_get0, z_getS, z_borV, z_stillV, z_stillsV, z_stillsN, z_shareV, z_bor_con, z_still_con, z_stills_con, z_share_con, z_bor_glo, z_still_glo, z_stills_glo, z_share_glo, z_bor_bin, z_still_bin, z_stills_bin, z_share_bin, z_bor_neg, z_still_neg, z_stills_neg, z_share_neg, z_bor_nt, z_still_nt, z_stills_nt, z_share_nt, z_bor_bo, z_still_bo, z_stills_bo, z_share_bo, z_bor_cmp, z_still_cmp, z_stills_cmp, z_share_cmp, z_bor_chn, z_still_chn, z_stills_chn, z_share_chn, z_bor_ife, z_still_ife, z_stills_ife, z_share_ife, z_bor_call, z_still_call, z_stills_call, z_share_call, z_bor_calk, z_still_calk, z_stills_calk, z_share_calk, z_bor_bi, z_still_bi, z_stills_bi, z_share_bi, z_bor_isi, z_still_isi, z_stills_isi, z_share_isi, z_bor_sub, z_still_sub, z_stills_sub, z_share_sub, z_bor_slc, z_still_slc, z_stills_slc, z_share_slc, z_bor_rpr, z_still_rpr, z_stills_rpr, z_share_rpr, z_bor_tup, z_still_tup, z_stills_tup, z_share_tup, z_bor_lst, z_still_lst, z_stills_lst, z_share_lst, z_bor_lc, z_still_lc, z_stills_lc, z_share_lc, z_bor_mov, z_still_mov, z_stills_mov, z_share_mov, z_setNm, z_setTpT, z_setTpL, z_setsN, z_setsC, z_putN, z_putC, z_var, z_mov, z_con, z_glo, z_bin, z_neg, z_nt, z_bo, z_cmp, z_chn, z_ife, z_call, z_calk, z_bi, z_isi, z_sub, z_slc, z_tup, z_lst, z_rprL, z_rprT, z_lc, z_esN, z_esC, z_bsN, z_bsC, z_aN, z_aM, z_aF, z_aE, z_oN, z_oY, z_bo1, z_bo2, zt_nt, zt_bo, zt_cmp, zt_chn, zt_isi, zt_call, zt_var, zt_bi, zt_to1, zt_to2, zt_tsN, zt_ts1, i_ex, i_r1, i_r2, i_r3, i_zip, i_enum, i_rev, c_asg, c_par, c_pst, c_pag, c_aug, c_app, c_exp, c_ite, c_for, c_ret, c_rtn, c_brk, c_cnt, c_pas, c_nev, c_nil, c_cons, b_add, b_sub, b_mul, b_fdiv, b_mod, b_pow, b_shl, b_shr, b_cat, b_rep, a_add, a_sub, a_mul, a_mod, q_eqI, q_neI, q_eqS, q_neS, q_eqB, q_neB, q_eqNil, q_neNil, q_lt, q_le, q_gt, q_ge, q_is, q_isnt, r_bl, r_int, r_lst, r_tup, s_szL, s_szT, s_subL, s_subT, s_slcL, s_slcT, s_itL, s_itT, s_liL, n_lenL, n_lenT, n_abs, n_min2, n_max2, n_int, n_intB, n_listL, n_listT, n_tupL, n_strI, n_boolI, n_allL, n_anyL, n_sumL, f_non, f_bl, f_int, f_str, f_tup, f_lst, f_nil, f_cons, g_int, g_bl, g_non, g_str, g_lstF, g_tup, g_lstT, g_nil, g_cons, o_nil, o_0, o_1, z_cast0, z_cast1, z_cast2, z_cast3, z_cast4, z_cast5, z_cast6, z_cast7, z_cast8, z_cast9, z_cast10, z_cast11, z_cast12, l_ltl0, l_ltl1, l_ltl2, l_ltl3, l_ltl4, l_ltl5, l_ltl6, l_ltl7, l_ltl8, l_ltl9, l_ltl10, l_ltl11, l_ltl12, l_line0, l_line1, l_line2, l_line3, l_line4, l_line5, l_line6, l_line7, l_line8, l_line9, l_line10, l_line11, l_line12, k_NoneType_int, k_NoneType_bool, k_NoneType_str, k_NoneType_list, k_NoneType_tuple, k_NoneType_dict, k_bool_int, k_bool_bool, k_bool_str, k_bool_list, k_bool_tuple, k_bool_dict, k_int_int, k_int_bool, k_int_str, k_int_list, k_int_tuple, k_int_dict, k_str_int, k_str_bool, k_str_str, k_str_list, k_str_tuple, k_str_dict, k_tuple_int, k_tuple_bool, k_tuple_str, k_tuple_list, k_tuple_tuple, k_tuple_dict, k_list_int, k_list_bool, k_list_str, k_list_list, k_list_tuple, k_list_dict, z_at0, z_at1, z_at2, z_at3, z_at4, z_at5, z_at6, z_at7, z_at8, z_ix1_0, z_ix2_0, z_ix2_1, z_ix3_0, z_ix3_1, z_ix3_2, z_ix4_0, z_ix4_1, z_ix4_2, z_ix4_3, z_ix5_0, z_ix5_1, z_ix5_2, z_ix5_3, z_ix5_4, z_ix6_0, z_ix6_1, z_ix6_2, z_ix6_3, z_ix6_4, z_ix6_5, z_ix7_0, z_ix7_1, z_ix7_2, z_ix7_3, z_ix7_4, z_ix7_5, z_ix7_6, z_ix8_0, z_ix8_1, z_ix8_2, z_ix8_3, z_ix8_4, z_ix8_5, z_ix8_6, z_ix8_7, Bool.not_eq_true', decide_eq_false_iff_not, ite_not, Bool.false_eq_true, Int.reduceEq, wipeE, backE, IL_fz, IL_isFz, fz_fz, fzL_fzL, List.set_cons_zero, List.set_cons_succ, List.getElem?_cons_zero, List.getElem?_cons_succ, List.length_cons, List.length_nil, and_true, true_and, Bool.and_true, Bool.true_and, Bool.not_true, Bool.not_false, Bool.not_not, if_true, if_false, ite_true, ite_false, Option.map_some, Option.some.injEq, exists_eq_left, exists_eq_left', D.int.injEq, D.lst.injEq, D.bl.injEq, D.str.injEq, D.tup.injEq, List.cons_append, List.nil_append, List.not_mem_nil, not_false_eq_true, Bool.false_eq_true, List.all_cons, List.all_nil, reduceIte, reduceCtorEq, List.isEmpty_cons, List.isEmpty_nil, eq_self, decide_true, decide_false, Bool.if_true_left, exists_eq, exists_eq', decide_eq_true_eq, Int.reduceToNat, Int.reducePow, Int.reduceNeg, Int.reduceLT, Int.reduceLE, Int.reduceSub, Int.reduceAdd, and_false, false_and, List.mem_cons, or_false, false_or, exists_and_left, Nat.zero_add, ne_eq, not_true_eq_false, Nat.reduceAdd, Nat.reduceLT, Nat.reduceEqDiff, Nat.reduceLeDiff]
            refine ⟨Nat.lt_of_lt_of_le (by omega) (Nat.le_of_ble_eq_true (rfl : Nat.ble 9 sizeLine = true)), hk2 _ _ ⟨l1, l2, _, _, _, rfl, by omega, rfl, ?_, by rw [List.length_append]; simp; omega, rfl⟩⟩
            rw [← hg, List.append_assoc]; rfl
def sp_turned_state : FSpec := fun ds Q _ => ∃ r qs d ps o ts, ds = [LockD r qs, StateD d ps, .lst o (IL ts)] ∧ LockOk r qs ∧ Chain d qs ps ∧ Turns ts ∧ Q (.tup [.int (d + ts.sum), .lst true (IL (walkL (sumsS 0 qs) ts ps d))]) []
theorem w_turned_state {Γ : Sig} (hm : Γ.me = []) (H1 : Has Γ "require_lock" [] sp_require_lock) (H2 : Has Γ "require_state" [] sp_require_state) (H3 : Has Γ "require_turns" [] sp_require_turns) (H4 : Has Γ "state_behind" [] sp_state_behind) (ds : List D) (Q : D → List D → Prop) (R : Exc → Prop) (h : sp_turned_state ds Q R) : wpF Γ f_turned_state ds Q R := by
  obtain ⟨r, qs, d, ps, o, ts, rfl, hlk, hc, ht, q⟩ := h
  simp only [wpF_eq, LockD, StateD, f_turned_state, startE, hm, H1.sp, H1.io, H2.sp, H2.io, H3.sp, H3.io, H4.sp, H4.io, List.map_cons, List.map_nil, IL_len, z_get0, z_getS, z_borV, z_stillV, z_stillsV, z_stillsN, z_shareV, z_bor_con, z_still_con, z_stills_con, z_share_con, z_bor_glo, z_still_glo, z_stills_glo, z_share_glo, z_bor_bin, z_still_bin, z_stills_bin, z_share_bin, z_bor_neg, z_still_neg, z_stills_neg, z_share_neg, z_bor_nt, z_still_nt, z_stills_nt, z_share_nt, z_bor_bo, z_still_bo, z_stills_bo, z_share_bo, z_bor_cmp, z_still_cmp, z_stills_cmp, z_share_cmp, z_bor_chn, z_still_chn, z_stills_chn, z_share_chn, z_bor_ife, z_still_ife, z_stills_ife, z_share_ife, z_bor_call, z_still_call, z_stills_call, z_share_call, z_bor_calk, z_still_calk, z_stills_calk, z_share_calk, z_bor_bi, z_still_bi, z_stills_bi, z_share_bi, z_bor_isi, z_still_isi, z_stills_isi, z_share_isi, z_bor_sub, z_still_sub, z_stills_sub, z_share_sub, z_bor_slc, z_still_slc, z_stills_slc, z_share_slc, z_bor_rpr, z_still_rpr, z_stills_rpr, z_share_rpr, z_bor_tup, z_still_tup, z_stills_tup, z_share_tup, z_bor_lst, z_still_lst, z_stills_lst, z_share_lst, z_bor_lc, z_still_lc, z_stills_lc, z_share_lc, z_bor_mov, z_still_mov, z_stills_mov, z_share_mov, z_setNm, z_setTpT, z_setTpL, z_setsN, z_setsC, z_putN, z_putC, z_var, z_mov, z_con, z_glo, z_bin, z_neg, z_nt, z_bo, z_cmp, z_chn, z_ife, z_call, z_calk, z_bi, z_isi, z_sub, z_slc, z_tup, z_lst, z_rprL, z_rprT, z_lc, z_esN, z_esC, z_bsN, z_bsC, z_aN, z_aM, z_aF, z_aE, z_oN, z_oY, z_bo1, z_bo2, zt_nt, zt_bo, zt_cmp, zt_chn, zt_isi, zt_call, zt_var, zt_bi, zt_to1, zt_to2, zt_tsN, zt_ts1, i_ex, i_r1, i_r2, i_r3, i_zip, i_enum, i_rev, c_asg, c_par, c_pst, c_pag, c_aug, c_app, c_exp, c_ite, c_for, c_ret, c_rtn, c_brk, c_cnt, c_pas, c_nev, c_nil, c_cons, b_add, b_sub, b_mul, b_fdiv, b_mod, b_pow, b_shl, b_shr, b_cat, b_rep, a_add, a_sub, a_mul, a_mod, q_eqI, q_neI, q_eqS, q_neS, q_eqB, q_neB, q_eqNil, q_neNil, q_lt, q_le, q_gt, q_ge, q_is, q_isnt, r_bl, r_int, r_lst, r_tup, s_szL, s_szT, s_subL, s_subT, s_slcL, s_slcT, s_itL, s_itT, s_liL, n_lenL, n_lenT, n_abs, n_min2, n_max2, n_int, n_intB, n_listL, n_listT, n_tupL, n_strI, n_boolI, n_allL, n_anyL, n_sumL, f_non, f_bl, f_int, f_str, f_tup, f_lst, f_nil, f_cons, g_int, g_bl, g_non, g_str, g_lstF, g_tup, g_lstT, g_nil, g_cons, o_nil, o_0, o_1, z_cast0, z_cast1, z_cast2, z_cast3, z_cast4, z_cast5, z_cast6, z_cast7, z_cast8, z_cast9, z_cast10, z_cast11, z_cast12, l_ltl0, l_ltl1, l_ltl2, l_ltl3, l_ltl4, l_ltl5, l_ltl6, l_ltl7, l_ltl8, l_ltl9, l_ltl10, l_ltl11, l_ltl12, l_line0, l_line1, l_line2, l_line3, l_line4, l_line5, l_line6, l_line7, l_line8, l_line9, l_line10, l_line11, l_line12, k_NoneType_int, k_NoneType_bool, k_NoneType_str, k_NoneType_list, k_NoneType_tuple, k_NoneType_dict, k_bool_int, k_bool_bool, k_bool_str, k_bool_list, k_bool_tuple, k_bool_dict, k_int_int, k_int_bool, k_int_str, k_int_list, k_int_tuple, k_int_dict, k_str_int, k_str_bool, k_str_str, k_str_list, k_str_tuple, k_str_dict, k_tuple_int, k_tuple_bool, k_tuple_str, k_tuple_list, k_tuple_tuple, k_tuple_dict, k_list_int, k_list_bool, k_list_str, k_list_list, k_list_tuple, k_list_dict, z_at0, z_at1, z_at2, z_at3, z_at4, z_at5, z_at6, z_at7, z_at8, z_ix1_0, z_ix2_0, z_ix2_1, z_ix3_0, z_ix3_1, z_ix3_2, z_ix4_0, z_ix4_1, z_ix4_2, z_ix4_3, z_ix5_0, z_ix5_1, z_ix5_2, z_ix5_3, z_ix5_4, z_ix6_0, z_ix6_1, z_ix6_2, z_ix6_3, z_ix6_4, z_ix6_5, z_ix7_0, z_ix7_1, z_ix7_2, z_ix7_3, z_ix7_4, z_ix7_5, z_ix7_6, z_ix8_0, z_ix8_1, z_ix8_2, z_ix8_3, z_ix8_4, z_ix8_5, z_ix8_6, z_ix8_7, Bool.not_eq_true', decide_eq_false_iff_not, ite_not, Bool.false_eq_true, Int.reduceEq, wipeE, backE, IL_fz, IL_isFz, fz_fz, fzL_fzL, List.set_cons_zero, List.set_cons_succ, List.getElem?_cons_zero, List.getElem?_cons_succ, List.length_cons, List.length_nil, and_true, true_and, Bool.and_true, Bool.true_and, Bool.not_true, Bool.not_false, Bool.not_not, if_true, if_false, ite_true, ite_false, Option.map_some, Option.some.injEq, exists_eq_left, exists_eq_left', D.int.injEq, D.lst.injEq, D.bl.injEq, D.str.injEq, D.tup.injEq, List.cons_append, List.nil_append, List.not_mem_nil, not_false_eq_true, Bool.false_eq_true, List.all_cons, List.all_nil, reduceIte, reduceCtorEq, List.isEmpty_cons, List.isEmpty_nil, eq_self, decide_true, decide_false, Bool.if_true_left, exists_eq, exists_eq', decide_eq_true_eq, Int.reduceToNat, Int.reducePow, Int.reduceNeg, Int.reduceLT, Int.reduceLE, Int.reduceSub, Int.reduceAdd, and_false, false_and, List.mem_cons, or_false, false_or, exists_and_left, Nat.zero_add, ne_eq, not_true_eq_false, Nat.reduceAdd, Nat.reduceLT, Nat.reduceEqDiff, Nat.reduceLeDiff]
  refine ⟨_, qs, rfl, hlk, rfl, ?_⟩
  (try simp only [hm, z_get0, z_getS, z_borV, z_stillV, z_stillsV, z_stillsN, z_shareV, z_bor_con, z_still_con, z_stills_con, z_share_con, z_bor_glo, z_still_glo, z_stills_glo, z_share_glo, z_bor_bin, z_still_bin, z_stills_bin, z_share_bin, z_bor_neg, z_still_neg, z_stills_neg, z_share_neg, z_bor_nt, z_still_nt, z_stills_nt, z_share_nt, z_bor_bo, z_still_bo, z_stills_bo, z_share_bo, z_bor_cmp, z_still_cmp, z_stills_cmp, z_share_cmp, z_bor_chn, z_still_chn, z_stills_chn, z_share_chn, z_bor_ife, z_still_ife, z_stills_ife, z_share_ife, z_bor_call, z_still_call, z_stills_call, z_share_call, z_bor_calk, z_still_calk, z_stills_calk, z_share_calk, z_bor_bi, z_still_bi, z_stills_bi, z_share_bi, z_bor_isi, z_still_isi, z_stills_isi, z_share_isi, z_bor_sub, z_still_sub, z_stills_sub, z_share_sub, z_bor_slc, z_still_slc, z_stills_slc, z_share_slc, z_bor_rpr, z_still_rpr, z_stills_rpr, z_share_rpr, z_bor_tup, z_still_tup, z_stills_tup, z_share_tup, z_bor_lst, z_still_lst, z_stills_lst, z_share_lst, z_bor_lc, z_still_lc, z_stills_lc, z_share_lc, z_bor_mov, z_still_mov, z_stills_mov, z_share_mov, z_setNm, z_setTpT, z_setTpL, z_setsN, z_setsC, z_putN, z_putC, z_var, z_mov, z_con, z_glo, z_bin, z_neg, z_nt, z_bo, z_cmp, z_chn, z_ife, z_call, z_calk, z_bi, z_isi, z_sub, z_slc, z_tup, z_lst, z_rprL, z_rprT, z_lc, z_esN, z_esC, z_bsN, z_bsC, z_aN, z_aM, z_aF, z_aE, z_oN, z_oY, z_bo1, z_bo2, zt_nt, zt_bo, zt_cmp, zt_chn, zt_isi, zt_call, zt_var, zt_bi, zt_to1, zt_to2, zt_tsN, zt_ts1, i_ex, i_r1, i_r2, i_r3, i_zip, i_enum, i_rev, c_asg, c_par, c_pst, c_pag, c_aug, c_app, c_exp, c_ite, c_for, c_ret, c_rtn, c_brk, c_cnt, c_pas, c_nev, c_nil, c_cons, b_add, b_sub, b_mul, b_fdiv, b_mod, b_pow, b_shl, b_shr, b_cat, b_rep, a_add, a_sub, a_mul, a_mod, q_eqI, q_neI, q_eqS, q_neS, q_eqB, q_neB, q_eqNil, q_neNil, q_lt, q_le, q_gt, q_ge, q_is, q_isnt, r_bl, r_int, r_lst, r_tup, s_szL, s_szT, s_subL, s_subT, s_slcL, s_slcT, s_itL, s_itT, s_liL, n_lenL, n_lenT, n_abs, n_min2, n_max2, n_int, n_intB, n_listL, n_listT, n_tupL, n_strI, n_boolI, n_allL, n_anyL, n_sumL, f_non, f_bl, f_int, f_str, f_tup, f_lst, f_nil, f_cons, g_int, g_bl, g_non, g_str, g_lstF, g_tup, g_lstT, g_nil, g_cons, o_nil, o_0, o_1, z_cast0, z_cast1, z_cast2, z_cast3, z_cast4, z_cast5, z_cast6, z_cast7, z_cast8, z_cast9, z_cast10, z_cast11, z_cast12, l_ltl0, l_ltl1, l_ltl2, l_ltl3, l_ltl4, l_ltl5, l_ltl6, l_ltl7, l_ltl8, l_ltl9, l_ltl10, l_ltl11, l_ltl12, l_line0, l_line1, l_line2, l_line3, l_line4, l_line5, l_line6, l_line7, l_line8, l_line9, l_line10, l_line11, l_line12, k_NoneType_int, k_NoneType_bool, k_NoneType_str, k_NoneType_list, k_NoneType_tuple, k_NoneType_dict, k_bool_int, k_bool_bool, k_bool_str, k_bool_list, k_bool_tuple, k_bool_dict, k_int_int, k_int_bool, k_int_str, k_int_list, k_int_tuple, k_int_dict, k_str_int, k_str_bool, k_str_str, k_str_list, k_str_tuple, k_str_dict, k_tuple_int, k_tuple_bool, k_tuple_str, k_tuple_list, k_tuple_tuple, k_tuple_dict, k_list_int, k_list_bool, k_list_str, k_list_list, k_list_tuple, k_list_dict, z_at0, z_at1, z_at2, z_at3, z_at4, z_at5, z_at6, z_at7, z_at8, z_ix1_0, z_ix2_0, z_ix2_1, z_ix3_0, z_ix3_1, z_ix3_2, z_ix4_0, z_ix4_1, z_ix4_2, z_ix4_3, z_ix5_0, z_ix5_1, z_ix5_2, z_ix5_3, z_ix5_4, z_ix6_0, z_ix6_1, z_ix6_2, z_ix6_3, z_ix6_4, z_ix6_5, z_ix7_0, z_ix7_1, z_ix7_2, z_ix7_3, z_ix7_4, z_ix7_5, z_ix7_6, z_ix8_0, z_ix8_1, z_ix8_2, z_ix8_3, z_ix8_4, z_ix8_5, z_ix8_6, z_ix8_7, Bool.not_eq_true', decide_eq_false_iff_not, ite_not, Bool.false_eq_true, Int.reduceEq, wipeE, backE, IL_fz, IL_isFz, fz_fz, fzL_fzL, List.set_cons_zero, List.set_cons_succ, List.getElem?_cons_zero, List.getElem?_cons_succ, List.length_cons, List.length_nil, and_true, true_and, Bool.and_true, Bool.true_and, Bool.not_true, Bool.not_false, Bool.not_not, if_true, if_false, ite_true, ite_false, Option.map_some, Option.some.injEq, exists_eq_left, exists_eq_left', D.int.injEq, D.lst.injEq, D.bl.injEq, D.str.injEq, D.tup.injEq, List.cons_append, List.nil_append, List.not_mem_nil, not_false_eq_true, Bool.false_eq_true, List.all_cons, List.all_nil, reduceIte, reduceCtorEq, List.isEmpty_cons, List.isEmpty_nil, eq_self, decide_true, decide_false, Bool.if_true_left, exists_eq, exists_eq', decide_eq_true_eq, Int.reduceToNat, Int.reducePow, Int.reduceNeg, Int.reduceLT, Int.reduceLE, Int.reduceSub, Int.reduceAdd, and_false, false_and, List.mem_cons, or_false, false_or, exists_and_left, Nat.zero_add, ne_eq, not_true_eq_false, Nat.reduceAdd, Nat.reduceLT, Nat.reduceEqDiff, Nat.reduceLeDiff])
  refine ⟨_, qs, _, ps, rfl, hc, rfl, ?_⟩
  (try simp only [hm, z_get0, z_getS, z_borV, z_stillV, z_stillsV, z_stillsN, z_shareV, z_bor_con, z_still_con, z_stills_con, z_share_con, z_bor_glo, z_still_glo, z_stills_glo, z_share_glo, z_bor_bin, z_still_bin, z_stills_bin, z_share_bin, z_bor_neg, z_still_neg, z_stills_neg, z_share_neg, z_bor_nt, z_still_nt, z_stills_nt, z_share_nt, z_bor_bo, z_still_bo, z_stills_bo, z_share_bo, z_bor_cmp, z_still_cmp, z_stills_cmp, z_share_cmp, z_bor_chn, z_still_chn, z_stills_chn, z_share_chn, z_bor_ife, z_still_ife, z_stills_ife, z_share_ife, z_bor_call, z_still_call, z_stills_call, z_share_call, z_bor_calk, z_still_calk, z_stills_calk, z_share_calk, z_bor_bi, z_still_bi, z_stills_bi, z_share_bi, z_bor_isi, z_still_isi, z_stills_isi, z_share_isi, z_bor_sub, z_still_sub, z_stills_sub, z_share_sub, z_bor_slc, z_still_slc, z_stills_slc, z_share_slc, z_bor_rpr, z_still_rpr, z_stills_rpr, z_share_rpr, z_bor_tup, z_still_tup, z_stills_tup, z_share_tup, z_bor_lst, z_still_lst, z_stills_lst, z_share_lst, z_bor_lc, z_still_lc, z_stills_lc, z_share_lc, z_bor_mov, z_still_mov, z_stills_mov, z_share_mov, z_setNm, z_setTpT, z_setTpL, z_setsN, z_setsC, z_putN, z_putC, z_var, z_mov, z_con, z_glo, z_bin, z_neg, z_nt, z_bo, z_cmp, z_chn, z_ife, z_call, z_calk, z_bi, z_isi, z_sub, z_slc, z_tup, z_lst, z_rprL, z_rprT, z_lc, z_esN, z_esC, z_bsN, z_bsC, z_aN, z_aM, z_aF, z_aE, z_oN, z_oY, z_bo1, z_bo2, zt_nt, zt_bo, zt_cmp, zt_chn, zt_isi, zt_call, zt_var, zt_bi, zt_to1, zt_to2, zt_tsN, zt_ts1, i_ex, i_r1, i_r2, i_r3, i_zip, i_enum, i_rev, c_asg, c_par, c_pst, c_pag, c_aug, c_app, c_exp, c_ite, c_for, c_ret, c_rtn, c_brk, c_cnt, c_pas, c_nev, c_nil, c_cons, b_add, b_sub, b_mul, b_fdiv, b_mod, b_pow, b_shl, b_shr, b_cat, b_rep, a_add, a_sub, a_mul, a_mod, q_eqI, q_neI, q_eqS, q_neS, q_eqB, q_neB, q_eqNil, q_neNil, q_lt, q_le, q_gt, q_ge, q_is, q_isnt, r_bl, r_int, r_lst, r_tup, s_szL, s_szT, s_subL, s_subT, s_slcL, s_slcT, s_itL, s_itT, s_liL, n_lenL, n_lenT, n_abs, n_min2, n_max2, n_int, n_intB, n_listL, n_listT, n_tupL, n_strI, n_boolI, n_allL, n_anyL, n_sumL, f_non, f_bl, f_int, f_str, f_tup, f_lst, f_nil, f_cons, g_int, g_bl, g_non, g_str, g_lstF, g_tup, g_lstT, g_nil, g_cons, o_nil, o_0, o_1, z_cast0, z_cast1, z_cast2, z_cast3, z_cast4, z_cast5, z_cast6, z_cast7, z_cast8, z_cast9, z_cast10, z_cast11, z_cast12, l_ltl0, l_ltl1, l_ltl2, l_ltl3, l_ltl4, l_ltl5, l_ltl6, l_ltl7, l_ltl8, l_ltl9, l_ltl10, l_ltl11, l_ltl12, l_line0, l_line1, l_line2, l_line3, l_line4, l_line5, l_line6, l_line7, l_line8, l_line9, l_line10, l_line11, l_line12, k_NoneType_int, k_NoneType_bool, k_NoneType_str, k_NoneType_list, k_NoneType_tuple, k_NoneType_dict, k_bool_int, k_bool_bool, k_bool_str, k_bool_list, k_bool_tuple, k_bool_dict, k_int_int, k_int_bool, k_int_str, k_int_list, k_int_tuple, k_int_dict, k_str_int, k_str_bool, k_str_str, k_str_list, k_str_tuple, k_str_dict, k_tuple_int, k_tuple_bool, k_tuple_str, k_tuple_list, k_tuple_tuple, k_tuple_dict, k_list_int, k_list_bool, k_list_str, k_list_list, k_list_tuple, k_list_dict, z_at0, z_at1, z_at2, z_at3, z_at4, z_at5, z_at6, z_at7, z_at8, z_ix1_0, z_ix2_0, z_ix2_1, z_ix3_0, z_ix3_1, z_ix3_2, z_ix4_0, z_ix4_1, z_ix4_2, z_ix4_3, z_ix5_0, z_ix5_1, z_ix5_2, z_ix5_3, z_ix5_4, z_ix6_0, z_ix6_1, z_ix6_2, z_ix6_3, z_ix6_4, z_ix6_5, z_ix7_0, z_ix7_1, z_ix7_2, z_ix7_3, z_ix7_4, z_ix7_5, z_ix7_6, z_ix8_0, z_ix8_1, z_ix8_2, z_ix8_3, z_ix8_4, z_ix8_5, z_ix8_6, z_ix8_7, Bool.not_eq_true', decide_eq_false_iff_not, ite_not, Bool.false_eq_true, Int.reduceEq, wipeE, backE, IL_fz, IL_isFz, fz_fz, fzL_fzL, List.set_cons_zero, List.set_cons_succ, List.getElem?_cons_zero, List.getElem?_cons_succ, List.length_cons, List.length_nil, and_true, true_and, Bool.and_true, Bool.true_and, Bool.not_true, Bool.not_false, Bool.not_not, if_true, if_false, ite_true, ite_false, Option.map_some, Option.some.injEq, exists_eq_left, exists_eq_left', D.int.injEq, D.lst.injEq, D.bl.injEq, D.str.injEq, D.tup.injEq, List.cons_append, List.nil_append, List.not_mem_nil, not_false_eq_true, Bool.false_eq_true, List.all_cons, List.all_nil, reduceIte, reduceCtorEq, List.isEmpty_cons, List.isEmpty_nil, eq_self, decide_true, decide_false, Bool.if_true_left, exists_eq, exists_eq', decide_eq_true_eq, Int.reduceToNat, Int.reducePow, Int.reduceNeg, Int.reduceLT, Int.reduceLE, Int.reduceSub, Int.reduceAdd, and_false, false_and, List.mem_cons, or_false, false_or, exists_and_left, Nat.zero_add, ne_eq, not_true_eq_false, Nat.reduceAdd, Nat.reduceLT, Nat.reduceEqDiff, Nat.reduceLeDiff])
  refine ⟨_, ts, rfl, ht, rfl, ?_⟩
  (try simp only [hm, z_get0, z_getS, z_borV, z_stillV, z_stillsV, z_stillsN, z_shareV, z_bor_con, z_still_con, z_stills_con, z_share_con, z_bor_glo, z_still_glo, z_stills_glo, z_share_glo, z_bor_bin, z_still_bin, z_stills_bin, z_share_bin, z_bor_neg, z_still_neg, z_stills_neg, z_share_neg, z_bor_nt, z_still_nt, z_stills_nt, z_share_nt, z_bor_bo, z_still_bo, z_stills_bo, z_share_bo, z_bor_cmp, z_still_cmp, z_stills_cmp, z_share_cmp, z_bor_chn, z_still_chn, z_stills_chn, z_share_chn, z_bor_ife, z_still_ife, z_stills_ife, z_share_ife, z_bor_call, z_still_call, z_stills_call, z_share_call, z_bor_calk, z_still_calk, z_stills_calk, z_share_calk, z_bor_bi, z_still_bi, z_stills_bi, z_share_bi, z_bor_isi, z_still_isi, z_stills_isi, z_share_isi, z_bor_sub, z_still_sub, z_stills_sub, z_share_sub, z_bor_slc, z_still_slc, z_stills_slc, z_share_slc, z_bor_rpr, z_still_rpr, z_stills_rpr, z_share_rpr, z_bor_tup, z_still_tup, z_stills_tup, z_share_tup, z_bor_lst, z_still_lst, z_stills_lst, z_share_lst, z_bor_lc, z_still_lc, z_stills_lc, z_share_lc, z_bor_mov, z_still_mov, z_stills_mov, z_share_mov, z_setNm, z_setTpT, z_setTpL, z_setsN, z_setsC, z_putN, z_putC, z_var, z_mov, z_con, z_glo, z_bin, z_neg, z_nt, z_bo, z_cmp, z_chn, z_ife, z_call, z_calk, z_bi, z_isi, z_sub, z_slc, z_tup, z_lst, z_rprL, z_rprT, z_lc, z_esN, z_esC, z_bsN, z_bsC, z_aN, z_aM, z_aF, z_aE, z_oN, z_oY, z_bo1, z_bo2, zt_nt, zt_bo, zt_cmp, zt_chn, zt_isi, zt_call, zt_var, zt_bi, zt_to1, zt_to2, zt_tsN, zt_ts1, i_ex, i_r1, i_r2, i_r3, i_zip, i_enum, i_rev, c_asg, c_par, c_pst, c_pag, c_aug, c_app, c_exp, c_ite, c_for, c_ret, c_rtn, c_brk, c_cnt, c_pas, c_nev, c_nil, c_cons, b_add, b_sub, b_mul, b_fdiv, b_mod, b_pow, b_shl, b_shr, b_cat, b_rep, a_add, a_sub, a_mul, a_mod, q_eqI, q_neI, q_eqS, q_neS, q_eqB, q_neB, q_eqNil, q_neNil, q_lt, q_le, q_gt, q_ge, q_is, q_isnt, r_bl, r_int, r_lst, r_tup, s_szL, s_szT, s_subL, s_subT, s_slcL, s_slcT, s_itL, s_itT, s_liL, n_lenL, n_lenT, n_abs, n_min2, n_max2, n_int, n_intB, n_listL, n_listT, n_tupL, n_strI, n_boolI, n_allL, n_anyL, n_sumL, f_non, f_bl, f_int, f_str, f_tup, f_lst, f_nil, f_cons, g_int, g_bl, g_non, g_str, g_lstF, g_tup, g_lstT, g_nil, g_cons, o_nil, o_0, o_1, z_cast0, z_cast1, z_cast2, z_cast3, z_cast4, z_cast5, z_cast6, z_cast7, z_cast8, z_cast9, z_cast10, z_cast11, z_cast12, l_ltl0, l_ltl1, l_ltl2, l_ltl3, l_ltl4, l_ltl5, l_ltl6, l_ltl7, l_ltl8, l_ltl9, l_ltl10, l_ltl11, l_ltl12, l_line0, l_line1, l_line2, l_line3, l_line4, l_line5, l_line6, l_line7, l_line8, l_line9, l_line10, l_line11, l_line12, k_NoneType_int, k_NoneType_bool, k_NoneType_str, k_NoneType_list, k_NoneType_tuple, k_NoneType_dict, k_bool_int, k_bool_bool, k_bool_str, k_bool_list, k_bool_tuple, k_bool_dict, k_int_int, k_int_bool, k_int_str, k_int_list, k_int_tuple, k_int_dict, k_str_int, k_str_bool, k_str_str, k_str_list, k_str_tuple, k_str_dict, k_tuple_int, k_tuple_bool, k_tuple_str, k_tuple_list, k_tuple_tuple, k_tuple_dict, k_list_int, k_list_bool, k_list_str, k_list_list, k_list_tuple, k_list_dict, z_at0, z_at1, z_at2, z_at3, z_at4, z_at5, z_at6, z_at7, z_at8, z_ix1_0, z_ix2_0, z_ix2_1, z_ix3_0, z_ix3_1, z_ix3_2, z_ix4_0, z_ix4_1, z_ix4_2, z_ix4_3, z_ix5_0, z_ix5_1, z_ix5_2, z_ix5_3, z_ix5_4, z_ix6_0, z_ix6_1, z_ix6_2, z_ix6_3, z_ix6_4, z_ix6_5, z_ix7_0, z_ix7_1, z_ix7_2, z_ix7_3, z_ix7_4, z_ix7_5, z_ix7_6, z_ix8_0, z_ix8_1, z_ix8_2, z_ix8_3, z_ix8_4, z_ix8_5, z_ix8_6, z_ix8_7, Bool.not_eq_true', decide_eq_false_iff_not, ite_not, Bool.false_eq_true, Int.reduceEq, wipeE, backE, IL_fz, IL_isFz, fz_fz, fzL_fzL, List.set_cons_zero, List.set_cons_succ, List.getElem?_cons_zero, List.getElem?_cons_succ, List.length_cons, List.length_nil, and_true, true_and, Bool.and_true, Bool.true_and, Bool.not_true, Bool.not_false, Bool.not_not, if_true, if_false, ite_true, ite_false, Option.map_some, Option.some.injEq, exists_eq_left, exists_eq_left', D.int.injEq, D.lst.injEq, D.bl.injEq, D.str.injEq, D.tup.injEq, List.cons_append, List.nil_append, List.not_mem_nil, not_false_eq_true, Bool.false_eq_true, List.all_cons, List.all_nil, reduceIte, reduceCtorEq, List.isEmpty_cons, List.isEmpty_nil, eq_self, decide_true, decide_false, Bool.if_true_left, exists_eq, exists_eq', decide_eq_true_eq, Int.reduceToNat, Int.reducePow, Int.reduceNeg, Int.reduceLT, Int.reduceLE, Int.reduceSub, Int.reduceAdd, and_false, false_and, List.mem_cons, or_false, false_or, exists_and_left, Nat.zero_add, ne_eq, not_true_eq_false, Nat.reduceAdd, Nat.reduceLT, Nat.reduceEqDiff, Nat.reduceLeDiff])
  refine ⟨_, qs, _, ps, _, ts, rfl, hlk.2.2.1, hc.len, rfl, ?_⟩
  (try simp only [hm, z_get0, z_getS, z_borV, z_stillV, z_stillsV, z_stillsN, z_shareV, z_bor_con, z_still_con, z_stills_con, z_share_con, z_bor_glo, z_still_glo, z_stills_glo, z_share_glo, z_bor_bin, z_still_bin, z_stills_bin, z_share_bin, z_bor_neg, z_still_neg, z_stills_neg, z_share_neg, z_bor_nt, z_still_nt, z_stills_nt, z_share_nt, z_bor_bo, z_still_bo, z_stills_bo, z_share_bo, z_bor_cmp, z_still_cmp, z_stills_cmp, z_share_cmp, z_bor_chn, z_still_chn, z_stills_chn, z_share_chn, z_bor_ife, z_still_ife, z_stills_ife, z_share_ife, z_bor_call, z_still_call, z_stills_call, z_share_call, z_bor_calk, z_still_calk, z_stills_calk, z_share_calk, z_bor_bi, z_still_bi, z_stills_bi, z_share_bi, z_bor_isi, z_still_isi, z_stills_isi, z_share_isi, z_bor_sub, z_still_sub, z_stills_sub, z_share_sub, z_bor_slc, z_still_slc, z_stills_slc, z_share_slc, z_bor_rpr, z_still_rpr, z_stills_rpr, z_share_rpr, z_bor_tup, z_still_tup, z_stills_tup, z_share_tup, z_bor_lst, z_still_lst, z_stills_lst, z_share_lst, z_bor_lc, z_still_lc, z_stills_lc, z_share_lc, z_bor_mov, z_still_mov, z_stills_mov, z_share_mov, z_setNm, z_setTpT, z_setTpL, z_setsN, z_setsC, z_putN, z_putC, z_var, z_mov, z_con, z_glo, z_bin, z_neg, z_nt, z_bo, z_cmp, z_chn, z_ife, z_call, z_calk, z_bi, z_isi, z_sub, z_slc, z_tup, z_lst, z_rprL, z_rprT, z_lc, z_esN, z_esC, z_bsN, z_bsC, z_aN, z_aM, z_aF, z_aE, z_oN, z_oY, z_bo1, z_bo2, zt_nt, zt_bo, zt_cmp, zt_chn, zt_isi, zt_call, zt_var, zt_bi, zt_to1, zt_to2, zt_tsN, zt_ts1, i_ex, i_r1, i_r2, i_r3, i_zip, i_enum, i_rev, c_asg, c_par, c_pst, c_pag, c_aug, c_app, c_exp, c_ite, c_for, c_ret, c_rtn, c_brk, c_cnt, c_pas, c_nev, c_nil, c_cons, b_add, b_sub, b_mul, b_fdiv, b_mod, b_pow, b_shl, b_shr, b_cat, b_rep, a_add, a_sub, a_mul, a_mod, q_eqI, q_neI, q_eqS, q_neS, q_eqB, q_neB, q_eqNil, q_neNil, q_lt, q_le, q_gt, q_ge, q_is, q_isnt, r_bl, r_int, r_lst, r_tup, s_szL, s_szT, s_subL, s_subT, s_slcL, s_slcT, s_itL, s_itT, s_liL, n_lenL, n_lenT, n_abs, n_min2, n_max2, n_int, n_intB, n_listL, n_listT, n_tupL, n_strI, n_boolI, n_allL, n_anyL, n_sumL, f_non, f_bl, f_int, f_str, f_tup, f_lst, f_nil, f_cons, g_int, g_bl, g_non, g_str, g_lstF, g_tup, g_lstT, g_nil, g_cons, o_nil, o_0, o_1, z_cast0, z_cast1, z_cast2, z_cast3, z_cast4, z_cast5, z_cast6, z_cast7, z_cast8, z_cast9, z_cast10, z_cast11, z_cast12, l_ltl0, l_ltl1, l_ltl2, l_ltl3, l_ltl4, l_ltl5, l_ltl6, l_ltl7, l_ltl8, l_ltl9, l_ltl10, l_ltl11, l_ltl12, l_line0, l_line1, l_line2, l_line3, l_line4, l_line5, l_line6, l_line7, l_line8, l_line9, l_line10, l_line11, l_line12, k_NoneType_int, k_NoneType_bool, k_NoneType_str, k_NoneType_list, k_NoneType_tuple, k_NoneType_dict, k_bool_int, k_bool_bool, k_bool_str, k_bool_list, k_bool_tuple, k_bool_dict, k_int_int, k_int_bool, k_int_str, k_int_list, k_int_tuple, k_int_dict, k_str_int, k_str_bool, k_str_str, k_str_list, k_str_tuple, k_str_dict, k_tuple_int, k_tuple_bool, k_tuple_str, k_tuple_list, k_tuple_tuple, k_tuple_dict, k_list_int, k_list_bool, k_list_str, k_list_list, k_list_tuple, k_list_dict, z_at0, z_at1, z_at2, z_at3, z_at4, z_at5, z_at6, z_at7, z_at8, z_ix1_0, z_ix2_0, z_ix2_1, z_ix3_0, z_ix3_1, z_ix3_2, z_ix4_0, z_ix4_1, z_ix4_2, z_ix4_3, z_ix5_0, z_ix5_1, z_ix5_2, z_ix5_3, z_ix5_4, z_ix6_0, z_ix6_1, z_ix6_2, z_ix6_3, z_ix6_4, z_ix6_5, z_ix7_0, z_ix7_1, z_ix7_2, z_ix7_3, z_ix7_4, z_ix7_5, z_ix7_6, z_ix8_0, z_ix8_1, z_ix8_2, z_ix8_3, z_ix8_4, z_ix8_5, z_ix8_6, z_ix8_7, Bool.not_eq_true', decide_eq_false_iff_not, ite_not, Bool.false_eq_true, Int.reduceEq, wipeE, backE, IL_fz, IL_isFz, fz_fz, fzL_fzL, List.set_cons_zero, List.set_cons_succ, List.getElem?_cons_zero, List.getElem?_cons_succ, List.length_cons, List.length_nil, and_true, true_and, Bool.and_true, Bool.true_and, Bool.not_true, Bool.not_false, Bool.not_not, if_true, if_false, ite_true, ite_false, Option.map_some, Option.some.injEq, exists_eq_left, exists_eq_left', D.int.injEq, D.lst.injEq, D.bl.injEq, D.str.injEq, D.tup.injEq, List.cons_append, List.nil_append, List.not_mem_nil, not_false_eq_true, Bool.false_eq_true, List.all_cons, List.all_nil, reduceIte, reduceCtorEq, List.isEmpty_cons, List.isEmpty_nil, eq_self, decide_true, decide_false, Bool.if_true_left, exists_eq, exists_eq', decide_eq_true_eq, Int.reduceToNat, Int.reducePow, Int.reduceNeg, Int.reduceLT, Int.reduceLE, Int.reduceSub, Int.reduceAdd, and_false, false_and, List.mem_cons, or_false, false_or, exists_and_left, Nat.zero_add, ne_eq, not_true_eq_false, Nat.reduceAdd, Nat.reduceLT, Nat.reduceEqDiff, Nat.reduceLeDiff])
  exact q
def wayT (ts : List Int) : Int := (ts.map fun t => if t < 0 then -t else t).sum
def sp_way_of : FSpec := fun ds Q _ => ∃ o ts, ds = [.lst o (IL ts)] ∧ Turns ts ∧ Q (.int (wayT ts)) []
theorem line60 {n : Nat} (h : n ≤ 70) : n < sizeLine := Nat.lt_of_le_of_lt h (Nat.lt_of_lt_of_le (by decide) (Nat.le_of_ble_eq_true (rfl : Nat.ble 71 sizeLine = true)))
theorem w_way_of {Γ : Sig} (hm : Γ.me = []) (H1 : Has Γ "require_turns" [] sp_require_turns) (ds : List D) (Q : D → List D → Prop) (R : Exc → Prop) (h : sp_way_of ds Q R) : wpF Γ f_way_of ds Q R := by
  obtain ⟨o, ts, rfl, ht, q⟩ := h
  simp only [wpF_eq, f_way_of, startE, hm, H1.sp, H1.io, List.map_cons, List.map_nil, IL_len, z_get0, z_getS, z_borV, z_stillV, z_stillsV, z_stillsN, z_shareV, z_bor_con, z_still_con, z_stills_con, z_share_con, z_bor_glo, z_still_glo, z_stills_glo, z_share_glo, z_bor_bin, z_still_bin, z_stills_bin, z_share_bin, z_bor_neg, z_still_neg, z_stills_neg, z_share_neg, z_bor_nt, z_still_nt, z_stills_nt, z_share_nt, z_bor_bo, z_still_bo, z_stills_bo, z_share_bo, z_bor_cmp, z_still_cmp, z_stills_cmp, z_share_cmp, z_bor_chn, z_still_chn, z_stills_chn, z_share_chn, z_bor_ife, z_still_ife, z_stills_ife, z_share_ife, z_bor_call, z_still_call, z_stills_call, z_share_call, z_bor_calk, z_still_calk, z_stills_calk, z_share_calk, z_bor_bi, z_still_bi, z_stills_bi, z_share_bi, z_bor_isi, z_still_isi, z_stills_isi, z_share_isi, z_bor_sub, z_still_sub, z_stills_sub, z_share_sub, z_bor_slc, z_still_slc, z_stills_slc, z_share_slc, z_bor_rpr, z_still_rpr, z_stills_rpr, z_share_rpr, z_bor_tup, z_still_tup, z_stills_tup, z_share_tup, z_bor_lst, z_still_lst, z_stills_lst, z_share_lst, z_bor_lc, z_still_lc, z_stills_lc, z_share_lc, z_bor_mov, z_still_mov, z_stills_mov, z_share_mov, z_setNm, z_setTpT, z_setTpL, z_setsN, z_setsC, z_putN, z_putC, z_var, z_mov, z_con, z_glo, z_bin, z_neg, z_nt, z_bo, z_cmp, z_chn, z_ife, z_call, z_calk, z_bi, z_isi, z_sub, z_slc, z_tup, z_lst, z_rprL, z_rprT, z_lc, z_esN, z_esC, z_bsN, z_bsC, z_aN, z_aM, z_aF, z_aE, z_oN, z_oY, z_bo1, z_bo2, zt_nt, zt_bo, zt_cmp, zt_chn, zt_isi, zt_call, zt_var, zt_bi, zt_to1, zt_to2, zt_tsN, zt_ts1, i_ex, i_r1, i_r2, i_r3, i_zip, i_enum, i_rev, c_asg, c_par, c_pst, c_pag, c_aug, c_app, c_exp, c_ite, c_for, c_ret, c_rtn, c_brk, c_cnt, c_pas, c_nev, c_nil, c_cons, b_add, b_sub, b_mul, b_fdiv, b_mod, b_pow, b_shl, b_shr, b_cat, b_rep, a_add, a_sub, a_mul, a_mod, q_eqI, q_neI, q_eqS, q_neS, q_eqB, q_neB, q_eqNil, q_neNil, q_lt, q_le, q_gt, q_ge, q_is, q_isnt, r_bl, r_int, r_lst, r_tup, s_szL, s_szT, s_subL, s_subT, s_slcL, s_slcT, s_itL, s_itT, s_liL, n_lenL, n_lenT, n_abs, n_min2, n_max2, n_int, n_intB, n_listL, n_listT, n_tupL, n_strI, n_boolI, n_allL, n_anyL, n_sumL, f_non, f_bl, f_int, f_str, f_tup, f_lst, f_nil, f_cons, g_int, g_bl, g_non, g_str, g_lstF, g_tup, g_lstT, g_nil, g_cons, o_nil, o_0, o_1, z_cast0, z_cast1, z_cast2, z_cast3, z_cast4, z_cast5, z_cast6, z_cast7, z_cast8, z_cast9, z_cast10, z_cast11, z_cast12, l_ltl0, l_ltl1, l_ltl2, l_ltl3, l_ltl4, l_ltl5, l_ltl6, l_ltl7, l_ltl8, l_ltl9, l_ltl10, l_ltl11, l_ltl12, l_line0, l_line1, l_line2, l_line3, l_line4, l_line5, l_line6, l_line7, l_line8, l_line9, l_line10, l_line11, l_line12, k_NoneType_int, k_NoneType_bool, k_NoneType_str, k_NoneType_list, k_NoneType_tuple, k_NoneType_dict, k_bool_int, k_bool_bool, k_bool_str, k_bool_list, k_bool_tuple, k_bool_dict, k_int_int, k_int_bool, k_int_str, k_int_list, k_int_tuple, k_int_dict, k_str_int, k_str_bool, k_str_str, k_str_list, k_str_tuple, k_str_dict, k_tuple_int, k_tuple_bool, k_tuple_str, k_tuple_list, k_tuple_tuple, k_tuple_dict, k_list_int, k_list_bool, k_list_str, k_list_list, k_list_tuple, k_list_dict, z_at0, z_at1, z_at2, z_at3, z_at4, z_at5, z_at6, z_at7, z_at8, z_ix1_0, z_ix2_0, z_ix2_1, z_ix3_0, z_ix3_1, z_ix3_2, z_ix4_0, z_ix4_1, z_ix4_2, z_ix4_3, z_ix5_0, z_ix5_1, z_ix5_2, z_ix5_3, z_ix5_4, z_ix6_0, z_ix6_1, z_ix6_2, z_ix6_3, z_ix6_4, z_ix6_5, z_ix7_0, z_ix7_1, z_ix7_2, z_ix7_3, z_ix7_4, z_ix7_5, z_ix7_6, z_ix8_0, z_ix8_1, z_ix8_2, z_ix8_3, z_ix8_4, z_ix8_5, z_ix8_6, z_ix8_7, Bool.not_eq_true', decide_eq_false_iff_not, ite_not, Bool.false_eq_true, Int.reduceEq, wipeE, backE, IL_fz, IL_isFz, fz_fz, fzL_fzL, List.set_cons_zero, List.set_cons_succ, List.getElem?_cons_zero, List.getElem?_cons_succ, List.length_cons, List.length_nil, and_true, true_and, Bool.and_true, Bool.true_and, Bool.not_true, Bool.not_false, Bool.not_not, if_true, if_false, ite_true, ite_false, Option.map_some, Option.some.injEq, exists_eq_left, exists_eq_left', D.int.injEq, D.lst.injEq, D.bl.injEq, D.str.injEq, D.tup.injEq, List.cons_append, List.nil_append, List.not_mem_nil, not_false_eq_true, Bool.false_eq_true, List.all_cons, List.all_nil, reduceIte, reduceCtorEq, List.isEmpty_cons, List.isEmpty_nil, eq_self, decide_true, decide_false, Bool.if_true_left, exists_eq, exists_eq', decide_eq_true_eq, Int.reduceToNat, Int.reducePow, Int.reduceNeg, Int.reduceLT, Int.reduceLE, Int.reduceSub, Int.reduceAdd, and_false, false_and, List.mem_cons, or_false, false_or, exists_and_left, Nat.zero_add, ne_eq, not_true_eq_false, Nat.reduceAdd, Nat.reduceLT, Nat.reduceEqDiff, Nat.reduceLeDiff]
  refine ⟨_, ts, rfl, ht, rfl, ?_⟩
  (try simp only [hm, z_get0, z_getS, z_borV, z_stillV, z_stillsV, z_stillsN, z_shareV, z_bor_con, z_still_con, z_stills_con, z_share_con, z_bor_glo, z_still_glo, z_stills_glo, z_share_glo, z_bor_bin, z_still_bin, z_stills_bin, z_share_bin, z_bor_neg, z_still_neg, z_stills_neg, z_share_neg, z_bor_nt, z_still_nt, z_stills_nt, z_share_nt, z_bor_bo, z_still_bo, z_stills_bo, z_share_bo, z_bor_cmp, z_still_cmp, z_stills_cmp, z_share_cmp, z_bor_chn, z_still_chn, z_stills_chn, z_share_chn, z_bor_ife, z_still_ife, z_stills_ife, z_share_ife, z_bor_call, z_still_call, z_stills_call, z_share_call, z_bor_calk, z_still_calk, z_stills_calk, z_share_calk, z_bor_bi, z_still_bi, z_stills_bi, z_share_bi, z_bor_isi, z_still_isi, z_stills_isi, z_share_isi, z_bor_sub, z_still_sub, z_stills_sub, z_share_sub, z_bor_slc, z_still_slc, z_stills_slc, z_share_slc, z_bor_rpr, z_still_rpr, z_stills_rpr, z_share_rpr, z_bor_tup, z_still_tup, z_stills_tup, z_share_tup, z_bor_lst, z_still_lst, z_stills_lst, z_share_lst, z_bor_lc, z_still_lc, z_stills_lc, z_share_lc, z_bor_mov, z_still_mov, z_stills_mov, z_share_mov, z_setNm, z_setTpT, z_setTpL, z_setsN, z_setsC, z_putN, z_putC, z_var, z_mov, z_con, z_glo, z_bin, z_neg, z_nt, z_bo, z_cmp, z_chn, z_ife, z_call, z_calk, z_bi, z_isi, z_sub, z_slc, z_tup, z_lst, z_rprL, z_rprT, z_lc, z_esN, z_esC, z_bsN, z_bsC, z_aN, z_aM, z_aF, z_aE, z_oN, z_oY, z_bo1, z_bo2, zt_nt, zt_bo, zt_cmp, zt_chn, zt_isi, zt_call, zt_var, zt_bi, zt_to1, zt_to2, zt_tsN, zt_ts1, i_ex, i_r1, i_r2, i_r3, i_zip, i_enum, i_rev, c_asg, c_par, c_pst, c_pag, c_aug, c_app, c_exp, c_ite, c_for, c_ret, c_rtn, c_brk, c_cnt, c_pas, c_nev, c_nil, c_cons, b_add, b_sub, b_mul, b_fdiv, b_mod, b_pow, b_shl, b_shr, b_cat, b_rep, a_add, a_sub, a_mul, a_mod, q_eqI, q_neI, q_eqS, q_neS, q_eqB, q_neB, q_eqNil, q_neNil, q_lt, q_le, q_gt, q_ge, q_is, q_isnt, r_bl, r_int, r_lst, r_tup, s_szL, s_szT, s_subL, s_subT, s_slcL, s_slcT, s_itL, s_itT, s_liL, n_lenL, n_lenT, n_abs, n_min2, n_max2, n_int, n_intB, n_listL, n_listT, n_tupL, n_strI, n_boolI, n_allL, n_anyL, n_sumL, f_non, f_bl, f_int, f_str, f_tup, f_lst, f_nil, f_cons, g_int, g_bl, g_non, g_str, g_lstF, g_tup, g_lstT, g_nil, g_cons, o_nil, o_0, o_1, z_cast0, z_cast1, z_cast2, z_cast3, z_cast4, z_cast5, z_cast6, z_cast7, z_cast8, z_cast9, z_cast10, z_cast11, z_cast12, l_ltl0, l_ltl1, l_ltl2, l_ltl3, l_ltl4, l_ltl5, l_ltl6, l_ltl7, l_ltl8, l_ltl9, l_ltl10, l_ltl11, l_ltl12, l_line0, l_line1, l_line2, l_line3, l_line4, l_line5, l_line6, l_line7, l_line8, l_line9, l_line10, l_line11, l_line12, k_NoneType_int, k_NoneType_bool, k_NoneType_str, k_NoneType_list, k_NoneType_tuple, k_NoneType_dict, k_bool_int, k_bool_bool, k_bool_str, k_bool_list, k_bool_tuple, k_bool_dict, k_int_int, k_int_bool, k_int_str, k_int_list, k_int_tuple, k_int_dict, k_str_int, k_str_bool, k_str_str, k_str_list, k_str_tuple, k_str_dict, k_tuple_int, k_tuple_bool, k_tuple_str, k_tuple_list, k_tuple_tuple, k_tuple_dict, k_list_int, k_list_bool, k_list_str, k_list_list, k_list_tuple, k_list_dict, z_at0, z_at1, z_at2, z_at3, z_at4, z_at5, z_at6, z_at7, z_at8, z_ix1_0, z_ix2_0, z_ix2_1, z_ix3_0, z_ix3_1, z_ix3_2, z_ix4_0, z_ix4_1, z_ix4_2, z_ix4_3, z_ix5_0, z_ix5_1, z_ix5_2, z_ix5_3, z_ix5_4, z_ix6_0, z_ix6_1, z_ix6_2, z_ix6_3, z_ix6_4, z_ix6_5, z_ix7_0, z_ix7_1, z_ix7_2, z_ix7_3, z_ix7_4, z_ix7_5, z_ix7_6, z_ix8_0, z_ix8_1, z_ix8_2, z_ix8_3, z_ix8_4, z_ix8_5, z_ix8_6, z_ix8_7, Bool.not_eq_true', decide_eq_false_iff_not, ite_not, Bool.false_eq_true, Int.reduceEq, wipeE, backE, IL_fz, IL_isFz, fz_fz, fzL_fzL, List.set_cons_zero, List.set_cons_succ, List.getElem?_cons_zero, List.getElem?_cons_succ, List.length_cons, List.length_nil, and_true, true_and, Bool.and_true, Bool.true_and, Bool.not_true, Bool.not_false, Bool.not_not, if_true, if_false, ite_true, ite_false, Option.map_some, Option.some.injEq, exists_eq_left, exists_eq_left', D.int.injEq, D.lst.injEq, D.bl.injEq, D.str.injEq, D.tup.injEq, List.cons_append, List.nil_append, List.not_mem_nil, not_false_eq_true, Bool.false_eq_true, List.all_cons, List.all_nil, reduceIte, reduceCtorEq, List.isEmpty_cons, List.isEmpty_nil, eq_self, decide_true, decide_false, Bool.if_true_left, exists_eq, exists_eq', decide_eq_true_eq, Int.reduceToNat, Int.reducePow, Int.reduceNeg, Int.reduceLT, Int.reduceLE, Int.reduceSub, Int.reduceAdd, and_false, false_and, List.mem_cons, or_false, false_or, exists_and_left, Nat.zero_add, ne_eq, not_true_eq_false, Nat.reduceAdd, Nat.reduceLT, Nat.reduceEqDiff, Nat.reduceLeDiff])
  refine lcD (fun items acc e => ∃ (l g : List Int) (u : Option D), items = IL l ∧ acc = IL (g.map fun t => if t < 0 then -t else t) ∧ g ++ l = ts ∧ e = [some (.lst false (IL ts)), u]) ⟨ts, [], _, rfl, rfl, rfl, rfl⟩ ?_ ?_
  · rintro acc e ⟨l, g, u, hi, rfl, hg, rfl⟩
    cases l with
    | cons _ _ => simp [IL] at hi
    | nil =>
      refine ⟨_, ints_map _, ?_⟩
      rw [List.append_nil] at hg
      rw [hg]
      exact q
  · rintro x xs acc e k ⟨l, g, u, hi, rfl, hg, rfl⟩ hk
    cases l with
    | nil => simp [IL] at hi
    | cons p l =>
      simp only [IL_cons, List.cons.injEq] at hi
      obtain ⟨rfl, rfl⟩ := hi
      have hn : g.length ≤ 60 := by have := congrArg List.length hg; have := ht.1; simp at *; omega
      simp only [lcStep, hm, IL_len, List.length_map, IL_app, z_get0, z_getS, z_borV, z_stillV, z_stillsV, z_stillsN, z_shareV, z_bor_con, z_still_con, z_stills_con, z_share_con, z_bor_glo, z_still_glo, z_stills_glo, z_share_glo, z_bor_bin, z_still_bin, z_stills_bin, z_share_bin, z_bor_neg, z_still_neg, z_stills_neg, z_share_neg, z_bor_nt, z_still_nt, z_stills_nt, z_share_nt, z_bor_bo, z_still_bo, z_stills_bo, z_share_bo, z_bor_cmp, z_still_cmp, z_stills_cmp, z_share_cmp, z_bor_chn, z_still_chn, z_stills_chn, z_share_chn, z_bor_ife, z_still_ife, z_stills_ife, z_share_ife, z_bor_call, z_still_call, z_stills_call, z_share_call, z_bor_calk, z_still_calk, z_stills_calk, z_share_calk, z_bor_bi, z_still_bi, z_stills_bi, z_share_bi, z_bor_isi, z_still_isi, z_stills_isi, z_share_isi, z_bor_sub, z_still_sub, z_stills_sub, z_share_sub, z_bor_slc, z_still_slc, z_stills_slc, z_share_slc, z_bor_rpr, z_still_rpr, z_stills_rpr, z_share_rpr, z_bor_tup, z_still_tup, z_stills_tup, z_share_tup, z_bor_lst, z_still_lst, z_stills_lst, z_share_lst, z_bor_lc, z_still_lc, z_stills_lc, z_share_lc, z_bor_mov, z_still_mov, z_stills_mov, z_share_mov, z_setNm, z_setTpT, z_setTpL, z_setsN, z_setsC, z_putN, z_putC, z_var, z_mov, z_con, z_glo, z_bin, z_neg, z_nt, z_bo, z_cmp, z_chn, z_ife, z_call, z_calk, z_bi, z_isi, z_sub, z_slc, z_tup, z_lst, z_rprL, z_rprT, z_lc, z_esN, z_esC, z_bsN, z_bsC, z_aN, z_aM, z_aF, z_aE, z_oN, z_oY, z_bo1, z_bo2, zt_nt, zt_bo, zt_cmp, zt_chn, zt_isi, zt_call, zt_var, zt_bi, zt_to1, zt_to2, zt_tsN, zt_ts1, i_ex, i_r1, i_r2, i_r3, i_zip, i_enum, i_rev, c_asg, c_par, c_pst, c_pag, c_aug, c_app, c_exp, c_ite, c_for, c_ret, c_rtn, c_brk, c_cnt, c_pas, c_nev, c_nil, c_cons, b_add, b_sub, b_mul, b_fdiv, b_mod, b_pow, b_shl, b_shr, b_cat, b_rep, a_add, a_sub, a_mul, a_mod, q_eqI, q_neI, q_eqS, q_neS, q_eqB, q_neB, q_eqNil, q_neNil, q_lt, q_le, q_gt, q_ge, q_is, q_isnt, r_bl, r_int, r_lst, r_tup, s_szL, s_szT, s_subL, s_subT, s_slcL, s_slcT, s_itL, s_itT, s_liL, n_lenL, n_lenT, n_abs, n_min2, n_max2, n_int, n_intB, n_listL, n_listT, n_tupL, n_strI, n_boolI, n_allL, n_anyL, n_sumL, f_non, f_bl, f_int, f_str, f_tup, f_lst, f_nil, f_cons, g_int, g_bl, g_non, g_str, g_lstF, g_tup, g_lstT, g_nil, g_cons, o_nil, o_0, o_1, z_cast0, z_cast1, z_cast2, z_cast3, z_cast4, z_cast5, z_cast6, z_cast7, z_cast8, z_cast9, z_cast10, z_cast11, z_cast12, l_ltl0, l_ltl1, l_ltl2, l_ltl3, l_ltl4, l_ltl5, l_ltl6, l_ltl7, l_ltl8, l_ltl9, l_ltl10, l_ltl11, l_ltl12, l_line0, l_line1, l_line2, l_line3, l_line4, l_line5, l_line6, l_line7, l_line8, l_line9, l_line10, l_line11, l_line12, k_NoneType_int, k_NoneType_bool, k_NoneType_str, k_NoneType_list, k_NoneType_tuple, k_NoneType_dict, k_bool_int, k_bool_bool, k_bool_str, k_bool_list, k_bool_tuple, k_bool_dict, k_int_int, k_int_bool, k_int_str, k_int_list, k_int_tuple, k_int_dict, k_str_int, k_str_bool, k_str_str, k_str_list, k_str_tuple, k_str_dict, k_tuple_int, k_tuple_bool, k_tuple_str, k_tuple_list, k_tuple_tuple, k_tuple_dict, k_list_int, k_list_bool, k_list_str, k_list_list, k_list_tuple, k_list_dict, z_at0, z_at1, z_at2, z_at3, z_at4, z_at5, z_at6, z_at7, z_at8, z_ix1_0, z_ix2_0, z_ix2_1, z_ix3_0, z_ix3_1, z_ix3_2, z_ix4_0, z_ix4_1, z_ix4_2, z_ix4_3, z_ix5_0, z_ix5_1, z_ix5_2, z_ix5_3, z_ix5_4, z_ix6_0, z_ix6_1, z_ix6_2, z_ix6_3, z_ix6_4, z_ix6_5, z_ix7_0, z_ix7_1, z_ix7_2, z_ix7_3, z_ix7_4, z_ix7_5, z_ix7_6, z_ix8_0, z_ix8_1, z_ix8_2, z_ix8_3, z_ix8_4, z_ix8_5, z_ix8_6, z_ix8_7, Bool.not_eq_true', decide_eq_false_iff_not, ite_not, Bool.false_eq_true, Int.reduceEq, wipeE, backE, IL_fz, IL_isFz, fz_fz, fzL_fzL, List.set_cons_zero, List.set_cons_succ, List.getElem?_cons_zero, List.getElem?_cons_succ, List.length_cons, List.length_nil, and_true, true_and, Bool.and_true, Bool.true_and, Bool.not_true, Bool.not_false, Bool.not_not, if_true, if_false, ite_true, ite_false, Option.map_some, Option.some.injEq, exists_eq_left, exists_eq_left', D.int.injEq, D.lst.injEq, D.bl.injEq, D.str.injEq, D.tup.injEq, List.cons_append, List.nil_append, List.not_mem_nil, not_false_eq_true, Bool.false_eq_true, List.all_cons, List.all_nil, reduceIte, reduceCtorEq, List.isEmpty_cons, List.isEmpty_nil, eq_self, decide_true, decide_false, Bool.if_true_left, exists_eq, exists_eq', decide_eq_true_eq, Int.reduceToNat, Int.reducePow, Int.reduceNeg, Int.reduceLT, Int.reduceLE, Int.reduceSub, Int.reduceAdd, and_false, false_and, List.mem_cons, or_false, false_or, exists_and_left, Nat.zero_add, ne_eq, not_true_eq_false, Nat.reduceAdd, Nat.reduceLT, Nat.reduceEqDiff, Nat.reduceLeDiff]
      refine ⟨line60 (by omega), hk _ _ ⟨l, g ++ [p], _, rfl, ?_, by rw [← hg, List.append_assoc]; rfl, rfl⟩⟩
      rw [List.map_append]; rfl
/-- one turn more -/
def putJ (g : List Int) (t : Int) : List Int := match g.getLast? with
  | some x => if (decide (0 < x)) = decide (0 < t) then g.dropLast ++ [x + t] else g ++ [t]
  | none => [t]
def joinJ : List Int → List Int → List Int
  | g, [] => g
  | g, t :: ts => joinJ (putJ g t) ts
def sp_joined_turns : FSpec := fun ds Q _ => ∃ o ts, ds = [.lst o (IL ts)] ∧ Turns ts ∧ Q (.lst true (IL (joinJ [] ts))) []
theorem w_joined_turns {Γ : Sig} (hm : Γ.me = []) (H1 : Has Γ "require_turns" [] sp_require_turns) (ds : List D) (Q : D → List D → Prop) (R : Exc → Prop) (h : sp_joined_turns ds Q R) : wpF Γ f_joined_turns ds Q R := by
  obtain ⟨o, ts, rfl, ht, q⟩ := h
  simp only [wpF_eq, f_joined_turns, startE, hm, H1.sp, H1.io, List.map_cons, List.map_nil, IL_len, z_get0, z_getS, z_borV, z_stillV, z_stillsV, z_stillsN, z_shareV, z_bor_con, z_still_con, z_stills_con, z_share_con, z_bor_glo, z_still_glo, z_stills_glo, z_share_glo, z_bor_bin, z_still_bin, z_stills_bin, z_share_bin, z_bor_neg, z_still_neg, z_stills_neg, z_share_neg, z_bor_nt, z_still_nt, z_stills_nt, z_share_nt, z_bor_bo, z_still_bo, z_stills_bo, z_share_bo, z_bor_cmp, z_still_cmp, z_stills_cmp, z_share_cmp, z_bor_chn, z_still_chn, z_stills_chn, z_share_chn, z_bor_ife, z_still_ife, z_stills_ife, z_share_ife, z_bor_call, z_still_call, z_stills_call, z_share_call, z_bor_calk, z_still_calk, z_stills_calk, z_share_calk, z_bor_bi, z_still_bi, z_stills_bi, z_share_bi, z_bor_isi, z_still_isi, z_stills_isi, z_share_isi, z_bor_sub, z_still_sub, z_stills_sub, z_share_sub, z_bor_slc, z_still_slc, z_stills_slc, z_share_slc, z_bor_rpr, z_still_rpr, z_stills_rpr, z_share_rpr, z_bor_tup, z_still_tup, z_stills_tup, z_share_tup, z_bor_lst, z_still_lst, z_stills_lst, z_share_lst, z_bor_lc, z_still_lc, z_stills_lc, z_share_lc, z_bor_mov, z_still_mov, z_stills_mov, z_share_mov, z_setNm, z_setTpT, z_setTpL, z_setsN, z_setsC, z_putN, z_putC, z_var, z_mov, z_con, z_glo, z_bin, z_neg, z_nt, z_bo, z_cmp, z_chn, z_ife, z_call, z_calk, z_bi, z_isi, z_sub, z_slc, z_tup, z_lst, z_rprL, z_rprT, z_lc, z_esN, z_esC, z_bsN, z_bsC, z_aN, z_aM, z_aF, z_aE, z_oN, z_oY, z_bo1, z_bo2, zt_nt, zt_bo, zt_cmp, zt_chn, zt_isi, zt_call, zt_var, zt_bi, zt_to1, zt_to2, zt_tsN, zt_ts1, i_ex, i_r1, i_r2, i_r3, i_zip, i_enum, i_rev, c_asg, c_par, c_pst, c_pag, c_aug, c_app, c_exp, c_ite, c_for, c_ret, c_rtn, c_brk, c_cnt, c_pas, c_nev, c_nil, c_cons, b_add, b_sub, b_mul, b_fdiv, b_mod, b_pow, b_shl, b_shr, b_cat, b_rep, a_add, a_sub, a_mul, a_mod, q_eqI, q_neI, q_eqS, q_neS, q_eqB, q_neB, q_eqNil, q_neNil, q_lt, q_le, q_gt, q_ge, q_is, q_isnt, r_bl, r_int, r_lst, r_tup, s_szL, s_szT, s_subL, s_subT, s_slcL, s_slcT, s_itL, s_itT, s_liL, n_lenL, n_lenT, n_abs, n_min2, n_max2, n_int, n_intB, n_listL, n_listT, n_tupL, n_strI, n_boolI, n_allL, n_anyL, n_sumL, f_non, f_bl, f_int, f_str, f_tup, f_lst, f_nil, f_cons, g_int, g_bl, g_non, g_str, g_lstF, g_tup, g_lstT, g_nil, g_cons, o_nil, o_0, o_1, z_cast0, z_cast1, z_cast2, z_cast3, z_cast4, z_cast5, z_cast6, z_cast7, z_cast8, z_cast9, z_cast10, z_cast11, z_cast12, l_ltl0, l_ltl1, l_ltl2, l_ltl3, l_ltl4, l_ltl5, l_ltl6, l_ltl7, l_ltl8, l_ltl9, l_ltl10, l_ltl11, l_ltl12, l_line0, l_line1, l_line2, l_line3, l_line4, l_line5, l_line6, l_line7, l_line8, l_line9, l_line10, l_line11, l_line12, k_NoneType_int, k_NoneType_bool, k_NoneType_str, k_NoneType_list, k_NoneType_tuple, k_NoneType_dict, k_bool_int, k_bool_bool, k_bool_str, k_bool_list, k_bool_tuple, k_bool_dict, k_int_int, k_int_bool, k_int_str, k_int_list, k_int_tuple, k_int_dict, k_str_int, k_str_bool, k_str_str, k_str_list, k_str_tuple, k_str_dict, k_tuple_int, k_tuple_bool, k_tuple_str, k_tuple_list, k_tuple_tuple, k_tuple_dict, k_list_int, k_list_bool, k_list_str, k_list_list, k_list_tuple, k_list_dict, z_at0, z_at1, z_at2, z_at3, z_at4, z_at5, z_at6, z_at7, z_at8, z_ix1_0, z_ix2_0, z_ix2_1, z_ix3_0, z_ix3_1, z_ix3_2, z_ix4_0, z_ix4_1, z_ix4_2, z_ix4_3, z_ix5_0, z_ix5_1, z_ix5_2, z_ix5_3, z_ix5_4, z_ix6_0, z_ix6_1, z_ix6_2, z_ix6_3, z_ix6_4, z_ix6_5, z_ix7_0, z_ix7_1, z_ix7_2, z_ix7_3, z_ix7_4, z_ix7_5, z_ix7_6, z_ix8_0, z_ix8_1, z_ix8_2, z_ix8_3, z_ix8_4, z_ix8_5, z_ix8_6, z_ix8_7, Bool.not_eq_true', decide_eq_false_iff_not, ite_not, Bool.false_eq_true, Int.reduceEq, wipeE, backE, IL_fz, IL_isFz, fz_fz, fzL_fzL, List.set_cons_zero, List.set_cons_succ, List.getElem?_cons_zero, List.getElem?_cons_succ, List.length_cons, List.length_nil, and_true, true_and, Bool.and_true, Bool.true_and, Bool.not_true, Bool.not_false, Bool.not_not, if_true, if_false, ite_true, ite_false, Option.map_some, Option.some.injEq, exists_eq_left, exists_eq_left', D.int.injEq, D.lst.injEq, D.bl.injEq, D.str.injEq, D.tup.injEq, List.cons_append, List.nil_append, List.not_mem_nil, not_false_eq_true, Bool.false_eq_true, List.all_cons, List.all_nil, reduceIte, reduceCtorEq, List.isEmpty_cons, List.isEmpty_nil, eq_self, decide_true, decide_false, Bool.if_true_left, exists_eq, exists_eq', decide_eq_true_eq, Int.reduceToNat, Int.reducePow, Int.reduceNeg, Int.reduceLT, Int.reduceLE, Int.reduceSub, Int.reduceAdd, and_false, false_and, List.mem_cons, or_false, false_or, exists_and_left, Nat.zero_add, ne_eq, not_true_eq_false, Nat.reduceAdd, Nat.reduceLT, Nat.reduceEqDiff, Nat.reduceLeDiff]
  refine ⟨_, ts, rfl, ht, rfl, ?_⟩
  (try simp only [hm, z_get0, z_getS, z_borV, z_stillV, z_stillsV, z_stillsN, z_shareV, z_bor_con, z_still_con, z_stills_con, z_share_con, z_bor_glo, z_still_glo, z_stills_glo, z_share_glo, z_bor_bin, z_still_bin, z_stills_bin, z_share_bin, z_bor_neg, z_still_neg, z_stills_neg, z_share_neg, z_bor_nt, z_still_nt, z_stills_nt, z_share_nt, z_bor_bo, z_still_bo, z_stills_bo, z_share_bo, z_bor_cmp, z_still_cmp, z_stills_cmp, z_share_cmp, z_bor_chn, z_still_chn, z_stills_chn, z_share_chn, z_bor_ife, z_still_ife, z_stills_ife, z_share_ife, z_bor_call, z_still_call, z_stills_call, z_share_call, z_bor_calk, z_still_calk, z_stills_calk, z_share_calk, z_bor_bi, z_still_bi, z_stills_bi, z_share_bi, z_bor_isi, z_still_isi, z_stills_isi, z_share_isi, z_bor_sub, z_still_sub, z_stills_sub, z_share_sub, z_bor_slc, z_still_slc, z_stills_slc, z_share_slc, z_bor_rpr, z_still_rpr, z_stills_rpr, z_share_rpr, z_bor_tup, z_still_tup, z_stills_tup, z_share_tup, z_bor_lst, z_still_lst, z_stills_lst, z_share_lst, z_bor_lc, z_still_lc, z_stills_lc, z_share_lc, z_bor_mov, z_still_mov, z_stills_mov, z_share_mov, z_setNm, z_setTpT, z_setTpL, z_setsN, z_setsC, z_putN, z_putC, z_var, z_mov, z_con, z_glo, z_bin, z_neg, z_nt, z_bo, z_cmp, z_chn, z_ife, z_call, z_calk, z_bi, z_isi, z_sub, z_slc, z_tup, z_lst, z_rprL, z_rprT, z_lc, z_esN, z_esC, z_bsN, z_bsC, z_aN, z_aM, z_aF, z_aE, z_oN, z_oY, z_bo1, z_bo2, zt_nt, zt_bo, zt_cmp, zt_chn, zt_isi, zt_call, zt_var, zt_bi, zt_to1, zt_to2, zt_tsN, zt_ts1, i_ex, i_r1, i_r2, i_r3, i_zip, i_enum, i_rev, c_asg, c_par, c_pst, c_pag, c_aug, c_app, c_exp, c_ite, c_for, c_ret, c_rtn, c_brk, c_cnt, c_pas, c_nev, c_nil, c_cons, b_add, b_sub, b_mul, b_fdiv, b_mod, b_pow, b_shl, b_shr, b_cat, b_rep, a_add, a_sub, a_mul, a_mod, q_eqI, q_neI, q_eqS, q_neS, q_eqB, q_neB, q_eqNil, q_neNil, q_lt, q_le, q_gt, q_ge, q_is, q_isnt, r_bl, r_int, r_lst, r_tup, s_szL, s_szT, s_subL, s_subT, s_slcL, s_slcT, s_itL, s_itT, s_liL, n_lenL, n_lenT, n_abs, n_min2, n_max2, n_int, n_intB, n_listL, n_listT, n_tupL, n_strI, n_boolI, n_allL, n_anyL, n_sumL, f_non, f_bl, f_int, f_str, f_tup, f_lst, f_nil, f_cons, g_int, g_bl, g_non, g_str, g_lstF, g_tup, g_lstT, g_nil, g_cons, o_nil, o_0, o_1, z_cast0, z_cast1, z_cast2, z_cast3, z_cast4, z_cast5, z_cast6, z_cast7, z_cast8, z_cast9, z_cast10, z_cast11, z_cast12, l_ltl0, l_ltl1, l_ltl2, l_ltl3, l_ltl4, l_ltl5, l_ltl6, l_ltl7, l_ltl8, l_ltl9, l_ltl10, l_ltl11, l_ltl12, l_line0, l_line1, l_line2, l_line3, l_line4, l_line5, l_line6, l_line7, l_line8, l_line9, l_line10, l_line11, l_line12, k_NoneType_int, k_NoneType_bool, k_NoneType_str, k_NoneType_list, k_NoneType_tuple, k_NoneType_dict, k_bool_int, k_bool_bool, k_bool_str, k_bool_list, k_bool_tuple, k_bool_dict, k_int_int, k_int_bool, k_int_str, k_int_list, k_int_tuple, k_int_dict, k_str_int, k_str_bool, k_str_str, k_str_list, k_str_tuple, k_str_dict, k_tuple_int, k_tuple_bool, k_tuple_str, k_tuple_list, k_tuple_tuple, k_tuple_dict, k_list_int, k_list_bool, k_list_str, k_list_list, k_list_tuple, k_list_dict, z_at0, z_at1, z_at2, z_at3, z_at4, z_at5, z_at6, z_at7, z_at8, z_ix1_0, z_ix2_0, z_ix2_1, z_ix3_0, z_ix3_1, z_ix3_2, z_ix4_0, z_ix4_1, z_ix4_2, z_ix4_3, z_ix5_0, z_ix5_1, z_ix5_2, z_ix5_3, z_ix5_4, z_ix6_0, z_ix6_1, z_ix6_2, z_ix6_3, z_ix6_4, z_ix6_5, z_ix7_0, z_ix7_1, z_ix7_2, z_ix7_3, z_ix7_4, z_ix7_5, z_ix7_6, z_ix8_0, z_ix8_1, z_ix8_2, z_ix8_3, z_ix8_4, z_ix8_5, z_ix8_6, z_ix8_7, Bool.not_eq_true', decide_eq_false_iff_not, ite_not, Bool.false_eq_true, Int.reduceEq, wipeE, backE, IL_fz, IL_isFz, fz_fz, fzL_fzL, List.set_cons_zero, List.set_cons_succ, List.getElem?_cons_zero, List.getElem?_cons_succ, List.length_cons, List.length_nil, and_true, true_and, Bool.and_true, Bool.true_and, Bool.not_true, Bool.not_false, Bool.not_not, if_true, if_false, ite_true, ite_false, Option.map_some, Option.some.injEq, exists_eq_left, exists_eq_left', D.int.injEq, D.lst.injEq, D.bl.injEq, D.str.injEq, D.tup.injEq, List.cons_append, List.nil_append, List.not_mem_nil, not_false_eq_true, Bool.false_eq_true, List.all_cons, List.all_nil, reduceIte, reduceCtorEq, List.isEmpty_cons, List.isEmpty_nil, eq_self, decide_true, decide_false, Bool.if_true_left, exists_eq, exists_eq', decide_eq_true_eq, Int.reduceToNat, Int.reducePow, Int.reduceNeg, Int.reduceLT, Int.reduceLE, Int.reduceSub, Int.reduceAdd, and_false, false_and, List.mem_cons, or_false, false_or, exists_and_left, Nat.zero_add, ne_eq, not_true_eq_false, Nat.reduceAdd, Nat.reduceLT, Nat.reduceEqDiff, Nat.reduceLeDiff])
  refine forDK (fun items e => ∃ (l g : List Int) (u : Option D), items = IL l ∧ joinJ g l = joinJ [] ts ∧ g.length + l.length ≤ 60 ∧ e = [some (.lst false (IL ts)), some (.lst true (IL g)), u]) ⟨ts, [], none, rfl, rfl, by simpa using ht.1, rfl⟩ ?_ ?_
  · rintro e ⟨l, g, u, hi, hg, _, rfl⟩
    cases l with
    | cons _ _ => simp [IL] at hi
    | nil =>
      rw [← hg] at q
      exact q
  · rintro x xs e k bk ⟨l, g, u, hi, hg, hn, rfl⟩ hk _
    cases l with
    | nil => simp [IL] at hi
    | cons t l =>
      simp only [IL_cons, List.cons.injEq] at hi
      obtain ⟨rfl, rfl⟩ := hi
      simp only [List.length_cons] at hn
      rcases List.eq_nil_or_concat g with rfl | ⟨g', x, rfl⟩
      · simp only [f_joined_turns_b3, f_joined_turns_b1, f_joined_turns_b2, hm, IL_len, z_get0, z_getS, z_borV, z_stillV, z_stillsV, z_stillsN, z_shareV, z_bor_con, z_still_con, z_stills_con, z_share_con, z_bor_glo, z_still_glo, z_stills_glo, z_share_glo, z_bor_bin, z_still_bin, z_stills_bin, z_share_bin, z_bor_neg, z_still_neg, z_stills_neg, z_share_neg, z_bor_nt, z_still_nt, z_stills_nt, z_share_nt, z_bor_bo, z_still_bo, z_stills_bo, z_share_bo, z_bor_cmp, z_still_cmp, z_stills_cmp, z_share_cmp, z_bor_chn, z_still_chn, z_stills_chn, z_share_chn, z_bor_ife, z_still_ife, z_stills_ife, z_share_ife, z_bor_call, z_still_call, z_stills_call, z_share_call, z_bor_calk, z_still_calk, z_stills_calk, z_share_calk, z_bor_bi, z_still_bi, z_stills_bi, z_share_bi, z_bor_isi, z_still_isi, z_stills_isi, z_share_isi, z_bor_sub, z_still_sub, z_stills_sub, z_share_sub, z_bor_slc, z_still_slc, z_stills_slc, z_share_slc, z_bor_rpr, z_still_rpr, z_stills_rpr, z_share_rpr, z_bor_tup, z_still_tup, z_stills_tup, z_share_tup, z_bor_lst, z_still_lst, z_stills_lst, z_share_lst, z_bor_lc, z_still_lc, z_stills_lc, z_share_lc, z_bor_mov, z_still_mov, z_stills_mov, z_share_mov, z_setNm, z_setTpT, z_setTpL, z_setsN, z_setsC, z_putN, z_putC, z_var, z_mov, z_con, z_glo, z_bin, z_neg, z_nt, z_bo, z_cmp, z_chn, z_ife, z_call, z_calk, z_bi, z_isi, z_sub, z_slc, z_tup, z_lst, z_rprL, z_rprT, z_lc, z_esN, z_esC, z_bsN, z_bsC, z_aN, z_aM, z_aF, z_aE, z_oN, z_oY, z_bo1, z_bo2, zt_nt, zt_bo, zt_cmp, zt_chn, zt_isi, zt_call, zt_var, zt_bi, zt_to1, zt_to2, zt_tsN, zt_ts1, i_ex, i_r1, i_r2, i_r3, i_zip, i_enum, i_rev, c_asg, c_par, c_pst, c_pag, c_aug, c_app, c_exp, c_ite, c_for, c_ret, c_rtn, c_brk, c_cnt, c_pas, c_nev, c_nil, c_cons, b_add, b_sub, b_mul, b_fdiv, b_mod, b_pow, b_shl, b_shr, b_cat, b_rep, a_add, a_sub, a_mul, a_mod, q_eqI, q_neI, q_eqS, q_neS, q_eqB, q_neB, q_eqNil, q_neNil, q_lt, q_le, q_gt, q_ge, q_is, q_isnt, r_bl, r_int, r_lst, r_tup, s_szL, s_szT, s_subL, s_subT, s_slcL, s_slcT, s_itL, s_itT, s_liL, n_lenL, n_lenT, n_abs, n_min2, n_max2, n_int, n_intB, n_listL, n_listT, n_tupL, n_strI, n_boolI, n_allL, n_anyL, n_sumL, f_non, f_bl, f_int, f_str, f_tup, f_lst, f_nil, f_cons, g_int, g_bl, g_non, g_str, g_lstF, g_tup, g_lstT, g_nil, g_cons, o_nil, o_0, o_1, z_cast0, z_cast1, z_cast2, z_cast3, z_cast4, z_cast5, z_cast6, z_cast7, z_cast8, z_cast9, z_cast10, z_cast11, z_cast12, l_ltl0, l_ltl1, l_ltl2, l_ltl3, l_ltl4, l_ltl5, l_ltl6, l_ltl7, l_ltl8, l_ltl9, l_ltl10, l_ltl11, l_ltl12, l_line0, l_line1, l_line2, l_line3, l_line4, l_line5, l_line6, l_line7, l_line8, l_line9, l_line10, l_line11, l_line12, k_NoneType_int, k_NoneType_bool, k_NoneType_str, k_NoneType_list, k_NoneType_tuple, k_NoneType_dict, k_bool_int, k_bool_bool, k_bool_str, k_bool_list, k_bool_tuple, k_bool_dict, k_int_int, k_int_bool, k_int_str, k_int_list, k_int_tuple, k_int_dict, k_str_int, k_str_bool, k_str_str, k_str_list, k_str_tuple, k_str_dict, k_tuple_int, k_tuple_bool, k_tuple_str, k_tuple_list, k_tuple_tuple, k_tuple_dict, k_list_int, k_list_bool, k_list_str, k_list_list, k_list_tuple, k_list_dict, z_at0, z_at1, z_at2, z_at3, z_at4, z_at5, z_at6, z_at7, z_at8, z_ix1_0, z_ix2_0, z_ix2_1, z_ix3_0, z_ix3_1, z_ix3_2, z_ix4_0, z_ix4_1, z_ix4_2, z_ix4_3, z_ix5_0, z_ix5_1, z_ix5_2, z_ix5_3, z_ix5_4, z_ix6_0, z_ix6_1, z_ix6_2, z_ix6_3, z_ix6_4, z_ix6_5, z_ix7_0, z_ix7_1, z_ix7_2, z_ix7_3, z_ix7_4, z_ix7_5, z_ix7_6, z_ix8_0, z_ix8_1, z_ix8_2, z_ix8_3, z_ix8_4, z_ix8_5, z_ix8_6, z_ix8_7, Bool.not_eq_true', decide_eq_false_iff_not, ite_not, Bool.false_eq_true, Int.reduceEq, wipeE, backE, IL_fz, IL_isFz, fz_fz, fzL_fzL, List.set_cons_zero, List.set_cons_succ, List.getElem?_cons_zero, List.getElem?_cons_succ, List.length_cons, List.length_nil, and_true, true_and, Bool.and_true, Bool.true_and, Bool.not_true, Bool.not_false, Bool.not_not, if_true, if_false, ite_true, ite_false, Option.map_some, Option.some.injEq, exists_eq_left, exists_eq_left', D.int.injEq, D.lst.injEq, D.bl.injEq, D.str.injEq, D.tup.injEq, List.cons_append, List.nil_append, List.not_mem_nil, not_false_eq_true, Bool.false_eq_true, List.all_cons, List.all_nil, reduceIte, reduceCtorEq, List.isEmpty_cons, List.isEmpty_nil, eq_self, decide_true, decide_false, Bool.if_true_left, exists_eq, exists_eq', decide_eq_true_eq, Int.reduceToNat, Int.reducePow, Int.reduceNeg, Int.reduceLT, Int.reduceLE, Int.reduceSub, Int.reduceAdd, and_false, false_and, List.mem_cons, or_false, false_or, exists_and_left, Nat.zero_add, ne_eq, not_true_eq_false, Nat.reduceAdd, Nat.reduceLT, Nat.reduceEqDiff, Nat.reduceLeDiff]
        rw [IL_app]
        exact hk _ ⟨l, [] ++ [t], _, rfl, hg, by simp at hn ⊢; omega, rfl⟩
      · rw [List.concat_eq_append] at hg hn ⊢
        have e0 : (g' ++ [x]).isEmpty = false := by simp
        simp only [f_joined_turns_b3, f_joined_turns_b1, f_joined_turns_b2, hm, e0, z_get0, z_getS, z_borV, z_stillV, z_stillsV, z_stillsN, z_shareV, z_bor_con, z_still_con, z_stills_con, z_share_con, z_bor_glo, z_still_glo, z_stills_glo, z_share_glo, z_bor_bin, z_still_bin, z_stills_bin, z_share_bin, z_bor_neg, z_still_neg, z_stills_neg, z_share_neg, z_bor_nt, z_still_nt, z_stills_nt, z_share_nt, z_bor_bo, z_still_bo, z_stills_bo, z_share_bo, z_bor_cmp, z_still_cmp, z_stills_cmp, z_share_cmp, z_bor_chn, z_still_chn, z_stills_chn, z_share_chn, z_bor_ife, z_still_ife, z_stills_ife, z_share_ife, z_bor_call, z_still_call, z_stills_call, z_share_call, z_bor_calk, z_still_calk, z_stills_calk, z_share_calk, z_bor_bi, z_still_bi, z_stills_bi, z_share_bi, z_bor_isi, z_still_isi, z_stills_isi, z_share_isi, z_bor_sub, z_still_sub, z_stills_sub, z_share_sub, z_bor_slc, z_still_slc, z_stills_slc, z_share_slc, z_bor_rpr, z_still_rpr, z_stills_rpr, z_share_rpr, z_bor_tup, z_still_tup, z_stills_tup, z_share_tup, z_bor_lst, z_still_lst, z_stills_lst, z_share_lst, z_bor_lc, z_still_lc, z_stills_lc, z_share_lc, z_bor_mov, z_still_mov, z_stills_mov, z_share_mov, z_setNm, z_setTpT, z_setTpL, z_setsN, z_setsC, z_putN, z_putC, z_var, z_mov, z_con, z_glo, z_bin, z_neg, z_nt, z_bo, z_cmp, z_chn, z_ife, z_call, z_calk, z_bi, z_isi, z_sub, z_slc, z_tup, z_lst, z_rprL, z_rprT, z_lc, z_esN, z_esC, z_bsN, z_bsC, z_aN, z_aM, z_aF, z_aE, z_oN, z_oY, z_bo1, z_bo2, zt_nt, zt_bo, zt_cmp, zt_chn, zt_isi, zt_call, zt_var, zt_bi, zt_to1, zt_to2, zt_tsN, zt_ts1, i_ex, i_r1, i_r2, i_r3, i_zip, i_enum, i_rev, c_asg, c_par, c_pst, c_pag, c_aug, c_app, c_exp, c_ite, c_for, c_ret, c_rtn, c_brk, c_cnt, c_pas, c_nev, c_nil, c_cons, b_add, b_sub, b_mul, b_fdiv, b_mod, b_pow, b_shl, b_shr, b_cat, b_rep, a_add, a_sub, a_mul, a_mod, q_eqI, q_neI, q_eqS, q_neS, q_eqB, q_neB, q_eqNil, q_neNil, q_lt, q_le, q_gt, q_ge, q_is, q_isnt, r_bl, r_int, r_lst, r_tup, s_szL, s_szT, s_subL, s_subT, s_slcL, s_slcT, s_itL, s_itT, s_liL, n_lenL, n_lenT, n_abs, n_min2, n_max2, n_int, n_intB, n_listL, n_listT, n_tupL, n_strI, n_boolI, n_allL, n_anyL, n_sumL, f_non, f_bl, f_int, f_str, f_tup, f_lst, f_nil, f_cons, g_int, g_bl, g_non, g_str, g_lstF, g_tup, g_lstT, g_nil, g_cons, o_nil, o_0, o_1, z_cast0, z_cast1, z_cast2, z_cast3, z_cast4, z_cast5, z_cast6, z_cast7, z_cast8, z_cast9, z_cast10, z_cast11, z_cast12, l_ltl0, l_ltl1, l_ltl2, l_ltl3, l_ltl4, l_ltl5, l_ltl6, l_ltl7, l_ltl8, l_ltl9, l_ltl10, l_ltl11, l_ltl12, l_line0, l_line1, l_line2, l_line3, l_line4, l_line5, l_line6, l_line7, l_line8, l_line9, l_line10, l_line11, l_line12, k_NoneType_int, k_NoneType_bool, k_NoneType_str, k_NoneType_list, k_NoneType_tuple, k_NoneType_dict, k_bool_int, k_bool_bool, k_bool_str, k_bool_list, k_bool_tuple, k_bool_dict, k_int_int, k_int_bool, k_int_str, k_int_list, k_int_tuple, k_int_dict, k_str_int, k_str_bool, k_str_str, k_str_list, k_str_tuple, k_str_dict, k_tuple_int, k_tuple_bool, k_tuple_str, k_tuple_list, k_tuple_tuple, k_tuple_dict, k_list_int, k_list_bool, k_list_str, k_list_list, k_list_tuple, k_list_dict, z_at0, z_at1, z_at2, z_at3, z_at4, z_at5, z_at6, z_at7, z_at8, z_ix1_0, z_ix2_0, z_ix2_1, z_ix3_0, z_ix3_1, z_ix3_2, z_ix4_0, z_ix4_1, z_ix4_2, z_ix4_3, z_ix5_0, z_ix5_1, z_ix5_2, z_ix5_3, z_ix5_4, z_ix6_0, z_ix6_1, z_ix6_2, z_ix6_3, z_ix6_4, z_ix6_5, z_ix7_0, z_ix7_1, z_ix7_2, z_ix7_3, z_ix7_4, z_ix7_5, z_ix7_6, z_ix8_0, z_ix8_1, z_ix8_2, z_ix8_3, z_ix8_4, z_ix8_5, z_ix8_6, z_ix8_7, Bool.not_eq_true', decide_eq_false_iff_not, ite_not, Bool.false_eq_true, Int.reduceEq, wipeE, backE, IL_fz, IL_isFz, fz_fz, fzL_fzL, List.set_cons_zero, List.set_cons_succ, List.getElem?_cons_zero, List.getElem?_cons_succ, List.length_cons, List.length_nil, and_true, true_and, Bool.and_true, Bool.true_and, Bool.not_true, Bool.not_false, Bool.not_not, if_true, if_false, ite_true, ite_false, Option.map_some, Option.some.injEq, exists_eq_left, exists_eq_left', D.int.injEq, D.lst.injEq, D.bl.injEq, D.str.injEq, D.tup.injEq, List.cons_append, List.nil_append, List.not_mem_nil, not_false_eq_true, Bool.false_eq_true, List.all_cons, List.all_nil, reduceIte, reduceCtorEq, List.isEmpty_cons, List.isEmpty_nil, eq_self, decide_true, decide_false, Bool.if_true_left, exists_eq, exists_eq', decide_eq_true_eq, Int.reduceToNat, Int.reducePow, Int.reduceNeg, Int.reduceLT, Int.reduceLE, Int.reduceSub, Int.reduceAdd, and_false, false_and, List.mem_cons, or_false, false_or, exists_and_left, Nat.zero_add, ne_eq, not_true_eq_false, Nat.reduceAdd, Nat.reduceLT, Nat.reduceEqDiff, Nat.reduceLeDiff]
        simp only [IL_snoc, at_last, List.length_append, List.length_cons, List.length_nil, ix_last, set_last, flatD, hm, z_get0, z_getS, z_borV, z_stillV, z_stillsV, z_stillsN, z_shareV, z_bor_con, z_still_con, z_stills_con, z_share_con, z_bor_glo, z_still_glo, z_stills_glo, z_share_glo, z_bor_bin, z_still_bin, z_stills_bin, z_share_bin, z_bor_neg, z_still_neg, z_stills_neg, z_share_neg, z_bor_nt, z_still_nt, z_stills_nt, z_share_nt, z_bor_bo, z_still_bo, z_stills_bo, z_share_bo, z_bor_cmp, z_still_cmp, z_stills_cmp, z_share_cmp, z_bor_chn, z_still_chn, z_stills_chn, z_share_chn, z_bor_ife, z_still_ife, z_stills_ife, z_share_ife, z_bor_call, z_still_call, z_stills_call, z_share_call, z_bor_calk, z_still_calk, z_stills_calk, z_share_calk, z_bor_bi, z_still_bi, z_stills_bi, z_share_bi, z_bor_isi, z_still_isi, z_stills_isi, z_share_isi, z_bor_sub, z_still_sub, z_stills_sub, z_share_sub, z_bor_slc, z_still_slc, z_stills_slc, z_share_slc, z_bor_rpr, z_still_rpr, z_stills_rpr, z_share_rpr, z_bor_tup, z_still_tup, z_stills_tup, z_share_tup, z_bor_lst, z_still_lst, z_stills_lst, z_share_lst, z_bor_lc, z_still_lc, z_stills_lc, z_share_lc, z_bor_mov, z_still_mov, z_stills_mov, z_share_mov, z_setNm, z_setTpT, z_setTpL, z_setsN, z_setsC, z_putN, z_putC, z_var, z_mov, z_con, z_glo, z_bin, z_neg, z_nt, z_bo, z_cmp, z_chn, z_ife, z_call, z_calk, z_bi, z_isi, z_sub, z_slc, z_tup, z_lst, z_rprL, z_rprT, z_lc, z_esN, z_esC, z_bsN, z_bsC, z_aN, z_aM, z_aF, z_aE, z_oN, z_oY, z_bo1, z_bo2, zt_nt, zt_bo, zt_cmp, zt_chn, zt_isi, zt_call, zt_var, zt_bi, zt_to1, zt_to2, zt_tsN, zt_ts1, i_ex, i_r1, i_r2, i_r3, i_zip, i_enum, i_rev, c_asg, c_par, c_pst, c_pag, c_aug, c_app, c_exp, c_ite, c_for, c_ret, c_rtn, c_brk, c_cnt, c_pas, c_nev, c_nil, c_cons, b_add, b_sub, b_mul, b_fdiv, b_mod, b_pow, b_shl, b_shr, b_cat, b_rep, a_add, a_sub, a_mul, a_mod, q_eqI, q_neI, q_eqS, q_neS, q_eqB, q_neB, q_eqNil, q_neNil, q_lt, q_le, q_gt, q_ge, q_is, q_isnt, r_bl, r_int, r_lst, r_tup, s_szL, s_szT, s_subL, s_subT, s_slcL, s_slcT, s_itL, s_itT, s_liL, n_lenL, n_lenT, n_abs, n_min2, n_max2, n_int, n_intB, n_listL, n_listT, n_tupL, n_strI, n_boolI, n_allL, n_anyL, n_sumL, f_non, f_bl, f_int, f_str, f_tup, f_lst, f_nil, f_cons, g_int, g_bl, g_non, g_str, g_lstF, g_tup, g_lstT, g_nil, g_cons, o_nil, o_0, o_1, z_cast0, z_cast1, z_cast2, z_cast3, z_cast4, z_cast5, z_cast6, z_cast7, z_cast8, z_cast9, z_cast10, z_cast11, z_cast12, l_ltl0, l_ltl1, l_ltl2, l_ltl3, l_ltl4, l_ltl5, l_ltl6, l_ltl7, l_ltl8, l_ltl9, l_ltl10, l_ltl11, l_ltl12, l_line0, l_line1, l_line2, l_line3, l_line4, l_line5, l_line6, l_line7, l_line8, l_line9, l_line10, l_line11, l_line12, k_NoneType_int, k_NoneType_bool, k_NoneType_str, k_NoneType_list, k_NoneType_tuple, k_NoneType_dict, k_bool_int, k_bool_bool, k_bool_str, k_bool_list, k_bool_tuple, k_bool_dict, k_int_int, k_int_bool, k_int_str, k_int_list, k_int_tuple, k_int_dict, k_str_int, k_str_bool, k_str_str, k_str_list, k_str_tuple, k_str_dict, k_tuple_int, k_tuple_bool, k_tuple_str, k_tuple_list, k_tuple_tuple, k_tuple_dict, k_list_int, k_list_bool, k_list_str, k_list_list, k_list_tuple, k_list_dict, z_at0, z_at1, z_at2, z_at3, z_at4, z_at5, z_at6, z_at7, z_at8, z_ix1_0, z_ix2_0, z_ix2_1, z_ix3_0, z_ix3_1, z_ix3_2, z_ix4_0, z_ix4_1, z_ix4_2, z_ix4_3, z_ix5_0, z_ix5_1, z_ix5_2, z_ix5_3, z_ix5_4, z_ix6_0, z_ix6_1, z_ix6_2, z_ix6_3, z_ix6_4, z_ix6_5, z_ix7_0, z_ix7_1, z_ix7_2, z_ix7_3, z_ix7_4, z_ix7_5, z_ix7_6, z_ix8_0, z_ix8_1, z_ix8_2, z_ix8_3, z_ix8_4, z_ix8_5, z_ix8_6, z_ix8_7, Bool.not_eq_true', decide_eq_false_iff_not, ite_not, Bool.false_eq_true, Int.reduceEq, wipeE, backE, IL_fz, IL_isFz, fz_fz, fzL_fzL, List.set_cons_zero, List.set_cons_succ, List.getElem?_cons_zero, List.getElem?_cons_succ, List.length_cons, List.length_nil, and_true, true_and, Bool.and_true, Bool.true_and, Bool.not_true, Bool.not_false, Bool.not_not, if_true, if_false, ite_true, ite_false, Option.map_some, Option.some.injEq, exists_eq_left, exists_eq_left', D.int.injEq, D.lst.injEq, D.bl.injEq, D.str.injEq, D.tup.injEq, List.cons_append, List.nil_append, List.not_mem_nil, not_false_eq_true, Bool.false_eq_true, List.all_cons, List.all_nil, reduceIte, reduceCtorEq, List.isEmpty_cons, List.isEmpty_nil, eq_self, decide_true, decide_false, Bool.if_true_left, exists_eq, exists_eq', decide_eq_true_eq, Int.reduceToNat, Int.reducePow, Int.reduceNeg, Int.reduceLT, Int.reduceLE, Int.reduceSub, Int.reduceAdd, and_false, false_and, List.mem_cons, or_false, false_or, exists_and_left, Nat.zero_add, ne_eq, not_true_eq_false, Nat.reduceAdd, Nat.reduceLT, Nat.reduceEqDiff, Nat.reduceLeDiff]
        have pj : putJ (g' ++ [x]) t = if (decide (0 < x)) = decide (0 < t) then g' ++ [x + t] else g' ++ [x] ++ [t] := by
          unfold putJ
          rw [List.getLast?_append]
          simp
        have hg' : joinJ (putJ (g' ++ [x]) t) l = joinJ [] ts := hg
        rw [pj] at hg'
        simp only [List.length_append, List.length_cons, List.length_nil] at hn
        split
        · rename_i c
          rw [if_pos c] at hg'
          rw [IL_app]
          exact hk _ ⟨l, _, _, rfl, hg', by simp; omega, rfl⟩
        · rename_i c
          rw [if_neg c] at hg'
          rw [IL_app, IL_app, IL_len]
          exact ⟨line60 (by omega), hk _ ⟨l, _, _, rfl, hg', by simp; omega, rfl⟩⟩
/-- the law's draws: nothing is known of them but their bounds -/
def Coil (b : Int) (x : D) : Prop := ∃ d m n, x = .lst true [.int d, .int m, .int n] ∧ 0 ≤ d ∧ 0 ≤ m ∧ m < 2 ^ 127 ∧ 0 ≤ n ∧ n ≤ b
theorem Coil.mono {b c : Int} {x : D} (h : Coil b x) (l : b ≤ c) : Coil c x := by
  obtain ⟨d, m, n, rfl, h1, h2, h3, h4, h5⟩ := h
  exact ⟨d, m, n, rfl, h1, h2, h3, h4, by omega⟩
def sp_coil : FSpec := fun ds Q _ => ∃ o ns at', ds = [.lst o (IL ns), .int at'] ∧ 0 ≤ at' ∧ at' < 2 ^ 40 ∧ ∀ y, Coil 0 y → Q y []
theorem w_coil {Γ : Sig} (hm : Γ.me = []) (ds : List D) (Q : D → List D → Prop) (R : Exc → Prop) (h : sp_coil ds Q R) : wpF Γ f__law_coil ds Q R := by
  obtain ⟨o, ns, i, rfl, h0, h1, q⟩ := h
  simp only [wpF_eq, f__law_coil, startE, hm, List.map_cons, List.map_nil, IL_len, z_get0, z_getS, z_borV, z_stillV, z_stillsV, z_stillsN, z_shareV, z_bor_con, z_still_con, z_stills_con, z_share_con, z_bor_glo, z_still_glo, z_stills_glo, z_share_glo, z_bor_bin, z_still_bin, z_stills_bin, z_share_bin, z_bor_neg, z_still_neg, z_stills_neg, z_share_neg, z_bor_nt, z_still_nt, z_stills_nt, z_share_nt, z_bor_bo, z_still_bo, z_stills_bo, z_share_bo, z_bor_cmp, z_still_cmp, z_stills_cmp, z_share_cmp, z_bor_chn, z_still_chn, z_stills_chn, z_share_chn, z_bor_ife, z_still_ife, z_stills_ife, z_share_ife, z_bor_call, z_still_call, z_stills_call, z_share_call, z_bor_calk, z_still_calk, z_stills_calk, z_share_calk, z_bor_bi, z_still_bi, z_stills_bi, z_share_bi, z_bor_isi, z_still_isi, z_stills_isi, z_share_isi, z_bor_sub, z_still_sub, z_stills_sub, z_share_sub, z_bor_slc, z_still_slc, z_stills_slc, z_share_slc, z_bor_rpr, z_still_rpr, z_stills_rpr, z_share_rpr, z_bor_tup, z_still_tup, z_stills_tup, z_share_tup, z_bor_lst, z_still_lst, z_stills_lst, z_share_lst, z_bor_lc, z_still_lc, z_stills_lc, z_share_lc, z_bor_mov, z_still_mov, z_stills_mov, z_share_mov, z_setNm, z_setTpT, z_setTpL, z_setsN, z_setsC, z_putN, z_putC, z_var, z_mov, z_con, z_glo, z_bin, z_neg, z_nt, z_bo, z_cmp, z_chn, z_ife, z_call, z_calk, z_bi, z_isi, z_sub, z_slc, z_tup, z_lst, z_rprL, z_rprT, z_lc, z_esN, z_esC, z_bsN, z_bsC, z_aN, z_aM, z_aF, z_aE, z_oN, z_oY, z_bo1, z_bo2, zt_nt, zt_bo, zt_cmp, zt_chn, zt_isi, zt_call, zt_var, zt_bi, zt_to1, zt_to2, zt_tsN, zt_ts1, i_ex, i_r1, i_r2, i_r3, i_zip, i_enum, i_rev, c_asg, c_par, c_pst, c_pag, c_aug, c_app, c_exp, c_ite, c_for, c_ret, c_rtn, c_brk, c_cnt, c_pas, c_nev, c_nil, c_cons, b_add, b_sub, b_mul, b_fdiv, b_mod, b_pow, b_shl, b_shr, b_cat, b_rep, a_add, a_sub, a_mul, a_mod, q_eqI, q_neI, q_eqS, q_neS, q_eqB, q_neB, q_eqNil, q_neNil, q_lt, q_le, q_gt, q_ge, q_is, q_isnt, r_bl, r_int, r_lst, r_tup, s_szL, s_szT, s_subL, s_subT, s_slcL, s_slcT, s_itL, s_itT, s_liL, n_lenL, n_lenT, n_abs, n_min2, n_max2, n_int, n_intB, n_listL, n_listT, n_tupL, n_strI, n_boolI, n_allL, n_anyL, n_sumL, f_non, f_bl, f_int, f_str, f_tup, f_lst, f_nil, f_cons, g_int, g_bl, g_non, g_str, g_lstF, g_tup, g_lstT, g_nil, g_cons, o_nil, o_0, o_1, z_cast0, z_cast1, z_cast2, z_cast3, z_cast4, z_cast5, z_cast6, z_cast7, z_cast8, z_cast9, z_cast10, z_cast11, z_cast12, l_ltl0, l_ltl1, l_ltl2, l_ltl3, l_ltl4, l_ltl5, l_ltl6, l_ltl7, l_ltl8, l_ltl9, l_ltl10, l_ltl11, l_ltl12, l_line0, l_line1, l_line2, l_line3, l_line4, l_line5, l_line6, l_line7, l_line8, l_line9, l_line10, l_line11, l_line12, k_NoneType_int, k_NoneType_bool, k_NoneType_str, k_NoneType_list, k_NoneType_tuple, k_NoneType_dict, k_bool_int, k_bool_bool, k_bool_str, k_bool_list, k_bool_tuple, k_bool_dict, k_int_int, k_int_bool, k_int_str, k_int_list, k_int_tuple, k_int_dict, k_str_int, k_str_bool, k_str_str, k_str_list, k_str_tuple, k_str_dict, k_tuple_int, k_tuple_bool, k_tuple_str, k_tuple_list, k_tuple_tuple, k_tuple_dict, k_list_int, k_list_bool, k_list_str, k_list_list, k_list_tuple, k_list_dict, z_at0, z_at1, z_at2, z_at3, z_at4, z_at5, z_at6, z_at7, z_at8, z_ix1_0, z_ix2_0, z_ix2_1, z_ix3_0, z_ix3_1, z_ix3_2, z_ix4_0, z_ix4_1, z_ix4_2, z_ix4_3, z_ix5_0, z_ix5_1, z_ix5_2, z_ix5_3, z_ix5_4, z_ix6_0, z_ix6_1, z_ix6_2, z_ix6_3, z_ix6_4, z_ix6_5, z_ix7_0, z_ix7_1, z_ix7_2, z_ix7_3, z_ix7_4, z_ix7_5, z_ix7_6, z_ix8_0, z_ix8_1, z_ix8_2, z_ix8_3, z_ix8_4, z_ix8_5, z_ix8_6, z_ix8_7, Bool.not_eq_true', decide_eq_false_iff_not, ite_not, Bool.false_eq_true, Int.reduceEq, wipeE, backE, IL_fz, IL_isFz, fz_fz, fzL_fzL, List.set_cons_zero, List.set_cons_succ, List.getElem?_cons_zero, List.getElem?_cons_succ, List.length_cons, List.length_nil, and_true, true_and, Bool.and_true, Bool.true_and, Bool.not_true, Bool.not_false, Bool.not_not, if_true, if_false, ite_true, ite_false, Option.map_some, Option.some.injEq, exists_eq_left, exists_eq_left', D.int.injEq, D.lst.injEq, D.bl.injEq, D.str.injEq, D.tup.injEq, List.cons_append, List.nil_append, List.not_mem_nil, not_false_eq_true, Bool.false_eq_true, List.all_cons, List.all_nil, reduceIte, reduceCtorEq, List.isEmpty_cons, List.isEmpty_nil, eq_self, decide_true, decide_false, Bool.if_true_left, exists_eq, exists_eq', decide_eq_true_eq, Int.reduceToNat, Int.reducePow, Int.reduceNeg, Int.reduceLT, Int.reduceLE, Int.reduceSub, Int.reduceAdd, and_false, false_and, List.mem_cons, or_false, false_or, exists_and_left, Nat.zero_add, ne_eq, not_true_eq_false, Nat.reduceAdd, Nat.reduceLT, Nat.reduceEqDiff, Nat.reduceLeDiff]
  have main : ∀ c : Int, Q (.lst true [.int (if (if c < 0 then -c else c) - 1000000000000000000 + 1 > 0 then (if c < 0 then -c else c) - 1000000000000000000 + 1 else 0), .int (c % 10000000000000000000000013 + 60013 * (i + 1)), .int 0]) [] := fun c => by
    have e1 := Int.emod_nonneg c (b := 10000000000000000000000013) (by decide)
    have e2 := Int.emod_lt_of_pos c (b := 10000000000000000000000013) (by decide)
    exact q _ ⟨_, _, _, rfl, by split <;> omega, by omega, by omega, by decide, by decide⟩
  split
  · obtain ⟨c, hc, _⟩ := atI_ex (xs := ns) h0 (by assumption)
    refine ⟨_, IL_at hc, ?_⟩
    simp only [hm, z_get0, z_getS, z_borV, z_stillV, z_stillsV, z_stillsN, z_shareV, z_bor_con, z_still_con, z_stills_con, z_share_con, z_bor_glo, z_still_glo, z_stills_glo, z_share_glo, z_bor_bin, z_still_bin, z_stills_bin, z_share_bin, z_bor_neg, z_still_neg, z_stills_neg, z_share_neg, z_bor_nt, z_still_nt, z_stills_nt, z_share_nt, z_bor_bo, z_still_bo, z_stills_bo, z_share_bo, z_bor_cmp, z_still_cmp, z_stills_cmp, z_share_cmp, z_bor_chn, z_still_chn, z_stills_chn, z_share_chn, z_bor_ife, z_still_ife, z_stills_ife, z_share_ife, z_bor_call, z_still_call, z_stills_call, z_share_call, z_bor_calk, z_still_calk, z_stills_calk, z_share_calk, z_bor_bi, z_still_bi, z_stills_bi, z_share_bi, z_bor_isi, z_still_isi, z_stills_isi, z_share_isi, z_bor_sub, z_still_sub, z_stills_sub, z_share_sub, z_bor_slc, z_still_slc, z_stills_slc, z_share_slc, z_bor_rpr, z_still_rpr, z_stills_rpr, z_share_rpr, z_bor_tup, z_still_tup, z_stills_tup, z_share_tup, z_bor_lst, z_still_lst, z_stills_lst, z_share_lst, z_bor_lc, z_still_lc, z_stills_lc, z_share_lc, z_bor_mov, z_still_mov, z_stills_mov, z_share_mov, z_setNm, z_setTpT, z_setTpL, z_setsN, z_setsC, z_putN, z_putC, z_var, z_mov, z_con, z_glo, z_bin, z_neg, z_nt, z_bo, z_cmp, z_chn, z_ife, z_call, z_calk, z_bi, z_isi, z_sub, z_slc, z_tup, z_lst, z_rprL, z_rprT, z_lc, z_esN, z_esC, z_bsN, z_bsC, z_aN, z_aM, z_aF, z_aE, z_oN, z_oY, z_bo1, z_bo2, zt_nt, zt_bo, zt_cmp, zt_chn, zt_isi, zt_call, zt_var, zt_bi, zt_to1, zt_to2, zt_tsN, zt_ts1, i_ex, i_r1, i_r2, i_r3, i_zip, i_enum, i_rev, c_asg, c_par, c_pst, c_pag, c_aug, c_app, c_exp, c_ite, c_for, c_ret, c_rtn, c_brk, c_cnt, c_pas, c_nev, c_nil, c_cons, b_add, b_sub, b_mul, b_fdiv, b_mod, b_pow, b_shl, b_shr, b_cat, b_rep, a_add, a_sub, a_mul, a_mod, q_eqI, q_neI, q_eqS, q_neS, q_eqB, q_neB, q_eqNil, q_neNil, q_lt, q_le, q_gt, q_ge, q_is, q_isnt, r_bl, r_int, r_lst, r_tup, s_szL, s_szT, s_subL, s_subT, s_slcL, s_slcT, s_itL, s_itT, s_liL, n_lenL, n_lenT, n_abs, n_min2, n_max2, n_int, n_intB, n_listL, n_listT, n_tupL, n_strI, n_boolI, n_allL, n_anyL, n_sumL, f_non, f_bl, f_int, f_str, f_tup, f_lst, f_nil, f_cons, g_int, g_bl, g_non, g_str, g_lstF, g_tup, g_lstT, g_nil, g_cons, o_nil, o_0, o_1, z_cast0, z_cast1, z_cast2, z_cast3, z_cast4, z_cast5, z_cast6, z_cast7, z_cast8, z_cast9, z_cast10, z_cast11, z_cast12, l_ltl0, l_ltl1, l_ltl2, l_ltl3, l_ltl4, l_ltl5, l_ltl6, l_ltl7, l_ltl8, l_ltl9, l_ltl10, l_ltl11, l_ltl12, l_line0, l_line1, l_line2, l_line3, l_line4, l_line5, l_line6, l_line7, l_line8, l_line9, l_line10, l_line11, l_line12, k_NoneType_int, k_NoneType_bool, k_NoneType_str, k_NoneType_list, k_NoneType_tuple, k_NoneType_dict, k_bool_int, k_bool_bool, k_bool_str, k_bool_list, k_bool_tuple, k_bool_dict, k_int_int, k_int_bool, k_int_str, k_int_list, k_int_tuple, k_int_dict, k_str_int, k_str_bool, k_str_str, k_str_list, k_str_tuple, k_str_dict, k_tuple_int, k_tuple_bool, k_tuple_str, k_tuple_list, k_tuple_tuple, k_tuple_dict, k_list_int, k_list_bool, k_list_str, k_list_list, k_list_tuple, k_list_dict, z_at0, z_at1, z_at2, z_at3, z_at4, z_at5, z_at6, z_at7, z_at8, z_ix1_0, z_ix2_0, z_ix2_1, z_ix3_0, z_ix3_1, z_ix3_2, z_ix4_0, z_ix4_1, z_ix4_2, z_ix4_3, z_ix5_0, z_ix5_1, z_ix5_2, z_ix5_3, z_ix5_4, z_ix6_0, z_ix6_1, z_ix6_2, z_ix6_3, z_ix6_4, z_ix6_5, z_ix7_0, z_ix7_1, z_ix7_2, z_ix7_3, z_ix7_4, z_ix7_5, z_ix7_6, z_ix8_0, z_ix8_1, z_ix8_2, z_ix8_3, z_ix8_4, z_ix8_5, z_ix8_6, z_ix8_7, Bool.not_eq_true', decide_eq_false_iff_not, ite_not, Bool.false_eq_true, Int.reduceEq, wipeE, backE, IL_fz, IL_isFz, fz_fz, fzL_fzL, List.set_cons_zero, List.set_cons_succ, List.getElem?_cons_zero, List.getElem?_cons_succ, List.length_cons, List.length_nil, and_true, true_and, Bool.and_true, Bool.true_and, Bool.not_true, Bool.not_false, Bool.not_not, if_true, if_false, ite_true, ite_false, Option.map_some, Option.some.injEq, exists_eq_left, exists_eq_left', D.int.injEq, D.lst.injEq, D.bl.injEq, D.str.injEq, D.tup.injEq, List.cons_append, List.nil_append, List.not_mem_nil, not_false_eq_true, Bool.false_eq_true, List.all_cons, List.all_nil, reduceIte, reduceCtorEq, List.isEmpty_cons, List.isEmpty_nil, eq_self, decide_true, decide_false, Bool.if_true_left, exists_eq, exists_eq', decide_eq_true_eq, Int.reduceToNat, Int.reducePow, Int.reduceNeg, Int.reduceLT, Int.reduceLE, Int.reduceSub, Int.reduceAdd, and_false, false_and, List.mem_cons, or_false, false_or, exists_and_left, Nat.zero_add, ne_eq, not_true_eq_false, Nat.reduceAdd, Nat.reduceLT, Nat.reduceEqDiff, Nat.reduceLeDiff]
    exact ⟨pow_by 4 (by decide) (by decide) (by decide) (by decide), pow_by 4 (by decide) (by decide) (by decide) (by decide), mul_by 16 41 (by decide) (by omega) (by decide) (by decide) (by decide), main c⟩
  · refine ⟨pow_by 4 (by decide) (by decide) (by decide) (by decide), pow_by 4 (by decide) (by decide) (by decide) (by decide), mul_by 16 41 (by decide) (by omega) (by decide) (by decide) (by decide), main 0⟩
def sp_cdraw : FSpec := fun ds Q _ => ∃ b x w, ds = [x, .int w] ∧ Coil b x ∧ b ≤ 10 ^ 12 ∧ 0 < w ∧ w < 10 ^ 40 ∧ ∀ r y, 0 ≤ r → r < w → Coil (b + 1) y → Q (.int r) [y]
theorem w_cdraw {Γ : Sig} (hm : Γ.me = [0]) (ds : List D) (Q : D → List D → Prop) (R : Exc → Prop) (h : sp_cdraw ds Q R) : wpF Γ f__law_draw_0 ds Q R := by
  obtain ⟨b, x, w, rfl, ⟨d, m, n, rfl, h1, h2, h3, h4, h5⟩, hb, hw, hw2, q⟩ := h
  have w9 : w < 2 ^ 300 := by omega
  simp only [wpF_eq, f__law_draw_0, f__law_draw_0_b1, startE, hm, List.map_cons, List.map_nil, z_get0, z_getS, z_borV, z_stillV, z_stillsV, z_stillsN, z_shareV, z_bor_con, z_still_con, z_stills_con, z_share_con, z_bor_glo, z_still_glo, z_stills_glo, z_share_glo, z_bor_bin, z_still_bin, z_stills_bin, z_share_bin, z_bor_neg, z_still_neg, z_stills_neg, z_share_neg, z_bor_nt, z_still_nt, z_stills_nt, z_share_nt, z_bor_bo, z_still_bo, z_stills_bo, z_share_bo, z_bor_cmp, z_still_cmp, z_stills_cmp, z_share_cmp, z_bor_chn, z_still_chn, z_stills_chn, z_share_chn, z_bor_ife, z_still_ife, z_stills_ife, z_share_ife, z_bor_call, z_still_call, z_stills_call, z_share_call, z_bor_calk, z_still_calk, z_stills_calk, z_share_calk, z_bor_bi, z_still_bi, z_stills_bi, z_share_bi, z_bor_isi, z_still_isi, z_stills_isi, z_share_isi, z_bor_sub, z_still_sub, z_stills_sub, z_share_sub, z_bor_slc, z_still_slc, z_stills_slc, z_share_slc, z_bor_rpr, z_still_rpr, z_stills_rpr, z_share_rpr, z_bor_tup, z_still_tup, z_stills_tup, z_share_tup, z_bor_lst, z_still_lst, z_stills_lst, z_share_lst, z_bor_lc, z_still_lc, z_stills_lc, z_share_lc, z_bor_mov, z_still_mov, z_stills_mov, z_share_mov, z_setNm, z_setTpT, z_setTpL, z_setsN, z_setsC, z_putN, z_putC, z_var, z_mov, z_con, z_glo, z_bin, z_neg, z_nt, z_bo, z_cmp, z_chn, z_ife, z_call, z_calk, z_bi, z_isi, z_sub, z_slc, z_tup, z_lst, z_rprL, z_rprT, z_lc, z_esN, z_esC, z_bsN, z_bsC, z_aN, z_aM, z_aF, z_aE, z_oN, z_oY, z_bo1, z_bo2, zt_nt, zt_bo, zt_cmp, zt_chn, zt_isi, zt_call, zt_var, zt_bi, zt_to1, zt_to2, zt_tsN, zt_ts1, i_ex, i_r1, i_r2, i_r3, i_zip, i_enum, i_rev, c_asg, c_par, c_pst, c_pag, c_aug, c_app, c_exp, c_ite, c_for, c_ret, c_rtn, c_brk, c_cnt, c_pas, c_nev, c_nil, c_cons, b_add, b_sub, b_mul, b_fdiv, b_mod, b_pow, b_shl, b_shr, b_cat, b_rep, a_add, a_sub, a_mul, a_mod, q_eqI, q_neI, q_eqS, q_neS, q_eqB, q_neB, q_eqNil, q_neNil, q_lt, q_le, q_gt, q_ge, q_is, q_isnt, r_bl, r_int, r_lst, r_tup, s_szL, s_szT, s_subL, s_subT, s_slcL, s_slcT, s_itL, s_itT, s_liL, n_lenL, n_lenT, n_abs, n_min2, n_max2, n_int, n_intB, n_listL, n_listT, n_tupL, n_strI, n_boolI, n_allL, n_anyL, n_sumL, f_non, f_bl, f_int, f_str, f_tup, f_lst, f_nil, f_cons, g_int, g_bl, g_non, g_str, g_lstF, g_tup, g_lstT, g_nil, g_cons, o_nil, o_0, o_1, z_cast0, z_cast1, z_cast2, z_cast3, z_cast4, z_cast5, z_cast6, z_cast7, z_cast8, z_cast9, z_cast10, z_cast11, z_cast12, l_ltl0, l_ltl1, l_ltl2, l_ltl3, l_ltl4, l_ltl5, l_ltl6, l_ltl7, l_ltl8, l_ltl9, l_ltl10, l_ltl11, l_ltl12, l_line0, l_line1, l_line2, l_line3, l_line4, l_line5, l_line6, l_line7, l_line8, l_line9, l_line10, l_line11, l_line12, k_NoneType_int, k_NoneType_bool, k_NoneType_str, k_NoneType_list, k_NoneType_tuple, k_NoneType_dict, k_bool_int, k_bool_bool, k_bool_str, k_bool_list, k_bool_tuple, k_bool_dict, k_int_int, k_int_bool, k_int_str, k_int_list, k_int_tuple, k_int_dict, k_str_int, k_str_bool, k_str_str, k_str_list, k_str_tuple, k_str_dict, k_tuple_int, k_tuple_bool, k_tuple_str, k_tuple_list, k_tuple_tuple, k_tuple_dict, k_list_int, k_list_bool, k_list_str, k_list_list, k_list_tuple, k_list_dict, z_at0, z_at1, z_at2, z_at3, z_at4, z_at5, z_at6, z_at7, z_at8, z_ix1_0, z_ix2_0, z_ix2_1, z_ix3_0, z_ix3_1, z_ix3_2, z_ix4_0, z_ix4_1, z_ix4_2, z_ix4_3, z_ix5_0, z_ix5_1, z_ix5_2, z_ix5_3, z_ix5_4, z_ix6_0, z_ix6_1, z_ix6_2, z_ix6_3, z_ix6_4, z_ix6_5, z_ix7_0, z_ix7_1, z_ix7_2, z_ix7_3, z_ix7_4, z_ix7_5, z_ix7_6, z_ix8_0, z_ix8_1, z_ix8_2, z_ix8_3, z_ix8_4, z_ix8_5, z_ix8_6, z_ix8_7, Bool.not_eq_true', decide_eq_false_iff_not, ite_not, Bool.false_eq_true, Int.reduceEq, wipeE, backE, IL_fz, IL_isFz, fz_fz, fzL_fzL, List.set_cons_zero, List.set_cons_succ, List.getElem?_cons_zero, List.getElem?_cons_succ, List.length_cons, List.length_nil, and_true, true_and, Bool.and_true, Bool.true_and, Bool.not_true, Bool.not_false, Bool.not_not, if_true, if_false, ite_true, ite_false, Option.map_some, Option.some.injEq, exists_eq_left, exists_eq_left', D.int.injEq, D.lst.injEq, D.bl.injEq, D.str.injEq, D.tup.injEq, List.cons_append, List.nil_append, List.not_mem_nil, not_false_eq_true, Bool.false_eq_true, List.all_cons, List.all_nil, reduceIte, reduceCtorEq, List.isEmpty_cons, List.isEmpty_nil, eq_self, decide_true, decide_false, Bool.if_true_left, exists_eq, exists_eq', decide_eq_true_eq, Int.reduceToNat, Int.reducePow, Int.reduceNeg, Int.reduceLT, Int.reduceLE, Int.reduceSub, Int.reduceAdd, and_false, false_and, List.mem_cons, or_false, false_or, exists_and_left, Nat.zero_add, ne_eq, not_true_eq_false, Nat.reduceAdd, Nat.reduceLT, Nat.reduceEqDiff, Nat.reduceLeDiff]
  by_cases hd : 0 < d
  · rw [if_pos hd]
    refine ⟨hw, div_by hw w9, q _ _ (Int.emod_nonneg _ (by omega)) (Int.emod_lt_of_pos _ hw) ⟨_, _, _, rfl, Int.ediv_nonneg h1 (by omega), h2, h3, h4, by omega⟩⟩
  · rw [if_neg hd]
    have e1 := Int.emod_nonneg ((m + 982451653 * (n + 1)) ^ 3) (b := 10000000000000000000000000000000000043) (by decide)
    have e2 := Int.emod_lt_of_pos ((m + 982451653 * (n + 1)) ^ 3) (b := 10000000000000000000000000000000000043) (by decide)
    generalize hy : (m + 982451653 * (n + 1)) ^ 3 % 10000000000000000000000000000000000043 = y at e1 e2
    refine ⟨mul_by 61 61 (by decide) (by omega) (by decide) (by decide) (by decide), pow_by 129 (by decide) (by omega) (by decide) (by decide), pow_by 4 (by decide) (by decide) (by decide) (by decide), mul_by 61 61 (by decide) (by omega) (by decide) (by decide) (by decide), pow_by 129 (by decide) (by omega) (by decide) (by decide), pow_by 4 (by decide) (by decide) (by decide) (by decide), div_by (by decide) (by decide), hw, ?_⟩
    exact q _ _ (Int.emod_nonneg _ (by omega)) (Int.emod_lt_of_pos _ hw) ⟨_, _, _, rfl, h1, h2, h3, by omega, by omega⟩
/-- packs: a lock of the law -/
def sp_pack : FSpec := fun ds Q _ => ∃ b x w far, ds = [x, .int w, .int far] ∧ Coil b x ∧ b ≤ 10 ^ 11 ∧ 1 ≤ w ∧ w ≤ 8 ∧ 0 < far ∧ far < 10 ^ 35 ∧ ∀ r qs y, LockOk r qs → (∀ p ∈ qs, p < 3 * 10 ^ 35 + 300) → r < 10 ^ 35 + 100 → (qs.length : Int) ≤ w → Coil (b + 40) y → Q (.tup [.int r, .lst true (IL qs)]) [y]
theorem w_pack {Γ : Sig} (hm : Γ.me = [0]) (H1 : Has Γ "_law_draw" [true] sp_cdraw) (ds : List D) (Q : D → List D → Prop) (R : Exc → Prop) (h : sp_pack ds Q R) : wpF Γ f__law_pack ds Q R := by
  obtain ⟨b, x, w, far, rfl, hx, hb, hw, hw2, hf, hf2, q⟩ := h
  simp only [wpF_eq, f__law_pack, startE, hm, H1.sp, H1.io, List.map_cons, List.map_nil, IL_len, z_get0, z_getS, z_borV, z_stillV, z_stillsV, z_stillsN, z_shareV, z_bor_con, z_still_con, z_stills_con, z_share_con, z_bor_glo, z_still_glo, z_stills_glo, z_share_glo, z_bor_bin, z_still_bin, z_stills_bin, z_share_bin, z_bor_neg, z_still_neg, z_stills_neg, z_share_neg, z_bor_nt, z_still_nt, z_stills_nt, z_share_nt, z_bor_bo, z_still_bo, z_stills_bo, z_share_bo, z_bor_cmp, z_still_cmp, z_stills_cmp, z_share_cmp, z_bor_chn, z_still_chn, z_stills_chn, z_share_chn, z_bor_ife, z_still_ife, z_stills_ife, z_share_ife, z_bor_call, z_still_call, z_stills_call, z_share_call, z_bor_calk, z_still_calk, z_stills_calk, z_share_calk, z_bor_bi, z_still_bi, z_stills_bi, z_share_bi, z_bor_isi, z_still_isi, z_stills_isi, z_share_isi, z_bor_sub, z_still_sub, z_stills_sub, z_share_sub, z_bor_slc, z_still_slc, z_stills_slc, z_share_slc, z_bor_rpr, z_still_rpr, z_stills_rpr, z_share_rpr, z_bor_tup, z_still_tup, z_stills_tup, z_share_tup, z_bor_lst, z_still_lst, z_stills_lst, z_share_lst, z_bor_lc, z_still_lc, z_stills_lc, z_share_lc, z_bor_mov, z_still_mov, z_stills_mov, z_share_mov, z_setNm, z_setTpT, z_setTpL, z_setsN, z_setsC, z_putN, z_putC, z_var, z_mov, z_con, z_glo, z_bin, z_neg, z_nt, z_bo, z_cmp, z_chn, z_ife, z_call, z_calk, z_bi, z_isi, z_sub, z_slc, z_tup, z_lst, z_rprL, z_rprT, z_lc, z_esN, z_esC, z_bsN, z_bsC, z_aN, z_aM, z_aF, z_aE, z_oN, z_oY, z_bo1, z_bo2, zt_nt, zt_bo, zt_cmp, zt_chn, zt_isi, zt_call, zt_var, zt_bi, zt_to1, zt_to2, zt_tsN, zt_ts1, i_ex, i_r1, i_r2, i_r3, i_zip, i_enum, i_rev, c_asg, c_par, c_pst, c_pag, c_aug, c_app, c_exp, c_ite, c_for, c_ret, c_rtn, c_brk, c_cnt, c_pas, c_nev, c_nil, c_cons, b_add, b_sub, b_mul, b_fdiv, b_mod, b_pow, b_shl, b_shr, b_cat, b_rep, a_add, a_sub, a_mul, a_mod, q_eqI, q_neI, q_eqS, q_neS, q_eqB, q_neB, q_eqNil, q_neNil, q_lt, q_le, q_gt, q_ge, q_is, q_isnt, r_bl, r_int, r_lst, r_tup, s_szL, s_szT, s_subL, s_subT, s_slcL, s_slcT, s_itL, s_itT, s_liL, n_lenL, n_lenT, n_abs, n_min2, n_max2, n_int, n_intB, n_listL, n_listT, n_tupL, n_strI, n_boolI, n_allL, n_anyL, n_sumL, f_non, f_bl, f_int, f_str, f_tup, f_lst, f_nil, f_cons, g_int, g_bl, g_non, g_str, g_lstF, g_tup, g_lstT, g_nil, g_cons, o_nil, o_0, o_1, z_cast0, z_cast1, z_cast2, z_cast3, z_cast4, z_cast5, z_cast6, z_cast7, z_cast8, z_cast9, z_cast10, z_cast11, z_cast12, l_ltl0, l_ltl1, l_ltl2, l_ltl3, l_ltl4, l_ltl5, l_ltl6, l_ltl7, l_ltl8, l_ltl9, l_ltl10, l_ltl11, l_ltl12, l_line0, l_line1, l_line2, l_line3, l_line4, l_line5, l_line6, l_line7, l_line8, l_line9, l_line10, l_line11, l_line12, k_NoneType_int, k_NoneType_bool, k_NoneType_str, k_NoneType_list, k_NoneType_tuple, k_NoneType_dict, k_bool_int, k_bool_bool, k_bool_str, k_bool_list, k_bool_tuple, k_bool_dict, k_int_int, k_int_bool, k_int_str, k_int_list, k_int_tuple, k_int_dict, k_str_int, k_str_bool, k_str_str, k_str_list, k_str_tuple, k_str_dict, k_tuple_int, k_tuple_bool, k_tuple_str, k_tuple_list, k_tuple_tuple, k_tuple_dict, k_list_int, k_list_bool, k_list_str, k_list_list, k_list_tuple, k_list_dict, z_at0, z_at1, z_at2, z_at3, z_at4, z_at5, z_at6, z_at7, z_at8, z_ix1_0, z_ix2_0, z_ix2_1, z_ix3_0, z_ix3_1, z_ix3_2, z_ix4_0, z_ix4_1, z_ix4_2, z_ix4_3, z_ix5_0, z_ix5_1, z_ix5_2, z_ix5_3, z_ix5_4, z_ix6_0, z_ix6_1, z_ix6_2, z_ix6_3, z_ix6_4, z_ix6_5, z_ix7_0, z_ix7_1, z_ix7_2, z_ix7_3, z_ix7_4, z_ix7_5, z_ix7_6, z_ix8_0, z_ix8_1, z_ix8_2, z_ix8_3, z_ix8_4, z_ix8_5, z_ix8_6, z_ix8_7, Bool.not_eq_true', decide_eq_false_iff_not, ite_not, Bool.false_eq_true, Int.reduceEq, wipeE, backE, IL_fz, IL_isFz, fz_fz, fzL_fzL, List.set_cons_zero, List.set_cons_succ, List.getElem?_cons_zero, List.getElem?_cons_succ, List.length_cons, List.length_nil, and_true, true_and, Bool.and_true, Bool.true_and, Bool.not_true, Bool.not_false, Bool.not_not, if_true, if_false, ite_true, ite_false, Option.map_some, Option.some.injEq, exists_eq_left, exists_eq_left', D.int.injEq, D.lst.injEq, D.bl.injEq, D.str.injEq, D.tup.injEq, List.cons_append, List.nil_append, List.not_mem_nil, not_false_eq_true, Bool.false_eq_true, List.all_cons, List.all_nil, reduceIte, reduceCtorEq, List.isEmpty_cons, List.isEmpty_nil, eq_self, decide_true, decide_false, Bool.if_true_left, exists_eq, exists_eq', decide_eq_true_eq, Int.reduceToNat, Int.reducePow, Int.reduceNeg, Int.reduceLT, Int.reduceLE, Int.reduceSub, Int.reduceAdd, and_false, false_and, List.mem_cons, or_false, false_or, exists_and_left, Nat.zero_add, ne_eq, not_true_eq_false, Nat.reduceAdd, Nat.reduceLT, Nat.reduceEqDiff, Nat.reduceLeDiff]
  refine ⟨_, _, _, rfl, hx, by omega, by decide, by decide, fun r1 x1 a1 a2 k1 => ⟨rfl, ?_⟩⟩
  simp only [hm, H1.sp, H1.io, z_get0, z_getS, z_borV, z_stillV, z_stillsV, z_stillsN, z_shareV, z_bor_con, z_still_con, z_stills_con, z_share_con, z_bor_glo, z_still_glo, z_stills_glo, z_share_glo, z_bor_bin, z_still_bin, z_stills_bin, z_share_bin, z_bor_neg, z_still_neg, z_stills_neg, z_share_neg, z_bor_nt, z_still_nt, z_stills_nt, z_share_nt, z_bor_bo, z_still_bo, z_stills_bo, z_share_bo, z_bor_cmp, z_still_cmp, z_stills_cmp, z_share_cmp, z_bor_chn, z_still_chn, z_stills_chn, z_share_chn, z_bor_ife, z_still_ife, z_stills_ife, z_share_ife, z_bor_call, z_still_call, z_stills_call, z_share_call, z_bor_calk, z_still_calk, z_stills_calk, z_share_calk, z_bor_bi, z_still_bi, z_stills_bi, z_share_bi, z_bor_isi, z_still_isi, z_stills_isi, z_share_isi, z_bor_sub, z_still_sub, z_stills_sub, z_share_sub, z_bor_slc, z_still_slc, z_stills_slc, z_share_slc, z_bor_rpr, z_still_rpr, z_stills_rpr, z_share_rpr, z_bor_tup, z_still_tup, z_stills_tup, z_share_tup, z_bor_lst, z_still_lst, z_stills_lst, z_share_lst, z_bor_lc, z_still_lc, z_stills_lc, z_share_lc, z_bor_mov, z_still_mov, z_stills_mov, z_share_mov, z_setNm, z_setTpT, z_setTpL, z_setsN, z_setsC, z_putN, z_putC, z_var, z_mov, z_con, z_glo, z_bin, z_neg, z_nt, z_bo, z_cmp, z_chn, z_ife, z_call, z_calk, z_bi, z_isi, z_sub, z_slc, z_tup, z_lst, z_rprL, z_rprT, z_lc, z_esN, z_esC, z_bsN, z_bsC, z_aN, z_aM, z_aF, z_aE, z_oN, z_oY, z_bo1, z_bo2, zt_nt, zt_bo, zt_cmp, zt_chn, zt_isi, zt_call, zt_var, zt_bi, zt_to1, zt_to2, zt_tsN, zt_ts1, i_ex, i_r1, i_r2, i_r3, i_zip, i_enum, i_rev, c_asg, c_par, c_pst, c_pag, c_aug, c_app, c_exp, c_ite, c_for, c_ret, c_rtn, c_brk, c_cnt, c_pas, c_nev, c_nil, c_cons, b_add, b_sub, b_mul, b_fdiv, b_mod, b_pow, b_shl, b_shr, b_cat, b_rep, a_add, a_sub, a_mul, a_mod, q_eqI, q_neI, q_eqS, q_neS, q_eqB, q_neB, q_eqNil, q_neNil, q_lt, q_le, q_gt, q_ge, q_is, q_isnt, r_bl, r_int, r_lst, r_tup, s_szL, s_szT, s_subL, s_subT, s_slcL, s_slcT, s_itL, s_itT, s_liL, n_lenL, n_lenT, n_abs, n_min2, n_max2, n_int, n_intB, n_listL, n_listT, n_tupL, n_strI, n_boolI, n_allL, n_anyL, n_sumL, f_non, f_bl, f_int, f_str, f_tup, f_lst, f_nil, f_cons, g_int, g_bl, g_non, g_str, g_lstF, g_tup, g_lstT, g_nil, g_cons, o_nil, o_0, o_1, z_cast0, z_cast1, z_cast2, z_cast3, z_cast4, z_cast5, z_cast6, z_cast7, z_cast8, z_cast9, z_cast10, z_cast11, z_cast12, l_ltl0, l_ltl1, l_ltl2, l_ltl3, l_ltl4, l_ltl5, l_ltl6, l_ltl7, l_ltl8, l_ltl9, l_ltl10, l_ltl11, l_ltl12, l_line0, l_line1, l_line2, l_line3, l_line4, l_line5, l_line6, l_line7, l_line8, l_line9, l_line10, l_line11, l_line12, k_NoneType_int, k_NoneType_bool, k_NoneType_str, k_NoneType_list, k_NoneType_tuple, k_NoneType_dict, k_bool_int, k_bool_bool, k_bool_str, k_bool_list, k_bool_tuple, k_bool_dict, k_int_int, k_int_bool, k_int_str, k_int_list, k_int_tuple, k_int_dict, k_str_int, k_str_bool, k_str_str, k_str_list, k_str_tuple, k_str_dict, k_tuple_int, k_tuple_bool, k_tuple_str, k_tuple_list, k_tuple_tuple, k_tuple_dict, k_list_int, k_list_bool, k_list_str, k_list_list, k_list_tuple, k_list_dict, z_at0, z_at1, z_at2, z_at3, z_at4, z_at5, z_at6, z_at7, z_at8, z_ix1_0, z_ix2_0, z_ix2_1, z_ix3_0, z_ix3_1, z_ix3_2, z_ix4_0, z_ix4_1, z_ix4_2, z_ix4_3, z_ix5_0, z_ix5_1, z_ix5_2, z_ix5_3, z_ix5_4, z_ix6_0, z_ix6_1, z_ix6_2, z_ix6_3, z_ix6_4, z_ix6_5, z_ix7_0, z_ix7_1, z_ix7_2, z_ix7_3, z_ix7_4, z_ix7_5, z_ix7_6, z_ix8_0, z_ix8_1, z_ix8_2, z_ix8_3, z_ix8_4, z_ix8_5, z_ix8_6, z_ix8_7, Bool.not_eq_true', decide_eq_false_iff_not, ite_not, Bool.false_eq_true, Int.reduceEq, wipeE, backE, IL_fz, IL_isFz, fz_fz, fzL_fzL, List.set_cons_zero, List.set_cons_succ, List.getElem?_cons_zero, List.getElem?_cons_succ, List.length_cons, List.length_nil, and_true, true_and, Bool.and_true, Bool.true_and, Bool.not_true, Bool.not_false, Bool.not_not, if_true, if_false, ite_true, ite_false, Option.map_some, Option.some.injEq, exists_eq_left, exists_eq_left', D.int.injEq, D.lst.injEq, D.bl.injEq, D.str.injEq, D.tup.injEq, List.cons_append, List.nil_append, List.not_mem_nil, not_false_eq_true, Bool.false_eq_true, List.all_cons, List.all_nil, reduceIte, reduceCtorEq, List.isEmpty_cons, List.isEmpty_nil, eq_self, decide_true, decide_false, Bool.if_true_left, exists_eq, exists_eq', decide_eq_true_eq, Int.reduceToNat, Int.reducePow, Int.reduceNeg, Int.reduceLT, Int.reduceLE, Int.reduceSub, Int.reduceAdd, and_false, false_and, List.mem_cons, or_false, false_or, exists_and_left, Nat.zero_add, ne_eq, not_true_eq_false, Nat.reduceAdd, Nat.reduceLT, Nat.reduceEqDiff, Nat.reduceLeDiff]
  refine ⟨_, _, _, rfl, k1, by omega, hf, by omega, fun r2 x2 a3 a4 k2 => ⟨rfl, ?_⟩⟩
  simp only [hm, H1.sp, H1.io, z_get0, z_getS, z_borV, z_stillV, z_stillsV, z_stillsN, z_shareV, z_bor_con, z_still_con, z_stills_con, z_share_con, z_bor_glo, z_still_glo, z_stills_glo, z_share_glo, z_bor_bin, z_still_bin, z_stills_bin, z_share_bin, z_bor_neg, z_still_neg, z_stills_neg, z_share_neg, z_bor_nt, z_still_nt, z_stills_nt, z_share_nt, z_bor_bo, z_still_bo, z_stills_bo, z_share_bo, z_bor_cmp, z_still_cmp, z_stills_cmp, z_share_cmp, z_bor_chn, z_still_chn, z_stills_chn, z_share_chn, z_bor_ife, z_still_ife, z_stills_ife, z_share_ife, z_bor_call, z_still_call, z_stills_call, z_share_call, z_bor_calk, z_still_calk, z_stills_calk, z_share_calk, z_bor_bi, z_still_bi, z_stills_bi, z_share_bi, z_bor_isi, z_still_isi, z_stills_isi, z_share_isi, z_bor_sub, z_still_sub, z_stills_sub, z_share_sub, z_bor_slc, z_still_slc, z_stills_slc, z_share_slc, z_bor_rpr, z_still_rpr, z_stills_rpr, z_share_rpr, z_bor_tup, z_still_tup, z_stills_tup, z_share_tup, z_bor_lst, z_still_lst, z_stills_lst, z_share_lst, z_bor_lc, z_still_lc, z_stills_lc, z_share_lc, z_bor_mov, z_still_mov, z_stills_mov, z_share_mov, z_setNm, z_setTpT, z_setTpL, z_setsN, z_setsC, z_putN, z_putC, z_var, z_mov, z_con, z_glo, z_bin, z_neg, z_nt, z_bo, z_cmp, z_chn, z_ife, z_call, z_calk, z_bi, z_isi, z_sub, z_slc, z_tup, z_lst, z_rprL, z_rprT, z_lc, z_esN, z_esC, z_bsN, z_bsC, z_aN, z_aM, z_aF, z_aE, z_oN, z_oY, z_bo1, z_bo2, zt_nt, zt_bo, zt_cmp, zt_chn, zt_isi, zt_call, zt_var, zt_bi, zt_to1, zt_to2, zt_tsN, zt_ts1, i_ex, i_r1, i_r2, i_r3, i_zip, i_enum, i_rev, c_asg, c_par, c_pst, c_pag, c_aug, c_app, c_exp, c_ite, c_for, c_ret, c_rtn, c_brk, c_cnt, c_pas, c_nev, c_nil, c_cons, b_add, b_sub, b_mul, b_fdiv, b_mod, b_pow, b_shl, b_shr, b_cat, b_rep, a_add, a_sub, a_mul, a_mod, q_eqI, q_neI, q_eqS, q_neS, q_eqB, q_neB, q_eqNil, q_neNil, q_lt, q_le, q_gt, q_ge, q_is, q_isnt, r_bl, r_int, r_lst, r_tup, s_szL, s_szT, s_subL, s_subT, s_slcL, s_slcT, s_itL, s_itT, s_liL, n_lenL, n_lenT, n_abs, n_min2, n_max2, n_int, n_intB, n_listL, n_listT, n_tupL, n_strI, n_boolI, n_allL, n_anyL, n_sumL, f_non, f_bl, f_int, f_str, f_tup, f_lst, f_nil, f_cons, g_int, g_bl, g_non, g_str, g_lstF, g_tup, g_lstT, g_nil, g_cons, o_nil, o_0, o_1, z_cast0, z_cast1, z_cast2, z_cast3, z_cast4, z_cast5, z_cast6, z_cast7, z_cast8, z_cast9, z_cast10, z_cast11, z_cast12, l_ltl0, l_ltl1, l_ltl2, l_ltl3, l_ltl4, l_ltl5, l_ltl6, l_ltl7, l_ltl8, l_ltl9, l_ltl10, l_ltl11, l_ltl12, l_line0, l_line1, l_line2, l_line3, l_line4, l_line5, l_line6, l_line7, l_line8, l_line9, l_line10, l_line11, l_line12, k_NoneType_int, k_NoneType_bool, k_NoneType_str, k_NoneType_list, k_NoneType_tuple, k_NoneType_dict, k_bool_int, k_bool_bool, k_bool_str, k_bool_list, k_bool_tuple, k_bool_dict, k_int_int, k_int_bool, k_int_str, k_int_list, k_int_tuple, k_int_dict, k_str_int, k_str_bool, k_str_str, k_str_list, k_str_tuple, k_str_dict, k_tuple_int, k_tuple_bool, k_tuple_str, k_tuple_list, k_tuple_tuple, k_tuple_dict, k_list_int, k_list_bool, k_list_str, k_list_list, k_list_tuple, k_list_dict, z_at0, z_at1, z_at2, z_at3, z_at4, z_at5, z_at6, z_at7, z_at8, z_ix1_0, z_ix2_0, z_ix2_1, z_ix3_0, z_ix3_1, z_ix3_2, z_ix4_0, z_ix4_1, z_ix4_2, z_ix4_3, z_ix5_0, z_ix5_1, z_ix5_2, z_ix5_3, z_ix5_4, z_ix6_0, z_ix6_1, z_ix6_2, z_ix6_3, z_ix6_4, z_ix6_5, z_ix7_0, z_ix7_1, z_ix7_2, z_ix7_3, z_ix7_4, z_ix7_5, z_ix7_6, z_ix8_0, z_ix8_1, z_ix8_2, z_ix8_3, z_ix8_4, z_ix8_5, z_ix8_6, z_ix8_7, Bool.not_eq_true', decide_eq_false_iff_not, ite_not, Bool.false_eq_true, Int.reduceEq, wipeE, backE, IL_fz, IL_isFz, fz_fz, fzL_fzL, List.set_cons_zero, List.set_cons_succ, List.getElem?_cons_zero, List.getElem?_cons_succ, List.length_cons, List.length_nil, and_true, true_and, Bool.and_true, Bool.true_and, Bool.not_true, Bool.not_false, Bool.not_not, if_true, if_false, ite_true, ite_false, Option.map_some, Option.some.injEq, exists_eq_left, exists_eq_left', D.int.injEq, D.lst.injEq, D.bl.injEq, D.str.injEq, D.tup.injEq, List.cons_append, List.nil_append, List.not_mem_nil, not_false_eq_true, Bool.false_eq_true, List.all_cons, List.all_nil, reduceIte, reduceCtorEq, List.isEmpty_cons, List.isEmpty_nil, eq_self, decide_true, decide_false, Bool.if_true_left, exists_eq, exists_eq', decide_eq_true_eq, Int.reduceToNat, Int.reducePow, Int.reduceNeg, Int.reduceLT, Int.reduceLE, Int.reduceSub, Int.reduceAdd, and_false, false_and, List.mem_cons, or_false, false_or, exists_and_left, Nat.zero_add, ne_eq, not_true_eq_false, Nat.reduceAdd, Nat.reduceLT, Nat.reduceEqDiff, Nat.reduceLeDiff]
  refine ⟨_, _, _, rfl, k2, by omega, by decide, by decide, fun r3 x3 a5 a6 k3 => ⟨rfl, ?_⟩⟩
  simp only [hm, H1.sp, H1.io, z_get0, z_getS, z_borV, z_stillV, z_stillsV, z_stillsN, z_shareV, z_bor_con, z_still_con, z_stills_con, z_share_con, z_bor_glo, z_still_glo, z_stills_glo, z_share_glo, z_bor_bin, z_still_bin, z_stills_bin, z_share_bin, z_bor_neg, z_still_neg, z_stills_neg, z_share_neg, z_bor_nt, z_still_nt, z_stills_nt, z_share_nt, z_bor_bo, z_still_bo, z_stills_bo, z_share_bo, z_bor_cmp, z_still_cmp, z_stills_cmp, z_share_cmp, z_bor_chn, z_still_chn, z_stills_chn, z_share_chn, z_bor_ife, z_still_ife, z_stills_ife, z_share_ife, z_bor_call, z_still_call, z_stills_call, z_share_call, z_bor_calk, z_still_calk, z_stills_calk, z_share_calk, z_bor_bi, z_still_bi, z_stills_bi, z_share_bi, z_bor_isi, z_still_isi, z_stills_isi, z_share_isi, z_bor_sub, z_still_sub, z_stills_sub, z_share_sub, z_bor_slc, z_still_slc, z_stills_slc, z_share_slc, z_bor_rpr, z_still_rpr, z_stills_rpr, z_share_rpr, z_bor_tup, z_still_tup, z_stills_tup, z_share_tup, z_bor_lst, z_still_lst, z_stills_lst, z_share_lst, z_bor_lc, z_still_lc, z_stills_lc, z_share_lc, z_bor_mov, z_still_mov, z_stills_mov, z_share_mov, z_setNm, z_setTpT, z_setTpL, z_setsN, z_setsC, z_putN, z_putC, z_var, z_mov, z_con, z_glo, z_bin, z_neg, z_nt, z_bo, z_cmp, z_chn, z_ife, z_call, z_calk, z_bi, z_isi, z_sub, z_slc, z_tup, z_lst, z_rprL, z_rprT, z_lc, z_esN, z_esC, z_bsN, z_bsC, z_aN, z_aM, z_aF, z_aE, z_oN, z_oY, z_bo1, z_bo2, zt_nt, zt_bo, zt_cmp, zt_chn, zt_isi, zt_call, zt_var, zt_bi, zt_to1, zt_to2, zt_tsN, zt_ts1, i_ex, i_r1, i_r2, i_r3, i_zip, i_enum, i_rev, c_asg, c_par, c_pst, c_pag, c_aug, c_app, c_exp, c_ite, c_for, c_ret, c_rtn, c_brk, c_cnt, c_pas, c_nev, c_nil, c_cons, b_add, b_sub, b_mul, b_fdiv, b_mod, b_pow, b_shl, b_shr, b_cat, b_rep, a_add, a_sub, a_mul, a_mod, q_eqI, q_neI, q_eqS, q_neS, q_eqB, q_neB, q_eqNil, q_neNil, q_lt, q_le, q_gt, q_ge, q_is, q_isnt, r_bl, r_int, r_lst, r_tup, s_szL, s_szT, s_subL, s_subT, s_slcL, s_slcT, s_itL, s_itT, s_liL, n_lenL, n_lenT, n_abs, n_min2, n_max2, n_int, n_intB, n_listL, n_listT, n_tupL, n_strI, n_boolI, n_allL, n_anyL, n_sumL, f_non, f_bl, f_int, f_str, f_tup, f_lst, f_nil, f_cons, g_int, g_bl, g_non, g_str, g_lstF, g_tup, g_lstT, g_nil, g_cons, o_nil, o_0, o_1, z_cast0, z_cast1, z_cast2, z_cast3, z_cast4, z_cast5, z_cast6, z_cast7, z_cast8, z_cast9, z_cast10, z_cast11, z_cast12, l_ltl0, l_ltl1, l_ltl2, l_ltl3, l_ltl4, l_ltl5, l_ltl6, l_ltl7, l_ltl8, l_ltl9, l_ltl10, l_ltl11, l_ltl12, l_line0, l_line1, l_line2, l_line3, l_line4, l_line5, l_line6, l_line7, l_line8, l_line9, l_line10, l_line11, l_line12, k_NoneType_int, k_NoneType_bool, k_NoneType_str, k_NoneType_list, k_NoneType_tuple, k_NoneType_dict, k_bool_int, k_bool_bool, k_bool_str, k_bool_list, k_bool_tuple, k_bool_dict, k_int_int, k_int_bool, k_int_str, k_int_list, k_int_tuple, k_int_dict, k_str_int, k_str_bool, k_str_str, k_str_list, k_str_tuple, k_str_dict, k_tuple_int, k_tuple_bool, k_tuple_str, k_tuple_list, k_tuple_tuple, k_tuple_dict, k_list_int, k_list_bool, k_list_str, k_list_list, k_list_tuple, k_list_dict, z_at0, z_at1, z_at2, z_at3, z_at4, z_at5, z_at6, z_at7, z_at8, z_ix1_0, z_ix2_0, z_ix2_1, z_ix3_0, z_ix3_1, z_ix3_2, z_ix4_0, z_ix4_1, z_ix4_2, z_ix4_3, z_ix5_0, z_ix5_1, z_ix5_2, z_ix5_3, z_ix5_4, z_ix6_0, z_ix6_1, z_ix6_2, z_ix6_3, z_ix6_4, z_ix6_5, z_ix7_0, z_ix7_1, z_ix7_2, z_ix7_3, z_ix7_4, z_ix7_5, z_ix7_6, z_ix8_0, z_ix8_1, z_ix8_2, z_ix8_3, z_ix8_4, z_ix8_5, z_ix8_6, z_ix8_7, Bool.not_eq_true', decide_eq_false_iff_not, ite_not, Bool.false_eq_true, Int.reduceEq, wipeE, backE, IL_fz, IL_isFz, fz_fz, fzL_fzL, List.set_cons_zero, List.set_cons_succ, List.getElem?_cons_zero, List.getElem?_cons_succ, List.length_cons, List.length_nil, and_true, true_and, Bool.and_true, Bool.true_and, Bool.not_true, Bool.not_false, Bool.not_not, if_true, if_false, ite_true, ite_false, Option.map_some, Option.some.injEq, exists_eq_left, exists_eq_left', D.int.injEq, D.lst.injEq, D.bl.injEq, D.str.injEq, D.tup.injEq, List.cons_append, List.nil_append, List.not_mem_nil, not_false_eq_true, Bool.false_eq_true, List.all_cons, List.all_nil, reduceIte, reduceCtorEq, List.isEmpty_cons, List.isEmpty_nil, eq_self, decide_true, decide_false, Bool.if_true_left, exists_eq, exists_eq', decide_eq_true_eq, Int.reduceToNat, Int.reducePow, Int.reduceNeg, Int.reduceLT, Int.reduceLE, Int.reduceSub, Int.reduceAdd, and_false, false_and, List.mem_cons, or_false, false_or, exists_and_left, Nat.zero_add, ne_eq, not_true_eq_false, Nat.reduceAdd, Nat.reduceLT, Nat.reduceEqDiff, Nat.reduceLeDiff]
  obtain ⟨el, he, r, rfl, hr1, hr2⟩ := atI_in (P := fun (z : D) => ∃ v : Int, z = .int v ∧ 2 ≤ v ∧ v < 10 ^ 35 + 100) (xs := [D.int 2, D.int 3, D.int (2 + r1), D.int (2 + r2)]) a5 (by simpa using a6) (fun z hz => by
    simp only [List.mem_cons, List.not_mem_nil, or_false] at hz
    rcases hz with rfl | rfl | rfl | rfl
    · exact ⟨_, rfl, by omega, by omega⟩
    · exact ⟨_, rfl, by omega, by omega⟩
    · exact ⟨_, rfl, by omega, by omega⟩
    · exact ⟨_, rfl, by omega, by omega⟩)
  refine ⟨_, he, ?_⟩
  simp only [hm, H1.sp, H1.io, z_get0, z_getS, z_borV, z_stillV, z_stillsV, z_stillsN, z_shareV, z_bor_con, z_still_con, z_stills_con, z_share_con, z_bor_glo, z_still_glo, z_stills_glo, z_share_glo, z_bor_bin, z_still_bin, z_stills_bin, z_share_bin, z_bor_neg, z_still_neg, z_stills_neg, z_share_neg, z_bor_nt, z_still_nt, z_stills_nt, z_share_nt, z_bor_bo, z_still_bo, z_stills_bo, z_share_bo, z_bor_cmp, z_still_cmp, z_stills_cmp, z_share_cmp, z_bor_chn, z_still_chn, z_stills_chn, z_share_chn, z_bor_ife, z_still_ife, z_stills_ife, z_share_ife, z_bor_call, z_still_call, z_stills_call, z_share_call, z_bor_calk, z_still_calk, z_stills_calk, z_share_calk, z_bor_bi, z_still_bi, z_stills_bi, z_share_bi, z_bor_isi, z_still_isi, z_stills_isi, z_share_isi, z_bor_sub, z_still_sub, z_stills_sub, z_share_sub, z_bor_slc, z_still_slc, z_stills_slc, z_share_slc, z_bor_rpr, z_still_rpr, z_stills_rpr, z_share_rpr, z_bor_tup, z_still_tup, z_stills_tup, z_share_tup, z_bor_lst, z_still_lst, z_stills_lst, z_share_lst, z_bor_lc, z_still_lc, z_stills_lc, z_share_lc, z_bor_mov, z_still_mov, z_stills_mov, z_share_mov, z_setNm, z_setTpT, z_setTpL, z_setsN, z_setsC, z_putN, z_putC, z_var, z_mov, z_con, z_glo, z_bin, z_neg, z_nt, z_bo, z_cmp, z_chn, z_ife, z_call, z_calk, z_bi, z_isi, z_sub, z_slc, z_tup, z_lst, z_rprL, z_rprT, z_lc, z_esN, z_esC, z_bsN, z_bsC, z_aN, z_aM, z_aF, z_aE, z_oN, z_oY, z_bo1, z_bo2, zt_nt, zt_bo, zt_cmp, zt_chn, zt_isi, zt_call, zt_var, zt_bi, zt_to1, zt_to2, zt_tsN, zt_ts1, i_ex, i_r1, i_r2, i_r3, i_zip, i_enum, i_rev, c_asg, c_par, c_pst, c_pag, c_aug, c_app, c_exp, c_ite, c_for, c_ret, c_rtn, c_brk, c_cnt, c_pas, c_nev, c_nil, c_cons, b_add, b_sub, b_mul, b_fdiv, b_mod, b_pow, b_shl, b_shr, b_cat, b_rep, a_add, a_sub, a_mul, a_mod, q_eqI, q_neI, q_eqS, q_neS, q_eqB, q_neB, q_eqNil, q_neNil, q_lt, q_le, q_gt, q_ge, q_is, q_isnt, r_bl, r_int, r_lst, r_tup, s_szL, s_szT, s_subL, s_subT, s_slcL, s_slcT, s_itL, s_itT, s_liL, n_lenL, n_lenT, n_abs, n_min2, n_max2, n_int, n_intB, n_listL, n_listT, n_tupL, n_strI, n_boolI, n_allL, n_anyL, n_sumL, f_non, f_bl, f_int, f_str, f_tup, f_lst, f_nil, f_cons, g_int, g_bl, g_non, g_str, g_lstF, g_tup, g_lstT, g_nil, g_cons, o_nil, o_0, o_1, z_cast0, z_cast1, z_cast2, z_cast3, z_cast4, z_cast5, z_cast6, z_cast7, z_cast8, z_cast9, z_cast10, z_cast11, z_cast12, l_ltl0, l_ltl1, l_ltl2, l_ltl3, l_ltl4, l_ltl5, l_ltl6, l_ltl7, l_ltl8, l_ltl9, l_ltl10, l_ltl11, l_ltl12, l_line0, l_line1, l_line2, l_line3, l_line4, l_line5, l_line6, l_line7, l_line8, l_line9, l_line10, l_line11, l_line12, k_NoneType_int, k_NoneType_bool, k_NoneType_str, k_NoneType_list, k_NoneType_tuple, k_NoneType_dict, k_bool_int, k_bool_bool, k_bool_str, k_bool_list, k_bool_tuple, k_bool_dict, k_int_int, k_int_bool, k_int_str, k_int_list, k_int_tuple, k_int_dict, k_str_int, k_str_bool, k_str_str, k_str_list, k_str_tuple, k_str_dict, k_tuple_int, k_tuple_bool, k_tuple_str, k_tuple_list, k_tuple_tuple, k_tuple_dict, k_list_int, k_list_bool, k_list_str, k_list_list, k_list_tuple, k_list_dict, z_at0, z_at1, z_at2, z_at3, z_at4, z_at5, z_at6, z_at7, z_at8, z_ix1_0, z_ix2_0, z_ix2_1, z_ix3_0, z_ix3_1, z_ix3_2, z_ix4_0, z_ix4_1, z_ix4_2, z_ix4_3, z_ix5_0, z_ix5_1, z_ix5_2, z_ix5_3, z_ix5_4, z_ix6_0, z_ix6_1, z_ix6_2, z_ix6_3, z_ix6_4, z_ix6_5, z_ix7_0, z_ix7_1, z_ix7_2, z_ix7_3, z_ix7_4, z_ix7_5, z_ix7_6, z_ix8_0, z_ix8_1, z_ix8_2, z_ix8_3, z_ix8_4, z_ix8_5, z_ix8_6, z_ix8_7, Bool.not_eq_true', decide_eq_false_iff_not, ite_not, Bool.false_eq_true, Int.reduceEq, wipeE, backE, IL_fz, IL_isFz, fz_fz, fzL_fzL, List.set_cons_zero, List.set_cons_succ, List.getElem?_cons_zero, List.getElem?_cons_succ, List.length_cons, List.length_nil, and_true, true_and, Bool.and_true, Bool.true_and, Bool.not_true, Bool.not_false, Bool.not_not, if_true, if_false, ite_true, ite_false, Option.map_some, Option.some.injEq, exists_eq_left, exists_eq_left', D.int.injEq, D.lst.injEq, D.bl.injEq, D.str.injEq, D.tup.injEq, List.cons_append, List.nil_append, List.not_mem_nil, not_false_eq_true, Bool.false_eq_true, List.all_cons, List.all_nil, reduceIte, reduceCtorEq, List.isEmpty_cons, List.isEmpty_nil, eq_self, decide_true, decide_false, Bool.if_true_left, exists_eq, exists_eq', decide_eq_true_eq, Int.reduceToNat, Int.reducePow, Int.reduceNeg, Int.reduceLT, Int.reduceLE, Int.reduceSub, Int.reduceAdd, and_false, false_and, List.mem_cons, or_false, false_or, exists_and_left, Nat.zero_add, ne_eq, not_true_eq_false, Nat.reduceAdd, Nat.reduceLT, Nat.reduceEqDiff, Nat.reduceLeDiff]
  refine ⟨_, _, _, rfl, k3, by omega, by omega, by omega, fun r4 x4 a7 a8 k4 => ⟨rfl, ?_⟩⟩
  simp only [hm, H1.sp, H1.io, z_get0, z_getS, z_borV, z_stillV, z_stillsV, z_stillsN, z_shareV, z_bor_con, z_still_con, z_stills_con, z_share_con, z_bor_glo, z_still_glo, z_stills_glo, z_share_glo, z_bor_bin, z_still_bin, z_stills_bin, z_share_bin, z_bor_neg, z_still_neg, z_stills_neg, z_share_neg, z_bor_nt, z_still_nt, z_stills_nt, z_share_nt, z_bor_bo, z_still_bo, z_stills_bo, z_share_bo, z_bor_cmp, z_still_cmp, z_stills_cmp, z_share_cmp, z_bor_chn, z_still_chn, z_stills_chn, z_share_chn, z_bor_ife, z_still_ife, z_stills_ife, z_share_ife, z_bor_call, z_still_call, z_stills_call, z_share_call, z_bor_calk, z_still_calk, z_stills_calk, z_share_calk, z_bor_bi, z_still_bi, z_stills_bi, z_share_bi, z_bor_isi, z_still_isi, z_stills_isi, z_share_isi, z_bor_sub, z_still_sub, z_stills_sub, z_share_sub, z_bor_slc, z_still_slc, z_stills_slc, z_share_slc, z_bor_rpr, z_still_rpr, z_stills_rpr, z_share_rpr, z_bor_tup, z_still_tup, z_stills_tup, z_share_tup, z_bor_lst, z_still_lst, z_stills_lst, z_share_lst, z_bor_lc, z_still_lc, z_stills_lc, z_share_lc, z_bor_mov, z_still_mov, z_stills_mov, z_share_mov, z_setNm, z_setTpT, z_setTpL, z_setsN, z_setsC, z_putN, z_putC, z_var, z_mov, z_con, z_glo, z_bin, z_neg, z_nt, z_bo, z_cmp, z_chn, z_ife, z_call, z_calk, z_bi, z_isi, z_sub, z_slc, z_tup, z_lst, z_rprL, z_rprT, z_lc, z_esN, z_esC, z_bsN, z_bsC, z_aN, z_aM, z_aF, z_aE, z_oN, z_oY, z_bo1, z_bo2, zt_nt, zt_bo, zt_cmp, zt_chn, zt_isi, zt_call, zt_var, zt_bi, zt_to1, zt_to2, zt_tsN, zt_ts1, i_ex, i_r1, i_r2, i_r3, i_zip, i_enum, i_rev, c_asg, c_par, c_pst, c_pag, c_aug, c_app, c_exp, c_ite, c_for, c_ret, c_rtn, c_brk, c_cnt, c_pas, c_nev, c_nil, c_cons, b_add, b_sub, b_mul, b_fdiv, b_mod, b_pow, b_shl, b_shr, b_cat, b_rep, a_add, a_sub, a_mul, a_mod, q_eqI, q_neI, q_eqS, q_neS, q_eqB, q_neB, q_eqNil, q_neNil, q_lt, q_le, q_gt, q_ge, q_is, q_isnt, r_bl, r_int, r_lst, r_tup, s_szL, s_szT, s_subL, s_subT, s_slcL, s_slcT, s_itL, s_itT, s_liL, n_lenL, n_lenT, n_abs, n_min2, n_max2, n_int, n_intB, n_listL, n_listT, n_tupL, n_strI, n_boolI, n_allL, n_anyL, n_sumL, f_non, f_bl, f_int, f_str, f_tup, f_lst, f_nil, f_cons, g_int, g_bl, g_non, g_str, g_lstF, g_tup, g_lstT, g_nil, g_cons, o_nil, o_0, o_1, z_cast0, z_cast1, z_cast2, z_cast3, z_cast4, z_cast5, z_cast6, z_cast7, z_cast8, z_cast9, z_cast10, z_cast11, z_cast12, l_ltl0, l_ltl1, l_ltl2, l_ltl3, l_ltl4, l_ltl5, l_ltl6, l_ltl7, l_ltl8, l_ltl9, l_ltl10, l_ltl11, l_ltl12, l_line0, l_line1, l_line2, l_line3, l_line4, l_line5, l_line6, l_line7, l_line8, l_line9, l_line10, l_line11, l_line12, k_NoneType_int, k_NoneType_bool, k_NoneType_str, k_NoneType_list, k_NoneType_tuple, k_NoneType_dict, k_bool_int, k_bool_bool, k_bool_str, k_bool_list, k_bool_tuple, k_bool_dict, k_int_int, k_int_bool, k_int_str, k_int_list, k_int_tuple, k_int_dict, k_str_int, k_str_bool, k_str_str, k_str_list, k_str_tuple, k_str_dict, k_tuple_int, k_tuple_bool, k_tuple_str, k_tuple_list, k_tuple_tuple, k_tuple_dict, k_list_int, k_list_bool, k_list_str, k_list_list, k_list_tuple, k_list_dict, z_at0, z_at1, z_at2, z_at3, z_at4, z_at5, z_at6, z_at7, z_at8, z_ix1_0, z_ix2_0, z_ix2_1, z_ix3_0, z_ix3_1, z_ix3_2, z_ix4_0, z_ix4_1, z_ix4_2, z_ix4_3, z_ix5_0, z_ix5_1, z_ix5_2, z_ix5_3, z_ix5_4, z_ix6_0, z_ix6_1, z_ix6_2, z_ix6_3, z_ix6_4, z_ix6_5, z_ix7_0, z_ix7_1, z_ix7_2, z_ix7_3, z_ix7_4, z_ix7_5, z_ix7_6, z_ix8_0, z_ix8_1, z_ix8_2, z_ix8_3, z_ix8_4, z_ix8_5, z_ix8_6, z_ix8_7, Bool.not_eq_true', decide_eq_false_iff_not, ite_not, Bool.false_eq_true, Int.reduceEq, wipeE, backE, IL_fz, IL_isFz, fz_fz, fzL_fzL, List.set_cons_zero, List.set_cons_succ, List.getElem?_cons_zero, List.getElem?_cons_succ, List.length_cons, List.length_nil, and_true, true_and, Bool.and_true, Bool.true_and, Bool.not_true, Bool.not_false, Bool.not_not, if_true, if_false, ite_true, ite_false, Option.map_some, Option.some.injEq, exists_eq_left, exists_eq_left', D.int.injEq, D.lst.injEq, D.bl.injEq, D.str.injEq, D.tup.injEq, List.cons_append, List.nil_append, List.not_mem_nil, not_false_eq_true, Bool.false_eq_true, List.all_cons, List.all_nil, reduceIte, reduceCtorEq, List.isEmpty_cons, List.isEmpty_nil, eq_self, decide_true, decide_false, Bool.if_true_left, exists_eq, exists_eq', decide_eq_true_eq, Int.reduceToNat, Int.reducePow, Int.reduceNeg, Int.reduceLT, Int.reduceLE, Int.reduceSub, Int.reduceAdd, and_false, false_and, List.mem_cons, or_false, false_or, exists_and_left, Nat.zero_add, ne_eq, not_true_eq_false, Nat.reduceAdd, Nat.reduceLT, Nat.reduceEqDiff, Nat.reduceLeDiff]
  refine ⟨by omega, by omega, ?_⟩
  refine forDK (fun items e => ∃ (n : Nat) (lo : Int) (x : D) (g : List Int) (u v : Option D), items = rngD lo n 1 ∧ g.length + n = (1 + r4).toNat ∧ (∀ p ∈ g, 0 ≤ p ∧ p < 3 * 10 ^ 35 + 300) ∧ Coil (b + 4 + 3 * g.length) x ∧ e = [some x, some (.int w), some (.int far), some (.int r), some (.lst true (IL g)), u, v])
    ⟨_, 0, x4, [], none, none, rfl, by simp, by simp, k4.mono (by simp; omega), rfl⟩ ?_ ?_
  · rintro e ⟨n, lo, x, g, u, v, hi, h1, h2, h3, rfl⟩
    cases n with
    | succ n => rw [rng_cons] at hi; cases hi
    | zero =>
      simp only [hm, z_get0, z_getS, z_borV, z_stillV, z_stillsV, z_stillsN, z_shareV, z_bor_con, z_still_con, z_stills_con, z_share_con, z_bor_glo, z_still_glo, z_stills_glo, z_share_glo, z_bor_bin, z_still_bin, z_stills_bin, z_share_bin, z_bor_neg, z_still_neg, z_stills_neg, z_share_neg, z_bor_nt, z_still_nt, z_stills_nt, z_share_nt, z_bor_bo, z_still_bo, z_stills_bo, z_share_bo, z_bor_cmp, z_still_cmp, z_stills_cmp, z_share_cmp, z_bor_chn, z_still_chn, z_stills_chn, z_share_chn, z_bor_ife, z_still_ife, z_stills_ife, z_share_ife, z_bor_call, z_still_call, z_stills_call, z_share_call, z_bor_calk, z_still_calk, z_stills_calk, z_share_calk, z_bor_bi, z_still_bi, z_stills_bi, z_share_bi, z_bor_isi, z_still_isi, z_stills_isi, z_share_isi, z_bor_sub, z_still_sub, z_stills_sub, z_share_sub, z_bor_slc, z_still_slc, z_stills_slc, z_share_slc, z_bor_rpr, z_still_rpr, z_stills_rpr, z_share_rpr, z_bor_tup, z_still_tup, z_stills_tup, z_share_tup, z_bor_lst, z_still_lst, z_stills_lst, z_share_lst, z_bor_lc, z_still_lc, z_stills_lc, z_share_lc, z_bor_mov, z_still_mov, z_stills_mov, z_share_mov, z_setNm, z_setTpT, z_setTpL, z_setsN, z_setsC, z_putN, z_putC, z_var, z_mov, z_con, z_glo, z_bin, z_neg, z_nt, z_bo, z_cmp, z_chn, z_ife, z_call, z_calk, z_bi, z_isi, z_sub, z_slc, z_tup, z_lst, z_rprL, z_rprT, z_lc, z_esN, z_esC, z_bsN, z_bsC, z_aN, z_aM, z_aF, z_aE, z_oN, z_oY, z_bo1, z_bo2, zt_nt, zt_bo, zt_cmp, zt_chn, zt_isi, zt_call, zt_var, zt_bi, zt_to1, zt_to2, zt_tsN, zt_ts1, i_ex, i_r1, i_r2, i_r3, i_zip, i_enum, i_rev, c_asg, c_par, c_pst, c_pag, c_aug, c_app, c_exp, c_ite, c_for, c_ret, c_rtn, c_brk, c_cnt, c_pas, c_nev, c_nil, c_cons, b_add, b_sub, b_mul, b_fdiv, b_mod, b_pow, b_shl, b_shr, b_cat, b_rep, a_add, a_sub, a_mul, a_mod, q_eqI, q_neI, q_eqS, q_neS, q_eqB, q_neB, q_eqNil, q_neNil, q_lt, q_le, q_gt, q_ge, q_is, q_isnt, r_bl, r_int, r_lst, r_tup, s_szL, s_szT, s_subL, s_subT, s_slcL, s_slcT, s_itL, s_itT, s_liL, n_lenL, n_lenT, n_abs, n_min2, n_max2, n_int, n_intB, n_listL, n_listT, n_tupL, n_strI, n_boolI, n_allL, n_anyL, n_sumL, f_non, f_bl, f_int, f_str, f_tup, f_lst, f_nil, f_cons, g_int, g_bl, g_non, g_str, g_lstF, g_tup, g_lstT, g_nil, g_cons, o_nil, o_0, o_1, z_cast0, z_cast1, z_cast2, z_cast3, z_cast4, z_cast5, z_cast6, z_cast7, z_cast8, z_cast9, z_cast10, z_cast11, z_cast12, l_ltl0, l_ltl1, l_ltl2, l_ltl3, l_ltl4, l_ltl5, l_ltl6, l_ltl7, l_ltl8, l_ltl9, l_ltl10, l_ltl11, l_ltl12, l_line0, l_line1, l_line2, l_line3, l_line4, l_line5, l_line6, l_line7, l_line8, l_line9, l_line10, l_line11, l_line12, k_NoneType_int, k_NoneType_bool, k_NoneType_str, k_NoneType_list, k_NoneType_tuple, k_NoneType_dict, k_bool_int, k_bool_bool, k_bool_str, k_bool_list, k_bool_tuple, k_bool_dict, k_int_int, k_int_bool, k_int_str, k_int_list, k_int_tuple, k_int_dict, k_str_int, k_str_bool, k_str_str, k_str_list, k_str_tuple, k_str_dict, k_tuple_int, k_tuple_bool, k_tuple_str, k_tuple_list, k_tuple_tuple, k_tuple_dict, k_list_int, k_list_bool, k_list_str, k_list_list, k_list_tuple, k_list_dict, z_at0, z_at1, z_at2, z_at3, z_at4, z_at5, z_at6, z_at7, z_at8, z_ix1_0, z_ix2_0, z_ix2_1, z_ix3_0, z_ix3_1, z_ix3_2, z_ix4_0, z_ix4_1, z_ix4_2, z_ix4_3, z_ix5_0, z_ix5_1, z_ix5_2, z_ix5_3, z_ix5_4, z_ix6_0, z_ix6_1, z_ix6_2, z_ix6_3, z_ix6_4, z_ix6_5, z_ix7_0, z_ix7_1, z_ix7_2, z_ix7_3, z_ix7_4, z_ix7_5, z_ix7_6, z_ix8_0, z_ix8_1, z_ix8_2, z_ix8_3, z_ix8_4, z_ix8_5, z_ix8_6, z_ix8_7, Bool.not_eq_true', decide_eq_false_iff_not, ite_not, Bool.false_eq_true, Int.reduceEq, wipeE, backE, IL_fz, IL_isFz, fz_fz, fzL_fzL, List.set_cons_zero, List.set_cons_succ, List.getElem?_cons_zero, List.getElem?_cons_succ, List.length_cons, List.length_nil, and_true, true_and, Bool.and_true, Bool.true_and, Bool.not_true, Bool.not_false, Bool.not_not, if_true, if_false, ite_true, ite_false, Option.map_some, Option.some.injEq, exists_eq_left, exists_eq_left', D.int.injEq, D.lst.injEq, D.bl.injEq, D.str.injEq, D.tup.injEq, List.cons_append, List.nil_append, List.not_mem_nil, not_false_eq_true, Bool.false_eq_true, List.all_cons, List.all_nil, reduceIte, reduceCtorEq, List.isEmpty_cons, List.isEmpty_nil, eq_self, decide_true, decide_false, Bool.if_true_left, exists_eq, exists_eq', decide_eq_true_eq, Int.reduceToNat, Int.reducePow, Int.reduceNeg, Int.reduceLT, Int.reduceLE, Int.reduceSub, Int.reduceAdd, and_false, false_and, List.mem_cons, or_false, false_or, exists_and_left, Nat.zero_add, ne_eq, not_true_eq_false, Nat.reduceAdd, Nat.reduceLT, Nat.reduceEqDiff, Nat.reduceLeDiff]
      refine q _ _ _ ⟨hr1, by omega, by omega, fun p hp => (h2 p hp).1⟩ (fun p hp => (h2 p hp).2) hr2 (by omega) (h3.mono (by omega))
  · rintro x0 xs e k bk ⟨n, lo, x, g, u, v, hi, h1, h2, h3, rfl⟩ hk _
    cases n with
    | zero => cases hi
    | succ n =>
      rw [rng_cons] at hi
      obtain ⟨rfl, rfl⟩ := List.cons.inj hi
      simp only [f__law_pack_b1, hm, H1.sp, H1.io, IL_len, z_get0, z_getS, z_borV, z_stillV, z_stillsV, z_stillsN, z_shareV, z_bor_con, z_still_con, z_stills_con, z_share_con, z_bor_glo, z_still_glo, z_stills_glo, z_share_glo, z_bor_bin, z_still_bin, z_stills_bin, z_share_bin, z_bor_neg, z_still_neg, z_stills_neg, z_share_neg, z_bor_nt, z_still_nt, z_stills_nt, z_share_nt, z_bor_bo, z_still_bo, z_stills_bo, z_share_bo, z_bor_cmp, z_still_cmp, z_stills_cmp, z_share_cmp, z_bor_chn, z_still_chn, z_stills_chn, z_share_chn, z_bor_ife, z_still_ife, z_stills_ife, z_share_ife, z_bor_call, z_still_call, z_stills_call, z_share_call, z_bor_calk, z_still_calk, z_stills_calk, z_share_calk, z_bor_bi, z_still_bi, z_stills_bi, z_share_bi, z_bor_isi, z_still_isi, z_stills_isi, z_share_isi, z_bor_sub, z_still_sub, z_stills_sub, z_share_sub, z_bor_slc, z_still_slc, z_stills_slc, z_share_slc, z_bor_rpr, z_still_rpr, z_stills_rpr, z_share_rpr, z_bor_tup, z_still_tup, z_stills_tup, z_share_tup, z_bor_lst, z_still_lst, z_stills_lst, z_share_lst, z_bor_lc, z_still_lc, z_stills_lc, z_share_lc, z_bor_mov, z_still_mov, z_stills_mov, z_share_mov, z_setNm, z_setTpT, z_setTpL, z_setsN, z_setsC, z_putN, z_putC, z_var, z_mov, z_con, z_glo, z_bin, z_neg, z_nt, z_bo, z_cmp, z_chn, z_ife, z_call, z_calk, z_bi, z_isi, z_sub, z_slc, z_tup, z_lst, z_rprL, z_rprT, z_lc, z_esN, z_esC, z_bsN, z_bsC, z_aN, z_aM, z_aF, z_aE, z_oN, z_oY, z_bo1, z_bo2, zt_nt, zt_bo, zt_cmp, zt_chn, zt_isi, zt_call, zt_var, zt_bi, zt_to1, zt_to2, zt_tsN, zt_ts1, i_ex, i_r1, i_r2, i_r3, i_zip, i_enum, i_rev, c_asg, c_par, c_pst, c_pag, c_aug, c_app, c_exp, c_ite, c_for, c_ret, c_rtn, c_brk, c_cnt, c_pas, c_nev, c_nil, c_cons, b_add, b_sub, b_mul, b_fdiv, b_mod, b_pow, b_shl, b_shr, b_cat, b_rep, a_add, a_sub, a_mul, a_mod, q_eqI, q_neI, q_eqS, q_neS, q_eqB, q_neB, q_eqNil, q_neNil, q_lt, q_le, q_gt, q_ge, q_is, q_isnt, r_bl, r_int, r_lst, r_tup, s_szL, s_szT, s_subL, s_subT, s_slcL, s_slcT, s_itL, s_itT, s_liL, n_lenL, n_lenT, n_abs, n_min2, n_max2, n_int, n_intB, n_listL, n_listT, n_tupL, n_strI, n_boolI, n_allL, n_anyL, n_sumL, f_non, f_bl, f_int, f_str, f_tup, f_lst, f_nil, f_cons, g_int, g_bl, g_non, g_str, g_lstF, g_tup, g_lstT, g_nil, g_cons, o_nil, o_0, o_1, z_cast0, z_cast1, z_cast2, z_cast3, z_cast4, z_cast5, z_cast6, z_cast7, z_cast8, z_cast9, z_cast10, z_cast11, z_cast12, l_ltl0, l_ltl1, l_ltl2, l_ltl3, l_ltl4, l_ltl5, l_ltl6, l_ltl7, l_ltl8, l_ltl9, l_ltl10, l_ltl11, l_ltl12, l_line0, l_line1, l_line2, l_line3, l_line4, l_line5, l_line6, l_line7, l_line8, l_line9, l_line10, l_line11, l_line12, k_NoneType_int, k_NoneType_bool, k_NoneType_str, k_NoneType_list, k_NoneType_tuple, k_NoneType_dict, k_bool_int, k_bool_bool, k_bool_str, k_bool_list, k_bool_tuple, k_bool_dict, k_int_int, k_int_bool, k_int_str, k_int_list, k_int_tuple, k_int_dict, k_str_int, k_str_bool, k_str_str, k_str_list, k_str_tuple, k_str_dict, k_tuple_int, k_tuple_bool, k_tuple_str, k_tuple_list, k_tuple_tuple, k_tuple_dict, k_list_int, k_list_bool, k_list_str, k_list_list, k_list_tuple, k_list_dict, z_at0, z_at1, z_at2, z_at3, z_at4, z_at5, z_at6, z_at7, z_at8, z_ix1_0, z_ix2_0, z_ix2_1, z_ix3_0, z_ix3_1, z_ix3_2, z_ix4_0, z_ix4_1, z_ix4_2, z_ix4_3, z_ix5_0, z_ix5_1, z_ix5_2, z_ix5_3, z_ix5_4, z_ix6_0, z_ix6_1, z_ix6_2, z_ix6_3, z_ix6_4, z_ix6_5, z_ix7_0, z_ix7_1, z_ix7_2, z_ix7_3, z_ix7_4, z_ix7_5, z_ix7_6, z_ix8_0, z_ix8_1, z_ix8_2, z_ix8_3, z_ix8_4, z_ix8_5, z_ix8_6, z_ix8_7, Bool.not_eq_true', decide_eq_false_iff_not, ite_not, Bool.false_eq_true, Int.reduceEq, wipeE, backE, IL_fz, IL_isFz, fz_fz, fzL_fzL, List.set_cons_zero, List.set_cons_succ, List.getElem?_cons_zero, List.getElem?_cons_succ, List.length_cons, List.length_nil, and_true, true_and, Bool.and_true, Bool.true_and, Bool.not_true, Bool.not_false, Bool.not_not, if_true, if_false, ite_true, ite_false, Option.map_some, Option.some.injEq, exists_eq_left, exists_eq_left', D.int.injEq, D.lst.injEq, D.bl.injEq, D.str.injEq, D.tup.injEq, List.cons_append, List.nil_append, List.not_mem_nil, not_false_eq_true, Bool.false_eq_true, List.all_cons, List.all_nil, reduceIte, reduceCtorEq, List.isEmpty_cons, List.isEmpty_nil, eq_self, decide_true, decide_false, Bool.if_true_left, exists_eq, exists_eq', decide_eq_true_eq, Int.reduceToNat, Int.reducePow, Int.reduceNeg, Int.reduceLT, Int.reduceLE, Int.reduceSub, Int.reduceAdd, and_false, false_and, List.mem_cons, or_false, false_or, exists_and_left, Nat.zero_add, ne_eq, not_true_eq_false, Nat.reduceAdd, Nat.reduceLT, Nat.reduceEqDiff, Nat.reduceLeDiff]
      refine ⟨_, _, _, rfl, h3, by omega, by omega, by omega, fun s1 y1 b1 b2 j1 => ⟨rfl, ?_⟩⟩
      simp only [hm, H1.sp, H1.io, IL_len, z_get0, z_getS, z_borV, z_stillV, z_stillsV, z_stillsN, z_shareV, z_bor_con, z_still_con, z_stills_con, z_share_con, z_bor_glo, z_still_glo, z_stills_glo, z_share_glo, z_bor_bin, z_still_bin, z_stills_bin, z_share_bin, z_bor_neg, z_still_neg, z_stills_neg, z_share_neg, z_bor_nt, z_still_nt, z_stills_nt, z_share_nt, z_bor_bo, z_still_bo, z_stills_bo, z_share_bo, z_bor_cmp, z_still_cmp, z_stills_cmp, z_share_cmp, z_bor_chn, z_still_chn, z_stills_chn, z_share_chn, z_bor_ife, z_still_ife, z_stills_ife, z_share_ife, z_bor_call, z_still_call, z_stills_call, z_share_call, z_bor_calk, z_still_calk, z_stills_calk, z_share_calk, z_bor_bi, z_still_bi, z_stills_bi, z_share_bi, z_bor_isi, z_still_isi, z_stills_isi, z_share_isi, z_bor_sub, z_still_sub, z_stills_sub, z_share_sub, z_bor_slc, z_still_slc, z_stills_slc, z_share_slc, z_bor_rpr, z_still_rpr, z_stills_rpr, z_share_rpr, z_bor_tup, z_still_tup, z_stills_tup, z_share_tup, z_bor_lst, z_still_lst, z_stills_lst, z_share_lst, z_bor_lc, z_still_lc, z_stills_lc, z_share_lc, z_bor_mov, z_still_mov, z_stills_mov, z_share_mov, z_setNm, z_setTpT, z_setTpL, z_setsN, z_setsC, z_putN, z_putC, z_var, z_mov, z_con, z_glo, z_bin, z_neg, z_nt, z_bo, z_cmp, z_chn, z_ife, z_call, z_calk, z_bi, z_isi, z_sub, z_slc, z_tup, z_lst, z_rprL, z_rprT, z_lc, z_esN, z_esC, z_bsN, z_bsC, z_aN, z_aM, z_aF, z_aE, z_oN, z_oY, z_bo1, z_bo2, zt_nt, zt_bo, zt_cmp, zt_chn, zt_isi, zt_call, zt_var, zt_bi, zt_to1, zt_to2, zt_tsN, zt_ts1, i_ex, i_r1, i_r2, i_r3, i_zip, i_enum, i_rev, c_asg, c_par, c_pst, c_pag, c_aug, c_app, c_exp, c_ite, c_for, c_ret, c_rtn, c_brk, c_cnt, c_pas, c_nev, c_nil, c_cons, b_add, b_sub, b_mul, b_fdiv, b_mod, b_pow, b_shl, b_shr, b_cat, b_rep, a_add, a_sub, a_mul, a_mod, q_eqI, q_neI, q_eqS, q_neS, q_eqB, q_neB, q_eqNil, q_neNil, q_lt, q_le, q_gt, q_ge, q_is, q_isnt, r_bl, r_int, r_lst, r_tup, s_szL, s_szT, s_subL, s_subT, s_slcL, s_slcT, s_itL, s_itT, s_liL, n_lenL, n_lenT, n_abs, n_min2, n_max2, n_int, n_intB, n_listL, n_listT, n_tupL, n_strI, n_boolI, n_allL, n_anyL, n_sumL, f_non, f_bl, f_int, f_str, f_tup, f_lst, f_nil, f_cons, g_int, g_bl, g_non, g_str, g_lstF, g_tup, g_lstT, g_nil, g_cons, o_nil, o_0, o_1, z_cast0, z_cast1, z_cast2, z_cast3, z_cast4, z_cast5, z_cast6, z_cast7, z_cast8, z_cast9, z_cast10, z_cast11, z_cast12, l_ltl0, l_ltl1, l_ltl2, l_ltl3, l_ltl4, l_ltl5, l_ltl6, l_ltl7, l_ltl8, l_ltl9, l_ltl10, l_ltl11, l_ltl12, l_line0, l_line1, l_line2, l_line3, l_line4, l_line5, l_line6, l_line7, l_line8, l_line9, l_line10, l_line11, l_line12, k_NoneType_int, k_NoneType_bool, k_NoneType_str, k_NoneType_list, k_NoneType_tuple, k_NoneType_dict, k_bool_int, k_bool_bool, k_bool_str, k_bool_list, k_bool_tuple, k_bool_dict, k_int_int, k_int_bool, k_int_str, k_int_list, k_int_tuple, k_int_dict, k_str_int, k_str_bool, k_str_str, k_str_list, k_str_tuple, k_str_dict, k_tuple_int, k_tuple_bool, k_tuple_str, k_tuple_list, k_tuple_tuple, k_tuple_dict, k_list_int, k_list_bool, k_list_str, k_list_list, k_list_tuple, k_list_dict, z_at0, z_at1, z_at2, z_at3, z_at4, z_at5, z_at6, z_at7, z_at8, z_ix1_0, z_ix2_0, z_ix2_1, z_ix3_0, z_ix3_1, z_ix3_2, z_ix4_0, z_ix4_1, z_ix4_2, z_ix4_3, z_ix5_0, z_ix5_1, z_ix5_2, z_ix5_3, z_ix5_4, z_ix6_0, z_ix6_1, z_ix6_2, z_ix6_3, z_ix6_4, z_ix6_5, z_ix7_0, z_ix7_1, z_ix7_2, z_ix7_3, z_ix7_4, z_ix7_5, z_ix7_6, z_ix8_0, z_ix8_1, z_ix8_2, z_ix8_3, z_ix8_4, z_ix8_5, z_ix8_6, z_ix8_7, Bool.not_eq_true', decide_eq_false_iff_not, ite_not, Bool.false_eq_true, Int.reduceEq, wipeE, backE, IL_fz, IL_isFz, fz_fz, fzL_fzL, List.set_cons_zero, List.set_cons_succ, List.getElem?_cons_zero, List.getElem?_cons_succ, List.length_cons, List.length_nil, and_true, true_and, Bool.and_true, Bool.true_and, Bool.not_true, Bool.not_false, Bool.not_not, if_true, if_false, ite_true, ite_false, Option.map_some, Option.some.injEq, exists_eq_left, exists_eq_left', D.int.injEq, D.lst.injEq, D.bl.injEq, D.str.injEq, D.tup.injEq, List.cons_append, List.nil_append, List.not_mem_nil, not_false_eq_true, Bool.false_eq_true, List.all_cons, List.all_nil, reduceIte, reduceCtorEq, List.isEmpty_cons, List.isEmpty_nil, eq_self, decide_true, decide_false, Bool.if_true_left, exists_eq, exists_eq', decide_eq_true_eq, Int.reduceToNat, Int.reducePow, Int.reduceNeg, Int.reduceLT, Int.reduceLE, Int.reduceSub, Int.reduceAdd, and_false, false_and, List.mem_cons, or_false, false_or, exists_and_left, Nat.zero_add, ne_eq, not_true_eq_false, Nat.reduceAdd, Nat.reduceLT, Nat.reduceEqDiff, Nat.reduceLeDiff]
      refine ⟨mul_by 2 120 (by decide) (by omega) (by decide) (by decide) (by decide), _, _, _, rfl, j1, by omega, by omega, by omega, fun s2 y2 b3 b4 j2 => ⟨rfl, ?_⟩⟩
      simp only [hm, H1.sp, H1.io, IL_len, z_get0, z_getS, z_borV, z_stillV, z_stillsV, z_stillsN, z_shareV, z_bor_con, z_still_con, z_stills_con, z_share_con, z_bor_glo, z_still_glo, z_stills_glo, z_share_glo, z_bor_bin, z_still_bin, z_stills_bin, z_share_bin, z_bor_neg, z_still_neg, z_stills_neg, z_share_neg, z_bor_nt, z_still_nt, z_stills_nt, z_share_nt, z_bor_bo, z_still_bo, z_stills_bo, z_share_bo, z_bor_cmp, z_still_cmp, z_stills_cmp, z_share_cmp, z_bor_chn, z_still_chn, z_stills_chn, z_share_chn, z_bor_ife, z_still_ife, z_stills_ife, z_share_ife, z_bor_call, z_still_call, z_stills_call, z_share_call, z_bor_calk, z_still_calk, z_stills_calk, z_share_calk, z_bor_bi, z_still_bi, z_stills_bi, z_share_bi, z_bor_isi, z_still_isi, z_stills_isi, z_share_isi, z_bor_sub, z_still_sub, z_stills_sub, z_share_sub, z_bor_slc, z_still_slc, z_stills_slc, z_share_slc, z_bor_rpr, z_still_rpr, z_stills_rpr, z_share_rpr, z_bor_tup, z_still_tup, z_stills_tup, z_share_tup, z_bor_lst, z_still_lst, z_stills_lst, z_share_lst, z_bor_lc, z_still_lc, z_stills_lc, z_share_lc, z_bor_mov, z_still_mov, z_stills_mov, z_share_mov, z_setNm, z_setTpT, z_setTpL, z_setsN, z_setsC, z_putN, z_putC, z_var, z_mov, z_con, z_glo, z_bin, z_neg, z_nt, z_bo, z_cmp, z_chn, z_ife, z_call, z_calk, z_bi, z_isi, z_sub, z_slc, z_tup, z_lst, z_rprL, z_rprT, z_lc, z_esN, z_esC, z_bsN, z_bsC, z_aN, z_aM, z_aF, z_aE, z_oN, z_oY, z_bo1, z_bo2, zt_nt, zt_bo, zt_cmp, zt_chn, zt_isi, zt_call, zt_var, zt_bi, zt_to1, zt_to2, zt_tsN, zt_ts1, i_ex, i_r1, i_r2, i_r3, i_zip, i_enum, i_rev, c_asg, c_par, c_pst, c_pag, c_aug, c_app, c_exp, c_ite, c_for, c_ret, c_rtn, c_brk, c_cnt, c_pas, c_nev, c_nil, c_cons, b_add, b_sub, b_mul, b_fdiv, b_mod, b_pow, b_shl, b_shr, b_cat, b_rep, a_add, a_sub, a_mul, a_mod, q_eqI, q_neI, q_eqS, q_neS, q_eqB, q_neB, q_eqNil, q_neNil, q_lt, q_le, q_gt, q_ge, q_is, q_isnt, r_bl, r_int, r_lst, r_tup, s_szL, s_szT, s_subL, s_subT, s_slcL, s_slcT, s_itL, s_itT, s_liL, n_lenL, n_lenT, n_abs, n_min2, n_max2, n_int, n_intB, n_listL, n_listT, n_tupL, n_strI, n_boolI, n_allL, n_anyL, n_sumL, f_non, f_bl, f_int, f_str, f_tup, f_lst, f_nil, f_cons, g_int, g_bl, g_non, g_str, g_lstF, g_tup, g_lstT, g_nil, g_cons, o_nil, o_0, o_1, z_cast0, z_cast1, z_cast2, z_cast3, z_cast4, z_cast5, z_cast6, z_cast7, z_cast8, z_cast9, z_cast10, z_cast11, z_cast12, l_ltl0, l_ltl1, l_ltl2, l_ltl3, l_ltl4, l_ltl5, l_ltl6, l_ltl7, l_ltl8, l_ltl9, l_ltl10, l_ltl11, l_ltl12, l_line0, l_line1, l_line2, l_line3, l_line4, l_line5, l_line6, l_line7, l_line8, l_line9, l_line10, l_line11, l_line12, k_NoneType_int, k_NoneType_bool, k_NoneType_str, k_NoneType_list, k_NoneType_tuple, k_NoneType_dict, k_bool_int, k_bool_bool, k_bool_str, k_bool_list, k_bool_tuple, k_bool_dict, k_int_int, k_int_bool, k_int_str, k_int_list, k_int_tuple, k_int_dict, k_str_int, k_str_bool, k_str_str, k_str_list, k_str_tuple, k_str_dict, k_tuple_int, k_tuple_bool, k_tuple_str, k_tuple_list, k_tuple_tuple, k_tuple_dict, k_list_int, k_list_bool, k_list_str, k_list_list, k_list_tuple, k_list_dict, z_at0, z_at1, z_at2, z_at3, z_at4, z_at5, z_at6, z_at7, z_at8, z_ix1_0, z_ix2_0, z_ix2_1, z_ix3_0, z_ix3_1, z_ix3_2, z_ix4_0, z_ix4_1, z_ix4_2, z_ix4_3, z_ix5_0, z_ix5_1, z_ix5_2, z_ix5_3, z_ix5_4, z_ix6_0, z_ix6_1, z_ix6_2, z_ix6_3, z_ix6_4, z_ix6_5, z_ix7_0, z_ix7_1, z_ix7_2, z_ix7_3, z_ix7_4, z_ix7_5, z_ix7_6, z_ix8_0, z_ix8_1, z_ix8_2, z_ix8_3, z_ix8_4, z_ix8_5, z_ix8_6, z_ix8_7, Bool.not_eq_true', decide_eq_false_iff_not, ite_not, Bool.false_eq_true, Int.reduceEq, wipeE, backE, IL_fz, IL_isFz, fz_fz, fzL_fzL, List.set_cons_zero, List.set_cons_succ, List.getElem?_cons_zero, List.getElem?_cons_succ, List.length_cons, List.length_nil, and_true, true_and, Bool.and_true, Bool.true_and, Bool.not_true, Bool.not_false, Bool.not_not, if_true, if_false, ite_true, ite_false, Option.map_some, Option.some.injEq, exists_eq_left, exists_eq_left', D.int.injEq, D.lst.injEq, D.bl.injEq, D.str.injEq, D.tup.injEq, List.cons_append, List.nil_append, List.not_mem_nil, not_false_eq_true, Bool.false_eq_true, List.all_cons, List.all_nil, reduceIte, reduceCtorEq, List.isEmpty_cons, List.isEmpty_nil, eq_self, decide_true, decide_false, Bool.if_true_left, exists_eq, exists_eq', decide_eq_true_eq, Int.reduceToNat, Int.reducePow, Int.reduceNeg, Int.reduceLT, Int.reduceLE, Int.reduceSub, Int.reduceAdd, and_false, false_and, List.mem_cons, or_false, false_or, exists_and_left, Nat.zero_add, ne_eq, not_true_eq_false, Nat.reduceAdd, Nat.reduceLT, Nat.reduceEqDiff, Nat.reduceLeDiff]
      refine ⟨_, _, _, rfl, j2, by omega, by decide, by decide, fun s3 y3 b5 b6 j3 => ⟨rfl, ?_⟩⟩
      simp only [hm, H1.sp, H1.io, IL_len, z_get0, z_getS, z_borV, z_stillV, z_stillsV, z_stillsN, z_shareV, z_bor_con, z_still_con, z_stills_con, z_share_con, z_bor_glo, z_still_glo, z_stills_glo, z_share_glo, z_bor_bin, z_still_bin, z_stills_bin, z_share_bin, z_bor_neg, z_still_neg, z_stills_neg, z_share_neg, z_bor_nt, z_still_nt, z_stills_nt, z_share_nt, z_bor_bo, z_still_bo, z_stills_bo, z_share_bo, z_bor_cmp, z_still_cmp, z_stills_cmp, z_share_cmp, z_bor_chn, z_still_chn, z_stills_chn, z_share_chn, z_bor_ife, z_still_ife, z_stills_ife, z_share_ife, z_bor_call, z_still_call, z_stills_call, z_share_call, z_bor_calk, z_still_calk, z_stills_calk, z_share_calk, z_bor_bi, z_still_bi, z_stills_bi, z_share_bi, z_bor_isi, z_still_isi, z_stills_isi, z_share_isi, z_bor_sub, z_still_sub, z_stills_sub, z_share_sub, z_bor_slc, z_still_slc, z_stills_slc, z_share_slc, z_bor_rpr, z_still_rpr, z_stills_rpr, z_share_rpr, z_bor_tup, z_still_tup, z_stills_tup, z_share_tup, z_bor_lst, z_still_lst, z_stills_lst, z_share_lst, z_bor_lc, z_still_lc, z_stills_lc, z_share_lc, z_bor_mov, z_still_mov, z_stills_mov, z_share_mov, z_setNm, z_setTpT, z_setTpL, z_setsN, z_setsC, z_putN, z_putC, z_var, z_mov, z_con, z_glo, z_bin, z_neg, z_nt, z_bo, z_cmp, z_chn, z_ife, z_call, z_calk, z_bi, z_isi, z_sub, z_slc, z_tup, z_lst, z_rprL, z_rprT, z_lc, z_esN, z_esC, z_bsN, z_bsC, z_aN, z_aM, z_aF, z_aE, z_oN, z_oY, z_bo1, z_bo2, zt_nt, zt_bo, zt_cmp, zt_chn, zt_isi, zt_call, zt_var, zt_bi, zt_to1, zt_to2, zt_tsN, zt_ts1, i_ex, i_r1, i_r2, i_r3, i_zip, i_enum, i_rev, c_asg, c_par, c_pst, c_pag, c_aug, c_app, c_exp, c_ite, c_for, c_ret, c_rtn, c_brk, c_cnt, c_pas, c_nev, c_nil, c_cons, b_add, b_sub, b_mul, b_fdiv, b_mod, b_pow, b_shl, b_shr, b_cat, b_rep, a_add, a_sub, a_mul, a_mod, q_eqI, q_neI, q_eqS, q_neS, q_eqB, q_neB, q_eqNil, q_neNil, q_lt, q_le, q_gt, q_ge, q_is, q_isnt, r_bl, r_int, r_lst, r_tup, s_szL, s_szT, s_subL, s_subT, s_slcL, s_slcT, s_itL, s_itT, s_liL, n_lenL, n_lenT, n_abs, n_min2, n_max2, n_int, n_intB, n_listL, n_listT, n_tupL, n_strI, n_boolI, n_allL, n_anyL, n_sumL, f_non, f_bl, f_int, f_str, f_tup, f_lst, f_nil, f_cons, g_int, g_bl, g_non, g_str, g_lstF, g_tup, g_lstT, g_nil, g_cons, o_nil, o_0, o_1, z_cast0, z_cast1, z_cast2, z_cast3, z_cast4, z_cast5, z_cast6, z_cast7, z_cast8, z_cast9, z_cast10, z_cast11, z_cast12, l_ltl0, l_ltl1, l_ltl2, l_ltl3, l_ltl4, l_ltl5, l_ltl6, l_ltl7, l_ltl8, l_ltl9, l_ltl10, l_ltl11, l_ltl12, l_line0, l_line1, l_line2, l_line3, l_line4, l_line5, l_line6, l_line7, l_line8, l_line9, l_line10, l_line11, l_line12, k_NoneType_int, k_NoneType_bool, k_NoneType_str, k_NoneType_list, k_NoneType_tuple, k_NoneType_dict, k_bool_int, k_bool_bool, k_bool_str, k_bool_list, k_bool_tuple, k_bool_dict, k_int_int, k_int_bool, k_int_str, k_int_list, k_int_tuple, k_int_dict, k_str_int, k_str_bool, k_str_str, k_str_list, k_str_tuple, k_str_dict, k_tuple_int, k_tuple_bool, k_tuple_str, k_tuple_list, k_tuple_tuple, k_tuple_dict, k_list_int, k_list_bool, k_list_str, k_list_list, k_list_tuple, k_list_dict, z_at0, z_at1, z_at2, z_at3, z_at4, z_at5, z_at6, z_at7, z_at8, z_ix1_0, z_ix2_0, z_ix2_1, z_ix3_0, z_ix3_1, z_ix3_2, z_ix4_0, z_ix4_1, z_ix4_2, z_ix4_3, z_ix5_0, z_ix5_1, z_ix5_2, z_ix5_3, z_ix5_4, z_ix6_0, z_ix6_1, z_ix6_2, z_ix6_3, z_ix6_4, z_ix6_5, z_ix7_0, z_ix7_1, z_ix7_2, z_ix7_3, z_ix7_4, z_ix7_5, z_ix7_6, z_ix8_0, z_ix8_1, z_ix8_2, z_ix8_3, z_ix8_4, z_ix8_5, z_ix8_6, z_ix8_7, Bool.not_eq_true', decide_eq_false_iff_not, ite_not, Bool.false_eq_true, Int.reduceEq, wipeE, backE, IL_fz, IL_isFz, fz_fz, fzL_fzL, List.set_cons_zero, List.set_cons_succ, List.getElem?_cons_zero, List.getElem?_cons_succ, List.length_cons, List.length_nil, and_true, true_and, Bool.and_true, Bool.true_and, Bool.not_true, Bool.not_false, Bool.not_not, if_true, if_false, ite_true, ite_false, Option.map_some, Option.some.injEq, exists_eq_left, exists_eq_left', D.int.injEq, D.lst.injEq, D.bl.injEq, D.str.injEq, D.tup.injEq, List.cons_append, List.nil_append, List.not_mem_nil, not_false_eq_true, Bool.false_eq_true, List.all_cons, List.all_nil, reduceIte, reduceCtorEq, List.isEmpty_cons, List.isEmpty_nil, eq_self, decide_true, decide_false, Bool.if_true_left, exists_eq, exists_eq', decide_eq_true_eq, Int.reduceToNat, Int.reducePow, Int.reduceNeg, Int.reduceLT, Int.reduceLE, Int.reduceSub, Int.reduceAdd, and_false, false_and, List.mem_cons, or_false, false_or, exists_and_left, Nat.zero_add, ne_eq, not_true_eq_false, Nat.reduceAdd, Nat.reduceLT, Nat.reduceEqDiff, Nat.reduceLeDiff]
      obtain ⟨el, he, z, rfl, hz1, hz2⟩ := atI_in (P := fun (z : D) => ∃ v : Int, z = .int v ∧ 0 ≤ v ∧ v < 3 * 10 ^ 35 + 300) (xs := [D.int 0, D.int (r - 1), D.int r, D.int s1, D.int s2]) b5 (by simpa using b6) (fun z hz => by
        simp only [List.mem_cons, List.not_mem_nil, or_false] at hz
        rcases hz with rfl | rfl | rfl | rfl | rfl
        · exact ⟨_, rfl, by omega, by omega⟩
        · exact ⟨_, rfl, by omega, by omega⟩
        · exact ⟨_, rfl, by omega, by omega⟩
        · exact ⟨_, rfl, by omega, by omega⟩
        · exact ⟨_, rfl, by omega, by omega⟩)
      refine ⟨_, he, ?_⟩
      simp only [hm, IL_len, IL_app, z_get0, z_getS, z_borV, z_stillV, z_stillsV, z_stillsN, z_shareV, z_bor_con, z_still_con, z_stills_con, z_share_con, z_bor_glo, z_still_glo, z_stills_glo, z_share_glo, z_bor_bin, z_still_bin, z_stills_bin, z_share_bin, z_bor_neg, z_still_neg, z_stills_neg, z_share_neg, z_bor_nt, z_still_nt, z_stills_nt, z_share_nt, z_bor_bo, z_still_bo, z_stills_bo, z_share_bo, z_bor_cmp, z_still_cmp, z_stills_cmp, z_share_cmp, z_bor_chn, z_still_chn, z_stills_chn, z_share_chn, z_bor_ife, z_still_ife, z_stills_ife, z_share_ife, z_bor_call, z_still_call, z_stills_call, z_share_call, z_bor_calk, z_still_calk, z_stills_calk, z_share_calk, z_bor_bi, z_still_bi, z_stills_bi, z_share_bi, z_bor_isi, z_still_isi, z_stills_isi, z_share_isi, z_bor_sub, z_still_sub, z_stills_sub, z_share_sub, z_bor_slc, z_still_slc, z_stills_slc, z_share_slc, z_bor_rpr, z_still_rpr, z_stills_rpr, z_share_rpr, z_bor_tup, z_still_tup, z_stills_tup, z_share_tup, z_bor_lst, z_still_lst, z_stills_lst, z_share_lst, z_bor_lc, z_still_lc, z_stills_lc, z_share_lc, z_bor_mov, z_still_mov, z_stills_mov, z_share_mov, z_setNm, z_setTpT, z_setTpL, z_setsN, z_setsC, z_putN, z_putC, z_var, z_mov, z_con, z_glo, z_bin, z_neg, z_nt, z_bo, z_cmp, z_chn, z_ife, z_call, z_calk, z_bi, z_isi, z_sub, z_slc, z_tup, z_lst, z_rprL, z_rprT, z_lc, z_esN, z_esC, z_bsN, z_bsC, z_aN, z_aM, z_aF, z_aE, z_oN, z_oY, z_bo1, z_bo2, zt_nt, zt_bo, zt_cmp, zt_chn, zt_isi, zt_call, zt_var, zt_bi, zt_to1, zt_to2, zt_tsN, zt_ts1, i_ex, i_r1, i_r2, i_r3, i_zip, i_enum, i_rev, c_asg, c_par, c_pst, c_pag, c_aug, c_app, c_exp, c_ite, c_for, c_ret, c_rtn, c_brk, c_cnt, c_pas, c_nev, c_nil, c_cons, b_add, b_sub, b_mul, b_fdiv, b_mod, b_pow, b_shl, b_shr, b_cat, b_rep, a_add, a_sub, a_mul, a_mod, q_eqI, q_neI, q_eqS, q_neS, q_eqB, q_neB, q_eqNil, q_neNil, q_lt, q_le, q_gt, q_ge, q_is, q_isnt, r_bl, r_int, r_lst, r_tup, s_szL, s_szT, s_subL, s_subT, s_slcL, s_slcT, s_itL, s_itT, s_liL, n_lenL, n_lenT, n_abs, n_min2, n_max2, n_int, n_intB, n_listL, n_listT, n_tupL, n_strI, n_boolI, n_allL, n_anyL, n_sumL, f_non, f_bl, f_int, f_str, f_tup, f_lst, f_nil, f_cons, g_int, g_bl, g_non, g_str, g_lstF, g_tup, g_lstT, g_nil, g_cons, o_nil, o_0, o_1, z_cast0, z_cast1, z_cast2, z_cast3, z_cast4, z_cast5, z_cast6, z_cast7, z_cast8, z_cast9, z_cast10, z_cast11, z_cast12, l_ltl0, l_ltl1, l_ltl2, l_ltl3, l_ltl4, l_ltl5, l_ltl6, l_ltl7, l_ltl8, l_ltl9, l_ltl10, l_ltl11, l_ltl12, l_line0, l_line1, l_line2, l_line3, l_line4, l_line5, l_line6, l_line7, l_line8, l_line9, l_line10, l_line11, l_line12, k_NoneType_int, k_NoneType_bool, k_NoneType_str, k_NoneType_list, k_NoneType_tuple, k_NoneType_dict, k_bool_int, k_bool_bool, k_bool_str, k_bool_list, k_bool_tuple, k_bool_dict, k_int_int, k_int_bool, k_int_str, k_int_list, k_int_tuple, k_int_dict, k_str_int, k_str_bool, k_str_str, k_str_list, k_str_tuple, k_str_dict, k_tuple_int, k_tuple_bool, k_tuple_str, k_tuple_list, k_tuple_tuple, k_tuple_dict, k_list_int, k_list_bool, k_list_str, k_list_list, k_list_tuple, k_list_dict, z_at0, z_at1, z_at2, z_at3, z_at4, z_at5, z_at6, z_at7, z_at8, z_ix1_0, z_ix2_0, z_ix2_1, z_ix3_0, z_ix3_1, z_ix3_2, z_ix4_0, z_ix4_1, z_ix4_2, z_ix4_3, z_ix5_0, z_ix5_1, z_ix5_2, z_ix5_3, z_ix5_4, z_ix6_0, z_ix6_1, z_ix6_2, z_ix6_3, z_ix6_4, z_ix6_5, z_ix7_0, z_ix7_1, z_ix7_2, z_ix7_3, z_ix7_4, z_ix7_5, z_ix7_6, z_ix8_0, z_ix8_1, z_ix8_2, z_ix8_3, z_ix8_4, z_ix8_5, z_ix8_6, z_ix8_7, Bool.not_eq_true', decide_eq_false_iff_not, ite_not, Bool.false_eq_true, Int.reduceEq, wipeE, backE, IL_fz, IL_isFz, fz_fz, fzL_fzL, List.set_cons_zero, List.set_cons_succ, List.getElem?_cons_zero, List.getElem?_cons_succ, List.length_cons, List.length_nil, and_true, true_and, Bool.and_true, Bool.true_and, Bool.not_true, Bool.not_false, Bool.not_not, if_true, if_false, ite_true, ite_false, Option.map_some, Option.some.injEq, exists_eq_left, exists_eq_left', D.int.injEq, D.lst.injEq, D.bl.injEq, D.str.injEq, D.tup.injEq, List.cons_append, List.nil_append, List.not_mem_nil, not_false_eq_true, Bool.false_eq_true, List.all_cons, List.all_nil, reduceIte, reduceCtorEq, List.isEmpty_cons, List.isEmpty_nil, eq_self, decide_true, decide_false, Bool.if_true_left, exists_eq, exists_eq', decide_eq_true_eq, Int.reduceToNat, Int.reducePow, Int.reduceNeg, Int.reduceLT, Int.reduceLE, Int.reduceSub, Int.reduceAdd, and_false, false_and, List.mem_cons, or_false, false_or, exists_and_left, Nat.zero_add, ne_eq, not_true_eq_false, Nat.reduceAdd, Nat.reduceLT, Nat.reduceEqDiff, Nat.reduceLeDiff]
      refine ⟨line60 (by omega), hk _ ⟨n, _, _, _, _, _, rfl, by rw [List.length_append]; simp; omega, fun p hp => ?_, j3.mono (by rw [List.length_append]; simp; omega), rfl⟩⟩
      rcases List.mem_append.mp hp with hp | hp
      · exact h2 p hp
      · rw [List.mem_singleton.mp hp]; exact ⟨hz1, hz2⟩
def sp_stand : FSpec := fun ds Q _ => ∃ b x r qs far, ds = [x, LockD r qs, .int far] ∧ Coil b x ∧ b ≤ 10 ^ 11 ∧ qs.length ≤ 8 ∧ (∀ p ∈ qs, 0 ≤ p ∧ p < 3 * 10 ^ 35 + 300) ∧ 0 ≤ far ∧ far < 10 ^ 35 ∧ ∀ d ps y, Chain d qs ps → -far ≤ d → d ≤ far → Coil (b + 40) y → Q (.tup [.int d, .lst true (IL ps)]) [y]
/-- the last place, the dial's where there is none -/
def lastD : Int → List Int → Int
  | d, [] => d
  | _, p :: ps => lastD p ps
theorem lastD_snoc : ∀ (ps : List Int) (d p : Int), lastD d (ps ++ [p]) = p
  | [], _, _ => rfl
  | _ :: ps, _, p => lastD_snoc ps _ p
theorem Chain.snoc : ∀ {qs ps : List Int} {d q p : Int}, Chain d qs ps → 0 ≤ lastD d ps - p → lastD d ps - p ≤ q → Chain d (qs ++ [q]) (ps ++ [p])
  | [], [], d, q, p, _, h1, h2 => ⟨h1, h2, trivial⟩
  | q0 :: qs, p0 :: ps, d, q, p, h, h1, h2 => ⟨h.1, h.2.1, Chain.snoc h.2.2 h1 h2⟩
  | [], _ :: _, _, _, _, h, _, _ => h.elim
  | _ :: _, [], _, _, _, h, _, _ => h.elim
theorem w_stand {Γ : Sig} (hm : Γ.me = [0]) (H1 : Has Γ "_law_draw" [true] sp_cdraw) (ds : List D) (Q : D → List D → Prop) (R : Exc → Prop) (h : sp_stand ds Q R) : wpF Γ f__law_stand ds Q R := by
  obtain ⟨b, x, r, qs, far, rfl, hx, hb, hl, hq, hf, hf2, q⟩ := h
  simp only [wpF_eq, LockD, f__law_stand, startE, hm, H1.sp, H1.io, List.map_cons, List.map_nil, IL_len, z_get0, z_getS, z_borV, z_stillV, z_stillsV, z_stillsN, z_shareV, z_bor_con, z_still_con, z_stills_con, z_share_con, z_bor_glo, z_still_glo, z_stills_glo, z_share_glo, z_bor_bin, z_still_bin, z_stills_bin, z_share_bin, z_bor_neg, z_still_neg, z_stills_neg, z_share_neg, z_bor_nt, z_still_nt, z_stills_nt, z_share_nt, z_bor_bo, z_still_bo, z_stills_bo, z_share_bo, z_bor_cmp, z_still_cmp, z_stills_cmp, z_share_cmp, z_bor_chn, z_still_chn, z_stills_chn, z_share_chn, z_bor_ife, z_still_ife, z_stills_ife, z_share_ife, z_bor_call, z_still_call, z_stills_call, z_share_call, z_bor_calk, z_still_calk, z_stills_calk, z_share_calk, z_bor_bi, z_still_bi, z_stills_bi, z_share_bi, z_bor_isi, z_still_isi, z_stills_isi, z_share_isi, z_bor_sub, z_still_sub, z_stills_sub, z_share_sub, z_bor_slc, z_still_slc, z_stills_slc, z_share_slc, z_bor_rpr, z_still_rpr, z_stills_rpr, z_share_rpr, z_bor_tup, z_still_tup, z_stills_tup, z_share_tup, z_bor_lst, z_still_lst, z_stills_lst, z_share_lst, z_bor_lc, z_still_lc, z_stills_lc, z_share_lc, z_bor_mov, z_still_mov, z_stills_mov, z_share_mov, z_setNm, z_setTpT, z_setTpL, z_setsN, z_setsC, z_putN, z_putC, z_var, z_mov, z_con, z_glo, z_bin, z_neg, z_nt, z_bo, z_cmp, z_chn, z_ife, z_call, z_calk, z_bi, z_isi, z_sub, z_slc, z_tup, z_lst, z_rprL, z_rprT, z_lc, z_esN, z_esC, z_bsN, z_bsC, z_aN, z_aM, z_aF, z_aE, z_oN, z_oY, z_bo1, z_bo2, zt_nt, zt_bo, zt_cmp, zt_chn, zt_isi, zt_call, zt_var, zt_bi, zt_to1, zt_to2, zt_tsN, zt_ts1, i_ex, i_r1, i_r2, i_r3, i_zip, i_enum, i_rev, c_asg, c_par, c_pst, c_pag, c_aug, c_app, c_exp, c_ite, c_for, c_ret, c_rtn, c_brk, c_cnt, c_pas, c_nev, c_nil, c_cons, b_add, b_sub, b_mul, b_fdiv, b_mod, b_pow, b_shl, b_shr, b_cat, b_rep, a_add, a_sub, a_mul, a_mod, q_eqI, q_neI, q_eqS, q_neS, q_eqB, q_neB, q_eqNil, q_neNil, q_lt, q_le, q_gt, q_ge, q_is, q_isnt, r_bl, r_int, r_lst, r_tup, s_szL, s_szT, s_subL, s_subT, s_slcL, s_slcT, s_itL, s_itT, s_liL, n_lenL, n_lenT, n_abs, n_min2, n_max2, n_int, n_intB, n_listL, n_listT, n_tupL, n_strI, n_boolI, n_allL, n_anyL, n_sumL, f_non, f_bl, f_int, f_str, f_tup, f_lst, f_nil, f_cons, g_int, g_bl, g_non, g_str, g_lstF, g_tup, g_lstT, g_nil, g_cons, o_nil, o_0, o_1, z_cast0, z_cast1, z_cast2, z_cast3, z_cast4, z_cast5, z_cast6, z_cast7, z_cast8, z_cast9, z_cast10, z_cast11, z_cast12, l_ltl0, l_ltl1, l_ltl2, l_ltl3, l_ltl4, l_ltl5, l_ltl6, l_ltl7, l_ltl8, l_ltl9, l_ltl10, l_ltl11, l_ltl12, l_line0, l_line1, l_line2, l_line3, l_line4, l_line5, l_line6, l_line7, l_line8, l_line9, l_line10, l_line11, l_line12, k_NoneType_int, k_NoneType_bool, k_NoneType_str, k_NoneType_list, k_NoneType_tuple, k_NoneType_dict, k_bool_int, k_bool_bool, k_bool_str, k_bool_list, k_bool_tuple, k_bool_dict, k_int_int, k_int_bool, k_int_str, k_int_list, k_int_tuple, k_int_dict, k_str_int, k_str_bool, k_str_str, k_str_list, k_str_tuple, k_str_dict, k_tuple_int, k_tuple_bool, k_tuple_str, k_tuple_list, k_tuple_tuple, k_tuple_dict, k_list_int, k_list_bool, k_list_str, k_list_list, k_list_tuple, k_list_dict, z_at0, z_at1, z_at2, z_at3, z_at4, z_at5, z_at6, z_at7, z_at8, z_ix1_0, z_ix2_0, z_ix2_1, z_ix3_0, z_ix3_1, z_ix3_2, z_ix4_0, z_ix4_1, z_ix4_2, z_ix4_3, z_ix5_0, z_ix5_1, z_ix5_2, z_ix5_3, z_ix5_4, z_ix6_0, z_ix6_1, z_ix6_2, z_ix6_3, z_ix6_4, z_ix6_5, z_ix7_0, z_ix7_1, z_ix7_2, z_ix7_3, z_ix7_4, z_ix7_5, z_ix7_6, z_ix8_0, z_ix8_1, z_ix8_2, z_ix8_3, z_ix8_4, z_ix8_5, z_ix8_6, z_ix8_7, Bool.not_eq_true', decide_eq_false_iff_not, ite_not, Bool.false_eq_true, Int.reduceEq, wipeE, backE, IL_fz, IL_isFz, fz_fz, fzL_fzL, List.set_cons_zero, List.set_cons_succ, List.getElem?_cons_zero, List.getElem?_cons_succ, List.length_cons, List.length_nil, and_true, true_and, Bool.and_true, Bool.true_and, Bool.not_true, Bool.not_false, Bool.not_not, if_true, if_false, ite_true, ite_false, Option.map_some, Option.some.injEq, exists_eq_left, exists_eq_left', D.int.injEq, D.lst.injEq, D.bl.injEq, D.str.injEq, D.tup.injEq, List.cons_append, List.nil_append, List.not_mem_nil, not_false_eq_true, Bool.false_eq_true, List.all_cons, List.all_nil, reduceIte, reduceCtorEq, List.isEmpty_cons, List.isEmpty_nil, eq_self, decide_true, decide_false, Bool.if_true_left, exists_eq, exists_eq', decide_eq_true_eq, Int.reduceToNat, Int.reducePow, Int.reduceNeg, Int.reduceLT, Int.reduceLE, Int.reduceSub, Int.reduceAdd, and_false, false_and, List.mem_cons, or_false, false_or, exists_and_left, Nat.zero_add, ne_eq, not_true_eq_false, Nat.reduceAdd, Nat.reduceLT, Nat.reduceEqDiff, Nat.reduceLeDiff]
  refine ⟨mul_by 2 120 (by decide) (by omega) (by decide) (by decide) (by decide), _, _, _, rfl, hx, by omega, by omega, by omega, fun r1 x1 a1 a2 k1 => ⟨rfl, ?_⟩⟩
  simp only [hm, H1.sp, H1.io, z_get0, z_getS, z_borV, z_stillV, z_stillsV, z_stillsN, z_shareV, z_bor_con, z_still_con, z_stills_con, z_share_con, z_bor_glo, z_still_glo, z_stills_glo, z_share_glo, z_bor_bin, z_still_bin, z_stills_bin, z_share_bin, z_bor_neg, z_still_neg, z_stills_neg, z_share_neg, z_bor_nt, z_still_nt, z_stills_nt, z_share_nt, z_bor_bo, z_still_bo, z_stills_bo, z_share_bo, z_bor_cmp, z_still_cmp, z_stills_cmp, z_share_cmp, z_bor_chn, z_still_chn, z_stills_chn, z_share_chn, z_bor_ife, z_still_ife, z_stills_ife, z_share_ife, z_bor_call, z_still_call, z_stills_call, z_share_call, z_bor_calk, z_still_calk, z_stills_calk, z_share_calk, z_bor_bi, z_still_bi, z_stills_bi, z_share_bi, z_bor_isi, z_still_isi, z_stills_isi, z_share_isi, z_bor_sub, z_still_sub, z_stills_sub, z_share_sub, z_bor_slc, z_still_slc, z_stills_slc, z_share_slc, z_bor_rpr, z_still_rpr, z_stills_rpr, z_share_rpr, z_bor_tup, z_still_tup, z_stills_tup, z_share_tup, z_bor_lst, z_still_lst, z_stills_lst, z_share_lst, z_bor_lc, z_still_lc, z_stills_lc, z_share_lc, z_bor_mov, z_still_mov, z_stills_mov, z_share_mov, z_setNm, z_setTpT, z_setTpL, z_setsN, z_setsC, z_putN, z_putC, z_var, z_mov, z_con, z_glo, z_bin, z_neg, z_nt, z_bo, z_cmp, z_chn, z_ife, z_call, z_calk, z_bi, z_isi, z_sub, z_slc, z_tup, z_lst, z_rprL, z_rprT, z_lc, z_esN, z_esC, z_bsN, z_bsC, z_aN, z_aM, z_aF, z_aE, z_oN, z_oY, z_bo1, z_bo2, zt_nt, zt_bo, zt_cmp, zt_chn, zt_isi, zt_call, zt_var, zt_bi, zt_to1, zt_to2, zt_tsN, zt_ts1, i_ex, i_r1, i_r2, i_r3, i_zip, i_enum, i_rev, c_asg, c_par, c_pst, c_pag, c_aug, c_app, c_exp, c_ite, c_for, c_ret, c_rtn, c_brk, c_cnt, c_pas, c_nev, c_nil, c_cons, b_add, b_sub, b_mul, b_fdiv, b_mod, b_pow, b_shl, b_shr, b_cat, b_rep, a_add, a_sub, a_mul, a_mod, q_eqI, q_neI, q_eqS, q_neS, q_eqB, q_neB, q_eqNil, q_neNil, q_lt, q_le, q_gt, q_ge, q_is, q_isnt, r_bl, r_int, r_lst, r_tup, s_szL, s_szT, s_subL, s_subT, s_slcL, s_slcT, s_itL, s_itT, s_liL, n_lenL, n_lenT, n_abs, n_min2, n_max2, n_int, n_intB, n_listL, n_listT, n_tupL, n_strI, n_boolI, n_allL, n_anyL, n_sumL, f_non, f_bl, f_int, f_str, f_tup, f_lst, f_nil, f_cons, g_int, g_bl, g_non, g_str, g_lstF, g_tup, g_lstT, g_nil, g_cons, o_nil, o_0, o_1, z_cast0, z_cast1, z_cast2, z_cast3, z_cast4, z_cast5, z_cast6, z_cast7, z_cast8, z_cast9, z_cast10, z_cast11, z_cast12, l_ltl0, l_ltl1, l_ltl2, l_ltl3, l_ltl4, l_ltl5, l_ltl6, l_ltl7, l_ltl8, l_ltl9, l_ltl10, l_ltl11, l_ltl12, l_line0, l_line1, l_line2, l_line3, l_line4, l_line5, l_line6, l_line7, l_line8, l_line9, l_line10, l_line11, l_line12, k_NoneType_int, k_NoneType_bool, k_NoneType_str, k_NoneType_list, k_NoneType_tuple, k_NoneType_dict, k_bool_int, k_bool_bool, k_bool_str, k_bool_list, k_bool_tuple, k_bool_dict, k_int_int, k_int_bool, k_int_str, k_int_list, k_int_tuple, k_int_dict, k_str_int, k_str_bool, k_str_str, k_str_list, k_str_tuple, k_str_dict, k_tuple_int, k_tuple_bool, k_tuple_str, k_tuple_list, k_tuple_tuple, k_tuple_dict, k_list_int, k_list_bool, k_list_str, k_list_list, k_list_tuple, k_list_dict, z_at0, z_at1, z_at2, z_at3, z_at4, z_at5, z_at6, z_at7, z_at8, z_ix1_0, z_ix2_0, z_ix2_1, z_ix3_0, z_ix3_1, z_ix3_2, z_ix4_0, z_ix4_1, z_ix4_2, z_ix4_3, z_ix5_0, z_ix5_1, z_ix5_2, z_ix5_3, z_ix5_4, z_ix6_0, z_ix6_1, z_ix6_2, z_ix6_3, z_ix6_4, z_ix6_5, z_ix7_0, z_ix7_1, z_ix7_2, z_ix7_3, z_ix7_4, z_ix7_5, z_ix7_6, z_ix8_0, z_ix8_1, z_ix8_2, z_ix8_3, z_ix8_4, z_ix8_5, z_ix8_6, z_ix8_7, Bool.not_eq_true', decide_eq_false_iff_not, ite_not, Bool.false_eq_true, Int.reduceEq, wipeE, backE, IL_fz, IL_isFz, fz_fz, fzL_fzL, List.set_cons_zero, List.set_cons_succ, List.getElem?_cons_zero, List.getElem?_cons_succ, List.length_cons, List.length_nil, and_true, true_and, Bool.and_true, Bool.true_and, Bool.not_true, Bool.not_false, Bool.not_not, if_true, if_false, ite_true, ite_false, Option.map_some, Option.some.injEq, exists_eq_left, exists_eq_left', D.int.injEq, D.lst.injEq, D.bl.injEq, D.str.injEq, D.tup.injEq, List.cons_append, List.nil_append, List.not_mem_nil, not_false_eq_true, Bool.false_eq_true, List.all_cons, List.all_nil, reduceIte, reduceCtorEq, List.isEmpty_cons, List.isEmpty_nil, eq_self, decide_true, decide_false, Bool.if_true_left, exists_eq, exists_eq', decide_eq_true_eq, Int.reduceToNat, Int.reducePow, Int.reduceNeg, Int.reduceLT, Int.reduceLE, Int.reduceSub, Int.reduceAdd, and_false, false_and, List.mem_cons, or_false, false_or, exists_and_left, Nat.zero_add, ne_eq, not_true_eq_false, Nat.reduceAdd, Nat.reduceLT, Nat.reduceEqDiff, Nat.reduceLeDiff]
  refine forDK (fun items e => ∃ (l1 l2 ps : List Int) (x : D) (u : Option D), items = IL l2 ∧ l1 ++ l2 = qs ∧ Chain (r1 - far) l1 ps ∧ Coil (b + 1 + 2 * l1.length) x ∧ e = [some x, some (.tup [.int r, .lst false (IL qs)]), some (.int far), some (.int (r1 - far)), some (.lst true (IL ps)), some (.int (lastD (r1 - far) ps)), u])
    ⟨[], qs, [], x1, none, rfl, rfl, trivial, by simpa using k1, rfl⟩ ?_ ?_
  · rintro e ⟨l1, l2, ps, x, u, hi, h1, h2, h3, rfl⟩
    cases l2 with
    | cons _ _ => simp [IL] at hi
    | nil =>
      rw [List.append_nil] at h1
      subst h1
      simp only [hm, z_get0, z_getS, z_borV, z_stillV, z_stillsV, z_stillsN, z_shareV, z_bor_con, z_still_con, z_stills_con, z_share_con, z_bor_glo, z_still_glo, z_stills_glo, z_share_glo, z_bor_bin, z_still_bin, z_stills_bin, z_share_bin, z_bor_neg, z_still_neg, z_stills_neg, z_share_neg, z_bor_nt, z_still_nt, z_stills_nt, z_share_nt, z_bor_bo, z_still_bo, z_stills_bo, z_share_bo, z_bor_cmp, z_still_cmp, z_stills_cmp, z_share_cmp, z_bor_chn, z_still_chn, z_stills_chn, z_share_chn, z_bor_ife, z_still_ife, z_stills_ife, z_share_ife, z_bor_call, z_still_call, z_stills_call, z_share_call, z_bor_calk, z_still_calk, z_stills_calk, z_share_calk, z_bor_bi, z_still_bi, z_stills_bi, z_share_bi, z_bor_isi, z_still_isi, z_stills_isi, z_share_isi, z_bor_sub, z_still_sub, z_stills_sub, z_share_sub, z_bor_slc, z_still_slc, z_stills_slc, z_share_slc, z_bor_rpr, z_still_rpr, z_stills_rpr, z_share_rpr, z_bor_tup, z_still_tup, z_stills_tup, z_share_tup, z_bor_lst, z_still_lst, z_stills_lst, z_share_lst, z_bor_lc, z_still_lc, z_stills_lc, z_share_lc, z_bor_mov, z_still_mov, z_stills_mov, z_share_mov, z_setNm, z_setTpT, z_setTpL, z_setsN, z_setsC, z_putN, z_putC, z_var, z_mov, z_con, z_glo, z_bin, z_neg, z_nt, z_bo, z_cmp, z_chn, z_ife, z_call, z_calk, z_bi, z_isi, z_sub, z_slc, z_tup, z_lst, z_rprL, z_rprT, z_lc, z_esN, z_esC, z_bsN, z_bsC, z_aN, z_aM, z_aF, z_aE, z_oN, z_oY, z_bo1, z_bo2, zt_nt, zt_bo, zt_cmp, zt_chn, zt_isi, zt_call, zt_var, zt_bi, zt_to1, zt_to2, zt_tsN, zt_ts1, i_ex, i_r1, i_r2, i_r3, i_zip, i_enum, i_rev, c_asg, c_par, c_pst, c_pag, c_aug, c_app, c_exp, c_ite, c_for, c_ret, c_rtn, c_brk, c_cnt, c_pas, c_nev, c_nil, c_cons, b_add, b_sub, b_mul, b_fdiv, b_mod, b_pow, b_shl, b_shr, b_cat, b_rep, a_add, a_sub, a_mul, a_mod, q_eqI, q_neI, q_eqS, q_neS, q_eqB, q_neB, q_eqNil, q_neNil, q_lt, q_le, q_gt, q_ge, q_is, q_isnt, r_bl, r_int, r_lst, r_tup, s_szL, s_szT, s_subL, s_subT, s_slcL, s_slcT, s_itL, s_itT, s_liL, n_lenL, n_lenT, n_abs, n_min2, n_max2, n_int, n_intB, n_listL, n_listT, n_tupL, n_strI, n_boolI, n_allL, n_anyL, n_sumL, f_non, f_bl, f_int, f_str, f_tup, f_lst, f_nil, f_cons, g_int, g_bl, g_non, g_str, g_lstF, g_tup, g_lstT, g_nil, g_cons, o_nil, o_0, o_1, z_cast0, z_cast1, z_cast2, z_cast3, z_cast4, z_cast5, z_cast6, z_cast7, z_cast8, z_cast9, z_cast10, z_cast11, z_cast12, l_ltl0, l_ltl1, l_ltl2, l_ltl3, l_ltl4, l_ltl5, l_ltl6, l_ltl7, l_ltl8, l_ltl9, l_ltl10, l_ltl11, l_ltl12, l_line0, l_line1, l_line2, l_line3, l_line4, l_line5, l_line6, l_line7, l_line8, l_line9, l_line10, l_line11, l_line12, k_NoneType_int, k_NoneType_bool, k_NoneType_str, k_NoneType_list, k_NoneType_tuple, k_NoneType_dict, k_bool_int, k_bool_bool, k_bool_str, k_bool_list, k_bool_tuple, k_bool_dict, k_int_int, k_int_bool, k_int_str, k_int_list, k_int_tuple, k_int_dict, k_str_int, k_str_bool, k_str_str, k_str_list, k_str_tuple, k_str_dict, k_tuple_int, k_tuple_bool, k_tuple_str, k_tuple_list, k_tuple_tuple, k_tuple_dict, k_list_int, k_list_bool, k_list_str, k_list_list, k_list_tuple, k_list_dict, z_at0, z_at1, z_at2, z_at3, z_at4, z_at5, z_at6, z_at7, z_at8, z_ix1_0, z_ix2_0, z_ix2_1, z_ix3_0, z_ix3_1, z_ix3_2, z_ix4_0, z_ix4_1, z_ix4_2, z_ix4_3, z_ix5_0, z_ix5_1, z_ix5_2, z_ix5_3, z_ix5_4, z_ix6_0, z_ix6_1, z_ix6_2, z_ix6_3, z_ix6_4, z_ix6_5, z_ix7_0, z_ix7_1, z_ix7_2, z_ix7_3, z_ix7_4, z_ix7_5, z_ix7_6, z_ix8_0, z_ix8_1, z_ix8_2, z_ix8_3, z_ix8_4, z_ix8_5, z_ix8_6, z_ix8_7, Bool.not_eq_true', decide_eq_false_iff_not, ite_not, Bool.false_eq_true, Int.reduceEq, wipeE, backE, IL_fz, IL_isFz, fz_fz, fzL_fzL, List.set_cons_zero, List.set_cons_succ, List.getElem?_cons_zero, List.getElem?_cons_succ, List.length_cons, List.length_nil, and_true, true_and, Bool.and_true, Bool.true_and, Bool.not_true, Bool.not_false, Bool.not_not, if_true, if_false, ite_true, ite_false, Option.map_some, Option.some.injEq, exists_eq_left, exists_eq_left', D.int.injEq, D.lst.injEq, D.bl.injEq, D.str.injEq, D.tup.injEq, List.cons_append, List.nil_append, List.not_mem_nil, not_false_eq_true, Bool.false_eq_true, List.all_cons, List.all_nil, reduceIte, reduceCtorEq, List.isEmpty_cons, List.isEmpty_nil, eq_self, decide_true, decide_false, Bool.if_true_left, exists_eq, exists_eq', decide_eq_true_eq, Int.reduceToNat, Int.reducePow, Int.reduceNeg, Int.reduceLT, Int.reduceLE, Int.reduceSub, Int.reduceAdd, and_false, false_and, List.mem_cons, or_false, false_or, exists_and_left, Nat.zero_add, ne_eq, not_true_eq_false, Nat.reduceAdd, Nat.reduceLT, Nat.reduceEqDiff, Nat.reduceLeDiff]
      exact q _ _ _ h2 (by omega) (by omega) (h3.mono (by omega))
  · rintro x0 xs e k bk ⟨l1, l2, ps, x, u, hi, h1, h2, h3, rfl⟩ hk _
    cases l2 with
    | nil => simp [IL] at hi
    | cons p l2 =>
      simp only [IL_cons, List.cons.injEq] at hi
      obtain ⟨rfl, rfl⟩ := hi
      have hp := hq p (by rw [← h1]; simp)
      have hl1 : l1.length + 1 ≤ 8 := by have := congrArg List.length h1; simp at this; omega
      simp only [f__law_stand_b1, hm, H1.sp, H1.io, IL_len, z_get0, z_getS, z_borV, z_stillV, z_stillsV, z_stillsN, z_shareV, z_bor_con, z_still_con, z_stills_con, z_share_con, z_bor_glo, z_still_glo, z_stills_glo, z_share_glo, z_bor_bin, z_still_bin, z_stills_bin, z_share_bin, z_bor_neg, z_still_neg, z_stills_neg, z_share_neg, z_bor_nt, z_still_nt, z_stills_nt, z_share_nt, z_bor_bo, z_still_bo, z_stills_bo, z_share_bo, z_bor_cmp, z_still_cmp, z_stills_cmp, z_share_cmp, z_bor_chn, z_still_chn, z_stills_chn, z_share_chn, z_bor_ife, z_still_ife, z_stills_ife, z_share_ife, z_bor_call, z_still_call, z_stills_call, z_share_call, z_bor_calk, z_still_calk, z_stills_calk, z_share_calk, z_bor_bi, z_still_bi, z_stills_bi, z_share_bi, z_bor_isi, z_still_isi, z_stills_isi, z_share_isi, z_bor_sub, z_still_sub, z_stills_sub, z_share_sub, z_bor_slc, z_still_slc, z_stills_slc, z_share_slc, z_bor_rpr, z_still_rpr, z_stills_rpr, z_share_rpr, z_bor_tup, z_still_tup, z_stills_tup, z_share_tup, z_bor_lst, z_still_lst, z_stills_lst, z_share_lst, z_bor_lc, z_still_lc, z_stills_lc, z_share_lc, z_bor_mov, z_still_mov, z_stills_mov, z_share_mov, z_setNm, z_setTpT, z_setTpL, z_setsN, z_setsC, z_putN, z_putC, z_var, z_mov, z_con, z_glo, z_bin, z_neg, z_nt, z_bo, z_cmp, z_chn, z_ife, z_call, z_calk, z_bi, z_isi, z_sub, z_slc, z_tup, z_lst, z_rprL, z_rprT, z_lc, z_esN, z_esC, z_bsN, z_bsC, z_aN, z_aM, z_aF, z_aE, z_oN, z_oY, z_bo1, z_bo2, zt_nt, zt_bo, zt_cmp, zt_chn, zt_isi, zt_call, zt_var, zt_bi, zt_to1, zt_to2, zt_tsN, zt_ts1, i_ex, i_r1, i_r2, i_r3, i_zip, i_enum, i_rev, c_asg, c_par, c_pst, c_pag, c_aug, c_app, c_exp, c_ite, c_for, c_ret, c_rtn, c_brk, c_cnt, c_pas, c_nev, c_nil, c_cons, b_add, b_sub, b_mul, b_fdiv, b_mod, b_pow, b_shl, b_shr, b_cat, b_rep, a_add, a_sub, a_mul, a_mod, q_eqI, q_neI, q_eqS, q_neS, q_eqB, q_neB, q_eqNil, q_neNil, q_lt, q_le, q_gt, q_ge, q_is, q_isnt, r_bl, r_int, r_lst, r_tup, s_szL, s_szT, s_subL, s_subT, s_slcL, s_slcT, s_itL, s_itT, s_liL, n_lenL, n_lenT, n_abs, n_min2, n_max2, n_int, n_intB, n_listL, n_listT, n_tupL, n_strI, n_boolI, n_allL, n_anyL, n_sumL, f_non, f_bl, f_int, f_str, f_tup, f_lst, f_nil, f_cons, g_int, g_bl, g_non, g_str, g_lstF, g_tup, g_lstT, g_nil, g_cons, o_nil, o_0, o_1, z_cast0, z_cast1, z_cast2, z_cast3, z_cast4, z_cast5, z_cast6, z_cast7, z_cast8, z_cast9, z_cast10, z_cast11, z_cast12, l_ltl0, l_ltl1, l_ltl2, l_ltl3, l_ltl4, l_ltl5, l_ltl6, l_ltl7, l_ltl8, l_ltl9, l_ltl10, l_ltl11, l_ltl12, l_line0, l_line1, l_line2, l_line3, l_line4, l_line5, l_line6, l_line7, l_line8, l_line9, l_line10, l_line11, l_line12, k_NoneType_int, k_NoneType_bool, k_NoneType_str, k_NoneType_list, k_NoneType_tuple, k_NoneType_dict, k_bool_int, k_bool_bool, k_bool_str, k_bool_list, k_bool_tuple, k_bool_dict, k_int_int, k_int_bool, k_int_str, k_int_list, k_int_tuple, k_int_dict, k_str_int, k_str_bool, k_str_str, k_str_list, k_str_tuple, k_str_dict, k_tuple_int, k_tuple_bool, k_tuple_str, k_tuple_list, k_tuple_tuple, k_tuple_dict, k_list_int, k_list_bool, k_list_str, k_list_list, k_list_tuple, k_list_dict, z_at0, z_at1, z_at2, z_at3, z_at4, z_at5, z_at6, z_at7, z_at8, z_ix1_0, z_ix2_0, z_ix2_1, z_ix3_0, z_ix3_1, z_ix3_2, z_ix4_0, z_ix4_1, z_ix4_2, z_ix4_3, z_ix5_0, z_ix5_1, z_ix5_2, z_ix5_3, z_ix5_4, z_ix6_0, z_ix6_1, z_ix6_2, z_ix6_3, z_ix6_4, z_ix6_5, z_ix7_0, z_ix7_1, z_ix7_2, z_ix7_3, z_ix7_4, z_ix7_5, z_ix7_6, z_ix8_0, z_ix8_1, z_ix8_2, z_ix8_3, z_ix8_4, z_ix8_5, z_ix8_6, z_ix8_7, Bool.not_eq_true', decide_eq_false_iff_not, ite_not, Bool.false_eq_true, Int.reduceEq, wipeE, backE, IL_fz, IL_isFz, fz_fz, fzL_fzL, List.set_cons_zero, List.set_cons_succ, List.getElem?_cons_zero, List.getElem?_cons_succ, List.length_cons, List.length_nil, and_true, true_and, Bool.and_true, Bool.true_and, Bool.not_true, Bool.not_false, Bool.not_not, if_true, if_false, ite_true, ite_false, Option.map_some, Option.some.injEq, exists_eq_left, exists_eq_left', D.int.injEq, D.lst.injEq, D.bl.injEq, D.str.injEq, D.tup.injEq, List.cons_append, List.nil_append, List.not_mem_nil, not_false_eq_true, Bool.false_eq_true, List.all_cons, List.all_nil, reduceIte, reduceCtorEq, List.isEmpty_cons, List.isEmpty_nil, eq_self, decide_true, decide_false, Bool.if_true_left, exists_eq, exists_eq', decide_eq_true_eq, Int.reduceToNat, Int.reducePow, Int.reduceNeg, Int.reduceLT, Int.reduceLE, Int.reduceSub, Int.reduceAdd, and_false, false_and, List.mem_cons, or_false, false_or, exists_and_left, Nat.zero_add, ne_eq, not_true_eq_false, Nat.reduceAdd, Nat.reduceLT, Nat.reduceEqDiff, Nat.reduceLeDiff]
      refine ⟨_, _, _, rfl, h3, by omega, by omega, by omega, fun s1 y1 b1 b2 j1 => ⟨rfl, ?_⟩⟩
      simp only [hm, H1.sp, H1.io, IL_len, z_get0, z_getS, z_borV, z_stillV, z_stillsV, z_stillsN, z_shareV, z_bor_con, z_still_con, z_stills_con, z_share_con, z_bor_glo, z_still_glo, z_stills_glo, z_share_glo, z_bor_bin, z_still_bin, z_stills_bin, z_share_bin, z_bor_neg, z_still_neg, z_stills_neg, z_share_neg, z_bor_nt, z_still_nt, z_stills_nt, z_share_nt, z_bor_bo, z_still_bo, z_stills_bo, z_share_bo, z_bor_cmp, z_still_cmp, z_stills_cmp, z_share_cmp, z_bor_chn, z_still_chn, z_stills_chn, z_share_chn, z_bor_ife, z_still_ife, z_stills_ife, z_share_ife, z_bor_call, z_still_call, z_stills_call, z_share_call, z_bor_calk, z_still_calk, z_stills_calk, z_share_calk, z_bor_bi, z_still_bi, z_stills_bi, z_share_bi, z_bor_isi, z_still_isi, z_stills_isi, z_share_isi, z_bor_sub, z_still_sub, z_stills_sub, z_share_sub, z_bor_slc, z_still_slc, z_stills_slc, z_share_slc, z_bor_rpr, z_still_rpr, z_stills_rpr, z_share_rpr, z_bor_tup, z_still_tup, z_stills_tup, z_share_tup, z_bor_lst, z_still_lst, z_stills_lst, z_share_lst, z_bor_lc, z_still_lc, z_stills_lc, z_share_lc, z_bor_mov, z_still_mov, z_stills_mov, z_share_mov, z_setNm, z_setTpT, z_setTpL, z_setsN, z_setsC, z_putN, z_putC, z_var, z_mov, z_con, z_glo, z_bin, z_neg, z_nt, z_bo, z_cmp, z_chn, z_ife, z_call, z_calk, z_bi, z_isi, z_sub, z_slc, z_tup, z_lst, z_rprL, z_rprT, z_lc, z_esN, z_esC, z_bsN, z_bsC, z_aN, z_aM, z_aF, z_aE, z_oN, z_oY, z_bo1, z_bo2, zt_nt, zt_bo, zt_cmp, zt_chn, zt_isi, zt_call, zt_var, zt_bi, zt_to1, zt_to2, zt_tsN, zt_ts1, i_ex, i_r1, i_r2, i_r3, i_zip, i_enum, i_rev, c_asg, c_par, c_pst, c_pag, c_aug, c_app, c_exp, c_ite, c_for, c_ret, c_rtn, c_brk, c_cnt, c_pas, c_nev, c_nil, c_cons, b_add, b_sub, b_mul, b_fdiv, b_mod, b_pow, b_shl, b_shr, b_cat, b_rep, a_add, a_sub, a_mul, a_mod, q_eqI, q_neI, q_eqS, q_neS, q_eqB, q_neB, q_eqNil, q_neNil, q_lt, q_le, q_gt, q_ge, q_is, q_isnt, r_bl, r_int, r_lst, r_tup, s_szL, s_szT, s_subL, s_subT, s_slcL, s_slcT, s_itL, s_itT, s_liL, n_lenL, n_lenT, n_abs, n_min2, n_max2, n_int, n_intB, n_listL, n_listT, n_tupL, n_strI, n_boolI, n_allL, n_anyL, n_sumL, f_non, f_bl, f_int, f_str, f_tup, f_lst, f_nil, f_cons, g_int, g_bl, g_non, g_str, g_lstF, g_tup, g_lstT, g_nil, g_cons, o_nil, o_0, o_1, z_cast0, z_cast1, z_cast2, z_cast3, z_cast4, z_cast5, z_cast6, z_cast7, z_cast8, z_cast9, z_cast10, z_cast11, z_cast12, l_ltl0, l_ltl1, l_ltl2, l_ltl3, l_ltl4, l_ltl5, l_ltl6, l_ltl7, l_ltl8, l_ltl9, l_ltl10, l_ltl11, l_ltl12, l_line0, l_line1, l_line2, l_line3, l_line4, l_line5, l_line6, l_line7, l_line8, l_line9, l_line10, l_line11, l_line12, k_NoneType_int, k_NoneType_bool, k_NoneType_str, k_NoneType_list, k_NoneType_tuple, k_NoneType_dict, k_bool_int, k_bool_bool, k_bool_str, k_bool_list, k_bool_tuple, k_bool_dict, k_int_int, k_int_bool, k_int_str, k_int_list, k_int_tuple, k_int_dict, k_str_int, k_str_bool, k_str_str, k_str_list, k_str_tuple, k_str_dict, k_tuple_int, k_tuple_bool, k_tuple_str, k_tuple_list, k_tuple_tuple, k_tuple_dict, k_list_int, k_list_bool, k_list_str, k_list_list, k_list_tuple, k_list_dict, z_at0, z_at1, z_at2, z_at3, z_at4, z_at5, z_at6, z_at7, z_at8, z_ix1_0, z_ix2_0, z_ix2_1, z_ix3_0, z_ix3_1, z_ix3_2, z_ix4_0, z_ix4_1, z_ix4_2, z_ix4_3, z_ix5_0, z_ix5_1, z_ix5_2, z_ix5_3, z_ix5_4, z_ix6_0, z_ix6_1, z_ix6_2, z_ix6_3, z_ix6_4, z_ix6_5, z_ix7_0, z_ix7_1, z_ix7_2, z_ix7_3, z_ix7_4, z_ix7_5, z_ix7_6, z_ix8_0, z_ix8_1, z_ix8_2, z_ix8_3, z_ix8_4, z_ix8_5, z_ix8_6, z_ix8_7, Bool.not_eq_true', decide_eq_false_iff_not, ite_not, Bool.false_eq_true, Int.reduceEq, wipeE, backE, IL_fz, IL_isFz, fz_fz, fzL_fzL, List.set_cons_zero, List.set_cons_succ, List.getElem?_cons_zero, List.getElem?_cons_succ, List.length_cons, List.length_nil, and_true, true_and, Bool.and_true, Bool.true_and, Bool.not_true, Bool.not_false, Bool.not_not, if_true, if_false, ite_true, ite_false, Option.map_some, Option.some.injEq, exists_eq_left, exists_eq_left', D.int.injEq, D.lst.injEq, D.bl.injEq, D.str.injEq, D.tup.injEq, List.cons_append, List.nil_append, List.not_mem_nil, not_false_eq_true, Bool.false_eq_true, List.all_cons, List.all_nil, reduceIte, reduceCtorEq, List.isEmpty_cons, List.isEmpty_nil, eq_self, decide_true, decide_false, Bool.if_true_left, exists_eq, exists_eq', decide_eq_true_eq, Int.reduceToNat, Int.reducePow, Int.reduceNeg, Int.reduceLT, Int.reduceLE, Int.reduceSub, Int.reduceAdd, and_false, false_and, List.mem_cons, or_false, false_or, exists_and_left, Nat.zero_add, ne_eq, not_true_eq_false, Nat.reduceAdd, Nat.reduceLT, Nat.reduceEqDiff, Nat.reduceLeDiff]
      refine ⟨_, _, _, rfl, j1, by omega, by decide, by decide, fun s2 y2 b3 b4 j2 => ⟨rfl, ?_⟩⟩
      simp only [hm, H1.sp, H1.io, IL_len, z_get0, z_getS, z_borV, z_stillV, z_stillsV, z_stillsN, z_shareV, z_bor_con, z_still_con, z_stills_con, z_share_con, z_bor_glo, z_still_glo, z_stills_glo, z_share_glo, z_bor_bin, z_still_bin, z_stills_bin, z_share_bin, z_bor_neg, z_still_neg, z_stills_neg, z_share_neg, z_bor_nt, z_still_nt, z_stills_nt, z_share_nt, z_bor_bo, z_still_bo, z_stills_bo, z_share_bo, z_bor_cmp, z_still_cmp, z_stills_cmp, z_share_cmp, z_bor_chn, z_still_chn, z_stills_chn, z_share_chn, z_bor_ife, z_still_ife, z_stills_ife, z_share_ife, z_bor_call, z_still_call, z_stills_call, z_share_call, z_bor_calk, z_still_calk, z_stills_calk, z_share_calk, z_bor_bi, z_still_bi, z_stills_bi, z_share_bi, z_bor_isi, z_still_isi, z_stills_isi, z_share_isi, z_bor_sub, z_still_sub, z_stills_sub, z_share_sub, z_bor_slc, z_still_slc, z_stills_slc, z_share_slc, z_bor_rpr, z_still_rpr, z_stills_rpr, z_share_rpr, z_bor_tup, z_still_tup, z_stills_tup, z_share_tup, z_bor_lst, z_still_lst, z_stills_lst, z_share_lst, z_bor_lc, z_still_lc, z_stills_lc, z_share_lc, z_bor_mov, z_still_mov, z_stills_mov, z_share_mov, z_setNm, z_setTpT, z_setTpL, z_setsN, z_setsC, z_putN, z_putC, z_var, z_mov, z_con, z_glo, z_bin, z_neg, z_nt, z_bo, z_cmp, z_chn, z_ife, z_call, z_calk, z_bi, z_isi, z_sub, z_slc, z_tup, z_lst, z_rprL, z_rprT, z_lc, z_esN, z_esC, z_bsN, z_bsC, z_aN, z_aM, z_aF, z_aE, z_oN, z_oY, z_bo1, z_bo2, zt_nt, zt_bo, zt_cmp, zt_chn, zt_isi, zt_call, zt_var, zt_bi, zt_to1, zt_to2, zt_tsN, zt_ts1, i_ex, i_r1, i_r2, i_r3, i_zip, i_enum, i_rev, c_asg, c_par, c_pst, c_pag, c_aug, c_app, c_exp, c_ite, c_for, c_ret, c_rtn, c_brk, c_cnt, c_pas, c_nev, c_nil, c_cons, b_add, b_sub, b_mul, b_fdiv, b_mod, b_pow, b_shl, b_shr, b_cat, b_rep, a_add, a_sub, a_mul, a_mod, q_eqI, q_neI, q_eqS, q_neS, q_eqB, q_neB, q_eqNil, q_neNil, q_lt, q_le, q_gt, q_ge, q_is, q_isnt, r_bl, r_int, r_lst, r_tup, s_szL, s_szT, s_subL, s_subT, s_slcL, s_slcT, s_itL, s_itT, s_liL, n_lenL, n_lenT, n_abs, n_min2, n_max2, n_int, n_intB, n_listL, n_listT, n_tupL, n_strI, n_boolI, n_allL, n_anyL, n_sumL, f_non, f_bl, f_int, f_str, f_tup, f_lst, f_nil, f_cons, g_int, g_bl, g_non, g_str, g_lstF, g_tup, g_lstT, g_nil, g_cons, o_nil, o_0, o_1, z_cast0, z_cast1, z_cast2, z_cast3, z_cast4, z_cast5, z_cast6, z_cast7, z_cast8, z_cast9, z_cast10, z_cast11, z_cast12, l_ltl0, l_ltl1, l_ltl2, l_ltl3, l_ltl4, l_ltl5, l_ltl6, l_ltl7, l_ltl8, l_ltl9, l_ltl10, l_ltl11, l_ltl12, l_line0, l_line1, l_line2, l_line3, l_line4, l_line5, l_line6, l_line7, l_line8, l_line9, l_line10, l_line11, l_line12, k_NoneType_int, k_NoneType_bool, k_NoneType_str, k_NoneType_list, k_NoneType_tuple, k_NoneType_dict, k_bool_int, k_bool_bool, k_bool_str, k_bool_list, k_bool_tuple, k_bool_dict, k_int_int, k_int_bool, k_int_str, k_int_list, k_int_tuple, k_int_dict, k_str_int, k_str_bool, k_str_str, k_str_list, k_str_tuple, k_str_dict, k_tuple_int, k_tuple_bool, k_tuple_str, k_tuple_list, k_tuple_tuple, k_tuple_dict, k_list_int, k_list_bool, k_list_str, k_list_list, k_list_tuple, k_list_dict, z_at0, z_at1, z_at2, z_at3, z_at4, z_at5, z_at6, z_at7, z_at8, z_ix1_0, z_ix2_0, z_ix2_1, z_ix3_0, z_ix3_1, z_ix3_2, z_ix4_0, z_ix4_1, z_ix4_2, z_ix4_3, z_ix5_0, z_ix5_1, z_ix5_2, z_ix5_3, z_ix5_4, z_ix6_0, z_ix6_1, z_ix6_2, z_ix6_3, z_ix6_4, z_ix6_5, z_ix7_0, z_ix7_1, z_ix7_2, z_ix7_3, z_ix7_4, z_ix7_5, z_ix7_6, z_ix8_0, z_ix8_1, z_ix8_2, z_ix8_3, z_ix8_4, z_ix8_5, z_ix8_6, z_ix8_7, Bool.not_eq_true', decide_eq_false_iff_not, ite_not, Bool.false_eq_true, Int.reduceEq, wipeE, backE, IL_fz, IL_isFz, fz_fz, fzL_fzL, List.set_cons_zero, List.set_cons_succ, List.getElem?_cons_zero, List.getElem?_cons_succ, List.length_cons, List.length_nil, and_true, true_and, Bool.and_true, Bool.true_and, Bool.not_true, Bool.not_false, Bool.not_not, if_true, if_false, ite_true, ite_false, Option.map_some, Option.some.injEq, exists_eq_left, exists_eq_left', D.int.injEq, D.lst.injEq, D.bl.injEq, D.str.injEq, D.tup.injEq, List.cons_append, List.nil_append, List.not_mem_nil, not_false_eq_true, Bool.false_eq_true, List.all_cons, List.all_nil, reduceIte, reduceCtorEq, List.isEmpty_cons, List.isEmpty_nil, eq_self, decide_true, decide_false, Bool.if_true_left, exists_eq, exists_eq', decide_eq_true_eq, Int.reduceToNat, Int.reducePow, Int.reduceNeg, Int.reduceLT, Int.reduceLE, Int.reduceSub, Int.reduceAdd, and_false, false_and, List.mem_cons, or_false, false_or, exists_and_left, Nat.zero_add, ne_eq, not_true_eq_false, Nat.reduceAdd, Nat.reduceLT, Nat.reduceEqDiff, Nat.reduceLeDiff]
      obtain ⟨el, he, z, rfl, hz1, hz2⟩ := atI_in (P := fun (z : D) => ∃ v : Int, z = .int v ∧ 0 ≤ v ∧ v ≤ p) (xs := [D.int 0, D.int p, D.int s1]) b3 (by simpa using b4) (fun z hz => by
        simp only [List.mem_cons, List.not_mem_nil, or_false] at hz
        rcases hz with rfl | rfl | rfl
        · exact ⟨_, rfl, by omega, by omega⟩
        · exact ⟨_, rfl, by omega, by omega⟩
        · exact ⟨_, rfl, by omega, by omega⟩)
      refine ⟨_, he, ?_⟩
      simp only [hm, IL_len, IL_app, z_get0, z_getS, z_borV, z_stillV, z_stillsV, z_stillsN, z_shareV, z_bor_con, z_still_con, z_stills_con, z_share_con, z_bor_glo, z_still_glo, z_stills_glo, z_share_glo, z_bor_bin, z_still_bin, z_stills_bin, z_share_bin, z_bor_neg, z_still_neg, z_stills_neg, z_share_neg, z_bor_nt, z_still_nt, z_stills_nt, z_share_nt, z_bor_bo, z_still_bo, z_stills_bo, z_share_bo, z_bor_cmp, z_still_cmp, z_stills_cmp, z_share_cmp, z_bor_chn, z_still_chn, z_stills_chn, z_share_chn, z_bor_ife, z_still_ife, z_stills_ife, z_share_ife, z_bor_call, z_still_call, z_stills_call, z_share_call, z_bor_calk, z_still_calk, z_stills_calk, z_share_calk, z_bor_bi, z_still_bi, z_stills_bi, z_share_bi, z_bor_isi, z_still_isi, z_stills_isi, z_share_isi, z_bor_sub, z_still_sub, z_stills_sub, z_share_sub, z_bor_slc, z_still_slc, z_stills_slc, z_share_slc, z_bor_rpr, z_still_rpr, z_stills_rpr, z_share_rpr, z_bor_tup, z_still_tup, z_stills_tup, z_share_tup, z_bor_lst, z_still_lst, z_stills_lst, z_share_lst, z_bor_lc, z_still_lc, z_stills_lc, z_share_lc, z_bor_mov, z_still_mov, z_stills_mov, z_share_mov, z_setNm, z_setTpT, z_setTpL, z_setsN, z_setsC, z_putN, z_putC, z_var, z_mov, z_con, z_glo, z_bin, z_neg, z_nt, z_bo, z_cmp, z_chn, z_ife, z_call, z_calk, z_bi, z_isi, z_sub, z_slc, z_tup, z_lst, z_rprL, z_rprT, z_lc, z_esN, z_esC, z_bsN, z_bsC, z_aN, z_aM, z_aF, z_aE, z_oN, z_oY, z_bo1, z_bo2, zt_nt, zt_bo, zt_cmp, zt_chn, zt_isi, zt_call, zt_var, zt_bi, zt_to1, zt_to2, zt_tsN, zt_ts1, i_ex, i_r1, i_r2, i_r3, i_zip, i_enum, i_rev, c_asg, c_par, c_pst, c_pag, c_aug, c_app, c_exp, c_ite, c_for, c_ret, c_rtn, c_brk, c_cnt, c_pas, c_nev, c_nil, c_cons, b_add, b_sub, b_mul, b_fdiv, b_mod, b_pow, b_shl, b_shr, b_cat, b_rep, a_add, a_sub, a_mul, a_mod, q_eqI, q_neI, q_eqS, q_neS, q_eqB, q_neB, q_eqNil, q_neNil, q_lt, q_le, q_gt, q_ge, q_is, q_isnt, r_bl, r_int, r_lst, r_tup, s_szL, s_szT, s_subL, s_subT, s_slcL, s_slcT, s_itL, s_itT, s_liL, n_lenL, n_lenT, n_abs, n_min2, n_max2, n_int, n_intB, n_listL, n_listT, n_tupL, n_strI, n_boolI, n_allL, n_anyL, n_sumL, f_non, f_bl, f_int, f_str, f_tup, f_lst, f_nil, f_cons, g_int, g_bl, g_non, g_str, g_lstF, g_tup, g_lstT, g_nil, g_cons, o_nil, o_0, o_1, z_cast0, z_cast1, z_cast2, z_cast3, z_cast4, z_cast5, z_cast6, z_cast7, z_cast8, z_cast9, z_cast10, z_cast11, z_cast12, l_ltl0, l_ltl1, l_ltl2, l_ltl3, l_ltl4, l_ltl5, l_ltl6, l_ltl7, l_ltl8, l_ltl9, l_ltl10, l_ltl11, l_ltl12, l_line0, l_line1, l_line2, l_line3, l_line4, l_line5, l_line6, l_line7, l_line8, l_line9, l_line10, l_line11, l_line12, k_NoneType_int, k_NoneType_bool, k_NoneType_str, k_NoneType_list, k_NoneType_tuple, k_NoneType_dict, k_bool_int, k_bool_bool, k_bool_str, k_bool_list, k_bool_tuple, k_bool_dict, k_int_int, k_int_bool, k_int_str, k_int_list, k_int_tuple, k_int_dict, k_str_int, k_str_bool, k_str_str, k_str_list, k_str_tuple, k_str_dict, k_tuple_int, k_tuple_bool, k_tuple_str, k_tuple_list, k_tuple_tuple, k_tuple_dict, k_list_int, k_list_bool, k_list_str, k_list_list, k_list_tuple, k_list_dict, z_at0, z_at1, z_at2, z_at3, z_at4, z_at5, z_at6, z_at7, z_at8, z_ix1_0, z_ix2_0, z_ix2_1, z_ix3_0, z_ix3_1, z_ix3_2, z_ix4_0, z_ix4_1, z_ix4_2, z_ix4_3, z_ix5_0, z_ix5_1, z_ix5_2, z_ix5_3, z_ix5_4, z_ix6_0, z_ix6_1, z_ix6_2, z_ix6_3, z_ix6_4, z_ix6_5, z_ix7_0, z_ix7_1, z_ix7_2, z_ix7_3, z_ix7_4, z_ix7_5, z_ix7_6, z_ix8_0, z_ix8_1, z_ix8_2, z_ix8_3, z_ix8_4, z_ix8_5, z_ix8_6, z_ix8_7, Bool.not_eq_true', decide_eq_false_iff_not, ite_not, Bool.false_eq_true, Int.reduceEq, wipeE, backE, IL_fz, IL_isFz, fz_fz, fzL_fzL, List.set_cons_zero, List.set_cons_succ, List.getElem?_cons_zero, List.getElem?_cons_succ, List.length_cons, List.length_nil, and_true, true_and, Bool.and_true, Bool.true_and, Bool.not_true, Bool.not_false, Bool.not_not, if_true, if_false, ite_true, ite_false, Option.map_some, Option.some.injEq, exists_eq_left, exists_eq_left', D.int.injEq, D.lst.injEq, D.bl.injEq, D.str.injEq, D.tup.injEq, List.cons_append, List.nil_append, List.not_mem_nil, not_false_eq_true, Bool.false_eq_true, List.all_cons, List.all_nil, reduceIte, reduceCtorEq, List.isEmpty_cons, List.isEmpty_nil, eq_self, decide_true, decide_false, Bool.if_true_left, exists_eq, exists_eq', decide_eq_true_eq, Int.reduceToNat, Int.reducePow, Int.reduceNeg, Int.reduceLT, Int.reduceLE, Int.reduceSub, Int.reduceAdd, and_false, false_and, List.mem_cons, or_false, false_or, exists_and_left, Nat.zero_add, ne_eq, not_true_eq_false, Nat.reduceAdd, Nat.reduceLT, Nat.reduceEqDiff, Nat.reduceLeDiff]
      have hpl := h2.len
      refine ⟨line60 (by omega), hk _ ⟨l1 ++ [p], l2, ps ++ [lastD (r1 - far) ps - z], _, some (.int p), rfl, by rw [← h1, List.append_assoc]; rfl, h2.snoc (by omega) (by omega), j2.mono (by rw [List.length_append]; simp; omega), ?_⟩⟩
      rw [lastD_snoc]
/-- the law's turns -/
def sp_rows : FSpec := fun ds Q _ => ∃ b x, ds = [x] ∧ Coil b x ∧ b ≤ 10 ^ 11 ∧ ∀ ts y, Turns ts → (∀ t ∈ ts, t.natAbs ≤ 10 ^ 28) → Coil (b + 200) y → Q (.lst true (IL ts)) [y]
theorem w_rows {Γ : Sig} (hm : Γ.me = [0]) (H1 : Has Γ "_law_draw" [true] sp_cdraw) (ds : List D) (Q : D → List D → Prop) (R : Exc → Prop) (h : sp_rows ds Q R) : wpF Γ f__law_rows_0 ds Q R := by
  obtain ⟨b, x, rfl, hx, hb, q⟩ := h
  simp only [wpF_eq, f__law_rows_0, startE, hm, H1.sp, H1.io, List.map_cons, List.map_nil, IL_len, z_get0, z_getS, z_borV, z_stillV, z_stillsV, z_stillsN, z_shareV, z_bor_con, z_still_con, z_stills_con, z_share_con, z_bor_glo, z_still_glo, z_stills_glo, z_share_glo, z_bor_bin, z_still_bin, z_stills_bin, z_share_bin, z_bor_neg, z_still_neg, z_stills_neg, z_share_neg, z_bor_nt, z_still_nt, z_stills_nt, z_share_nt, z_bor_bo, z_still_bo, z_stills_bo, z_share_bo, z_bor_cmp, z_still_cmp, z_stills_cmp, z_share_cmp, z_bor_chn, z_still_chn, z_stills_chn, z_share_chn, z_bor_ife, z_still_ife, z_stills_ife, z_share_ife, z_bor_call, z_still_call, z_stills_call, z_share_call, z_bor_calk, z_still_calk, z_stills_calk, z_share_calk, z_bor_bi, z_still_bi, z_stills_bi, z_share_bi, z_bor_isi, z_still_isi, z_stills_isi, z_share_isi, z_bor_sub, z_still_sub, z_stills_sub, z_share_sub, z_bor_slc, z_still_slc, z_stills_slc, z_share_slc, z_bor_rpr, z_still_rpr, z_stills_rpr, z_share_rpr, z_bor_tup, z_still_tup, z_stills_tup, z_share_tup, z_bor_lst, z_still_lst, z_stills_lst, z_share_lst, z_bor_lc, z_still_lc, z_stills_lc, z_share_lc, z_bor_mov, z_still_mov, z_stills_mov, z_share_mov, z_setNm, z_setTpT, z_setTpL, z_setsN, z_setsC, z_putN, z_putC, z_var, z_mov, z_con, z_glo, z_bin, z_neg, z_nt, z_bo, z_cmp, z_chn, z_ife, z_call, z_calk, z_bi, z_isi, z_sub, z_slc, z_tup, z_lst, z_rprL, z_rprT, z_lc, z_esN, z_esC, z_bsN, z_bsC, z_aN, z_aM, z_aF, z_aE, z_oN, z_oY, z_bo1, z_bo2, zt_nt, zt_bo, zt_cmp, zt_chn, zt_isi, zt_call, zt_var, zt_bi, zt_to1, zt_to2, zt_tsN, zt_ts1, i_ex, i_r1, i_r2, i_r3, i_zip, i_enum, i_rev, c_asg, c_par, c_pst, c_pag, c_aug, c_app, c_exp, c_ite, c_for, c_ret, c_rtn, c_brk, c_cnt, c_pas, c_nev, c_nil, c_cons, b_add, b_sub, b_mul, b_fdiv, b_mod, b_pow, b_shl, b_shr, b_cat, b_rep, a_add, a_sub, a_mul, a_mod, q_eqI, q_neI, q_eqS, q_neS, q_eqB, q_neB, q_eqNil, q_neNil, q_lt, q_le, q_gt, q_ge, q_is, q_isnt, r_bl, r_int, r_lst, r_tup, s_szL, s_szT, s_subL, s_subT, s_slcL, s_slcT, s_itL, s_itT, s_liL, n_lenL, n_lenT, n_abs, n_min2, n_max2, n_int, n_intB, n_listL, n_listT, n_tupL, n_strI, n_boolI, n_allL, n_anyL, n_sumL, f_non, f_bl, f_int, f_str, f_tup, f_lst, f_nil, f_cons, g_int, g_bl, g_non, g_str, g_lstF, g_tup, g_lstT, g_nil, g_cons, o_nil, o_0, o_1, z_cast0, z_cast1, z_cast2, z_cast3, z_cast4, z_cast5, z_cast6, z_cast7, z_cast8, z_cast9, z_cast10, z_cast11, z_cast12, l_ltl0, l_ltl1, l_ltl2, l_ltl3, l_ltl4, l_ltl5, l_ltl6, l_ltl7, l_ltl8, l_ltl9, l_ltl10, l_ltl11, l_ltl12, l_line0, l_line1, l_line2, l_line3, l_line4, l_line5, l_line6, l_line7, l_line8, l_line9, l_line10, l_line11, l_line12, k_NoneType_int, k_NoneType_bool, k_NoneType_str, k_NoneType_list, k_NoneType_tuple, k_NoneType_dict, k_bool_int, k_bool_bool, k_bool_str, k_bool_list, k_bool_tuple, k_bool_dict, k_int_int, k_int_bool, k_int_str, k_int_list, k_int_tuple, k_int_dict, k_str_int, k_str_bool, k_str_str, k_str_list, k_str_tuple, k_str_dict, k_tuple_int, k_tuple_bool, k_tuple_str, k_tuple_list, k_tuple_tuple, k_tuple_dict, k_list_int, k_list_bool, k_list_str, k_list_list, k_list_tuple, k_list_dict, z_at0, z_at1, z_at2, z_at3, z_at4, z_at5, z_at6, z_at7, z_at8, z_ix1_0, z_ix2_0, z_ix2_1, z_ix3_0, z_ix3_1, z_ix3_2, z_ix4_0, z_ix4_1, z_ix4_2, z_ix4_3, z_ix5_0, z_ix5_1, z_ix5_2, z_ix5_3, z_ix5_4, z_ix6_0, z_ix6_1, z_ix6_2, z_ix6_3, z_ix6_4, z_ix6_5, z_ix7_0, z_ix7_1, z_ix7_2, z_ix7_3, z_ix7_4, z_ix7_5, z_ix7_6, z_ix8_0, z_ix8_1, z_ix8_2, z_ix8_3, z_ix8_4, z_ix8_5, z_ix8_6, z_ix8_7, Bool.not_eq_true', decide_eq_false_iff_not, ite_not, Bool.false_eq_true, Int.reduceEq, wipeE, backE, IL_fz, IL_isFz, fz_fz, fzL_fzL, List.set_cons_zero, List.set_cons_succ, List.getElem?_cons_zero, List.getElem?_cons_succ, List.length_cons, List.length_nil, and_true, true_and, Bool.and_true, Bool.true_and, Bool.not_true, Bool.not_false, Bool.not_not, if_true, if_false, ite_true, ite_false, Option.map_some, Option.some.injEq, exists_eq_left, exists_eq_left', D.int.injEq, D.lst.injEq, D.bl.injEq, D.str.injEq, D.tup.injEq, List.cons_append, List.nil_append, List.not_mem_nil, not_false_eq_true, Bool.false_eq_true, List.all_cons, List.all_nil, reduceIte, reduceCtorEq, List.isEmpty_cons, List.isEmpty_nil, eq_self, decide_true, decide_false, Bool.if_true_left, exists_eq, exists_eq', decide_eq_true_eq, Int.reduceToNat, Int.reducePow, Int.reduceNeg, Int.reduceLT, Int.reduceLE, Int.reduceSub, Int.reduceAdd, and_false, false_and, List.mem_cons, or_false, false_or, exists_and_left, Nat.zero_add, ne_eq, not_true_eq_false, Nat.reduceAdd, Nat.reduceLT, Nat.reduceEqDiff, Nat.reduceLeDiff]
  refine ⟨_, _, _, rfl, hx, by omega, by decide, by decide, fun r1 x1 a1 a2 k1 => ⟨rfl, ?_⟩⟩
  simp only [hm, H1.sp, H1.io, z_get0, z_getS, z_borV, z_stillV, z_stillsV, z_stillsN, z_shareV, z_bor_con, z_still_con, z_stills_con, z_share_con, z_bor_glo, z_still_glo, z_stills_glo, z_share_glo, z_bor_bin, z_still_bin, z_stills_bin, z_share_bin, z_bor_neg, z_still_neg, z_stills_neg, z_share_neg, z_bor_nt, z_still_nt, z_stills_nt, z_share_nt, z_bor_bo, z_still_bo, z_stills_bo, z_share_bo, z_bor_cmp, z_still_cmp, z_stills_cmp, z_share_cmp, z_bor_chn, z_still_chn, z_stills_chn, z_share_chn, z_bor_ife, z_still_ife, z_stills_ife, z_share_ife, z_bor_call, z_still_call, z_stills_call, z_share_call, z_bor_calk, z_still_calk, z_stills_calk, z_share_calk, z_bor_bi, z_still_bi, z_stills_bi, z_share_bi, z_bor_isi, z_still_isi, z_stills_isi, z_share_isi, z_bor_sub, z_still_sub, z_stills_sub, z_share_sub, z_bor_slc, z_still_slc, z_stills_slc, z_share_slc, z_bor_rpr, z_still_rpr, z_stills_rpr, z_share_rpr, z_bor_tup, z_still_tup, z_stills_tup, z_share_tup, z_bor_lst, z_still_lst, z_stills_lst, z_share_lst, z_bor_lc, z_still_lc, z_stills_lc, z_share_lc, z_bor_mov, z_still_mov, z_stills_mov, z_share_mov, z_setNm, z_setTpT, z_setTpL, z_setsN, z_setsC, z_putN, z_putC, z_var, z_mov, z_con, z_glo, z_bin, z_neg, z_nt, z_bo, z_cmp, z_chn, z_ife, z_call, z_calk, z_bi, z_isi, z_sub, z_slc, z_tup, z_lst, z_rprL, z_rprT, z_lc, z_esN, z_esC, z_bsN, z_bsC, z_aN, z_aM, z_aF, z_aE, z_oN, z_oY, z_bo1, z_bo2, zt_nt, zt_bo, zt_cmp, zt_chn, zt_isi, zt_call, zt_var, zt_bi, zt_to1, zt_to2, zt_tsN, zt_ts1, i_ex, i_r1, i_r2, i_r3, i_zip, i_enum, i_rev, c_asg, c_par, c_pst, c_pag, c_aug, c_app, c_exp, c_ite, c_for, c_ret, c_rtn, c_brk, c_cnt, c_pas, c_nev, c_nil, c_cons, b_add, b_sub, b_mul, b_fdiv, b_mod, b_pow, b_shl, b_shr, b_cat, b_rep, a_add, a_sub, a_mul, a_mod, q_eqI, q_neI, q_eqS, q_neS, q_eqB, q_neB, q_eqNil, q_neNil, q_lt, q_le, q_gt, q_ge, q_is, q_isnt, r_bl, r_int, r_lst, r_tup, s_szL, s_szT, s_subL, s_subT, s_slcL, s_slcT, s_itL, s_itT, s_liL, n_lenL, n_lenT, n_abs, n_min2, n_max2, n_int, n_intB, n_listL, n_listT, n_tupL, n_strI, n_boolI, n_allL, n_anyL, n_sumL, f_non, f_bl, f_int, f_str, f_tup, f_lst, f_nil, f_cons, g_int, g_bl, g_non, g_str, g_lstF, g_tup, g_lstT, g_nil, g_cons, o_nil, o_0, o_1, z_cast0, z_cast1, z_cast2, z_cast3, z_cast4, z_cast5, z_cast6, z_cast7, z_cast8, z_cast9, z_cast10, z_cast11, z_cast12, l_ltl0, l_ltl1, l_ltl2, l_ltl3, l_ltl4, l_ltl5, l_ltl6, l_ltl7, l_ltl8, l_ltl9, l_ltl10, l_ltl11, l_ltl12, l_line0, l_line1, l_line2, l_line3, l_line4, l_line5, l_line6, l_line7, l_line8, l_line9, l_line10, l_line11, l_line12, k_NoneType_int, k_NoneType_bool, k_NoneType_str, k_NoneType_list, k_NoneType_tuple, k_NoneType_dict, k_bool_int, k_bool_bool, k_bool_str, k_bool_list, k_bool_tuple, k_bool_dict, k_int_int, k_int_bool, k_int_str, k_int_list, k_int_tuple, k_int_dict, k_str_int, k_str_bool, k_str_str, k_str_list, k_str_tuple, k_str_dict, k_tuple_int, k_tuple_bool, k_tuple_str, k_tuple_list, k_tuple_tuple, k_tuple_dict, k_list_int, k_list_bool, k_list_str, k_list_list, k_list_tuple, k_list_dict, z_at0, z_at1, z_at2, z_at3, z_at4, z_at5, z_at6, z_at7, z_at8, z_ix1_0, z_ix2_0, z_ix2_1, z_ix3_0, z_ix3_1, z_ix3_2, z_ix4_0, z_ix4_1, z_ix4_2, z_ix4_3, z_ix5_0, z_ix5_1, z_ix5_2, z_ix5_3, z_ix5_4, z_ix6_0, z_ix6_1, z_ix6_2, z_ix6_3, z_ix6_4, z_ix6_5, z_ix7_0, z_ix7_1, z_ix7_2, z_ix7_3, z_ix7_4, z_ix7_5, z_ix7_6, z_ix8_0, z_ix8_1, z_ix8_2, z_ix8_3, z_ix8_4, z_ix8_5, z_ix8_6, z_ix8_7, Bool.not_eq_true', decide_eq_false_iff_not, ite_not, Bool.false_eq_true, Int.reduceEq, wipeE, backE, IL_fz, IL_isFz, fz_fz, fzL_fzL, List.set_cons_zero, List.set_cons_succ, List.getElem?_cons_zero, List.getElem?_cons_succ, List.length_cons, List.length_nil, and_true, true_and, Bool.and_true, Bool.true_and, Bool.not_true, Bool.not_false, Bool.not_not, if_true, if_false, ite_true, ite_false, Option.map_some, Option.some.injEq, exists_eq_left, exists_eq_left', D.int.injEq, D.lst.injEq, D.bl.injEq, D.str.injEq, D.tup.injEq, List.cons_append, List.nil_append, List.not_mem_nil, not_false_eq_true, Bool.false_eq_true, List.all_cons, List.all_nil, reduceIte, reduceCtorEq, List.isEmpty_cons, List.isEmpty_nil, eq_self, decide_true, decide_false, Bool.if_true_left, exists_eq, exists_eq', decide_eq_true_eq, Int.reduceToNat, Int.reducePow, Int.reduceNeg, Int.reduceLT, Int.reduceLE, Int.reduceSub, Int.reduceAdd, and_false, false_and, List.mem_cons, or_false, false_or, exists_and_left, Nat.zero_add, ne_eq, not_true_eq_false, Nat.reduceAdd, Nat.reduceLT, Nat.reduceEqDiff, Nat.reduceLeDiff]
  refine ⟨pow_by 4 (by decide) (by decide) (by decide) (by decide), _, _, _, rfl, k1, by omega, by decide, by decide, fun r2 x2 a3 a4 k2 => ⟨rfl, ⟨_, rfl⟩, ?_⟩⟩
  obtain ⟨el, he, far, rfl, hf1, hf2⟩ := atI_in (P := fun (z : D) => ∃ v : Int, z = .int v ∧ 0 < v ∧ v ≤ 10 ^ 28) (xs := [D.int 3, D.int 100, D.int 10000000000000000000000000000]) a3 (by simpa using a4) (fun z hz => by
    simp only [List.mem_cons, List.not_mem_nil, or_false] at hz
    rcases hz with rfl | rfl | rfl
    · exact ⟨_, rfl, by omega, by omega⟩
    · exact ⟨_, rfl, by omega, by omega⟩
    · exact ⟨_, rfl, by omega, by omega⟩)
  refine ⟨_, he, ?_⟩
  simp only [hm, H1.sp, H1.io, z_get0, z_getS, z_borV, z_stillV, z_stillsV, z_stillsN, z_shareV, z_bor_con, z_still_con, z_stills_con, z_share_con, z_bor_glo, z_still_glo, z_stills_glo, z_share_glo, z_bor_bin, z_still_bin, z_stills_bin, z_share_bin, z_bor_neg, z_still_neg, z_stills_neg, z_share_neg, z_bor_nt, z_still_nt, z_stills_nt, z_share_nt, z_bor_bo, z_still_bo, z_stills_bo, z_share_bo, z_bor_cmp, z_still_cmp, z_stills_cmp, z_share_cmp, z_bor_chn, z_still_chn, z_stills_chn, z_share_chn, z_bor_ife, z_still_ife, z_stills_ife, z_share_ife, z_bor_call, z_still_call, z_stills_call, z_share_call, z_bor_calk, z_still_calk, z_stills_calk, z_share_calk, z_bor_bi, z_still_bi, z_stills_bi, z_share_bi, z_bor_isi, z_still_isi, z_stills_isi, z_share_isi, z_bor_sub, z_still_sub, z_stills_sub, z_share_sub, z_bor_slc, z_still_slc, z_stills_slc, z_share_slc, z_bor_rpr, z_still_rpr, z_stills_rpr, z_share_rpr, z_bor_tup, z_still_tup, z_stills_tup, z_share_tup, z_bor_lst, z_still_lst, z_stills_lst, z_share_lst, z_bor_lc, z_still_lc, z_stills_lc, z_share_lc, z_bor_mov, z_still_mov, z_stills_mov, z_share_mov, z_setNm, z_setTpT, z_setTpL, z_setsN, z_setsC, z_putN, z_putC, z_var, z_mov, z_con, z_glo, z_bin, z_neg, z_nt, z_bo, z_cmp, z_chn, z_ife, z_call, z_calk, z_bi, z_isi, z_sub, z_slc, z_tup, z_lst, z_rprL, z_rprT, z_lc, z_esN, z_esC, z_bsN, z_bsC, z_aN, z_aM, z_aF, z_aE, z_oN, z_oY, z_bo1, z_bo2, zt_nt, zt_bo, zt_cmp, zt_chn, zt_isi, zt_call, zt_var, zt_bi, zt_to1, zt_to2, zt_tsN, zt_ts1, i_ex, i_r1, i_r2, i_r3, i_zip, i_enum, i_rev, c_asg, c_par, c_pst, c_pag, c_aug, c_app, c_exp, c_ite, c_for, c_ret, c_rtn, c_brk, c_cnt, c_pas, c_nev, c_nil, c_cons, b_add, b_sub, b_mul, b_fdiv, b_mod, b_pow, b_shl, b_shr, b_cat, b_rep, a_add, a_sub, a_mul, a_mod, q_eqI, q_neI, q_eqS, q_neS, q_eqB, q_neB, q_eqNil, q_neNil, q_lt, q_le, q_gt, q_ge, q_is, q_isnt, r_bl, r_int, r_lst, r_tup, s_szL, s_szT, s_subL, s_subT, s_slcL, s_slcT, s_itL, s_itT, s_liL, n_lenL, n_lenT, n_abs, n_min2, n_max2, n_int, n_intB, n_listL, n_listT, n_tupL, n_strI, n_boolI, n_allL, n_anyL, n_sumL, f_non, f_bl, f_int, f_str, f_tup, f_lst, f_nil, f_cons, g_int, g_bl, g_non, g_str, g_lstF, g_tup, g_lstT, g_nil, g_cons, o_nil, o_0, o_1, z_cast0, z_cast1, z_cast2, z_cast3, z_cast4, z_cast5, z_cast6, z_cast7, z_cast8, z_cast9, z_cast10, z_cast11, z_cast12, l_ltl0, l_ltl1, l_ltl2, l_ltl3, l_ltl4, l_ltl5, l_ltl6, l_ltl7, l_ltl8, l_ltl9, l_ltl10, l_ltl11, l_ltl12, l_line0, l_line1, l_line2, l_line3, l_line4, l_line5, l_line6, l_line7, l_line8, l_line9, l_line10, l_line11, l_line12, k_NoneType_int, k_NoneType_bool, k_NoneType_str, k_NoneType_list, k_NoneType_tuple, k_NoneType_dict, k_bool_int, k_bool_bool, k_bool_str, k_bool_list, k_bool_tuple, k_bool_dict, k_int_int, k_int_bool, k_int_str, k_int_list, k_int_tuple, k_int_dict, k_str_int, k_str_bool, k_str_str, k_str_list, k_str_tuple, k_str_dict, k_tuple_int, k_tuple_bool, k_tuple_str, k_tuple_list, k_tuple_tuple, k_tuple_dict, k_list_int, k_list_bool, k_list_str, k_list_list, k_list_tuple, k_list_dict, z_at0, z_at1, z_at2, z_at3, z_at4, z_at5, z_at6, z_at7, z_at8, z_ix1_0, z_ix2_0, z_ix2_1, z_ix3_0, z_ix3_1, z_ix3_2, z_ix4_0, z_ix4_1, z_ix4_2, z_ix4_3, z_ix5_0, z_ix5_1, z_ix5_2, z_ix5_3, z_ix5_4, z_ix6_0, z_ix6_1, z_ix6_2, z_ix6_3, z_ix6_4, z_ix6_5, z_ix7_0, z_ix7_1, z_ix7_2, z_ix7_3, z_ix7_4, z_ix7_5, z_ix7_6, z_ix8_0, z_ix8_1, z_ix8_2, z_ix8_3, z_ix8_4, z_ix8_5, z_ix8_6, z_ix8_7, Bool.not_eq_true', decide_eq_false_iff_not, ite_not, Bool.false_eq_true, Int.reduceEq, wipeE, backE, IL_fz, IL_isFz, fz_fz, fzL_fzL, List.set_cons_zero, List.set_cons_succ, List.getElem?_cons_zero, List.getElem?_cons_succ, List.length_cons, List.length_nil, and_true, true_and, Bool.and_true, Bool.true_and, Bool.not_true, Bool.not_false, Bool.not_not, if_true, if_false, ite_true, ite_false, Option.map_some, Option.some.injEq, exists_eq_left, exists_eq_left', D.int.injEq, D.lst.injEq, D.bl.injEq, D.str.injEq, D.tup.injEq, List.cons_append, List.nil_append, List.not_mem_nil, not_false_eq_true, Bool.false_eq_true, List.all_cons, List.all_nil, reduceIte, reduceCtorEq, List.isEmpty_cons, List.isEmpty_nil, eq_self, decide_true, decide_false, Bool.if_true_left, exists_eq, exists_eq', decide_eq_true_eq, Int.reduceToNat, Int.reducePow, Int.reduceNeg, Int.reduceLT, Int.reduceLE, Int.reduceSub, Int.reduceAdd, and_false, false_and, List.mem_cons, or_false, false_or, exists_and_left, Nat.zero_add, ne_eq, not_true_eq_false, Nat.reduceAdd, Nat.reduceLT, Nat.reduceEqDiff, Nat.reduceLeDiff]
  refine ⟨_, _, _, rfl, k2, by omega, by decide, by decide, fun r3 x3 a5 a6 k3 => ⟨rfl, ⟨_, rfl⟩, ?_⟩⟩
  obtain ⟨el2, he2, c, rfl, hc1, hc2⟩ := atI_in (P := fun (z : D) => ∃ v : Int, z = .int v ∧ 0 ≤ v ∧ v ≤ 60) (xs := [D.int 0, D.int 1, D.int 5, D.int 60, D.int 60]) a5 (by simpa using a6) (fun z hz => by
    simp only [List.mem_cons, List.not_mem_nil, or_false] at hz
    rcases hz with rfl | rfl | rfl | rfl | rfl
    · exact ⟨_, rfl, by omega, by omega⟩
    · exact ⟨_, rfl, by omega, by omega⟩
    · exact ⟨_, rfl, by omega, by omega⟩
    · exact ⟨_, rfl, by omega, by omega⟩
    · exact ⟨_, rfl, by omega, by omega⟩)
  refine ⟨_, he2, ?_⟩
  simp only [hm, H1.sp, H1.io, z_get0, z_getS, z_borV, z_stillV, z_stillsV, z_stillsN, z_shareV, z_bor_con, z_still_con, z_stills_con, z_share_con, z_bor_glo, z_still_glo, z_stills_glo, z_share_glo, z_bor_bin, z_still_bin, z_stills_bin, z_share_bin, z_bor_neg, z_still_neg, z_stills_neg, z_share_neg, z_bor_nt, z_still_nt, z_stills_nt, z_share_nt, z_bor_bo, z_still_bo, z_stills_bo, z_share_bo, z_bor_cmp, z_still_cmp, z_stills_cmp, z_share_cmp, z_bor_chn, z_still_chn, z_stills_chn, z_share_chn, z_bor_ife, z_still_ife, z_stills_ife, z_share_ife, z_bor_call, z_still_call, z_stills_call, z_share_call, z_bor_calk, z_still_calk, z_stills_calk, z_share_calk, z_bor_bi, z_still_bi, z_stills_bi, z_share_bi, z_bor_isi, z_still_isi, z_stills_isi, z_share_isi, z_bor_sub, z_still_sub, z_stills_sub, z_share_sub, z_bor_slc, z_still_slc, z_stills_slc, z_share_slc, z_bor_rpr, z_still_rpr, z_stills_rpr, z_share_rpr, z_bor_tup, z_still_tup, z_stills_tup, z_share_tup, z_bor_lst, z_still_lst, z_stills_lst, z_share_lst, z_bor_lc, z_still_lc, z_stills_lc, z_share_lc, z_bor_mov, z_still_mov, z_stills_mov, z_share_mov, z_setNm, z_setTpT, z_setTpL, z_setsN, z_setsC, z_putN, z_putC, z_var, z_mov, z_con, z_glo, z_bin, z_neg, z_nt, z_bo, z_cmp, z_chn, z_ife, z_call, z_calk, z_bi, z_isi, z_sub, z_slc, z_tup, z_lst, z_rprL, z_rprT, z_lc, z_esN, z_esC, z_bsN, z_bsC, z_aN, z_aM, z_aF, z_aE, z_oN, z_oY, z_bo1, z_bo2, zt_nt, zt_bo, zt_cmp, zt_chn, zt_isi, zt_call, zt_var, zt_bi, zt_to1, zt_to2, zt_tsN, zt_ts1, i_ex, i_r1, i_r2, i_r3, i_zip, i_enum, i_rev, c_asg, c_par, c_pst, c_pag, c_aug, c_app, c_exp, c_ite, c_for, c_ret, c_rtn, c_brk, c_cnt, c_pas, c_nev, c_nil, c_cons, b_add, b_sub, b_mul, b_fdiv, b_mod, b_pow, b_shl, b_shr, b_cat, b_rep, a_add, a_sub, a_mul, a_mod, q_eqI, q_neI, q_eqS, q_neS, q_eqB, q_neB, q_eqNil, q_neNil, q_lt, q_le, q_gt, q_ge, q_is, q_isnt, r_bl, r_int, r_lst, r_tup, s_szL, s_szT, s_subL, s_subT, s_slcL, s_slcT, s_itL, s_itT, s_liL, n_lenL, n_lenT, n_abs, n_min2, n_max2, n_int, n_intB, n_listL, n_listT, n_tupL, n_strI, n_boolI, n_allL, n_anyL, n_sumL, f_non, f_bl, f_int, f_str, f_tup, f_lst, f_nil, f_cons, g_int, g_bl, g_non, g_str, g_lstF, g_tup, g_lstT, g_nil, g_cons, o_nil, o_0, o_1, z_cast0, z_cast1, z_cast2, z_cast3, z_cast4, z_cast5, z_cast6, z_cast7, z_cast8, z_cast9, z_cast10, z_cast11, z_cast12, l_ltl0, l_ltl1, l_ltl2, l_ltl3, l_ltl4, l_ltl5, l_ltl6, l_ltl7, l_ltl8, l_ltl9, l_ltl10, l_ltl11, l_ltl12, l_line0, l_line1, l_line2, l_line3, l_line4, l_line5, l_line6, l_line7, l_line8, l_line9, l_line10, l_line11, l_line12, k_NoneType_int, k_NoneType_bool, k_NoneType_str, k_NoneType_list, k_NoneType_tuple, k_NoneType_dict, k_bool_int, k_bool_bool, k_bool_str, k_bool_list, k_bool_tuple, k_bool_dict, k_int_int, k_int_bool, k_int_str, k_int_list, k_int_tuple, k_int_dict, k_str_int, k_str_bool, k_str_str, k_str_list, k_str_tuple, k_str_dict, k_tuple_int, k_tuple_bool, k_tuple_str, k_tuple_list, k_tuple_tuple, k_tuple_dict, k_list_int, k_list_bool, k_list_str, k_list_list, k_list_tuple, k_list_dict, z_at0, z_at1, z_at2, z_at3, z_at4, z_at5, z_at6, z_at7, z_at8, z_ix1_0, z_ix2_0, z_ix2_1, z_ix3_0, z_ix3_1, z_ix3_2, z_ix4_0, z_ix4_1, z_ix4_2, z_ix4_3, z_ix5_0, z_ix5_1, z_ix5_2, z_ix5_3, z_ix5_4, z_ix6_0, z_ix6_1, z_ix6_2, z_ix6_3, z_ix6_4, z_ix6_5, z_ix7_0, z_ix7_1, z_ix7_2, z_ix7_3, z_ix7_4, z_ix7_5, z_ix7_6, z_ix8_0, z_ix8_1, z_ix8_2, z_ix8_3, z_ix8_4, z_ix8_5, z_ix8_6, z_ix8_7, Bool.not_eq_true', decide_eq_false_iff_not, ite_not, Bool.false_eq_true, Int.reduceEq, wipeE, backE, IL_fz, IL_isFz, fz_fz, fzL_fzL, List.set_cons_zero, List.set_cons_succ, List.getElem?_cons_zero, List.getElem?_cons_succ, List.length_cons, List.length_nil, and_true, true_and, Bool.and_true, Bool.true_and, Bool.not_true, Bool.not_false, Bool.not_not, if_true, if_false, ite_true, ite_false, Option.map_some, Option.some.injEq, exists_eq_left, exists_eq_left', D.int.injEq, D.lst.injEq, D.bl.injEq, D.str.injEq, D.tup.injEq, List.cons_append, List.nil_append, List.not_mem_nil, not_false_eq_true, Bool.false_eq_true, List.all_cons, List.all_nil, reduceIte, reduceCtorEq, List.isEmpty_cons, List.isEmpty_nil, eq_self, decide_true, decide_false, Bool.if_true_left, exists_eq, exists_eq', decide_eq_true_eq, Int.reduceToNat, Int.reducePow, Int.reduceNeg, Int.reduceLT, Int.reduceLE, Int.reduceSub, Int.reduceAdd, and_false, false_and, List.mem_cons, or_false, false_or, exists_and_left, Nat.zero_add, ne_eq, not_true_eq_false, Nat.reduceAdd, Nat.reduceLT, Nat.reduceEqDiff, Nat.reduceLeDiff]
  refine ⟨by omega, by omega, ?_⟩
  refine forDK (fun items e => ∃ (n m : Nat) (x : D) (g : List Int) (up : Int) (u : Option D), items = rngD m n 1 ∧ (m : Int) + n = c ∧ g.length = m ∧ (∀ t ∈ g, t ≠ 0 ∧ t.natAbs ≤ 10 ^ 28) ∧ (up = 0 ∨ up = 1) ∧ Coil (b + 3 + 2 * m) x ∧ e = [some x, some (.lst true (IL g)), some (.int up), some (.int far), u])
    ⟨c.toNat, 0, x3, [], r1, none, rfl, by simp; omega, rfl, by simp, by omega, k3.mono (by simp; omega), rfl⟩ ?_ ?_
  · rintro e ⟨n, m, x, g, up, u, hi, h1, h2, h3, h4, h5, rfl⟩
    cases n with
    | succ n => rw [rng_cons] at hi; cases hi
    | zero =>
      simp only [hm, z_get0, z_getS, z_borV, z_stillV, z_stillsV, z_stillsN, z_shareV, z_bor_con, z_still_con, z_stills_con, z_share_con, z_bor_glo, z_still_glo, z_stills_glo, z_share_glo, z_bor_bin, z_still_bin, z_stills_bin, z_share_bin, z_bor_neg, z_still_neg, z_stills_neg, z_share_neg, z_bor_nt, z_still_nt, z_stills_nt, z_share_nt, z_bor_bo, z_still_bo, z_stills_bo, z_share_bo, z_bor_cmp, z_still_cmp, z_stills_cmp, z_share_cmp, z_bor_chn, z_still_chn, z_stills_chn, z_share_chn, z_bor_ife, z_still_ife, z_stills_ife, z_share_ife, z_bor_call, z_still_call, z_stills_call, z_share_call, z_bor_calk, z_still_calk, z_stills_calk, z_share_calk, z_bor_bi, z_still_bi, z_stills_bi, z_share_bi, z_bor_isi, z_still_isi, z_stills_isi, z_share_isi, z_bor_sub, z_still_sub, z_stills_sub, z_share_sub, z_bor_slc, z_still_slc, z_stills_slc, z_share_slc, z_bor_rpr, z_still_rpr, z_stills_rpr, z_share_rpr, z_bor_tup, z_still_tup, z_stills_tup, z_share_tup, z_bor_lst, z_still_lst, z_stills_lst, z_share_lst, z_bor_lc, z_still_lc, z_stills_lc, z_share_lc, z_bor_mov, z_still_mov, z_stills_mov, z_share_mov, z_setNm, z_setTpT, z_setTpL, z_setsN, z_setsC, z_putN, z_putC, z_var, z_mov, z_con, z_glo, z_bin, z_neg, z_nt, z_bo, z_cmp, z_chn, z_ife, z_call, z_calk, z_bi, z_isi, z_sub, z_slc, z_tup, z_lst, z_rprL, z_rprT, z_lc, z_esN, z_esC, z_bsN, z_bsC, z_aN, z_aM, z_aF, z_aE, z_oN, z_oY, z_bo1, z_bo2, zt_nt, zt_bo, zt_cmp, zt_chn, zt_isi, zt_call, zt_var, zt_bi, zt_to1, zt_to2, zt_tsN, zt_ts1, i_ex, i_r1, i_r2, i_r3, i_zip, i_enum, i_rev, c_asg, c_par, c_pst, c_pag, c_aug, c_app, c_exp, c_ite, c_for, c_ret, c_rtn, c_brk, c_cnt, c_pas, c_nev, c_nil, c_cons, b_add, b_sub, b_mul, b_fdiv, b_mod, b_pow, b_shl, b_shr, b_cat, b_rep, a_add, a_sub, a_mul, a_mod, q_eqI, q_neI, q_eqS, q_neS, q_eqB, q_neB, q_eqNil, q_neNil, q_lt, q_le, q_gt, q_ge, q_is, q_isnt, r_bl, r_int, r_lst, r_tup, s_szL, s_szT, s_subL, s_subT, s_slcL, s_slcT, s_itL, s_itT, s_liL, n_lenL, n_lenT, n_abs, n_min2, n_max2, n_int, n_intB, n_listL, n_listT, n_tupL, n_strI, n_boolI, n_allL, n_anyL, n_sumL, f_non, f_bl, f_int, f_str, f_tup, f_lst, f_nil, f_cons, g_int, g_bl, g_non, g_str, g_lstF, g_tup, g_lstT, g_nil, g_cons, o_nil, o_0, o_1, z_cast0, z_cast1, z_cast2, z_cast3, z_cast4, z_cast5, z_cast6, z_cast7, z_cast8, z_cast9, z_cast10, z_cast11, z_cast12, l_ltl0, l_ltl1, l_ltl2, l_ltl3, l_ltl4, l_ltl5, l_ltl6, l_ltl7, l_ltl8, l_ltl9, l_ltl10, l_ltl11, l_ltl12, l_line0, l_line1, l_line2, l_line3, l_line4, l_line5, l_line6, l_line7, l_line8, l_line9, l_line10, l_line11, l_line12, k_NoneType_int, k_NoneType_bool, k_NoneType_str, k_NoneType_list, k_NoneType_tuple, k_NoneType_dict, k_bool_int, k_bool_bool, k_bool_str, k_bool_list, k_bool_tuple, k_bool_dict, k_int_int, k_int_bool, k_int_str, k_int_list, k_int_tuple, k_int_dict, k_str_int, k_str_bool, k_str_str, k_str_list, k_str_tuple, k_str_dict, k_tuple_int, k_tuple_bool, k_tuple_str, k_tuple_list, k_tuple_tuple, k_tuple_dict, k_list_int, k_list_bool, k_list_str, k_list_list, k_list_tuple, k_list_dict, z_at0, z_at1, z_at2, z_at3, z_at4, z_at5, z_at6, z_at7, z_at8, z_ix1_0, z_ix2_0, z_ix2_1, z_ix3_0, z_ix3_1, z_ix3_2, z_ix4_0, z_ix4_1, z_ix4_2, z_ix4_3, z_ix5_0, z_ix5_1, z_ix5_2, z_ix5_3, z_ix5_4, z_ix6_0, z_ix6_1, z_ix6_2, z_ix6_3, z_ix6_4, z_ix6_5, z_ix7_0, z_ix7_1, z_ix7_2, z_ix7_3, z_ix7_4, z_ix7_5, z_ix7_6, z_ix8_0, z_ix8_1, z_ix8_2, z_ix8_3, z_ix8_4, z_ix8_5, z_ix8_6, z_ix8_7, Bool.not_eq_true', decide_eq_false_iff_not, ite_not, Bool.false_eq_true, Int.reduceEq, wipeE, backE, IL_fz, IL_isFz, fz_fz, fzL_fzL, List.set_cons_zero, List.set_cons_succ, List.getElem?_cons_zero, List.getElem?_cons_succ, List.length_cons, List.length_nil, and_true, true_and, Bool.and_true, Bool.true_and, Bool.not_true, Bool.not_false, Bool.not_not, if_true, if_false, ite_true, ite_false, Option.map_some, Option.some.injEq, exists_eq_left, exists_eq_left', D.int.injEq, D.lst.injEq, D.bl.injEq, D.str.injEq, D.tup.injEq, List.cons_append, List.nil_append, List.not_mem_nil, not_false_eq_true, Bool.false_eq_true, List.all_cons, List.all_nil, reduceIte, reduceCtorEq, List.isEmpty_cons, List.isEmpty_nil, eq_self, decide_true, decide_false, Bool.if_true_left, exists_eq, exists_eq', decide_eq_true_eq, Int.reduceToNat, Int.reducePow, Int.reduceNeg, Int.reduceLT, Int.reduceLE, Int.reduceSub, Int.reduceAdd, and_false, false_and, List.mem_cons, or_false, false_or, exists_and_left, Nat.zero_add, ne_eq, not_true_eq_false, Nat.reduceAdd, Nat.reduceLT, Nat.reduceEqDiff, Nat.reduceLeDiff]
      exact q _ _ ⟨by omega, fun t ht => (h3 t ht).1⟩ (fun t ht => (h3 t ht).2) (h5.mono (by omega))
  · rintro x0 xs e k bk ⟨n, m, x, g, up, u, hi, h1, h2, h3, h4, h5, rfl⟩ hk _
    cases n with
    | zero => cases hi
    | succ n =>
      rw [rng_cons] at hi
      obtain ⟨rfl, rfl⟩ := List.cons.inj hi
      simp only [f__law_rows_0_b2, f__law_rows_0_b1, hm, H1.sp, H1.io, IL_len, z_get0, z_getS, z_borV, z_stillV, z_stillsV, z_stillsN, z_shareV, z_bor_con, z_still_con, z_stills_con, z_share_con, z_bor_glo, z_still_glo, z_stills_glo, z_share_glo, z_bor_bin, z_still_bin, z_stills_bin, z_share_bin, z_bor_neg, z_still_neg, z_stills_neg, z_share_neg, z_bor_nt, z_still_nt, z_stills_nt, z_share_nt, z_bor_bo, z_still_bo, z_stills_bo, z_share_bo, z_bor_cmp, z_still_cmp, z_stills_cmp, z_share_cmp, z_bor_chn, z_still_chn, z_stills_chn, z_share_chn, z_bor_ife, z_still_ife, z_stills_ife, z_share_ife, z_bor_call, z_still_call, z_stills_call, z_share_call, z_bor_calk, z_still_calk, z_stills_calk, z_share_calk, z_bor_bi, z_still_bi, z_stills_bi, z_share_bi, z_bor_isi, z_still_isi, z_stills_isi, z_share_isi, z_bor_sub, z_still_sub, z_stills_sub, z_share_sub, z_bor_slc, z_still_slc, z_stills_slc, z_share_slc, z_bor_rpr, z_still_rpr, z_stills_rpr, z_share_rpr, z_bor_tup, z_still_tup, z_stills_tup, z_share_tup, z_bor_lst, z_still_lst, z_stills_lst, z_share_lst, z_bor_lc, z_still_lc, z_stills_lc, z_share_lc, z_bor_mov, z_still_mov, z_stills_mov, z_share_mov, z_setNm, z_setTpT, z_setTpL, z_setsN, z_setsC, z_putN, z_putC, z_var, z_mov, z_con, z_glo, z_bin, z_neg, z_nt, z_bo, z_cmp, z_chn, z_ife, z_call, z_calk, z_bi, z_isi, z_sub, z_slc, z_tup, z_lst, z_rprL, z_rprT, z_lc, z_esN, z_esC, z_bsN, z_bsC, z_aN, z_aM, z_aF, z_aE, z_oN, z_oY, z_bo1, z_bo2, zt_nt, zt_bo, zt_cmp, zt_chn, zt_isi, zt_call, zt_var, zt_bi, zt_to1, zt_to2, zt_tsN, zt_ts1, i_ex, i_r1, i_r2, i_r3, i_zip, i_enum, i_rev, c_asg, c_par, c_pst, c_pag, c_aug, c_app, c_exp, c_ite, c_for, c_ret, c_rtn, c_brk, c_cnt, c_pas, c_nev, c_nil, c_cons, b_add, b_sub, b_mul, b_fdiv, b_mod, b_pow, b_shl, b_shr, b_cat, b_rep, a_add, a_sub, a_mul, a_mod, q_eqI, q_neI, q_eqS, q_neS, q_eqB, q_neB, q_eqNil, q_neNil, q_lt, q_le, q_gt, q_ge, q_is, q_isnt, r_bl, r_int, r_lst, r_tup, s_szL, s_szT, s_subL, s_subT, s_slcL, s_slcT, s_itL, s_itT, s_liL, n_lenL, n_lenT, n_abs, n_min2, n_max2, n_int, n_intB, n_listL, n_listT, n_tupL, n_strI, n_boolI, n_allL, n_anyL, n_sumL, f_non, f_bl, f_int, f_str, f_tup, f_lst, f_nil, f_cons, g_int, g_bl, g_non, g_str, g_lstF, g_tup, g_lstT, g_nil, g_cons, o_nil, o_0, o_1, z_cast0, z_cast1, z_cast2, z_cast3, z_cast4, z_cast5, z_cast6, z_cast7, z_cast8, z_cast9, z_cast10, z_cast11, z_cast12, l_ltl0, l_ltl1, l_ltl2, l_ltl3, l_ltl4, l_ltl5, l_ltl6, l_ltl7, l_ltl8, l_ltl9, l_ltl10, l_ltl11, l_ltl12, l_line0, l_line1, l_line2, l_line3, l_line4, l_line5, l_line6, l_line7, l_line8, l_line9, l_line10, l_line11, l_line12, k_NoneType_int, k_NoneType_bool, k_NoneType_str, k_NoneType_list, k_NoneType_tuple, k_NoneType_dict, k_bool_int, k_bool_bool, k_bool_str, k_bool_list, k_bool_tuple, k_bool_dict, k_int_int, k_int_bool, k_int_str, k_int_list, k_int_tuple, k_int_dict, k_str_int, k_str_bool, k_str_str, k_str_list, k_str_tuple, k_str_dict, k_tuple_int, k_tuple_bool, k_tuple_str, k_tuple_list, k_tuple_tuple, k_tuple_dict, k_list_int, k_list_bool, k_list_str, k_list_list, k_list_tuple, k_list_dict, z_at0, z_at1, z_at2, z_at3, z_at4, z_at5, z_at6, z_at7, z_at8, z_ix1_0, z_ix2_0, z_ix2_1, z_ix3_0, z_ix3_1, z_ix3_2, z_ix4_0, z_ix4_1, z_ix4_2, z_ix4_3, z_ix5_0, z_ix5_1, z_ix5_2, z_ix5_3, z_ix5_4, z_ix6_0, z_ix6_1, z_ix6_2, z_ix6_3, z_ix6_4, z_ix6_5, z_ix7_0, z_ix7_1, z_ix7_2, z_ix7_3, z_ix7_4, z_ix7_5, z_ix7_6, z_ix8_0, z_ix8_1, z_ix8_2, z_ix8_3, z_ix8_4, z_ix8_5, z_ix8_6, z_ix8_7, Bool.not_eq_true', decide_eq_false_iff_not, ite_not, Bool.false_eq_true, Int.reduceEq, wipeE, backE, IL_fz, IL_isFz, fz_fz, fzL_fzL, List.set_cons_zero, List.set_cons_succ, List.getElem?_cons_zero, List.getElem?_cons_succ, List.length_cons, List.length_nil, and_true, true_and, Bool.and_true, Bool.true_and, Bool.not_true, Bool.not_false, Bool.not_not, if_true, if_false, ite_true, ite_false, Option.map_some, Option.some.injEq, exists_eq_left, exists_eq_left', D.int.injEq, D.lst.injEq, D.bl.injEq, D.str.injEq, D.tup.injEq, List.cons_append, List.nil_append, List.not_mem_nil, not_false_eq_true, Bool.false_eq_true, List.all_cons, List.all_nil, reduceIte, reduceCtorEq, List.isEmpty_cons, List.isEmpty_nil, eq_self, decide_true, decide_false, Bool.if_true_left, exists_eq, exists_eq', decide_eq_true_eq, Int.reduceToNat, Int.reducePow, Int.reduceNeg, Int.reduceLT, Int.reduceLE, Int.reduceSub, Int.reduceAdd, and_false, false_and, List.mem_cons, or_false, false_or, exists_and_left, Nat.zero_add, ne_eq, not_true_eq_false, Nat.reduceAdd, Nat.reduceLT, Nat.reduceEqDiff, Nat.reduceLeDiff]
      have m60 : (m : Int) < 60 := by omega
      obtain ⟨w1, he3, w, rfl, hw1, hw2⟩ := atI_in (P := fun (z : D) => ∃ v : Int, z = .int v ∧ 0 < v ∧ v ≤ 5) (xs := [D.int 2, D.int 5]) (i := (m : Int) / 30) (Int.ediv_nonneg (by omega) (by decide)) (by show (m : Int) / 30 < 2; omega) (fun z hz => by
        simp only [List.mem_cons, List.not_mem_nil, or_false] at hz
        rcases hz with rfl | rfl
        · exact ⟨_, rfl, by omega, by omega⟩
        · exact ⟨_, rfl, by omega, by omega⟩)
      refine ⟨div_by (by decide) (by decide), _, he3, _, _, _, rfl, h5, by omega, hw1, by omega, fun r4 x4 b1 b2 k4 => ⟨rfl, ?_⟩⟩
      rcases h4 with rfl | rfl
      all_goals
        simp only [hm, H1.sp, H1.io, IL_len, z_get0, z_getS, z_borV, z_stillV, z_stillsV, z_stillsN, z_shareV, z_bor_con, z_still_con, z_stills_con, z_share_con, z_bor_glo, z_still_glo, z_stills_glo, z_share_glo, z_bor_bin, z_still_bin, z_stills_bin, z_share_bin, z_bor_neg, z_still_neg, z_stills_neg, z_share_neg, z_bor_nt, z_still_nt, z_stills_nt, z_share_nt, z_bor_bo, z_still_bo, z_stills_bo, z_share_bo, z_bor_cmp, z_still_cmp, z_stills_cmp, z_share_cmp, z_bor_chn, z_still_chn, z_stills_chn, z_share_chn, z_bor_ife, z_still_ife, z_stills_ife, z_share_ife, z_bor_call, z_still_call, z_stills_call, z_share_call, z_bor_calk, z_still_calk, z_stills_calk, z_share_calk, z_bor_bi, z_still_bi, z_stills_bi, z_share_bi, z_bor_isi, z_still_isi, z_stills_isi, z_share_isi, z_bor_sub, z_still_sub, z_stills_sub, z_share_sub, z_bor_slc, z_still_slc, z_stills_slc, z_share_slc, z_bor_rpr, z_still_rpr, z_stills_rpr, z_share_rpr, z_bor_tup, z_still_tup, z_stills_tup, z_share_tup, z_bor_lst, z_still_lst, z_stills_lst, z_share_lst, z_bor_lc, z_still_lc, z_stills_lc, z_share_lc, z_bor_mov, z_still_mov, z_stills_mov, z_share_mov, z_setNm, z_setTpT, z_setTpL, z_setsN, z_setsC, z_putN, z_putC, z_var, z_mov, z_con, z_glo, z_bin, z_neg, z_nt, z_bo, z_cmp, z_chn, z_ife, z_call, z_calk, z_bi, z_isi, z_sub, z_slc, z_tup, z_lst, z_rprL, z_rprT, z_lc, z_esN, z_esC, z_bsN, z_bsC, z_aN, z_aM, z_aF, z_aE, z_oN, z_oY, z_bo1, z_bo2, zt_nt, zt_bo, zt_cmp, zt_chn, zt_isi, zt_call, zt_var, zt_bi, zt_to1, zt_to2, zt_tsN, zt_ts1, i_ex, i_r1, i_r2, i_r3, i_zip, i_enum, i_rev, c_asg, c_par, c_pst, c_pag, c_aug, c_app, c_exp, c_ite, c_for, c_ret, c_rtn, c_brk, c_cnt, c_pas, c_nev, c_nil, c_cons, b_add, b_sub, b_mul, b_fdiv, b_mod, b_pow, b_shl, b_shr, b_cat, b_rep, a_add, a_sub, a_mul, a_mod, q_eqI, q_neI, q_eqS, q_neS, q_eqB, q_neB, q_eqNil, q_neNil, q_lt, q_le, q_gt, q_ge, q_is, q_isnt, r_bl, r_int, r_lst, r_tup, s_szL, s_szT, s_subL, s_subT, s_slcL, s_slcT, s_itL, s_itT, s_liL, n_lenL, n_lenT, n_abs, n_min2, n_max2, n_int, n_intB, n_listL, n_listT, n_tupL, n_strI, n_boolI, n_allL, n_anyL, n_sumL, f_non, f_bl, f_int, f_str, f_tup, f_lst, f_nil, f_cons, g_int, g_bl, g_non, g_str, g_lstF, g_tup, g_lstT, g_nil, g_cons, o_nil, o_0, o_1, z_cast0, z_cast1, z_cast2, z_cast3, z_cast4, z_cast5, z_cast6, z_cast7, z_cast8, z_cast9, z_cast10, z_cast11, z_cast12, l_ltl0, l_ltl1, l_ltl2, l_ltl3, l_ltl4, l_ltl5, l_ltl6, l_ltl7, l_ltl8, l_ltl9, l_ltl10, l_ltl11, l_ltl12, l_line0, l_line1, l_line2, l_line3, l_line4, l_line5, l_line6, l_line7, l_line8, l_line9, l_line10, l_line11, l_line12, k_NoneType_int, k_NoneType_bool, k_NoneType_str, k_NoneType_list, k_NoneType_tuple, k_NoneType_dict, k_bool_int, k_bool_bool, k_bool_str, k_bool_list, k_bool_tuple, k_bool_dict, k_int_int, k_int_bool, k_int_str, k_int_list, k_int_tuple, k_int_dict, k_str_int, k_str_bool, k_str_str, k_str_list, k_str_tuple, k_str_dict, k_tuple_int, k_tuple_bool, k_tuple_str, k_tuple_list, k_tuple_tuple, k_tuple_dict, k_list_int, k_list_bool, k_list_str, k_list_list, k_list_tuple, k_list_dict, z_at0, z_at1, z_at2, z_at3, z_at4, z_at5, z_at6, z_at7, z_at8, z_ix1_0, z_ix2_0, z_ix2_1, z_ix3_0, z_ix3_1, z_ix3_2, z_ix4_0, z_ix4_1, z_ix4_2, z_ix4_3, z_ix5_0, z_ix5_1, z_ix5_2, z_ix5_3, z_ix5_4, z_ix6_0, z_ix6_1, z_ix6_2, z_ix6_3, z_ix6_4, z_ix6_5, z_ix7_0, z_ix7_1, z_ix7_2, z_ix7_3, z_ix7_4, z_ix7_5, z_ix7_6, z_ix8_0, z_ix8_1, z_ix8_2, z_ix8_3, z_ix8_4, z_ix8_5, z_ix8_6, z_ix8_7, Bool.not_eq_true', decide_eq_false_iff_not, ite_not, Bool.false_eq_true, Int.reduceEq, wipeE, backE, IL_fz, IL_isFz, fz_fz, fzL_fzL, List.set_cons_zero, List.set_cons_succ, List.getElem?_cons_zero, List.getElem?_cons_succ, List.length_cons, List.length_nil, and_true, true_and, Bool.and_true, Bool.true_and, Bool.not_true, Bool.not_false, Bool.not_not, if_true, if_false, ite_true, ite_false, Option.map_some, Option.some.injEq, exists_eq_left, exists_eq_left', D.int.injEq, D.lst.injEq, D.bl.injEq, D.str.injEq, D.tup.injEq, List.cons_append, List.nil_append, List.not_mem_nil, not_false_eq_true, Bool.false_eq_true, List.all_cons, List.all_nil, reduceIte, reduceCtorEq, List.isEmpty_cons, List.isEmpty_nil, eq_self, decide_true, decide_false, Bool.if_true_left, exists_eq, exists_eq', decide_eq_true_eq, Int.reduceToNat, Int.reducePow, Int.reduceNeg, Int.reduceLT, Int.reduceLE, Int.reduceSub, Int.reduceAdd, and_false, false_and, List.mem_cons, or_false, false_or, exists_and_left, Nat.zero_add, ne_eq, not_true_eq_false, Nat.reduceAdd, Nat.reduceLT, Nat.reduceEqDiff, Nat.reduceLeDiff]
        split
        all_goals
          refine ⟨_, _, _, rfl, k4, by omega, hf1, by omega, fun r5 x5 b3 b4 k5 => ⟨rfl, ?_⟩⟩
          simp only [hm, IL_len, IL_app, z_get0, z_getS, z_borV, z_stillV, z_stillsV, z_stillsN, z_shareV, z_bor_con, z_still_con, z_stills_con, z_share_con, z_bor_glo, z_still_glo, z_stills_glo, z_share_glo, z_bor_bin, z_still_bin, z_stills_bin, z_share_bin, z_bor_neg, z_still_neg, z_stills_neg, z_share_neg, z_bor_nt, z_still_nt, z_stills_nt, z_share_nt, z_bor_bo, z_still_bo, z_stills_bo, z_share_bo, z_bor_cmp, z_still_cmp, z_stills_cmp, z_share_cmp, z_bor_chn, z_still_chn, z_stills_chn, z_share_chn, z_bor_ife, z_still_ife, z_stills_ife, z_share_ife, z_bor_call, z_still_call, z_stills_call, z_share_call, z_bor_calk, z_still_calk, z_stills_calk, z_share_calk, z_bor_bi, z_still_bi, z_stills_bi, z_share_bi, z_bor_isi, z_still_isi, z_stills_isi, z_share_isi, z_bor_sub, z_still_sub, z_stills_sub, z_share_sub, z_bor_slc, z_still_slc, z_stills_slc, z_share_slc, z_bor_rpr, z_still_rpr, z_stills_rpr, z_share_rpr, z_bor_tup, z_still_tup, z_stills_tup, z_share_tup, z_bor_lst, z_still_lst, z_stills_lst, z_share_lst, z_bor_lc, z_still_lc, z_stills_lc, z_share_lc, z_bor_mov, z_still_mov, z_stills_mov, z_share_mov, z_setNm, z_setTpT, z_setTpL, z_setsN, z_setsC, z_putN, z_putC, z_var, z_mov, z_con, z_glo, z_bin, z_neg, z_nt, z_bo, z_cmp, z_chn, z_ife, z_call, z_calk, z_bi, z_isi, z_sub, z_slc, z_tup, z_lst, z_rprL, z_rprT, z_lc, z_esN, z_esC, z_bsN, z_bsC, z_aN, z_aM, z_aF, z_aE, z_oN, z_oY, z_bo1, z_bo2, zt_nt, zt_bo, zt_cmp, zt_chn, zt_isi, zt_call, zt_var, zt_bi, zt_to1, zt_to2, zt_tsN, zt_ts1, i_ex, i_r1, i_r2, i_r3, i_zip, i_enum, i_rev, c_asg, c_par, c_pst, c_pag, c_aug, c_app, c_exp, c_ite, c_for, c_ret, c_rtn, c_brk, c_cnt, c_pas, c_nev, c_nil, c_cons, b_add, b_sub, b_mul, b_fdiv, b_mod, b_pow, b_shl, b_shr, b_cat, b_rep, a_add, a_sub, a_mul, a_mod, q_eqI, q_neI, q_eqS, q_neS, q_eqB, q_neB, q_eqNil, q_neNil, q_lt, q_le, q_gt, q_ge, q_is, q_isnt, r_bl, r_int, r_lst, r_tup, s_szL, s_szT, s_subL, s_subT, s_slcL, s_slcT, s_itL, s_itT, s_liL, n_lenL, n_lenT, n_abs, n_min2, n_max2, n_int, n_intB, n_listL, n_listT, n_tupL, n_strI, n_boolI, n_allL, n_anyL, n_sumL, f_non, f_bl, f_int, f_str, f_tup, f_lst, f_nil, f_cons, g_int, g_bl, g_non, g_str, g_lstF, g_tup, g_lstT, g_nil, g_cons, o_nil, o_0, o_1, z_cast0, z_cast1, z_cast2, z_cast3, z_cast4, z_cast5, z_cast6, z_cast7, z_cast8, z_cast9, z_cast10, z_cast11, z_cast12, l_ltl0, l_ltl1, l_ltl2, l_ltl3, l_ltl4, l_ltl5, l_ltl6, l_ltl7, l_ltl8, l_ltl9, l_ltl10, l_ltl11, l_ltl12, l_line0, l_line1, l_line2, l_line3, l_line4, l_line5, l_line6, l_line7, l_line8, l_line9, l_line10, l_line11, l_line12, k_NoneType_int, k_NoneType_bool, k_NoneType_str, k_NoneType_list, k_NoneType_tuple, k_NoneType_dict, k_bool_int, k_bool_bool, k_bool_str, k_bool_list, k_bool_tuple, k_bool_dict, k_int_int, k_int_bool, k_int_str, k_int_list, k_int_tuple, k_int_dict, k_str_int, k_str_bool, k_str_str, k_str_list, k_str_tuple, k_str_dict, k_tuple_int, k_tuple_bool, k_tuple_str, k_tuple_list, k_tuple_tuple, k_tuple_dict, k_list_int, k_list_bool, k_list_str, k_list_list, k_list_tuple, k_list_dict, z_at0, z_at1, z_at2, z_at3, z_at4, z_at5, z_at6, z_at7, z_at8, z_ix1_0, z_ix2_0, z_ix2_1, z_ix3_0, z_ix3_1, z_ix3_2, z_ix4_0, z_ix4_1, z_ix4_2, z_ix4_3, z_ix5_0, z_ix5_1, z_ix5_2, z_ix5_3, z_ix5_4, z_ix6_0, z_ix6_1, z_ix6_2, z_ix6_3, z_ix6_4, z_ix6_5, z_ix7_0, z_ix7_1, z_ix7_2, z_ix7_3, z_ix7_4, z_ix7_5, z_ix7_6, z_ix8_0, z_ix8_1, z_ix8_2, z_ix8_3, z_ix8_4, z_ix8_5, z_ix8_6, z_ix8_7, Bool.not_eq_true', decide_eq_false_iff_not, ite_not, Bool.false_eq_true, Int.reduceEq, wipeE, backE, IL_fz, IL_isFz, fz_fz, fzL_fzL, List.set_cons_zero, List.set_cons_succ, List.getElem?_cons_zero, List.getElem?_cons_succ, List.length_cons, List.length_nil, and_true, true_and, Bool.and_true, Bool.true_and, Bool.not_true, Bool.not_false, Bool.not_not, if_true, if_false, ite_true, ite_false, Option.map_some, Option.some.injEq, exists_eq_left, exists_eq_left', D.int.injEq, D.lst.injEq, D.bl.injEq, D.str.injEq, D.tup.injEq, List.cons_append, List.nil_append, List.not_mem_nil, not_false_eq_true, Bool.false_eq_true, List.all_cons, List.all_nil, reduceIte, reduceCtorEq, List.isEmpty_cons, List.isEmpty_nil, eq_self, decide_true, decide_false, Bool.if_true_left, exists_eq, exists_eq', decide_eq_true_eq, Int.reduceToNat, Int.reducePow, Int.reduceNeg, Int.reduceLT, Int.reduceLE, Int.reduceSub, Int.reduceAdd, and_false, false_and, List.mem_cons, or_false, false_or, exists_and_left, Nat.zero_add, ne_eq, not_true_eq_false, Nat.reduceAdd, Nat.reduceLT, Nat.reduceEqDiff, Nat.reduceLeDiff]
          refine ⟨mul_by 100 2 (by omega) (by decide) (by decide) (by decide) (by decide), line60 (by omega), hk _ ⟨n, m + 1, _, _, _, _, by push_cast; rfl, by push_cast; omega, by rw [List.length_append, h2]; rfl, fun t ht => ?_, by decide, k5.mono (by push_cast; omega), rfl⟩⟩
          rcases List.mem_append.mp ht with ht | ht
          · exact h3 t ht
          · rw [List.mem_singleton.mp ht]
            constructor <;> omega


theorem joinJ_snoc : ∀ (ts : List Int) (g : List Int) (t : Int), joinJ g (ts ++ [t]) = putJ (joinJ g ts) t
  | [], _, _ => rfl
  | _ :: ts, g, t => joinJ_snoc ts _ t
theorem putJ_snoc (g : List Int) (x t : Int) : putJ (g ++ [x]) t = if (decide (0 < x)) = decide (0 < t) then g ++ [x + t] else g ++ [x] ++ [t] := by
  unfold putJ
  rw [List.getLast?_append]
  simp
theorem atI_mid {α : Type} {xs ys : List α} {y : α} {i : Int} (h : i = xs.length) : L2.atI (xs ++ y :: ys) i = some y := by
  subst h
  unfold L2.atI L2.ixN
  rw [if_pos (by omega), if_pos (by simp; omega)]
  simp
/-- what joined turns end with -/
theorem join_end : ∀ {n : Nat} {pre : List Int} {y : Int}, pre.length = n → ∃ g x, joinJ [] (pre ++ [y]) = g ++ [x] ∧ (decide (0 < x)) = decide (0 < y) := by
  intro n pre y hn
  rw [joinJ_snoc]
  rcases List.eq_nil_or_concat (joinJ [] pre) with e | ⟨g, x, e⟩
  · rw [e]; exact ⟨[], y, rfl, rfl⟩
  · rw [e, List.concat_eq_append, putJ_snoc]
    split
    · rename_i c
      refine ⟨g, x + y, rfl, ?_⟩
      by_cases h1 : 0 < x
      · have h2 : 0 < y := by simpa [h1] using c
        simp [h2]; omega
      · have h2 : ¬ 0 < y := by simpa [h1] using c
        simp [h2]; omega
    · exact ⟨g ++ [x], y, rfl, rfl⟩
def sp_due : FSpec := fun ds Q _ => ∃ o ts, ds = [.lst o (IL ts)] ∧ Turns ts ∧ Q (.lst true (IL (joinJ [] ts))) []
theorem joinJ_len : ∀ (ts g : List Int), (joinJ g ts).length ≤ g.length + ts.length
  | [], g => Nat.le_refl _
  | t :: ts, g => by
    have h := joinJ_len ts (putJ g t)
    have h2 : (putJ g t).length ≤ g.length + 1 := by
      rcases List.eq_nil_or_concat g with rfl | ⟨g', x, rfl⟩
      · simp [putJ]
      · rw [List.concat_eq_append, putJ_snoc]; split <;> simp
    show (joinJ (putJ g t) ts).length ≤ _
    simp only [List.length_cons]; omega
theorem w_due {Γ : Sig} (hm : Γ.me = []) (ds : List D) (Q : D → List D → Prop) (R : Exc → Prop) (h : sp_due ds Q R) : wpF Γ f__law_due_2 ds Q R := by
  obtain ⟨o, ts, rfl, ht, q⟩ := h
  simp only [wpF_eq, f__law_due_2, startE, hm, List.map_cons, List.map_nil, IL_len, z_get0, z_getS, z_borV, z_stillV, z_stillsV, z_stillsN, z_shareV, z_bor_con, z_still_con, z_stills_con, z_share_con, z_bor_glo, z_still_glo, z_stills_glo, z_share_glo, z_bor_bin, z_still_bin, z_stills_bin, z_share_bin, z_bor_neg, z_still_neg, z_stills_neg, z_share_neg, z_bor_nt, z_still_nt, z_stills_nt, z_share_nt, z_bor_bo, z_still_bo, z_stills_bo, z_share_bo, z_bor_cmp, z_still_cmp, z_stills_cmp, z_share_cmp, z_bor_chn, z_still_chn, z_stills_chn, z_share_chn, z_bor_ife, z_still_ife, z_stills_ife, z_share_ife, z_bor_call, z_still_call, z_stills_call, z_share_call, z_bor_calk, z_still_calk, z_stills_calk, z_share_calk, z_bor_bi, z_still_bi, z_stills_bi, z_share_bi, z_bor_isi, z_still_isi, z_stills_isi, z_share_isi, z_bor_sub, z_still_sub, z_stills_sub, z_share_sub, z_bor_slc, z_still_slc, z_stills_slc, z_share_slc, z_bor_rpr, z_still_rpr, z_stills_rpr, z_share_rpr, z_bor_tup, z_still_tup, z_stills_tup, z_share_tup, z_bor_lst, z_still_lst, z_stills_lst, z_share_lst, z_bor_lc, z_still_lc, z_stills_lc, z_share_lc, z_bor_mov, z_still_mov, z_stills_mov, z_share_mov, z_setNm, z_setTpT, z_setTpL, z_setsN, z_setsC, z_putN, z_putC, z_var, z_mov, z_con, z_glo, z_bin, z_neg, z_nt, z_bo, z_cmp, z_chn, z_ife, z_call, z_calk, z_bi, z_isi, z_sub, z_slc, z_tup, z_lst, z_rprL, z_rprT, z_lc, z_esN, z_esC, z_bsN, z_bsC, z_aN, z_aM, z_aF, z_aE, z_oN, z_oY, z_bo1, z_bo2, zt_nt, zt_bo, zt_cmp, zt_chn, zt_isi, zt_call, zt_var, zt_bi, zt_to1, zt_to2, zt_tsN, zt_ts1, i_ex, i_r1, i_r2, i_r3, i_zip, i_enum, i_rev, c_asg, c_par, c_pst, c_pag, c_aug, c_app, c_exp, c_ite, c_for, c_ret, c_rtn, c_brk, c_cnt, c_pas, c_nev, c_nil, c_cons, b_add, b_sub, b_mul, b_fdiv, b_mod, b_pow, b_shl, b_shr, b_cat, b_rep, a_add, a_sub, a_mul, a_mod, q_eqI, q_neI, q_eqS, q_neS, q_eqB, q_neB, q_eqNil, q_neNil, q_lt, q_le, q_gt, q_ge, q_is, q_isnt, r_bl, r_int, r_lst, r_tup, s_szL, s_szT, s_subL, s_subT, s_slcL, s_slcT, s_itL, s_itT, s_liL, n_lenL, n_lenT, n_abs, n_min2, n_max2, n_int, n_intB, n_listL, n_listT, n_tupL, n_strI, n_boolI, n_allL, n_anyL, n_sumL, f_non, f_bl, f_int, f_str, f_tup, f_lst, f_nil, f_cons, g_int, g_bl, g_non, g_str, g_lstF, g_tup, g_lstT, g_nil, g_cons, o_nil, o_0, o_1, z_cast0, z_cast1, z_cast2, z_cast3, z_cast4, z_cast5, z_cast6, z_cast7, z_cast8, z_cast9, z_cast10, z_cast11, z_cast12, l_ltl0, l_ltl1, l_ltl2, l_ltl3, l_ltl4, l_ltl5, l_ltl6, l_ltl7, l_ltl8, l_ltl9, l_ltl10, l_ltl11, l_ltl12, l_line0, l_line1, l_line2, l_line3, l_line4, l_line5, l_line6, l_line7, l_line8, l_line9, l_line10, l_line11, l_line12, k_NoneType_int, k_NoneType_bool, k_NoneType_str, k_NoneType_list, k_NoneType_tuple, k_NoneType_dict, k_bool_int, k_bool_bool, k_bool_str, k_bool_list, k_bool_tuple, k_bool_dict, k_int_int, k_int_bool, k_int_str, k_int_list, k_int_tuple, k_int_dict, k_str_int, k_str_bool, k_str_str, k_str_list, k_str_tuple, k_str_dict, k_tuple_int, k_tuple_bool, k_tuple_str, k_tuple_list, k_tuple_tuple, k_tuple_dict, k_list_int, k_list_bool, k_list_str, k_list_list, k_list_tuple, k_list_dict, z_at0, z_at1, z_at2, z_at3, z_at4, z_at5, z_at6, z_at7, z_at8, z_ix1_0, z_ix2_0, z_ix2_1, z_ix3_0, z_ix3_1, z_ix3_2, z_ix4_0, z_ix4_1, z_ix4_2, z_ix4_3, z_ix5_0, z_ix5_1, z_ix5_2, z_ix5_3, z_ix5_4, z_ix6_0, z_ix6_1, z_ix6_2, z_ix6_3, z_ix6_4, z_ix6_5, z_ix7_0, z_ix7_1, z_ix7_2, z_ix7_3, z_ix7_4, z_ix7_5, z_ix7_6, z_ix8_0, z_ix8_1, z_ix8_2, z_ix8_3, z_ix8_4, z_ix8_5, z_ix8_6, z_ix8_7, Bool.not_eq_true', decide_eq_false_iff_not, ite_not, Bool.false_eq_true, Int.reduceEq, wipeE, backE, IL_fz, IL_isFz, fz_fz, fzL_fzL, List.set_cons_zero, List.set_cons_succ, List.getElem?_cons_zero, List.getElem?_cons_succ, List.length_cons, List.length_nil, and_true, true_and, Bool.and_true, Bool.true_and, Bool.not_true, Bool.not_false, Bool.not_not, if_true, if_false, ite_true, ite_false, Option.map_some, Option.some.injEq, exists_eq_left, exists_eq_left', D.int.injEq, D.lst.injEq, D.bl.injEq, D.str.injEq, D.tup.injEq, List.cons_append, List.nil_append, List.not_mem_nil, not_false_eq_true, Bool.false_eq_true, List.all_cons, List.all_nil, reduceIte, reduceCtorEq, List.isEmpty_cons, List.isEmpty_nil, eq_self, decide_true, decide_false, Bool.if_true_left, exists_eq, exists_eq', decide_eq_true_eq, Int.reduceToNat, Int.reducePow, Int.reduceNeg, Int.reduceLT, Int.reduceLE, Int.reduceSub, Int.reduceAdd, and_false, false_and, List.mem_cons, or_false, false_or, exists_and_left, Nat.zero_add, ne_eq, not_true_eq_false, Nat.reduceAdd, Nat.reduceLT, Nat.reduceEqDiff, Nat.reduceLeDiff]
  rw [show (List.map (fun p => D.tup [D.int (p.2 : Nat), p.1]) (IL ts).zipIdx) = _ from enum_IL ts 0]
  refine forDK (fun items e => ∃ (pre l : List Int) (a b : Option D), items = (l.zipIdx pre.length).map (fun p => D.tup [.int (p.2 : Nat), .int p.1]) ∧ pre ++ l = ts ∧ e = [some (.lst false (IL ts)), some (.lst true (IL (joinJ [] pre))), a, b]) ⟨[], ts, none, none, rfl, rfl, rfl⟩ ?_ ?_
  · rintro e ⟨pre, l, a, b, hi, h1, rfl⟩
    cases l with
    | cons _ _ => simp [List.zipIdx_cons] at hi
    | nil =>
      rw [List.append_nil] at h1
      rw [h1]
      exact q
  · rintro x xs e k bk ⟨pre, l, a, b, hi, h1, rfl⟩ hk _
    cases l with
    | nil => simp at hi
    | cons t l =>
      rw [List.zipIdx_cons, List.map_cons] at hi
      obtain ⟨rfl, rfl⟩ := List.cons.inj hi
      have hlen : pre.length + 1 ≤ 60 := by have := congrArg List.length h1; have := ht.1; simp at *; omega
      have jl := joinJ_len pre []
      simp only [List.length_nil] at jl
      have next : k [some (.lst false (IL ts)), some (.lst true (IL (putJ (joinJ [] pre) t))), some (.int (pre.length : Nat)), some (.int t)] :=
        hk _ ⟨pre ++ [t], l, _, _, by rw [List.length_append]; rfl, by rw [← h1, List.append_assoc]; rfl, by rw [joinJ_snoc]⟩
      rcases List.eq_nil_or_concat pre with rfl | ⟨pre', y, rfl⟩
      · simp only [f__law_due_2_b2, f__law_due_2_b1, hm, IL_len, joinJ, z_get0, z_getS, z_borV, z_stillV, z_stillsV, z_stillsN, z_shareV, z_bor_con, z_still_con, z_stills_con, z_share_con, z_bor_glo, z_still_glo, z_stills_glo, z_share_glo, z_bor_bin, z_still_bin, z_stills_bin, z_share_bin, z_bor_neg, z_still_neg, z_stills_neg, z_share_neg, z_bor_nt, z_still_nt, z_stills_nt, z_share_nt, z_bor_bo, z_still_bo, z_stills_bo, z_share_bo, z_bor_cmp, z_still_cmp, z_stills_cmp, z_share_cmp, z_bor_chn, z_still_chn, z_stills_chn, z_share_chn, z_bor_ife, z_still_ife, z_stills_ife, z_share_ife, z_bor_call, z_still_call, z_stills_call, z_share_call, z_bor_calk, z_still_calk, z_stills_calk, z_share_calk, z_bor_bi, z_still_bi, z_stills_bi, z_share_bi, z_bor_isi, z_still_isi, z_stills_isi, z_share_isi, z_bor_sub, z_still_sub, z_stills_sub, z_share_sub, z_bor_slc, z_still_slc, z_stills_slc, z_share_slc, z_bor_rpr, z_still_rpr, z_stills_rpr, z_share_rpr, z_bor_tup, z_still_tup, z_stills_tup, z_share_tup, z_bor_lst, z_still_lst, z_stills_lst, z_share_lst, z_bor_lc, z_still_lc, z_stills_lc, z_share_lc, z_bor_mov, z_still_mov, z_stills_mov, z_share_mov, z_setNm, z_setTpT, z_setTpL, z_setsN, z_setsC, z_putN, z_putC, z_var, z_mov, z_con, z_glo, z_bin, z_neg, z_nt, z_bo, z_cmp, z_chn, z_ife, z_call, z_calk, z_bi, z_isi, z_sub, z_slc, z_tup, z_lst, z_rprL, z_rprT, z_lc, z_esN, z_esC, z_bsN, z_bsC, z_aN, z_aM, z_aF, z_aE, z_oN, z_oY, z_bo1, z_bo2, zt_nt, zt_bo, zt_cmp, zt_chn, zt_isi, zt_call, zt_var, zt_bi, zt_to1, zt_to2, zt_tsN, zt_ts1, i_ex, i_r1, i_r2, i_r3, i_zip, i_enum, i_rev, c_asg, c_par, c_pst, c_pag, c_aug, c_app, c_exp, c_ite, c_for, c_ret, c_rtn, c_brk, c_cnt, c_pas, c_nev, c_nil, c_cons, b_add, b_sub, b_mul, b_fdiv, b_mod, b_pow, b_shl, b_shr, b_cat, b_rep, a_add, a_sub, a_mul, a_mod, q_eqI, q_neI, q_eqS, q_neS, q_eqB, q_neB, q_eqNil, q_neNil, q_lt, q_le, q_gt, q_ge, q_is, q_isnt, r_bl, r_int, r_lst, r_tup, s_szL, s_szT, s_subL, s_subT, s_slcL, s_slcT, s_itL, s_itT, s_liL, n_lenL, n_lenT, n_abs, n_min2, n_max2, n_int, n_intB, n_listL, n_listT, n_tupL, n_strI, n_boolI, n_allL, n_anyL, n_sumL, f_non, f_bl, f_int, f_str, f_tup, f_lst, f_nil, f_cons, g_int, g_bl, g_non, g_str, g_lstF, g_tup, g_lstT, g_nil, g_cons, o_nil, o_0, o_1, z_cast0, z_cast1, z_cast2, z_cast3, z_cast4, z_cast5, z_cast6, z_cast7, z_cast8, z_cast9, z_cast10, z_cast11, z_cast12, l_ltl0, l_ltl1, l_ltl2, l_ltl3, l_ltl4, l_ltl5, l_ltl6, l_ltl7, l_ltl8, l_ltl9, l_ltl10, l_ltl11, l_ltl12, l_line0, l_line1, l_line2, l_line3, l_line4, l_line5, l_line6, l_line7, l_line8, l_line9, l_line10, l_line11, l_line12, k_NoneType_int, k_NoneType_bool, k_NoneType_str, k_NoneType_list, k_NoneType_tuple, k_NoneType_dict, k_bool_int, k_bool_bool, k_bool_str, k_bool_list, k_bool_tuple, k_bool_dict, k_int_int, k_int_bool, k_int_str, k_int_list, k_int_tuple, k_int_dict, k_str_int, k_str_bool, k_str_str, k_str_list, k_str_tuple, k_str_dict, k_tuple_int, k_tuple_bool, k_tuple_str, k_tuple_list, k_tuple_tuple, k_tuple_dict, k_list_int, k_list_bool, k_list_str, k_list_list, k_list_tuple, k_list_dict, z_at0, z_at1, z_at2, z_at3, z_at4, z_at5, z_at6, z_at7, z_at8, z_ix1_0, z_ix2_0, z_ix2_1, z_ix3_0, z_ix3_1, z_ix3_2, z_ix4_0, z_ix4_1, z_ix4_2, z_ix4_3, z_ix5_0, z_ix5_1, z_ix5_2, z_ix5_3, z_ix5_4, z_ix6_0, z_ix6_1, z_ix6_2, z_ix6_3, z_ix6_4, z_ix6_5, z_ix7_0, z_ix7_1, z_ix7_2, z_ix7_3, z_ix7_4, z_ix7_5, z_ix7_6, z_ix8_0, z_ix8_1, z_ix8_2, z_ix8_3, z_ix8_4, z_ix8_5, z_ix8_6, z_ix8_7, Bool.not_eq_true', decide_eq_false_iff_not, ite_not, Bool.false_eq_true, Int.reduceEq, wipeE, backE, IL_fz, IL_isFz, fz_fz, fzL_fzL, List.set_cons_zero, List.set_cons_succ, List.getElem?_cons_zero, List.getElem?_cons_succ, List.length_cons, List.length_nil, and_true, true_and, Bool.and_true, Bool.true_and, Bool.not_true, Bool.not_false, Bool.not_not, if_true, if_false, ite_true, ite_false, Option.map_some, Option.some.injEq, exists_eq_left, exists_eq_left', D.int.injEq, D.lst.injEq, D.bl.injEq, D.str.injEq, D.tup.injEq, List.cons_append, List.nil_append, List.not_mem_nil, not_false_eq_true, Bool.false_eq_true, List.all_cons, List.all_nil, reduceIte, reduceCtorEq, List.isEmpty_cons, List.isEmpty_nil, eq_self, decide_true, decide_false, Bool.if_true_left, exists_eq, exists_eq', decide_eq_true_eq, Int.reduceToNat, Int.reducePow, Int.reduceNeg, Int.reduceLT, Int.reduceLE, Int.reduceSub, Int.reduceAdd, and_false, false_and, List.mem_cons, or_false, false_or, exists_and_left, Nat.zero_add, ne_eq, not_true_eq_false, Nat.reduceAdd, Nat.reduceLT, Nat.reduceEqDiff, Nat.reduceLeDiff]
        simp only [at_last, ix_last, set_last, List.length_append, List.length_cons, List.length_nil, hm, z_get0, z_getS, z_borV, z_stillV, z_stillsV, z_stillsN, z_shareV, z_bor_con, z_still_con, z_stills_con, z_share_con, z_bor_glo, z_still_glo, z_stills_glo, z_share_glo, z_bor_bin, z_still_bin, z_stills_bin, z_share_bin, z_bor_neg, z_still_neg, z_stills_neg, z_share_neg, z_bor_nt, z_still_nt, z_stills_nt, z_share_nt, z_bor_bo, z_still_bo, z_stills_bo, z_share_bo, z_bor_cmp, z_still_cmp, z_stills_cmp, z_share_cmp, z_bor_chn, z_still_chn, z_stills_chn, z_share_chn, z_bor_ife, z_still_ife, z_stills_ife, z_share_ife, z_bor_call, z_still_call, z_stills_call, z_share_call, z_bor_calk, z_still_calk, z_stills_calk, z_share_calk, z_bor_bi, z_still_bi, z_stills_bi, z_share_bi, z_bor_isi, z_still_isi, z_stills_isi, z_share_isi, z_bor_sub, z_still_sub, z_stills_sub, z_share_sub, z_bor_slc, z_still_slc, z_stills_slc, z_share_slc, z_bor_rpr, z_still_rpr, z_stills_rpr, z_share_rpr, z_bor_tup, z_still_tup, z_stills_tup, z_share_tup, z_bor_lst, z_still_lst, z_stills_lst, z_share_lst, z_bor_lc, z_still_lc, z_stills_lc, z_share_lc, z_bor_mov, z_still_mov, z_stills_mov, z_share_mov, z_setNm, z_setTpT, z_setTpL, z_setsN, z_setsC, z_putN, z_putC, z_var, z_mov, z_con, z_glo, z_bin, z_neg, z_nt, z_bo, z_cmp, z_chn, z_ife, z_call, z_calk, z_bi, z_isi, z_sub, z_slc, z_tup, z_lst, z_rprL, z_rprT, z_lc, z_esN, z_esC, z_bsN, z_bsC, z_aN, z_aM, z_aF, z_aE, z_oN, z_oY, z_bo1, z_bo2, zt_nt, zt_bo, zt_cmp, zt_chn, zt_isi, zt_call, zt_var, zt_bi, zt_to1, zt_to2, zt_tsN, zt_ts1, i_ex, i_r1, i_r2, i_r3, i_zip, i_enum, i_rev, c_asg, c_par, c_pst, c_pag, c_aug, c_app, c_exp, c_ite, c_for, c_ret, c_rtn, c_brk, c_cnt, c_pas, c_nev, c_nil, c_cons, b_add, b_sub, b_mul, b_fdiv, b_mod, b_pow, b_shl, b_shr, b_cat, b_rep, a_add, a_sub, a_mul, a_mod, q_eqI, q_neI, q_eqS, q_neS, q_eqB, q_neB, q_eqNil, q_neNil, q_lt, q_le, q_gt, q_ge, q_is, q_isnt, r_bl, r_int, r_lst, r_tup, s_szL, s_szT, s_subL, s_subT, s_slcL, s_slcT, s_itL, s_itT, s_liL, n_lenL, n_lenT, n_abs, n_min2, n_max2, n_int, n_intB, n_listL, n_listT, n_tupL, n_strI, n_boolI, n_allL, n_anyL, n_sumL, f_non, f_bl, f_int, f_str, f_tup, f_lst, f_nil, f_cons, g_int, g_bl, g_non, g_str, g_lstF, g_tup, g_lstT, g_nil, g_cons, o_nil, o_0, o_1, z_cast0, z_cast1, z_cast2, z_cast3, z_cast4, z_cast5, z_cast6, z_cast7, z_cast8, z_cast9, z_cast10, z_cast11, z_cast12, l_ltl0, l_ltl1, l_ltl2, l_ltl3, l_ltl4, l_ltl5, l_ltl6, l_ltl7, l_ltl8, l_ltl9, l_ltl10, l_ltl11, l_ltl12, l_line0, l_line1, l_line2, l_line3, l_line4, l_line5, l_line6, l_line7, l_line8, l_line9, l_line10, l_line11, l_line12, k_NoneType_int, k_NoneType_bool, k_NoneType_str, k_NoneType_list, k_NoneType_tuple, k_NoneType_dict, k_bool_int, k_bool_bool, k_bool_str, k_bool_list, k_bool_tuple, k_bool_dict, k_int_int, k_int_bool, k_int_str, k_int_list, k_int_tuple, k_int_dict, k_str_int, k_str_bool, k_str_str, k_str_list, k_str_tuple, k_str_dict, k_tuple_int, k_tuple_bool, k_tuple_str, k_tuple_list, k_tuple_tuple, k_tuple_dict, k_list_int, k_list_bool, k_list_str, k_list_list, k_list_tuple, k_list_dict, z_at0, z_at1, z_at2, z_at3, z_at4, z_at5, z_at6, z_at7, z_at8, z_ix1_0, z_ix2_0, z_ix2_1, z_ix3_0, z_ix3_1, z_ix3_2, z_ix4_0, z_ix4_1, z_ix4_2, z_ix4_3, z_ix5_0, z_ix5_1, z_ix5_2, z_ix5_3, z_ix5_4, z_ix6_0, z_ix6_1, z_ix6_2, z_ix6_3, z_ix6_4, z_ix6_5, z_ix7_0, z_ix7_1, z_ix7_2, z_ix7_3, z_ix7_4, z_ix7_5, z_ix7_6, z_ix8_0, z_ix8_1, z_ix8_2, z_ix8_3, z_ix8_4, z_ix8_5, z_ix8_6, z_ix8_7, Bool.not_eq_true', decide_eq_false_iff_not, ite_not, Bool.false_eq_true, Int.reduceEq, wipeE, backE, IL_fz, IL_isFz, fz_fz, fzL_fzL, List.set_cons_zero, List.set_cons_succ, List.getElem?_cons_zero, List.getElem?_cons_succ, List.length_cons, List.length_nil, and_true, true_and, Bool.and_true, Bool.true_and, Bool.not_true, Bool.not_false, Bool.not_not, if_true, if_false, ite_true, ite_false, Option.map_some, Option.some.injEq, exists_eq_left, exists_eq_left', D.int.injEq, D.lst.injEq, D.bl.injEq, D.str.injEq, D.tup.injEq, List.cons_append, List.nil_append, List.not_mem_nil, not_false_eq_true, Bool.false_eq_true, List.all_cons, List.all_nil, reduceIte, reduceCtorEq, List.isEmpty_cons, List.isEmpty_nil, eq_self, decide_true, decide_false, Bool.if_true_left, exists_eq, exists_eq', decide_eq_true_eq, Int.reduceToNat, Int.reducePow, Int.reduceNeg, Int.reduceLT, Int.reduceLE, Int.reduceSub, Int.reduceAdd, and_false, false_and, List.mem_cons, or_false, false_or, exists_and_left, Nat.zero_add, ne_eq, not_true_eq_false, Nat.reduceAdd, Nat.reduceLT, Nat.reduceEqDiff, Nat.reduceLeDiff]
        have e : (IL [] ++ [D.int (0 + t)]) = IL (putJ (joinJ [] []) t) := by rw [Int.zero_add]; rfl
        rw [e]
        exact next
      · rw [List.concat_eq_append] at *
        obtain ⟨g, x, eg, es⟩ := join_end (pre := pre') (y := y) rfl
        rw [eg] at next jl ⊢
        have e1 : L2.atI (IL ts) (((pre' ++ [y]).length : Int) - 1) = some (.int y) := by
          rw [← h1]
          unfold IL
          rw [List.append_assoc, List.map_append]
          refine atI_mid ?_
          simp
        have e2 : ¬ (((pre' ++ [y]).length : Int) = 0) := by simp; omega
        simp only [f__law_due_2_b2, f__law_due_2_b1, hm, e1, e2, z_get0, z_getS, z_borV, z_stillV, z_stillsV, z_stillsN, z_shareV, z_bor_con, z_still_con, z_stills_con, z_share_con, z_bor_glo, z_still_glo, z_stills_glo, z_share_glo, z_bor_bin, z_still_bin, z_stills_bin, z_share_bin, z_bor_neg, z_still_neg, z_stills_neg, z_share_neg, z_bor_nt, z_still_nt, z_stills_nt, z_share_nt, z_bor_bo, z_still_bo, z_stills_bo, z_share_bo, z_bor_cmp, z_still_cmp, z_stills_cmp, z_share_cmp, z_bor_chn, z_still_chn, z_stills_chn, z_share_chn, z_bor_ife, z_still_ife, z_stills_ife, z_share_ife, z_bor_call, z_still_call, z_stills_call, z_share_call, z_bor_calk, z_still_calk, z_stills_calk, z_share_calk, z_bor_bi, z_still_bi, z_stills_bi, z_share_bi, z_bor_isi, z_still_isi, z_stills_isi, z_share_isi, z_bor_sub, z_still_sub, z_stills_sub, z_share_sub, z_bor_slc, z_still_slc, z_stills_slc, z_share_slc, z_bor_rpr, z_still_rpr, z_stills_rpr, z_share_rpr, z_bor_tup, z_still_tup, z_stills_tup, z_share_tup, z_bor_lst, z_still_lst, z_stills_lst, z_share_lst, z_bor_lc, z_still_lc, z_stills_lc, z_share_lc, z_bor_mov, z_still_mov, z_stills_mov, z_share_mov, z_setNm, z_setTpT, z_setTpL, z_setsN, z_setsC, z_putN, z_putC, z_var, z_mov, z_con, z_glo, z_bin, z_neg, z_nt, z_bo, z_cmp, z_chn, z_ife, z_call, z_calk, z_bi, z_isi, z_sub, z_slc, z_tup, z_lst, z_rprL, z_rprT, z_lc, z_esN, z_esC, z_bsN, z_bsC, z_aN, z_aM, z_aF, z_aE, z_oN, z_oY, z_bo1, z_bo2, zt_nt, zt_bo, zt_cmp, zt_chn, zt_isi, zt_call, zt_var, zt_bi, zt_to1, zt_to2, zt_tsN, zt_ts1, i_ex, i_r1, i_r2, i_r3, i_zip, i_enum, i_rev, c_asg, c_par, c_pst, c_pag, c_aug, c_app, c_exp, c_ite, c_for, c_ret, c_rtn, c_brk, c_cnt, c_pas, c_nev, c_nil, c_cons, b_add, b_sub, b_mul, b_fdiv, b_mod, b_pow, b_shl, b_shr, b_cat, b_rep, a_add, a_sub, a_mul, a_mod, q_eqI, q_neI, q_eqS, q_neS, q_eqB, q_neB, q_eqNil, q_neNil, q_lt, q_le, q_gt, q_ge, q_is, q_isnt, r_bl, r_int, r_lst, r_tup, s_szL, s_szT, s_subL, s_subT, s_slcL, s_slcT, s_itL, s_itT, s_liL, n_lenL, n_lenT, n_abs, n_min2, n_max2, n_int, n_intB, n_listL, n_listT, n_tupL, n_strI, n_boolI, n_allL, n_anyL, n_sumL, f_non, f_bl, f_int, f_str, f_tup, f_lst, f_nil, f_cons, g_int, g_bl, g_non, g_str, g_lstF, g_tup, g_lstT, g_nil, g_cons, o_nil, o_0, o_1, z_cast0, z_cast1, z_cast2, z_cast3, z_cast4, z_cast5, z_cast6, z_cast7, z_cast8, z_cast9, z_cast10, z_cast11, z_cast12, l_ltl0, l_ltl1, l_ltl2, l_ltl3, l_ltl4, l_ltl5, l_ltl6, l_ltl7, l_ltl8, l_ltl9, l_ltl10, l_ltl11, l_ltl12, l_line0, l_line1, l_line2, l_line3, l_line4, l_line5, l_line6, l_line7, l_line8, l_line9, l_line10, l_line11, l_line12, k_NoneType_int, k_NoneType_bool, k_NoneType_str, k_NoneType_list, k_NoneType_tuple, k_NoneType_dict, k_bool_int, k_bool_bool, k_bool_str, k_bool_list, k_bool_tuple, k_bool_dict, k_int_int, k_int_bool, k_int_str, k_int_list, k_int_tuple, k_int_dict, k_str_int, k_str_bool, k_str_str, k_str_list, k_str_tuple, k_str_dict, k_tuple_int, k_tuple_bool, k_tuple_str, k_tuple_list, k_tuple_tuple, k_tuple_dict, k_list_int, k_list_bool, k_list_str, k_list_list, k_list_tuple, k_list_dict, z_at0, z_at1, z_at2, z_at3, z_at4, z_at5, z_at6, z_at7, z_at8, z_ix1_0, z_ix2_0, z_ix2_1, z_ix3_0, z_ix3_1, z_ix3_2, z_ix4_0, z_ix4_1, z_ix4_2, z_ix4_3, z_ix5_0, z_ix5_1, z_ix5_2, z_ix5_3, z_ix5_4, z_ix6_0, z_ix6_1, z_ix6_2, z_ix6_3, z_ix6_4, z_ix6_5, z_ix7_0, z_ix7_1, z_ix7_2, z_ix7_3, z_ix7_4, z_ix7_5, z_ix7_6, z_ix8_0, z_ix8_1, z_ix8_2, z_ix8_3, z_ix8_4, z_ix8_5, z_ix8_6, z_ix8_7, Bool.not_eq_true', decide_eq_false_iff_not, ite_not, Bool.false_eq_true, Int.reduceEq, wipeE, backE, IL_fz, IL_isFz, fz_fz, fzL_fzL, List.set_cons_zero, List.set_cons_succ, List.getElem?_cons_zero, List.getElem?_cons_succ, List.length_cons, List.length_nil, and_true, true_and, Bool.and_true, Bool.true_and, Bool.not_true, Bool.not_false, Bool.not_not, if_true, if_false, ite_true, ite_false, Option.map_some, Option.some.injEq, exists_eq_left, exists_eq_left', D.int.injEq, D.lst.injEq, D.bl.injEq, D.str.injEq, D.tup.injEq, List.cons_append, List.nil_append, List.not_mem_nil, not_false_eq_true, Bool.false_eq_true, List.all_cons, List.all_nil, reduceIte, reduceCtorEq, List.isEmpty_cons, List.isEmpty_nil, eq_self, decide_true, decide_false, Bool.if_true_left, exists_eq, exists_eq', decide_eq_true_eq, Int.reduceToNat, Int.reducePow, Int.reduceNeg, Int.reduceLT, Int.reduceLE, Int.reduceSub, Int.reduceAdd, and_false, false_and, List.mem_cons, or_false, false_or, exists_and_left, Nat.zero_add, ne_eq, not_true_eq_false, Nat.reduceAdd, Nat.reduceLT, Nat.reduceEqDiff, Nat.reduceLeDiff]
        rw [putJ_snoc] at next
        split
        · rename_i c
          simp only [IL_snoc, at_last, ix_last, set_last, List.length_append, List.length_cons, List.length_nil, hm, z_get0, z_getS, z_borV, z_stillV, z_stillsV, z_stillsN, z_shareV, z_bor_con, z_still_con, z_stills_con, z_share_con, z_bor_glo, z_still_glo, z_stills_glo, z_share_glo, z_bor_bin, z_still_bin, z_stills_bin, z_share_bin, z_bor_neg, z_still_neg, z_stills_neg, z_share_neg, z_bor_nt, z_still_nt, z_stills_nt, z_share_nt, z_bor_bo, z_still_bo, z_stills_bo, z_share_bo, z_bor_cmp, z_still_cmp, z_stills_cmp, z_share_cmp, z_bor_chn, z_still_chn, z_stills_chn, z_share_chn, z_bor_ife, z_still_ife, z_stills_ife, z_share_ife, z_bor_call, z_still_call, z_stills_call, z_share_call, z_bor_calk, z_still_calk, z_stills_calk, z_share_calk, z_bor_bi, z_still_bi, z_stills_bi, z_share_bi, z_bor_isi, z_still_isi, z_stills_isi, z_share_isi, z_bor_sub, z_still_sub, z_stills_sub, z_share_sub, z_bor_slc, z_still_slc, z_stills_slc, z_share_slc, z_bor_rpr, z_still_rpr, z_stills_rpr, z_share_rpr, z_bor_tup, z_still_tup, z_stills_tup, z_share_tup, z_bor_lst, z_still_lst, z_stills_lst, z_share_lst, z_bor_lc, z_still_lc, z_stills_lc, z_share_lc, z_bor_mov, z_still_mov, z_stills_mov, z_share_mov, z_setNm, z_setTpT, z_setTpL, z_setsN, z_setsC, z_putN, z_putC, z_var, z_mov, z_con, z_glo, z_bin, z_neg, z_nt, z_bo, z_cmp, z_chn, z_ife, z_call, z_calk, z_bi, z_isi, z_sub, z_slc, z_tup, z_lst, z_rprL, z_rprT, z_lc, z_esN, z_esC, z_bsN, z_bsC, z_aN, z_aM, z_aF, z_aE, z_oN, z_oY, z_bo1, z_bo2, zt_nt, zt_bo, zt_cmp, zt_chn, zt_isi, zt_call, zt_var, zt_bi, zt_to1, zt_to2, zt_tsN, zt_ts1, i_ex, i_r1, i_r2, i_r3, i_zip, i_enum, i_rev, c_asg, c_par, c_pst, c_pag, c_aug, c_app, c_exp, c_ite, c_for, c_ret, c_rtn, c_brk, c_cnt, c_pas, c_nev, c_nil, c_cons, b_add, b_sub, b_mul, b_fdiv, b_mod, b_pow, b_shl, b_shr, b_cat, b_rep, a_add, a_sub, a_mul, a_mod, q_eqI, q_neI, q_eqS, q_neS, q_eqB, q_neB, q_eqNil, q_neNil, q_lt, q_le, q_gt, q_ge, q_is, q_isnt, r_bl, r_int, r_lst, r_tup, s_szL, s_szT, s_subL, s_subT, s_slcL, s_slcT, s_itL, s_itT, s_liL, n_lenL, n_lenT, n_abs, n_min2, n_max2, n_int, n_intB, n_listL, n_listT, n_tupL, n_strI, n_boolI, n_allL, n_anyL, n_sumL, f_non, f_bl, f_int, f_str, f_tup, f_lst, f_nil, f_cons, g_int, g_bl, g_non, g_str, g_lstF, g_tup, g_lstT, g_nil, g_cons, o_nil, o_0, o_1, z_cast0, z_cast1, z_cast2, z_cast3, z_cast4, z_cast5, z_cast6, z_cast7, z_cast8, z_cast9, z_cast10, z_cast11, z_cast12, l_ltl0, l_ltl1, l_ltl2, l_ltl3, l_ltl4, l_ltl5, l_ltl6, l_ltl7, l_ltl8, l_ltl9, l_ltl10, l_ltl11, l_ltl12, l_line0, l_line1, l_line2, l_line3, l_line4, l_line5, l_line6, l_line7, l_line8, l_line9, l_line10, l_line11, l_line12, k_NoneType_int, k_NoneType_bool, k_NoneType_str, k_NoneType_list, k_NoneType_tuple, k_NoneType_dict, k_bool_int, k_bool_bool, k_bool_str, k_bool_list, k_bool_tuple, k_bool_dict, k_int_int, k_int_bool, k_int_str, k_int_list, k_int_tuple, k_int_dict, k_str_int, k_str_bool, k_str_str, k_str_list, k_str_tuple, k_str_dict, k_tuple_int, k_tuple_bool, k_tuple_str, k_tuple_list, k_tuple_tuple, k_tuple_dict, k_list_int, k_list_bool, k_list_str, k_list_list, k_list_tuple, k_list_dict, z_at0, z_at1, z_at2, z_at3, z_at4, z_at5, z_at6, z_at7, z_at8, z_ix1_0, z_ix2_0, z_ix2_1, z_ix3_0, z_ix3_1, z_ix3_2, z_ix4_0, z_ix4_1, z_ix4_2, z_ix4_3, z_ix5_0, z_ix5_1, z_ix5_2, z_ix5_3, z_ix5_4, z_ix6_0, z_ix6_1, z_ix6_2, z_ix6_3, z_ix6_4, z_ix6_5, z_ix7_0, z_ix7_1, z_ix7_2, z_ix7_3, z_ix7_4, z_ix7_5, z_ix7_6, z_ix8_0, z_ix8_1, z_ix8_2, z_ix8_3, z_ix8_4, z_ix8_5, z_ix8_6, z_ix8_7, Bool.not_eq_true', decide_eq_false_iff_not, ite_not, Bool.false_eq_true, Int.reduceEq, wipeE, backE, IL_fz, IL_isFz, fz_fz, fzL_fzL, List.set_cons_zero, List.set_cons_succ, List.getElem?_cons_zero, List.getElem?_cons_succ, List.length_cons, List.length_nil, and_true, true_and, Bool.and_true, Bool.true_and, Bool.not_true, Bool.not_false, Bool.not_not, if_true, if_false, ite_true, ite_false, Option.map_some, Option.some.injEq, exists_eq_left, exists_eq_left', D.int.injEq, D.lst.injEq, D.bl.injEq, D.str.injEq, D.tup.injEq, List.cons_append, List.nil_append, List.not_mem_nil, not_false_eq_true, Bool.false_eq_true, List.all_cons, List.all_nil, reduceIte, reduceCtorEq, List.isEmpty_cons, List.isEmpty_nil, eq_self, decide_true, decide_false, Bool.if_true_left, exists_eq, exists_eq', decide_eq_true_eq, Int.reduceToNat, Int.reducePow, Int.reduceNeg, Int.reduceLT, Int.reduceLE, Int.reduceSub, Int.reduceAdd, and_false, false_and, List.mem_cons, or_false, false_or, exists_and_left, Nat.zero_add, ne_eq, not_true_eq_false, Nat.reduceAdd, Nat.reduceLT, Nat.reduceEqDiff, Nat.reduceLeDiff]
          rw [if_pos (by rw [es, c]), IL_snoc] at next
          simp only [List.length_append, List.length_cons, List.length_nil] at next
          exact next
        · rename_i c
          simp only [IL_snoc, at_last, ix_last, set_last, List.length_append, List.length_cons, List.length_nil, hm, z_get0, z_getS, z_borV, z_stillV, z_stillsV, z_stillsN, z_shareV, z_bor_con, z_still_con, z_stills_con, z_share_con, z_bor_glo, z_still_glo, z_stills_glo, z_share_glo, z_bor_bin, z_still_bin, z_stills_bin, z_share_bin, z_bor_neg, z_still_neg, z_stills_neg, z_share_neg, z_bor_nt, z_still_nt, z_stills_nt, z_share_nt, z_bor_bo, z_still_bo, z_stills_bo, z_share_bo, z_bor_cmp, z_still_cmp, z_stills_cmp, z_share_cmp, z_bor_chn, z_still_chn, z_stills_chn, z_share_chn, z_bor_ife, z_still_ife, z_stills_ife, z_share_ife, z_bor_call, z_still_call, z_stills_call, z_share_call, z_bor_calk, z_still_calk, z_stills_calk, z_share_calk, z_bor_bi, z_still_bi, z_stills_bi, z_share_bi, z_bor_isi, z_still_isi, z_stills_isi, z_share_isi, z_bor_sub, z_still_sub, z_stills_sub, z_share_sub, z_bor_slc, z_still_slc, z_stills_slc, z_share_slc, z_bor_rpr, z_still_rpr, z_stills_rpr, z_share_rpr, z_bor_tup, z_still_tup, z_stills_tup, z_share_tup, z_bor_lst, z_still_lst, z_stills_lst, z_share_lst, z_bor_lc, z_still_lc, z_stills_lc, z_share_lc, z_bor_mov, z_still_mov, z_stills_mov, z_share_mov, z_setNm, z_setTpT, z_setTpL, z_setsN, z_setsC, z_putN, z_putC, z_var, z_mov, z_con, z_glo, z_bin, z_neg, z_nt, z_bo, z_cmp, z_chn, z_ife, z_call, z_calk, z_bi, z_isi, z_sub, z_slc, z_tup, z_lst, z_rprL, z_rprT, z_lc, z_esN, z_esC, z_bsN, z_bsC, z_aN, z_aM, z_aF, z_aE, z_oN, z_oY, z_bo1, z_bo2, zt_nt, zt_bo, zt_cmp, zt_chn, zt_isi, zt_call, zt_var, zt_bi, zt_to1, zt_to2, zt_tsN, zt_ts1, i_ex, i_r1, i_r2, i_r3, i_zip, i_enum, i_rev, c_asg, c_par, c_pst, c_pag, c_aug, c_app, c_exp, c_ite, c_for, c_ret, c_rtn, c_brk, c_cnt, c_pas, c_nev, c_nil, c_cons, b_add, b_sub, b_mul, b_fdiv, b_mod, b_pow, b_shl, b_shr, b_cat, b_rep, a_add, a_sub, a_mul, a_mod, q_eqI, q_neI, q_eqS, q_neS, q_eqB, q_neB, q_eqNil, q_neNil, q_lt, q_le, q_gt, q_ge, q_is, q_isnt, r_bl, r_int, r_lst, r_tup, s_szL, s_szT, s_subL, s_subT, s_slcL, s_slcT, s_itL, s_itT, s_liL, n_lenL, n_lenT, n_abs, n_min2, n_max2, n_int, n_intB, n_listL, n_listT, n_tupL, n_strI, n_boolI, n_allL, n_anyL, n_sumL, f_non, f_bl, f_int, f_str, f_tup, f_lst, f_nil, f_cons, g_int, g_bl, g_non, g_str, g_lstF, g_tup, g_lstT, g_nil, g_cons, o_nil, o_0, o_1, z_cast0, z_cast1, z_cast2, z_cast3, z_cast4, z_cast5, z_cast6, z_cast7, z_cast8, z_cast9, z_cast10, z_cast11, z_cast12, l_ltl0, l_ltl1, l_ltl2, l_ltl3, l_ltl4, l_ltl5, l_ltl6, l_ltl7, l_ltl8, l_ltl9, l_ltl10, l_ltl11, l_ltl12, l_line0, l_line1, l_line2, l_line3, l_line4, l_line5, l_line6, l_line7, l_line8, l_line9, l_line10, l_line11, l_line12, k_NoneType_int, k_NoneType_bool, k_NoneType_str, k_NoneType_list, k_NoneType_tuple, k_NoneType_dict, k_bool_int, k_bool_bool, k_bool_str, k_bool_list, k_bool_tuple, k_bool_dict, k_int_int, k_int_bool, k_int_str, k_int_list, k_int_tuple, k_int_dict, k_str_int, k_str_bool, k_str_str, k_str_list, k_str_tuple, k_str_dict, k_tuple_int, k_tuple_bool, k_tuple_str, k_tuple_list, k_tuple_tuple, k_tuple_dict, k_list_int, k_list_bool, k_list_str, k_list_list, k_list_tuple, k_list_dict, z_at0, z_at1, z_at2, z_at3, z_at4, z_at5, z_at6, z_at7, z_at8, z_ix1_0, z_ix2_0, z_ix2_1, z_ix3_0, z_ix3_1, z_ix3_2, z_ix4_0, z_ix4_1, z_ix4_2, z_ix4_3, z_ix5_0, z_ix5_1, z_ix5_2, z_ix5_3, z_ix5_4, z_ix6_0, z_ix6_1, z_ix6_2, z_ix6_3, z_ix6_4, z_ix6_5, z_ix7_0, z_ix7_1, z_ix7_2, z_ix7_3, z_ix7_4, z_ix7_5, z_ix7_6, z_ix8_0, z_ix8_1, z_ix8_2, z_ix8_3, z_ix8_4, z_ix8_5, z_ix8_6, z_ix8_7, Bool.not_eq_true', decide_eq_false_iff_not, ite_not, Bool.false_eq_true, Int.reduceEq, wipeE, backE, IL_fz, IL_isFz, fz_fz, fzL_fzL, List.set_cons_zero, List.set_cons_succ, List.getElem?_cons_zero, List.getElem?_cons_succ, List.length_cons, List.length_nil, and_true, true_and, Bool.and_true, Bool.true_and, Bool.not_true, Bool.not_false, Bool.not_not, if_true, if_false, ite_true, ite_false, Option.map_some, Option.some.injEq, exists_eq_left, exists_eq_left', D.int.injEq, D.lst.injEq, D.bl.injEq, D.str.injEq, D.tup.injEq, List.cons_append, List.nil_append, List.not_mem_nil, not_false_eq_true, Bool.false_eq_true, List.all_cons, List.all_nil, reduceIte, reduceCtorEq, List.isEmpty_cons, List.isEmpty_nil, eq_self, decide_true, decide_false, Bool.if_true_left, exists_eq, exists_eq', decide_eq_true_eq, Int.reduceToNat, Int.reducePow, Int.reduceNeg, Int.reduceLT, Int.reduceLE, Int.reduceSub, Int.reduceAdd, and_false, false_and, List.mem_cons, or_false, false_or, exists_and_left, Nat.zero_add, ne_eq, not_true_eq_false, Nat.reduceAdd, Nat.reduceLT, Nat.reduceEqDiff, Nat.reduceLeDiff]
          rw [if_neg (by rw [es]; exact fun z => c z.symm), IL_snoc, IL_snoc] at next
          simp only [List.length_append, List.length_cons, List.length_nil] at next jl hlen
          rw [IL_len, Int.zero_add]
          have sl : ((IL g ++ [D.int x] ++ [D.int 0]).set (g.length + 1) (D.int t)) = IL g ++ [D.int x] ++ [D.int t] := by
            have := set_last (xs := IL g ++ [D.int x]) (x := D.int 0) (y := D.int t)
            rwa [List.length_append, IL_len] at this
          rw [sl]
          simp only [Nat.zero_add] at next
          exact ⟨line60 (by omega), next⟩
/-- joined turns lead to the same place -/
theorem held_twice {p d a b r : Int} (hr : 0 ≤ r) (h1 : d - r ≤ p) (h2 : p ≤ d) (hs : (decide (0 < a)) = decide (0 < b)) : heldP (heldP p (d + a) r) (d + a + b) r = heldP p (d + (a + b)) r := by
  unfold heldP
  by_cases h : 0 < a
  · have h' : 0 < b := by simpa [h] using hs
    omega
  · have h' : ¬ 0 < b := by simpa [h] using hs
    omega
/-- the places stand between the dial and their reach -/
def Within (d : Int) : List Int → List Int → Prop
  | p :: ps, r :: rs => 0 ≤ r ∧ d - r ≤ p ∧ p ≤ d ∧ Within d ps rs
  | _, _ => True
theorem within_held {d : Int} : ∀ {ps rs : List Int} {e : Int}, Within e ps rs → Within d (heldL d ps rs) rs
  | p :: ps, r :: rs, e, h => by
    obtain ⟨h1, h2, h3, h4⟩ := h
    exact ⟨h1, by unfold heldP; omega, by unfold heldP; omega, within_held h4⟩
  | [], _, _, _ => by simp [heldL, Within]
  | _ :: _, [], _, _ => by simp [heldL, Within]
theorem heldL_twice {d a b : Int} (hs : (decide (0 < a)) = decide (0 < b)) : ∀ {ps rs : List Int}, Within d ps rs → heldL (d + a + b) (heldL (d + a) ps rs) rs = heldL (d + (a + b)) ps rs
  | p :: ps, r :: rs, h => by
    obtain ⟨h1, h2, h3, h4⟩ := h
    simp only [heldL, held_twice h1 h2 h3 hs, heldL_twice hs h4]
  | [], _, _ => by simp [heldL]
  | _ :: _, [], _ => by simp [heldL]
theorem walkL_app (rs : List Int) : ∀ (ts us ps : List Int) (d : Int), walkL rs (ts ++ us) ps d = walkL rs us (walkL rs ts ps d) (d + ts.sum)
  | [], us, ps, d => by simp [walkL]
  | t :: ts, us, ps, d => by simp only [List.cons_append, walkL, walkL_app rs ts, List.sum_cons]; congr 1 <;> omega
theorem within_walk {rs : List Int} : ∀ {ts ps : List Int} {d : Int}, Within d ps rs → Within (d + ts.sum) (walkL rs ts ps d) rs
  | [], ps, d, h => by simpa [walkL] using h
  | t :: ts, ps, d, h => by
    have := within_walk (ts := ts) (within_held (d := d + t) h)
    simp only [walkL, List.sum_cons]
    rw [show d + (t + ts.sum) = d + t + ts.sum by omega]
    exact this
theorem walk_put {rs ps : List Int} {d : Int} (g : List Int) (t : Int) (h : Within d ps rs) : walkL rs (putJ g t) ps d = walkL rs (g ++ [t]) ps d ∧ (putJ g t).sum = (g ++ [t]).sum := by
  rcases List.eq_nil_or_concat g with rfl | ⟨g', x, rfl⟩
  · exact ⟨rfl, rfl⟩
  · rw [List.concat_eq_append, putJ_snoc]
    split
    · rename_i c
      refine ⟨?_, by simp [Int.add_assoc]⟩
      rw [walkL_app, walkL_app, walkL_app]
      have w := within_walk (ts := g') h
      simp only [walkL, List.sum_append, List.sum_cons, List.sum_nil, Int.add_zero]
      have := heldL_twice (d := d + g'.sum) c w
      rw [← this]
      congr 1
      omega
    · exact ⟨rfl, rfl⟩
theorem walk_join {rs ps : List Int} {d : Int} (h : Within d ps rs) : ∀ (ts g : List Int), walkL rs (joinJ g ts) ps d = walkL rs (g ++ ts) ps d ∧ (joinJ g ts).sum = (g ++ ts).sum
  | [], g => by simp [joinJ]
  | t :: ts, g => by
    obtain ⟨h1, h2⟩ := walk_join h ts (putJ g t)
    obtain ⟨h3, h4⟩ := walk_put g t h
    refine ⟨?_, ?_⟩
    · show walkL rs (joinJ (putJ g t) ts) ps d = _
      rw [h1, walkL_app, h3, h4, ← walkL_app, List.append_assoc]; rfl
    · show (joinJ (putJ g t) ts).sum = _
      rw [h2, List.sum_append, h4, ← List.sum_append, List.append_assoc]; rfl
/-- a state's places are within the reaches -/
theorem chain_within : ∀ {qs ps : List Int} {d e a : Int}, Chain e qs ps → e ≤ d → d - a ≤ e → 0 ≤ a → (∀ q ∈ qs, 0 ≤ q) → Within d ps (sumsS a qs)
  | [], [], _, _, _, _, _, _, _, _ => trivial
  | q :: qs, p :: ps, d, e, a, h, h1, h2, h3, hq => by
    have hq0 := hq q List.mem_cons_self
    exact ⟨by omega, by have := h.1; have := h.2.1; omega, by have := h.1; omega, chain_within h.2.2 (by have := h.1; omega) (by have := h.1; have := h.2.1; omega) (by omega) fun z hz => hq z (List.mem_cons_of_mem _ hz)⟩
  | [], _ :: _, _, _, _, h, _, _, _, _ => h.elim
  | _ :: _, [], _, _, _, h, _, _, _, _ => h.elim
theorem join_turns {ts : List Int} (h : Turns ts) : Turns (joinJ [] ts) := by
  have l := joinJ_len ts []
  refine ⟨by have := h.1; simp at l; omega, ?_⟩
  have gen : ∀ (ts g : List Int), (∀ t ∈ ts, t ≠ 0) → (∀ t ∈ g, t ≠ 0) → ∀ t ∈ joinJ g ts, t ≠ 0 := by
    intro ts
    induction ts with
    | nil => intro g _ hg; exact hg
    | cons t ts ih =>
      intro g ht hg
      refine ih _ (fun z hz => ht z (List.mem_cons_of_mem _ hz)) ?_
      have t0 := ht t List.mem_cons_self
      rcases List.eq_nil_or_concat g with rfl | ⟨g', x, rfl⟩
      · intro z hz
        rw [show putJ [] t = [t] from rfl, List.mem_singleton] at hz
        rw [hz]; exact t0
      · rw [List.concat_eq_append] at hg ⊢
        rw [putJ_snoc]
        have x0 := hg x (by simp)
        split
        · rename_i c
          intro z hz
          rcases List.mem_append.mp hz with hz | hz
          · exact hg z (by simp [hz])
          · rw [List.mem_singleton.mp hz]
            by_cases h1 : 0 < x
            · have h2 : 0 < t := by simpa [h1] using c
              omega
            · have h2 : ¬ 0 < t := by simpa [h1] using c
              omega
        · intro z hz
          rcases List.mem_append.mp hz with hz | hz
          · exact hg z hz
          · rw [List.mem_singleton.mp hz]; exact t0
  exact gen ts [] h.2 (by simp)
theorem wayT_app (a b : List Int) : wayT (a ++ b) = wayT a + wayT b := by unfold wayT; rw [List.map_append, List.sum_append]
theorem wayT_put (g : List Int) (t : Int) : wayT (putJ g t) = wayT (g ++ [t]) := by
  rcases List.eq_nil_or_concat g with rfl | ⟨g', x, rfl⟩
  · rfl
  · rw [List.concat_eq_append, putJ_snoc]
    split
    · rename_i c
      rw [wayT_app, wayT_app, wayT_app]
      unfold wayT
      simp only [List.map_cons, List.map_nil, List.sum_cons, List.sum_nil]
      by_cases h1 : 0 < x
      · have h2 : 0 < t := by simpa [h1] using c
        rw [if_neg (by omega), if_neg (by omega), if_neg (by omega)]; omega
      · have h2 : ¬ 0 < t := by simpa [h1] using c
        split <;> split <;> split <;> omega
    · rfl
theorem wayT_join : ∀ (ts g : List Int), wayT (joinJ g ts) = wayT (g ++ ts)
  | [], g => by simp [joinJ]
  | t :: ts, g => by
    show wayT (joinJ (putJ g t) ts) = _
    rw [wayT_join ts, wayT_app, wayT_put, ← wayT_app, List.append_assoc]; rfl
theorem joinJ_join (ts : List Int) : joinJ [] (joinJ [] ts) = joinJ [] ts := by
  have gen : ∀ n (ts : List Int), ts.length = n → joinJ [] (joinJ [] ts) = joinJ [] ts := by
    intro n
    induction n with
    | zero => intro ts h; have : ts = [] := by simpa using h
              subst this; rfl
    | succ n ih =>
      intro ts h
      rcases List.eq_nil_or_concat ts with rfl | ⟨ts', t, rfl⟩
      · simp at h
      · rw [List.concat_eq_append] at *
        have ih' := ih ts' (by simp at h; omega)
        rw [joinJ_snoc]
        rcases List.eq_nil_or_concat ts' with rfl | ⟨pre, y, rfl⟩
        · rfl
        · rw [List.concat_eq_append] at *
          obtain ⟨g, x, eg, es⟩ := join_end (pre := pre) (y := y) rfl
          rw [eg, putJ_snoc]
          rw [eg, joinJ_snoc] at ih'
          split
          · rename_i c
            rw [joinJ_snoc]
            rcases List.eq_nil_or_concat (joinJ [] g) with e | ⟨g2, x2, e⟩
            · rw [e] at ih' ⊢
              have : g = [] := by
                have := congrArg List.length ih'
                simp [putJ] at this
                exact this
              subst this; rfl
            · rw [e, List.concat_eq_append] at ih' ⊢
              rw [putJ_snoc] at ih' ⊢
              split at ih'
              · rename_i c2
                exfalso
                have l1 := congrArg List.length ih'
                have l2 := joinJ_len g []
                rw [e] at l2
                simp at l1 l2
                omega
              · rename_i c2
                have e3 : g2 ++ [x2] = g := (List.append_inj' ih' rfl).1
                rw [if_neg, e3]
                by_cases h1 : 0 < x
                · have h2 : 0 < t := by simpa [h1] using c
                  intro z; apply c2; rw [z]; simp [h1]; omega
                · have h2 : ¬ 0 < t := by simpa [h1] using c
                  intro z; apply c2; rw [z]; simp [h1]; omega
          · rename_i c
            rw [joinJ_snoc, joinJ_snoc, ih', putJ_snoc, if_neg c]
  exact gen _ ts rfl
theorem IL_small {xs : List Int} (h : ∀ x ∈ xs, x.natAbs < 2 ^ 1000) : smallL (IL xs) := by
  induction xs with
  | nil => exact trivial
  | cons x xs ih => exact ⟨h x List.mem_cons_self, ih fun z hz => h z (List.mem_cons_of_mem _ hz)⟩
theorem IL_sz (xs : List Int) : szL (IL xs) = xs.length := by
  induction xs with
  | nil => rfl
  | cons x xs ih =>
    show szN (.int x) + szL (IL xs) = xs.length + 1
    rw [ih, show szN (.int x) = 1 from rfl]; omega
theorem join_abs : ∀ (ts g : List Int), ((joinJ g ts).map Int.natAbs).sum ≤ (g.map Int.natAbs).sum + (ts.map Int.natAbs).sum
  | [], g => by simp [joinJ]
  | t :: ts, g => by
    have ih := join_abs ts (putJ g t)
    have h : ((putJ g t).map Int.natAbs).sum ≤ (g.map Int.natAbs).sum + t.natAbs := by
      rcases List.eq_nil_or_concat g with rfl | ⟨g', x, rfl⟩
      · simp [putJ]
      · rw [List.concat_eq_append, putJ_snoc]
        split <;> simp <;> omega
    show ((joinJ (putJ g t) ts).map Int.natAbs).sum ≤ _
    simp only [List.map_cons, List.sum_cons]
    omega
theorem mem_abs {t : Int} : ∀ {ts : List Int}, t ∈ ts → t.natAbs ≤ (ts.map Int.natAbs).sum
  | u :: ts, h => by
    simp only [List.map_cons, List.sum_cons]
    rcases List.mem_cons.mp h with rfl | h
    · omega
    · have := mem_abs h; omega
theorem way_abs : ∀ (ts : List Int), (wayT ts).natAbs = (ts.map Int.natAbs).sum
  | [] => rfl
  | t :: ts => by
    have ih := way_abs ts
    have h0 : 0 ≤ wayT ts := by
      clear ih
      induction ts with
      | nil => exact Int.le_refl 0
      | cons u us ih =>
        show 0 ≤ (if u < 0 then -u else u) + wayT us
        split <;> omega
    rw [List.map_cons, List.sum_cons, ← ih]
    show ((if t < 0 then -t else t) + wayT ts).natAbs = _
    split <;> omega
theorem big60 {n : Nat} (h : n ≤ 60 * 10 ^ 29) : n < 2 ^ 1000 := Nat.lt_of_le_of_lt h (by decide +kernel)
theorem cmp_rsame {x y : Str} {Q : Bool → Prop} (h : x = y) (q : Q false) : cmpD .ne (.str x) (.str y) Q := by
  show Q (!decide (x = y))
  rw [decide_eq_true h]; exact q
def sp_right7 : FSpec := fun ds Q _ => ∃ r qs d ps o ts, ds = [LockD r qs, StateD d ps, .lst o (IL ts)] ∧ LockOk r qs ∧ Chain d qs ps ∧ Turns ts ∧ (∀ t ∈ ts, t.natAbs ≤ 10 ^ 28) ∧ Q (.bl true) []
theorem w_right7 {Γ : Sig} (hm : Γ.me = []) (H1 : Has Γ "_law_due" [] sp_due) (H2 : Has Γ "joined_turns" [] sp_joined_turns) (H3 : Has Γ "way_of" [] sp_way_of) (H4 : Has Γ "turned_state" [] sp_turned_state) (hp : Γ.ps "joined_turns" = ["turns"]) (hp2 : Γ.ps "way_of" = ["turns"]) (ds : List D) (Q : D → List D → Prop) (R : Exc → Prop) (h : sp_right7 ds Q R) : wpF Γ f__law_right_3 ds Q R := by
  obtain ⟨r, qs, d, ps, o, ts, rfl, hlk, hch, ht, hb, q⟩ := h
  simp only [wpF_eq, LockD, StateD, f__law_right_3, startE, hm, H1.sp, H1.io, H2.sp, H2.io, H3.sp, H3.io, H4.sp, H4.io, hp, hp2, List.map_cons, List.map_nil, IL_len, z_get0, z_getS, z_borV, z_stillV, z_stillsV, z_stillsN, z_shareV, z_bor_con, z_still_con, z_stills_con, z_share_con, z_bor_glo, z_still_glo, z_stills_glo, z_share_glo, z_bor_bin, z_still_bin, z_stills_bin, z_share_bin, z_bor_neg, z_still_neg, z_stills_neg, z_share_neg, z_bor_nt, z_still_nt, z_stills_nt, z_share_nt, z_bor_bo, z_still_bo, z_stills_bo, z_share_bo, z_bor_cmp, z_still_cmp, z_stills_cmp, z_share_cmp, z_bor_chn, z_still_chn, z_stills_chn, z_share_chn, z_bor_ife, z_still_ife, z_stills_ife, z_share_ife, z_bor_call, z_still_call, z_stills_call, z_share_call, z_bor_calk, z_still_calk, z_stills_calk, z_share_calk, z_bor_bi, z_still_bi, z_stills_bi, z_share_bi, z_bor_isi, z_still_isi, z_stills_isi, z_share_isi, z_bor_sub, z_still_sub, z_stills_sub, z_share_sub, z_bor_slc, z_still_slc, z_stills_slc, z_share_slc, z_bor_rpr, z_still_rpr, z_stills_rpr, z_share_rpr, z_bor_tup, z_still_tup, z_stills_tup, z_share_tup, z_bor_lst, z_still_lst, z_stills_lst, z_share_lst, z_bor_lc, z_still_lc, z_stills_lc, z_share_lc, z_bor_mov, z_still_mov, z_stills_mov, z_share_mov, z_setNm, z_setTpT, z_setTpL, z_setsN, z_setsC, z_putN, z_putC, z_var, z_mov, z_con, z_glo, z_bin, z_neg, z_nt, z_bo, z_cmp, z_chn, z_ife, z_call, z_calk, z_bi, z_isi, z_sub, z_slc, z_tup, z_lst, z_rprL, z_rprT, z_lc, z_esN, z_esC, z_bsN, z_bsC, z_aN, z_aM, z_aF, z_aE, z_oN, z_oY, z_bo1, z_bo2, zt_nt, zt_bo, zt_cmp, zt_chn, zt_isi, zt_call, zt_var, zt_bi, zt_to1, zt_to2, zt_tsN, zt_ts1, i_ex, i_r1, i_r2, i_r3, i_zip, i_enum, i_rev, c_asg, c_par, c_pst, c_pag, c_aug, c_app, c_exp, c_ite, c_for, c_ret, c_rtn, c_brk, c_cnt, c_pas, c_nev, c_nil, c_cons, b_add, b_sub, b_mul, b_fdiv, b_mod, b_pow, b_shl, b_shr, b_cat, b_rep, a_add, a_sub, a_mul, a_mod, q_eqI, q_neI, q_eqS, q_neS, q_eqB, q_neB, q_eqNil, q_neNil, q_lt, q_le, q_gt, q_ge, q_is, q_isnt, r_bl, r_int, r_lst, r_tup, s_szL, s_szT, s_subL, s_subT, s_slcL, s_slcT, s_itL, s_itT, s_liL, n_lenL, n_lenT, n_abs, n_min2, n_max2, n_int, n_intB, n_listL, n_listT, n_tupL, n_strI, n_boolI, n_allL, n_anyL, n_sumL, f_non, f_bl, f_int, f_str, f_tup, f_lst, f_nil, f_cons, g_int, g_bl, g_non, g_str, g_lstF, g_tup, g_lstT, g_nil, g_cons, o_nil, o_0, o_1, z_cast0, z_cast1, z_cast2, z_cast3, z_cast4, z_cast5, z_cast6, z_cast7, z_cast8, z_cast9, z_cast10, z_cast11, z_cast12, l_ltl0, l_ltl1, l_ltl2, l_ltl3, l_ltl4, l_ltl5, l_ltl6, l_ltl7, l_ltl8, l_ltl9, l_ltl10, l_ltl11, l_ltl12, l_line0, l_line1, l_line2, l_line3, l_line4, l_line5, l_line6, l_line7, l_line8, l_line9, l_line10, l_line11, l_line12, k_NoneType_int, k_NoneType_bool, k_NoneType_str, k_NoneType_list, k_NoneType_tuple, k_NoneType_dict, k_bool_int, k_bool_bool, k_bool_str, k_bool_list, k_bool_tuple, k_bool_dict, k_int_int, k_int_bool, k_int_str, k_int_list, k_int_tuple, k_int_dict, k_str_int, k_str_bool, k_str_str, k_str_list, k_str_tuple, k_str_dict, k_tuple_int, k_tuple_bool, k_tuple_str, k_tuple_list, k_tuple_tuple, k_tuple_dict, k_list_int, k_list_bool, k_list_str, k_list_list, k_list_tuple, k_list_dict, z_at0, z_at1, z_at2, z_at3, z_at4, z_at5, z_at6, z_at7, z_at8, z_ix1_0, z_ix2_0, z_ix2_1, z_ix3_0, z_ix3_1, z_ix3_2, z_ix4_0, z_ix4_1, z_ix4_2, z_ix4_3, z_ix5_0, z_ix5_1, z_ix5_2, z_ix5_3, z_ix5_4, z_ix6_0, z_ix6_1, z_ix6_2, z_ix6_3, z_ix6_4, z_ix6_5, z_ix7_0, z_ix7_1, z_ix7_2, z_ix7_3, z_ix7_4, z_ix7_5, z_ix7_6, z_ix8_0, z_ix8_1, z_ix8_2, z_ix8_3, z_ix8_4, z_ix8_5, z_ix8_6, z_ix8_7, Bool.not_eq_true', decide_eq_false_iff_not, ite_not, Bool.false_eq_true, Int.reduceEq, wipeE, backE, IL_fz, IL_isFz, fz_fz, fzL_fzL, List.set_cons_zero, List.set_cons_succ, List.getElem?_cons_zero, List.getElem?_cons_succ, List.length_cons, List.length_nil, and_true, true_and, Bool.and_true, Bool.true_and, Bool.not_true, Bool.not_false, Bool.not_not, if_true, if_false, ite_true, ite_false, Option.map_some, Option.some.injEq, exists_eq_left, exists_eq_left', D.int.injEq, D.lst.injEq, D.bl.injEq, D.str.injEq, D.tup.injEq, List.cons_append, List.nil_append, List.not_mem_nil, not_false_eq_true, Bool.false_eq_true, List.all_cons, List.all_nil, reduceIte, reduceCtorEq, List.isEmpty_cons, List.isEmpty_nil, eq_self, decide_true, decide_false, Bool.if_true_left, exists_eq, exists_eq', decide_eq_true_eq, Int.reduceToNat, Int.reducePow, Int.reduceNeg, Int.reduceLT, Int.reduceLE, Int.reduceSub, Int.reduceAdd, and_false, false_and, List.mem_cons, or_false, false_or, exists_and_left, Nat.zero_add, ne_eq, not_true_eq_false, Nat.reduceAdd, Nat.reduceLT, Nat.reduceEqDiff, Nat.reduceLeDiff]
  refine ⟨_, ts, rfl, ht, rfl, ?_⟩
  (try simp only [hm, H1.sp, H1.io, H2.sp, H2.io, H3.sp, H3.io, H4.sp, H4.io, hp, hp2, IL_len, z_get0, z_getS, z_borV, z_stillV, z_stillsV, z_stillsN, z_shareV, z_bor_con, z_still_con, z_stills_con, z_share_con, z_bor_glo, z_still_glo, z_stills_glo, z_share_glo, z_bor_bin, z_still_bin, z_stills_bin, z_share_bin, z_bor_neg, z_still_neg, z_stills_neg, z_share_neg, z_bor_nt, z_still_nt, z_stills_nt, z_share_nt, z_bor_bo, z_still_bo, z_stills_bo, z_share_bo, z_bor_cmp, z_still_cmp, z_stills_cmp, z_share_cmp, z_bor_chn, z_still_chn, z_stills_chn, z_share_chn, z_bor_ife, z_still_ife, z_stills_ife, z_share_ife, z_bor_call, z_still_call, z_stills_call, z_share_call, z_bor_calk, z_still_calk, z_stills_calk, z_share_calk, z_bor_bi, z_still_bi, z_stills_bi, z_share_bi, z_bor_isi, z_still_isi, z_stills_isi, z_share_isi, z_bor_sub, z_still_sub, z_stills_sub, z_share_sub, z_bor_slc, z_still_slc, z_stills_slc, z_share_slc, z_bor_rpr, z_still_rpr, z_stills_rpr, z_share_rpr, z_bor_tup, z_still_tup, z_stills_tup, z_share_tup, z_bor_lst, z_still_lst, z_stills_lst, z_share_lst, z_bor_lc, z_still_lc, z_stills_lc, z_share_lc, z_bor_mov, z_still_mov, z_stills_mov, z_share_mov, z_setNm, z_setTpT, z_setTpL, z_setsN, z_setsC, z_putN, z_putC, z_var, z_mov, z_con, z_glo, z_bin, z_neg, z_nt, z_bo, z_cmp, z_chn, z_ife, z_call, z_calk, z_bi, z_isi, z_sub, z_slc, z_tup, z_lst, z_rprL, z_rprT, z_lc, z_esN, z_esC, z_bsN, z_bsC, z_aN, z_aM, z_aF, z_aE, z_oN, z_oY, z_bo1, z_bo2, zt_nt, zt_bo, zt_cmp, zt_chn, zt_isi, zt_call, zt_var, zt_bi, zt_to1, zt_to2, zt_tsN, zt_ts1, i_ex, i_r1, i_r2, i_r3, i_zip, i_enum, i_rev, c_asg, c_par, c_pst, c_pag, c_aug, c_app, c_exp, c_ite, c_for, c_ret, c_rtn, c_brk, c_cnt, c_pas, c_nev, c_nil, c_cons, b_add, b_sub, b_mul, b_fdiv, b_mod, b_pow, b_shl, b_shr, b_cat, b_rep, a_add, a_sub, a_mul, a_mod, q_eqI, q_neI, q_eqS, q_neS, q_eqB, q_neB, q_eqNil, q_neNil, q_lt, q_le, q_gt, q_ge, q_is, q_isnt, r_bl, r_int, r_lst, r_tup, s_szL, s_szT, s_subL, s_subT, s_slcL, s_slcT, s_itL, s_itT, s_liL, n_lenL, n_lenT, n_abs, n_min2, n_max2, n_int, n_intB, n_listL, n_listT, n_tupL, n_strI, n_boolI, n_allL, n_anyL, n_sumL, f_non, f_bl, f_int, f_str, f_tup, f_lst, f_nil, f_cons, g_int, g_bl, g_non, g_str, g_lstF, g_tup, g_lstT, g_nil, g_cons, o_nil, o_0, o_1, z_cast0, z_cast1, z_cast2, z_cast3, z_cast4, z_cast5, z_cast6, z_cast7, z_cast8, z_cast9, z_cast10, z_cast11, z_cast12, l_ltl0, l_ltl1, l_ltl2, l_ltl3, l_ltl4, l_ltl5, l_ltl6, l_ltl7, l_ltl8, l_ltl9, l_ltl10, l_ltl11, l_ltl12, l_line0, l_line1, l_line2, l_line3, l_line4, l_line5, l_line6, l_line7, l_line8, l_line9, l_line10, l_line11, l_line12, k_NoneType_int, k_NoneType_bool, k_NoneType_str, k_NoneType_list, k_NoneType_tuple, k_NoneType_dict, k_bool_int, k_bool_bool, k_bool_str, k_bool_list, k_bool_tuple, k_bool_dict, k_int_int, k_int_bool, k_int_str, k_int_list, k_int_tuple, k_int_dict, k_str_int, k_str_bool, k_str_str, k_str_list, k_str_tuple, k_str_dict, k_tuple_int, k_tuple_bool, k_tuple_str, k_tuple_list, k_tuple_tuple, k_tuple_dict, k_list_int, k_list_bool, k_list_str, k_list_list, k_list_tuple, k_list_dict, z_at0, z_at1, z_at2, z_at3, z_at4, z_at5, z_at6, z_at7, z_at8, z_ix1_0, z_ix2_0, z_ix2_1, z_ix3_0, z_ix3_1, z_ix3_2, z_ix4_0, z_ix4_1, z_ix4_2, z_ix4_3, z_ix5_0, z_ix5_1, z_ix5_2, z_ix5_3, z_ix5_4, z_ix6_0, z_ix6_1, z_ix6_2, z_ix6_3, z_ix6_4, z_ix6_5, z_ix7_0, z_ix7_1, z_ix7_2, z_ix7_3, z_ix7_4, z_ix7_5, z_ix7_6, z_ix8_0, z_ix8_1, z_ix8_2, z_ix8_3, z_ix8_4, z_ix8_5, z_ix8_6, z_ix8_7, Bool.not_eq_true', decide_eq_false_iff_not, ite_not, Bool.false_eq_true, Int.reduceEq, wipeE, backE, IL_fz, IL_isFz, fz_fz, fzL_fzL, List.set_cons_zero, List.set_cons_succ, List.getElem?_cons_zero, List.getElem?_cons_succ, List.length_cons, List.length_nil, and_true, true_and, Bool.and_true, Bool.true_and, Bool.not_true, Bool.not_false, Bool.not_not, if_true, if_false, ite_true, ite_false, Option.map_some, Option.some.injEq, exists_eq_left, exists_eq_left', D.int.injEq, D.lst.injEq, D.bl.injEq, D.str.injEq, D.tup.injEq, List.cons_append, List.nil_append, List.not_mem_nil, not_false_eq_true, Bool.false_eq_true, List.all_cons, List.all_nil, reduceIte, reduceCtorEq, List.isEmpty_cons, List.isEmpty_nil, eq_self, decide_true, decide_false, Bool.if_true_left, exists_eq, exists_eq', decide_eq_true_eq, Int.reduceToNat, Int.reducePow, Int.reduceNeg, Int.reduceLT, Int.reduceLE, Int.reduceSub, Int.reduceAdd, and_false, false_and, List.mem_cons, or_false, false_or, exists_and_left, Nat.zero_add, ne_eq, not_true_eq_false, Nat.reduceAdd, Nat.reduceLT, Nat.reduceEqDiff, Nat.reduceLeDiff])
  refine lcD (fun items acc e => ∃ (l g : List Int) (u : Option D), items = IL l ∧ acc = IL (g.map fun t => if t < 0 then -t else t) ∧ g ++ l = ts ∧ e = [some (.tup [.int r, .lst false (IL qs)]), some (.tup [.int d, .lst false (IL ps)]), some (.lst false (IL ts)), some (.lst true (IL ts)), some (.lst true (IL (joinJ [] ts))), none, u, none, none]) ⟨ts, [], _, rfl, rfl, rfl, rfl⟩ ?_ ?_
  · rintro acc e ⟨l, g, u, hi, rfl, hg, rfl⟩
    cases l with
    | cons _ _ => simp [IL] at hi
    | nil =>
      rw [List.append_nil] at hg
      subst hg
      refine ⟨_, ints_map _, ?_⟩
      simp only [hm, H1.sp, H1.io, H2.sp, H2.io, H3.sp, H3.io, H4.sp, H4.io, hp, hp2, IL_len, z_get0, z_getS, z_borV, z_stillV, z_stillsV, z_stillsN, z_shareV, z_bor_con, z_still_con, z_stills_con, z_share_con, z_bor_glo, z_still_glo, z_stills_glo, z_share_glo, z_bor_bin, z_still_bin, z_stills_bin, z_share_bin, z_bor_neg, z_still_neg, z_stills_neg, z_share_neg, z_bor_nt, z_still_nt, z_stills_nt, z_share_nt, z_bor_bo, z_still_bo, z_stills_bo, z_share_bo, z_bor_cmp, z_still_cmp, z_stills_cmp, z_share_cmp, z_bor_chn, z_still_chn, z_stills_chn, z_share_chn, z_bor_ife, z_still_ife, z_stills_ife, z_share_ife, z_bor_call, z_still_call, z_stills_call, z_share_call, z_bor_calk, z_still_calk, z_stills_calk, z_share_calk, z_bor_bi, z_still_bi, z_stills_bi, z_share_bi, z_bor_isi, z_still_isi, z_stills_isi, z_share_isi, z_bor_sub, z_still_sub, z_stills_sub, z_share_sub, z_bor_slc, z_still_slc, z_stills_slc, z_share_slc, z_bor_rpr, z_still_rpr, z_stills_rpr, z_share_rpr, z_bor_tup, z_still_tup, z_stills_tup, z_share_tup, z_bor_lst, z_still_lst, z_stills_lst, z_share_lst, z_bor_lc, z_still_lc, z_stills_lc, z_share_lc, z_bor_mov, z_still_mov, z_stills_mov, z_share_mov, z_setNm, z_setTpT, z_setTpL, z_setsN, z_setsC, z_putN, z_putC, z_var, z_mov, z_con, z_glo, z_bin, z_neg, z_nt, z_bo, z_cmp, z_chn, z_ife, z_call, z_calk, z_bi, z_isi, z_sub, z_slc, z_tup, z_lst, z_rprL, z_rprT, z_lc, z_esN, z_esC, z_bsN, z_bsC, z_aN, z_aM, z_aF, z_aE, z_oN, z_oY, z_bo1, z_bo2, zt_nt, zt_bo, zt_cmp, zt_chn, zt_isi, zt_call, zt_var, zt_bi, zt_to1, zt_to2, zt_tsN, zt_ts1, i_ex, i_r1, i_r2, i_r3, i_zip, i_enum, i_rev, c_asg, c_par, c_pst, c_pag, c_aug, c_app, c_exp, c_ite, c_for, c_ret, c_rtn, c_brk, c_cnt, c_pas, c_nev, c_nil, c_cons, b_add, b_sub, b_mul, b_fdiv, b_mod, b_pow, b_shl, b_shr, b_cat, b_rep, a_add, a_sub, a_mul, a_mod, q_eqI, q_neI, q_eqS, q_neS, q_eqB, q_neB, q_eqNil, q_neNil, q_lt, q_le, q_gt, q_ge, q_is, q_isnt, r_bl, r_int, r_lst, r_tup, s_szL, s_szT, s_subL, s_subT, s_slcL, s_slcT, s_itL, s_itT, s_liL, n_lenL, n_lenT, n_abs, n_min2, n_max2, n_int, n_intB, n_listL, n_listT, n_tupL, n_strI, n_boolI, n_allL, n_anyL, n_sumL, f_non, f_bl, f_int, f_str, f_tup, f_lst, f_nil, f_cons, g_int, g_bl, g_non, g_str, g_lstF, g_tup, g_lstT, g_nil, g_cons, o_nil, o_0, o_1, z_cast0, z_cast1, z_cast2, z_cast3, z_cast4, z_cast5, z_cast6, z_cast7, z_cast8, z_cast9, z_cast10, z_cast11, z_cast12, l_ltl0, l_ltl1, l_ltl2, l_ltl3, l_ltl4, l_ltl5, l_ltl6, l_ltl7, l_ltl8, l_ltl9, l_ltl10, l_ltl11, l_ltl12, l_line0, l_line1, l_line2, l_line3, l_line4, l_line5, l_line6, l_line7, l_line8, l_line9, l_line10, l_line11, l_line12, k_NoneType_int, k_NoneType_bool, k_NoneType_str, k_NoneType_list, k_NoneType_tuple, k_NoneType_dict, k_bool_int, k_bool_bool, k_bool_str, k_bool_list, k_bool_tuple, k_bool_dict, k_int_int, k_int_bool, k_int_str, k_int_list, k_int_tuple, k_int_dict, k_str_int, k_str_bool, k_str_str, k_str_list, k_str_tuple, k_str_dict, k_tuple_int, k_tuple_bool, k_tuple_str, k_tuple_list, k_tuple_tuple, k_tuple_dict, k_list_int, k_list_bool, k_list_str, k_list_list, k_list_tuple, k_list_dict, z_at0, z_at1, z_at2, z_at3, z_at4, z_at5, z_at6, z_at7, z_at8, z_ix1_0, z_ix2_0, z_ix2_1, z_ix3_0, z_ix3_1, z_ix3_2, z_ix4_0, z_ix4_1, z_ix4_2, z_ix4_3, z_ix5_0, z_ix5_1, z_ix5_2, z_ix5_3, z_ix5_4, z_ix6_0, z_ix6_1, z_ix6_2, z_ix6_3, z_ix6_4, z_ix6_5, z_ix7_0, z_ix7_1, z_ix7_2, z_ix7_3, z_ix7_4, z_ix7_5, z_ix7_6, z_ix8_0, z_ix8_1, z_ix8_2, z_ix8_3, z_ix8_4, z_ix8_5, z_ix8_6, z_ix8_7, Bool.not_eq_true', decide_eq_false_iff_not, ite_not, Bool.false_eq_true, Int.reduceEq, wipeE, backE, IL_fz, IL_isFz, fz_fz, fzL_fzL, List.set_cons_zero, List.set_cons_succ, List.getElem?_cons_zero, List.getElem?_cons_succ, List.length_cons, List.length_nil, and_true, true_and, Bool.and_true, Bool.true_and, Bool.not_true, Bool.not_false, Bool.not_not, if_true, if_false, ite_true, ite_false, Option.map_some, Option.some.injEq, exists_eq_left, exists_eq_left', D.int.injEq, D.lst.injEq, D.bl.injEq, D.str.injEq, D.tup.injEq, List.cons_append, List.nil_append, List.not_mem_nil, not_false_eq_true, Bool.false_eq_true, List.all_cons, List.all_nil, reduceIte, reduceCtorEq, List.isEmpty_cons, List.isEmpty_nil, eq_self, decide_true, decide_false, Bool.if_true_left, exists_eq, exists_eq', decide_eq_true_eq, Int.reduceToNat, Int.reducePow, Int.reduceNeg, Int.reduceLT, Int.reduceLE, Int.reduceSub, Int.reduceAdd, and_false, false_and, List.mem_cons, or_false, false_or, exists_and_left, Nat.zero_add, ne_eq, not_true_eq_false, Nat.reduceAdd, Nat.reduceLT, Nat.reduceEqDiff, Nat.reduceLeDiff]
      have tj := join_turns ht
      have wj : wayT (joinJ [] g) = wayT g := by rw [wayT_join]; rfl
      have sg : (g.map Int.natAbs).sum ≤ 60 * 10 ^ 29 := Nat.le_trans (sum_le (B := 10 ^ 29) fun t hz => Nat.le_trans (hb t hz) (by decide)) (Nat.mul_le_mul_right _ ht.1)
      have sj : smallL (IL (joinJ [] g)) := IL_small fun x hx => big60 (Nat.le_trans (mem_abs hx) (Nat.le_trans (join_abs g []) (by simpa using sg)))
      have sw : smallD (.int (wayT g)) := by
        show (wayT g).natAbs < 2 ^ 1000
        rw [way_abs]; exact big60 sg
      have lj := tj.1
      have sm4 : ∀ o1 o2, smallD (.lst true [.lst o1 (IL (joinJ [] g)), .int (wayT g), .int (wayT g), .lst o2 (IL (joinJ [] g))]) := fun o1 o2 => by
        simp only [smallD, smallL, and_true]
        exact ⟨sj, sw, sw, sj⟩
      have pl4 : ∀ o1 o2, plainD 64 (.lst true [.lst o1 (IL (joinJ [] g)), .int (wayT g), .int (wayT g), .lst o2 (IL (joinJ [] g))]) = true := fun o1 o2 => by
        simp only [plainD, plainL, IL_plain, Bool.and_self]
      have sz4 : ∀ o1 o2, szN (.lst true [.lst o1 (IL (joinJ [] g)), .int (wayT g), .int (wayT g), .lst o2 (IL (joinJ [] g))]) ≤ 8000 := fun o1 o2 => by
        simp only [szN, szL, IL_sz]; omega
      have sm2 : ∀ o1, smallD (.lst true [.lst o1 (IL (joinJ [] g)), .int (wayT g)]) := fun o1 => by
        simp only [smallD, smallL, and_true]
        exact ⟨sj, sw⟩
      have pl2 : ∀ o1, plainD 64 (.lst true [.lst o1 (IL (joinJ [] g)), .int (wayT g)]) = true := fun o1 => by
        simp only [plainD, plainL, IL_plain, Bool.and_self]
      have sz2 : ∀ o1, szN (.lst true [.lst o1 (IL (joinJ [] g)), .int (wayT g)]) ≤ 8000 := fun o1 => by
        simp only [szN, szL, IL_sz]; omega
      refine forDK (fun items e => ∃ (n : Nat) (lo : Int) (a b c : Option D), items = rngD lo n 1 ∧ e = [some (.tup [.int r, .lst false (IL qs)]), some (.tup [.int d, .lst false (IL ps)]), some (.lst false (IL g)), some (.lst true (IL g)), some (.lst true (IL (joinJ [] g))), some (.int (wayT g)), a, b, c]) ⟨2, 0, _, none, none, rfl, rfl⟩ ?_ ?_
      · rintro e ⟨n, lo, a, b, c, hi, rfl⟩
        simp only [hm, H1.sp, H1.io, H2.sp, H2.io, H3.sp, H3.io, H4.sp, H4.io, hp, hp2, IL_len, z_get0, z_getS, z_borV, z_stillV, z_stillsV, z_stillsN, z_shareV, z_bor_con, z_still_con, z_stills_con, z_share_con, z_bor_glo, z_still_glo, z_stills_glo, z_share_glo, z_bor_bin, z_still_bin, z_stills_bin, z_share_bin, z_bor_neg, z_still_neg, z_stills_neg, z_share_neg, z_bor_nt, z_still_nt, z_stills_nt, z_share_nt, z_bor_bo, z_still_bo, z_stills_bo, z_share_bo, z_bor_cmp, z_still_cmp, z_stills_cmp, z_share_cmp, z_bor_chn, z_still_chn, z_stills_chn, z_share_chn, z_bor_ife, z_still_ife, z_stills_ife, z_share_ife, z_bor_call, z_still_call, z_stills_call, z_share_call, z_bor_calk, z_still_calk, z_stills_calk, z_share_calk, z_bor_bi, z_still_bi, z_stills_bi, z_share_bi, z_bor_isi, z_still_isi, z_stills_isi, z_share_isi, z_bor_sub, z_still_sub, z_stills_sub, z_share_sub, z_bor_slc, z_still_slc, z_stills_slc, z_share_slc, z_bor_rpr, z_still_rpr, z_stills_rpr, z_share_rpr, z_bor_tup, z_still_tup, z_stills_tup, z_share_tup, z_bor_lst, z_still_lst, z_stills_lst, z_share_lst, z_bor_lc, z_still_lc, z_stills_lc, z_share_lc, z_bor_mov, z_still_mov, z_stills_mov, z_share_mov, z_setNm, z_setTpT, z_setTpL, z_setsN, z_setsC, z_putN, z_putC, z_var, z_mov, z_con, z_glo, z_bin, z_neg, z_nt, z_bo, z_cmp, z_chn, z_ife, z_call, z_calk, z_bi, z_isi, z_sub, z_slc, z_tup, z_lst, z_rprL, z_rprT, z_lc, z_esN, z_esC, z_bsN, z_bsC, z_aN, z_aM, z_aF, z_aE, z_oN, z_oY, z_bo1, z_bo2, zt_nt, zt_bo, zt_cmp, zt_chn, zt_isi, zt_call, zt_var, zt_bi, zt_to1, zt_to2, zt_tsN, zt_ts1, i_ex, i_r1, i_r2, i_r3, i_zip, i_enum, i_rev, c_asg, c_par, c_pst, c_pag, c_aug, c_app, c_exp, c_ite, c_for, c_ret, c_rtn, c_brk, c_cnt, c_pas, c_nev, c_nil, c_cons, b_add, b_sub, b_mul, b_fdiv, b_mod, b_pow, b_shl, b_shr, b_cat, b_rep, a_add, a_sub, a_mul, a_mod, q_eqI, q_neI, q_eqS, q_neS, q_eqB, q_neB, q_eqNil, q_neNil, q_lt, q_le, q_gt, q_ge, q_is, q_isnt, r_bl, r_int, r_lst, r_tup, s_szL, s_szT, s_subL, s_subT, s_slcL, s_slcT, s_itL, s_itT, s_liL, n_lenL, n_lenT, n_abs, n_min2, n_max2, n_int, n_intB, n_listL, n_listT, n_tupL, n_strI, n_boolI, n_allL, n_anyL, n_sumL, f_non, f_bl, f_int, f_str, f_tup, f_lst, f_nil, f_cons, g_int, g_bl, g_non, g_str, g_lstF, g_tup, g_lstT, g_nil, g_cons, o_nil, o_0, o_1, z_cast0, z_cast1, z_cast2, z_cast3, z_cast4, z_cast5, z_cast6, z_cast7, z_cast8, z_cast9, z_cast10, z_cast11, z_cast12, l_ltl0, l_ltl1, l_ltl2, l_ltl3, l_ltl4, l_ltl5, l_ltl6, l_ltl7, l_ltl8, l_ltl9, l_ltl10, l_ltl11, l_ltl12, l_line0, l_line1, l_line2, l_line3, l_line4, l_line5, l_line6, l_line7, l_line8, l_line9, l_line10, l_line11, l_line12, k_NoneType_int, k_NoneType_bool, k_NoneType_str, k_NoneType_list, k_NoneType_tuple, k_NoneType_dict, k_bool_int, k_bool_bool, k_bool_str, k_bool_list, k_bool_tuple, k_bool_dict, k_int_int, k_int_bool, k_int_str, k_int_list, k_int_tuple, k_int_dict, k_str_int, k_str_bool, k_str_str, k_str_list, k_str_tuple, k_str_dict, k_tuple_int, k_tuple_bool, k_tuple_str, k_tuple_list, k_tuple_tuple, k_tuple_dict, k_list_int, k_list_bool, k_list_str, k_list_list, k_list_tuple, k_list_dict, z_at0, z_at1, z_at2, z_at3, z_at4, z_at5, z_at6, z_at7, z_at8, z_ix1_0, z_ix2_0, z_ix2_1, z_ix3_0, z_ix3_1, z_ix3_2, z_ix4_0, z_ix4_1, z_ix4_2, z_ix4_3, z_ix5_0, z_ix5_1, z_ix5_2, z_ix5_3, z_ix5_4, z_ix6_0, z_ix6_1, z_ix6_2, z_ix6_3, z_ix6_4, z_ix6_5, z_ix7_0, z_ix7_1, z_ix7_2, z_ix7_3, z_ix7_4, z_ix7_5, z_ix7_6, z_ix8_0, z_ix8_1, z_ix8_2, z_ix8_3, z_ix8_4, z_ix8_5, z_ix8_6, z_ix8_7, Bool.not_eq_true', decide_eq_false_iff_not, ite_not, Bool.false_eq_true, Int.reduceEq, wipeE, backE, IL_fz, IL_isFz, fz_fz, fzL_fzL, List.set_cons_zero, List.set_cons_succ, List.getElem?_cons_zero, List.getElem?_cons_succ, List.length_cons, List.length_nil, and_true, true_and, Bool.and_true, Bool.true_and, Bool.not_true, Bool.not_false, Bool.not_not, if_true, if_false, ite_true, ite_false, Option.map_some, Option.some.injEq, exists_eq_left, exists_eq_left', D.int.injEq, D.lst.injEq, D.bl.injEq, D.str.injEq, D.tup.injEq, List.cons_append, List.nil_append, List.not_mem_nil, not_false_eq_true, Bool.false_eq_true, List.all_cons, List.all_nil, reduceIte, reduceCtorEq, List.isEmpty_cons, List.isEmpty_nil, eq_self, decide_true, decide_false, Bool.if_true_left, exists_eq, exists_eq', decide_eq_true_eq, Int.reduceToNat, Int.reducePow, Int.reduceNeg, Int.reduceLT, Int.reduceLE, Int.reduceSub, Int.reduceAdd, and_false, false_and, List.mem_cons, or_false, false_or, exists_and_left, Nat.zero_add, ne_eq, not_true_eq_false, Nat.reduceAdd, Nat.reduceLT, Nat.reduceEqDiff, Nat.reduceLeDiff]
        refine ⟨_, g, rfl, ht, rfl, ?_⟩
        refine ⟨_, g, rfl, ht, rfl, ?_⟩
        refine ⟨_, _, rfl, tj, rfl, ?_⟩
        refine ⟨_, _, rfl, tj, rfl, ?_⟩
        rw [wj, joinJ_join]
        refine repr_ok (sm4 _ _) (pl4 _ _) (sz4 _ _) (repr_ok (sm4 _ _) (pl4 _ _) (sz4 _ _) ?_)
        refine cmp_rsame rfl ?_
        simp only [hm, H1.sp, H1.io, H2.sp, H2.io, H3.sp, H3.io, H4.sp, H4.io, hp, hp2, IL_len, z_get0, z_getS, z_borV, z_stillV, z_stillsV, z_stillsN, z_shareV, z_bor_con, z_still_con, z_stills_con, z_share_con, z_bor_glo, z_still_glo, z_stills_glo, z_share_glo, z_bor_bin, z_still_bin, z_stills_bin, z_share_bin, z_bor_neg, z_still_neg, z_stills_neg, z_share_neg, z_bor_nt, z_still_nt, z_stills_nt, z_share_nt, z_bor_bo, z_still_bo, z_stills_bo, z_share_bo, z_bor_cmp, z_still_cmp, z_stills_cmp, z_share_cmp, z_bor_chn, z_still_chn, z_stills_chn, z_share_chn, z_bor_ife, z_still_ife, z_stills_ife, z_share_ife, z_bor_call, z_still_call, z_stills_call, z_share_call, z_bor_calk, z_still_calk, z_stills_calk, z_share_calk, z_bor_bi, z_still_bi, z_stills_bi, z_share_bi, z_bor_isi, z_still_isi, z_stills_isi, z_share_isi, z_bor_sub, z_still_sub, z_stills_sub, z_share_sub, z_bor_slc, z_still_slc, z_stills_slc, z_share_slc, z_bor_rpr, z_still_rpr, z_stills_rpr, z_share_rpr, z_bor_tup, z_still_tup, z_stills_tup, z_share_tup, z_bor_lst, z_still_lst, z_stills_lst, z_share_lst, z_bor_lc, z_still_lc, z_stills_lc, z_share_lc, z_bor_mov, z_still_mov, z_stills_mov, z_share_mov, z_setNm, z_setTpT, z_setTpL, z_setsN, z_setsC, z_putN, z_putC, z_var, z_mov, z_con, z_glo, z_bin, z_neg, z_nt, z_bo, z_cmp, z_chn, z_ife, z_call, z_calk, z_bi, z_isi, z_sub, z_slc, z_tup, z_lst, z_rprL, z_rprT, z_lc, z_esN, z_esC, z_bsN, z_bsC, z_aN, z_aM, z_aF, z_aE, z_oN, z_oY, z_bo1, z_bo2, zt_nt, zt_bo, zt_cmp, zt_chn, zt_isi, zt_call, zt_var, zt_bi, zt_to1, zt_to2, zt_tsN, zt_ts1, i_ex, i_r1, i_r2, i_r3, i_zip, i_enum, i_rev, c_asg, c_par, c_pst, c_pag, c_aug, c_app, c_exp, c_ite, c_for, c_ret, c_rtn, c_brk, c_cnt, c_pas, c_nev, c_nil, c_cons, b_add, b_sub, b_mul, b_fdiv, b_mod, b_pow, b_shl, b_shr, b_cat, b_rep, a_add, a_sub, a_mul, a_mod, q_eqI, q_neI, q_eqS, q_neS, q_eqB, q_neB, q_eqNil, q_neNil, q_lt, q_le, q_gt, q_ge, q_is, q_isnt, r_bl, r_int, r_lst, r_tup, s_szL, s_szT, s_subL, s_subT, s_slcL, s_slcT, s_itL, s_itT, s_liL, n_lenL, n_lenT, n_abs, n_min2, n_max2, n_int, n_intB, n_listL, n_listT, n_tupL, n_strI, n_boolI, n_allL, n_anyL, n_sumL, f_non, f_bl, f_int, f_str, f_tup, f_lst, f_nil, f_cons, g_int, g_bl, g_non, g_str, g_lstF, g_tup, g_lstT, g_nil, g_cons, o_nil, o_0, o_1, z_cast0, z_cast1, z_cast2, z_cast3, z_cast4, z_cast5, z_cast6, z_cast7, z_cast8, z_cast9, z_cast10, z_cast11, z_cast12, l_ltl0, l_ltl1, l_ltl2, l_ltl3, l_ltl4, l_ltl5, l_ltl6, l_ltl7, l_ltl8, l_ltl9, l_ltl10, l_ltl11, l_ltl12, l_line0, l_line1, l_line2, l_line3, l_line4, l_line5, l_line6, l_line7, l_line8, l_line9, l_line10, l_line11, l_line12, k_NoneType_int, k_NoneType_bool, k_NoneType_str, k_NoneType_list, k_NoneType_tuple, k_NoneType_dict, k_bool_int, k_bool_bool, k_bool_str, k_bool_list, k_bool_tuple, k_bool_dict, k_int_int, k_int_bool, k_int_str, k_int_list, k_int_tuple, k_int_dict, k_str_int, k_str_bool, k_str_str, k_str_list, k_str_tuple, k_str_dict, k_tuple_int, k_tuple_bool, k_tuple_str, k_tuple_list, k_tuple_tuple, k_tuple_dict, k_list_int, k_list_bool, k_list_str, k_list_list, k_list_tuple, k_list_dict, z_at0, z_at1, z_at2, z_at3, z_at4, z_at5, z_at6, z_at7, z_at8, z_ix1_0, z_ix2_0, z_ix2_1, z_ix3_0, z_ix3_1, z_ix3_2, z_ix4_0, z_ix4_1, z_ix4_2, z_ix4_3, z_ix5_0, z_ix5_1, z_ix5_2, z_ix5_3, z_ix5_4, z_ix6_0, z_ix6_1, z_ix6_2, z_ix6_3, z_ix6_4, z_ix6_5, z_ix7_0, z_ix7_1, z_ix7_2, z_ix7_3, z_ix7_4, z_ix7_5, z_ix7_6, z_ix8_0, z_ix8_1, z_ix8_2, z_ix8_3, z_ix8_4, z_ix8_5, z_ix8_6, z_ix8_7, Bool.not_eq_true', decide_eq_false_iff_not, ite_not, Bool.false_eq_true, Int.reduceEq, wipeE, backE, IL_fz, IL_isFz, fz_fz, fzL_fzL, List.set_cons_zero, List.set_cons_succ, List.getElem?_cons_zero, List.getElem?_cons_succ, List.length_cons, List.length_nil, and_true, true_and, Bool.and_true, Bool.true_and, Bool.not_true, Bool.not_false, Bool.not_not, if_true, if_false, ite_true, ite_false, Option.map_some, Option.some.injEq, exists_eq_left, exists_eq_left', D.int.injEq, D.lst.injEq, D.bl.injEq, D.str.injEq, D.tup.injEq, List.cons_append, List.nil_append, List.not_mem_nil, not_false_eq_true, Bool.false_eq_true, List.all_cons, List.all_nil, reduceIte, reduceCtorEq, List.isEmpty_cons, List.isEmpty_nil, eq_self, decide_true, decide_false, Bool.if_true_left, exists_eq, exists_eq', decide_eq_true_eq, Int.reduceToNat, Int.reducePow, Int.reduceNeg, Int.reduceLT, Int.reduceLE, Int.reduceSub, Int.reduceAdd, and_false, false_and, List.mem_cons, or_false, false_or, exists_and_left, Nat.zero_add, ne_eq, not_true_eq_false, Nat.reduceAdd, Nat.reduceLT, Nat.reduceEqDiff, Nat.reduceLeDiff]
        refine ⟨_, qs, _, ps, _, g, rfl, hlk, hch, ht, rfl, ?_⟩
        refine ⟨_, qs, _, ps, _, _, rfl, hlk, hch, tj, rfl, ?_⟩
        have w0 := chain_within (a := 0) hch (Int.le_refl d) (by omega) (Int.le_refl 0) hlk.2.2.2
        obtain ⟨e1, e2⟩ := walk_join w0 g []
        rw [List.nil_append] at e1 e2
        rw [e1, e2]
        refine cmp_same rfl ?_ q
        simp only [plainD, plainL, IL_plain, Bool.and_self]
      · rintro x xs e k bk ⟨n, lo, a, b, c, hi, rfl⟩ hk _
        cases n with
        | zero => cases hi
        | succ n =>
          rw [rng_cons] at hi
          obtain ⟨rfl, rfl⟩ := List.cons.inj hi
          simp only [f__law_right_3_b3, f__law_right_3_b2, hm, H1.sp, H1.io, H2.sp, H2.io, H3.sp, H3.io, H4.sp, H4.io, hp, hp2, IL_len, z_get0, z_getS, z_borV, z_stillV, z_stillsV, z_stillsN, z_shareV, z_bor_con, z_still_con, z_stills_con, z_share_con, z_bor_glo, z_still_glo, z_stills_glo, z_share_glo, z_bor_bin, z_still_bin, z_stills_bin, z_share_bin, z_bor_neg, z_still_neg, z_stills_neg, z_share_neg, z_bor_nt, z_still_nt, z_stills_nt, z_share_nt, z_bor_bo, z_still_bo, z_stills_bo, z_share_bo, z_bor_cmp, z_still_cmp, z_stills_cmp, z_share_cmp, z_bor_chn, z_still_chn, z_stills_chn, z_share_chn, z_bor_ife, z_still_ife, z_stills_ife, z_share_ife, z_bor_call, z_still_call, z_stills_call, z_share_call, z_bor_calk, z_still_calk, z_stills_calk, z_share_calk, z_bor_bi, z_still_bi, z_stills_bi, z_share_bi, z_bor_isi, z_still_isi, z_stills_isi, z_share_isi, z_bor_sub, z_still_sub, z_stills_sub, z_share_sub, z_bor_slc, z_still_slc, z_stills_slc, z_share_slc, z_bor_rpr, z_still_rpr, z_stills_rpr, z_share_rpr, z_bor_tup, z_still_tup, z_stills_tup, z_share_tup, z_bor_lst, z_still_lst, z_stills_lst, z_share_lst, z_bor_lc, z_still_lc, z_stills_lc, z_share_lc, z_bor_mov, z_still_mov, z_stills_mov, z_share_mov, z_setNm, z_setTpT, z_setTpL, z_setsN, z_setsC, z_putN, z_putC, z_var, z_mov, z_con, z_glo, z_bin, z_neg, z_nt, z_bo, z_cmp, z_chn, z_ife, z_call, z_calk, z_bi, z_isi, z_sub, z_slc, z_tup, z_lst, z_rprL, z_rprT, z_lc, z_esN, z_esC, z_bsN, z_bsC, z_aN, z_aM, z_aF, z_aE, z_oN, z_oY, z_bo1, z_bo2, zt_nt, zt_bo, zt_cmp, zt_chn, zt_isi, zt_call, zt_var, zt_bi, zt_to1, zt_to2, zt_tsN, zt_ts1, i_ex, i_r1, i_r2, i_r3, i_zip, i_enum, i_rev, c_asg, c_par, c_pst, c_pag, c_aug, c_app, c_exp, c_ite, c_for, c_ret, c_rtn, c_brk, c_cnt, c_pas, c_nev, c_nil, c_cons, b_add, b_sub, b_mul, b_fdiv, b_mod, b_pow, b_shl, b_shr, b_cat, b_rep, a_add, a_sub, a_mul, a_mod, q_eqI, q_neI, q_eqS, q_neS, q_eqB, q_neB, q_eqNil, q_neNil, q_lt, q_le, q_gt, q_ge, q_is, q_isnt, r_bl, r_int, r_lst, r_tup, s_szL, s_szT, s_subL, s_subT, s_slcL, s_slcT, s_itL, s_itT, s_liL, n_lenL, n_lenT, n_abs, n_min2, n_max2, n_int, n_intB, n_listL, n_listT, n_tupL, n_strI, n_boolI, n_allL, n_anyL, n_sumL, f_non, f_bl, f_int, f_str, f_tup, f_lst, f_nil, f_cons, g_int, g_bl, g_non, g_str, g_lstF, g_tup, g_lstT, g_nil, g_cons, o_nil, o_0, o_1, z_cast0, z_cast1, z_cast2, z_cast3, z_cast4, z_cast5, z_cast6, z_cast7, z_cast8, z_cast9, z_cast10, z_cast11, z_cast12, l_ltl0, l_ltl1, l_ltl2, l_ltl3, l_ltl4, l_ltl5, l_ltl6, l_ltl7, l_ltl8, l_ltl9, l_ltl10, l_ltl11, l_ltl12, l_line0, l_line1, l_line2, l_line3, l_line4, l_line5, l_line6, l_line7, l_line8, l_line9, l_line10, l_line11, l_line12, k_NoneType_int, k_NoneType_bool, k_NoneType_str, k_NoneType_list, k_NoneType_tuple, k_NoneType_dict, k_bool_int, k_bool_bool, k_bool_str, k_bool_list, k_bool_tuple, k_bool_dict, k_int_int, k_int_bool, k_int_str, k_int_list, k_int_tuple, k_int_dict, k_str_int, k_str_bool, k_str_str, k_str_list, k_str_tuple, k_str_dict, k_tuple_int, k_tuple_bool, k_tuple_str, k_tuple_list, k_tuple_tuple, k_tuple_dict, k_list_int, k_list_bool, k_list_str, k_list_list, k_list_tuple, k_list_dict, z_at0, z_at1, z_at2, z_at3, z_at4, z_at5, z_at6, z_at7, z_at8, z_ix1_0, z_ix2_0, z_ix2_1, z_ix3_0, z_ix3_1, z_ix3_2, z_ix4_0, z_ix4_1, z_ix4_2, z_ix4_3, z_ix5_0, z_ix5_1, z_ix5_2, z_ix5_3, z_ix5_4, z_ix6_0, z_ix6_1, z_ix6_2, z_ix6_3, z_ix6_4, z_ix6_5, z_ix7_0, z_ix7_1, z_ix7_2, z_ix7_3, z_ix7_4, z_ix7_5, z_ix7_6, z_ix8_0, z_ix8_1, z_ix8_2, z_ix8_3, z_ix8_4, z_ix8_5, z_ix8_6, z_ix8_7, Bool.not_eq_true', decide_eq_false_iff_not, ite_not, Bool.false_eq_true, Int.reduceEq, wipeE, backE, IL_fz, IL_isFz, fz_fz, fzL_fzL, List.set_cons_zero, List.set_cons_succ, List.getElem?_cons_zero, List.getElem?_cons_succ, List.length_cons, List.length_nil, and_true, true_and, Bool.and_true, Bool.true_and, Bool.not_true, Bool.not_false, Bool.not_not, if_true, if_false, ite_true, ite_false, Option.map_some, Option.some.injEq, exists_eq_left, exists_eq_left', D.int.injEq, D.lst.injEq, D.bl.injEq, D.str.injEq, D.tup.injEq, List.cons_append, List.nil_append, List.not_mem_nil, not_false_eq_true, Bool.false_eq_true, List.all_cons, List.all_nil, reduceIte, reduceCtorEq, List.isEmpty_cons, List.isEmpty_nil, eq_self, decide_true, decide_false, Bool.if_true_left, exists_eq, exists_eq', decide_eq_true_eq, Int.reduceToNat, Int.reducePow, Int.reduceNeg, Int.reduceLT, Int.reduceLE, Int.reduceSub, Int.reduceAdd, and_false, false_and, List.mem_cons, or_false, false_or, exists_and_left, Nat.zero_add, ne_eq, not_true_eq_false, Nat.reduceAdd, Nat.reduceLT, Nat.reduceEqDiff, Nat.reduceLeDiff]
          refine ⟨[0], rfl, _, g, rfl, ht, rfl, [0], rfl, _, g, rfl, ht, rfl, ?_⟩
          refine repr_ok (sm2 _) (pl2 _) (sz2 _) (repr_ok (sm2 _) (pl2 _) (sz2 _) ?_)
          refine cmp_rsame rfl ?_
          (try simp only [hm, z_get0, z_getS, z_borV, z_stillV, z_stillsV, z_stillsN, z_shareV, z_bor_con, z_still_con, z_stills_con, z_share_con, z_bor_glo, z_still_glo, z_stills_glo, z_share_glo, z_bor_bin, z_still_bin, z_stills_bin, z_share_bin, z_bor_neg, z_still_neg, z_stills_neg, z_share_neg, z_bor_nt, z_still_nt, z_stills_nt, z_share_nt, z_bor_bo, z_still_bo, z_stills_bo, z_share_bo, z_bor_cmp, z_still_cmp, z_stills_cmp, z_share_cmp, z_bor_chn, z_still_chn, z_stills_chn, z_share_chn, z_bor_ife, z_still_ife, z_stills_ife, z_share_ife, z_bor_call, z_still_call, z_stills_call, z_share_call, z_bor_calk, z_still_calk, z_stills_calk, z_share_calk, z_bor_bi, z_still_bi, z_stills_bi, z_share_bi, z_bor_isi, z_still_isi, z_stills_isi, z_share_isi, z_bor_sub, z_still_sub, z_stills_sub, z_share_sub, z_bor_slc, z_still_slc, z_stills_slc, z_share_slc, z_bor_rpr, z_still_rpr, z_stills_rpr, z_share_rpr, z_bor_tup, z_still_tup, z_stills_tup, z_share_tup, z_bor_lst, z_still_lst, z_stills_lst, z_share_lst, z_bor_lc, z_still_lc, z_stills_lc, z_share_lc, z_bor_mov, z_still_mov, z_stills_mov, z_share_mov, z_setNm, z_setTpT, z_setTpL, z_setsN, z_setsC, z_putN, z_putC, z_var, z_mov, z_con, z_glo, z_bin, z_neg, z_nt, z_bo, z_cmp, z_chn, z_ife, z_call, z_calk, z_bi, z_isi, z_sub, z_slc, z_tup, z_lst, z_rprL, z_rprT, z_lc, z_esN, z_esC, z_bsN, z_bsC, z_aN, z_aM, z_aF, z_aE, z_oN, z_oY, z_bo1, z_bo2, zt_nt, zt_bo, zt_cmp, zt_chn, zt_isi, zt_call, zt_var, zt_bi, zt_to1, zt_to2, zt_tsN, zt_ts1, i_ex, i_r1, i_r2, i_r3, i_zip, i_enum, i_rev, c_asg, c_par, c_pst, c_pag, c_aug, c_app, c_exp, c_ite, c_for, c_ret, c_rtn, c_brk, c_cnt, c_pas, c_nev, c_nil, c_cons, b_add, b_sub, b_mul, b_fdiv, b_mod, b_pow, b_shl, b_shr, b_cat, b_rep, a_add, a_sub, a_mul, a_mod, q_eqI, q_neI, q_eqS, q_neS, q_eqB, q_neB, q_eqNil, q_neNil, q_lt, q_le, q_gt, q_ge, q_is, q_isnt, r_bl, r_int, r_lst, r_tup, s_szL, s_szT, s_subL, s_subT, s_slcL, s_slcT, s_itL, s_itT, s_liL, n_lenL, n_lenT, n_abs, n_min2, n_max2, n_int, n_intB, n_listL, n_listT, n_tupL, n_strI, n_boolI, n_allL, n_anyL, n_sumL, f_non, f_bl, f_int, f_str, f_tup, f_lst, f_nil, f_cons, g_int, g_bl, g_non, g_str, g_lstF, g_tup, g_lstT, g_nil, g_cons, o_nil, o_0, o_1, z_cast0, z_cast1, z_cast2, z_cast3, z_cast4, z_cast5, z_cast6, z_cast7, z_cast8, z_cast9, z_cast10, z_cast11, z_cast12, l_ltl0, l_ltl1, l_ltl2, l_ltl3, l_ltl4, l_ltl5, l_ltl6, l_ltl7, l_ltl8, l_ltl9, l_ltl10, l_ltl11, l_ltl12, l_line0, l_line1, l_line2, l_line3, l_line4, l_line5, l_line6, l_line7, l_line8, l_line9, l_line10, l_line11, l_line12, k_NoneType_int, k_NoneType_bool, k_NoneType_str, k_NoneType_list, k_NoneType_tuple, k_NoneType_dict, k_bool_int, k_bool_bool, k_bool_str, k_bool_list, k_bool_tuple, k_bool_dict, k_int_int, k_int_bool, k_int_str, k_int_list, k_int_tuple, k_int_dict, k_str_int, k_str_bool, k_str_str, k_str_list, k_str_tuple, k_str_dict, k_tuple_int, k_tuple_bool, k_tuple_str, k_tuple_list, k_tuple_tuple, k_tuple_dict, k_list_int, k_list_bool, k_list_str, k_list_list, k_list_tuple, k_list_dict, z_at0, z_at1, z_at2, z_at3, z_at4, z_at5, z_at6, z_at7, z_at8, z_ix1_0, z_ix2_0, z_ix2_1, z_ix3_0, z_ix3_1, z_ix3_2, z_ix4_0, z_ix4_1, z_ix4_2, z_ix4_3, z_ix5_0, z_ix5_1, z_ix5_2, z_ix5_3, z_ix5_4, z_ix6_0, z_ix6_1, z_ix6_2, z_ix6_3, z_ix6_4, z_ix6_5, z_ix7_0, z_ix7_1, z_ix7_2, z_ix7_3, z_ix7_4, z_ix7_5, z_ix7_6, z_ix8_0, z_ix8_1, z_ix8_2, z_ix8_3, z_ix8_4, z_ix8_5, z_ix8_6, z_ix8_7, Bool.not_eq_true', decide_eq_false_iff_not, ite_not, Bool.false_eq_true, Int.reduceEq, wipeE, backE, IL_fz, IL_isFz, fz_fz, fzL_fzL, List.set_cons_zero, List.set_cons_succ, List.getElem?_cons_zero, List.getElem?_cons_succ, List.length_cons, List.length_nil, and_true, true_and, Bool.and_true, Bool.true_and, Bool.not_true, Bool.not_false, Bool.not_not, if_true, if_false, ite_true, ite_false, Option.map_some, Option.some.injEq, exists_eq_left, exists_eq_left', D.int.injEq, D.lst.injEq, D.bl.injEq, D.str.injEq, D.tup.injEq, List.cons_append, List.nil_append, List.not_mem_nil, not_false_eq_true, Bool.false_eq_true, List.all_cons, List.all_nil, reduceIte, reduceCtorEq, List.isEmpty_cons, List.isEmpty_nil, eq_self, decide_true, decide_false, Bool.if_true_left, exists_eq, exists_eq', decide_eq_true_eq, Int.reduceToNat, Int.reducePow, Int.reduceNeg, Int.reduceLT, Int.reduceLE, Int.reduceSub, Int.reduceAdd, and_false, false_and, List.mem_cons, or_false, false_or, exists_and_left, Nat.zero_add, ne_eq, not_true_eq_false, Nat.reduceAdd, Nat.reduceLT, Nat.reduceEqDiff, Nat.reduceLeDiff])
          refine cmp_nsame rfl (IL_plain g 63) ?_
          (try simp only [hm, z_get0, z_getS, z_borV, z_stillV, z_stillsV, z_stillsN, z_shareV, z_bor_con, z_still_con, z_stills_con, z_share_con, z_bor_glo, z_still_glo, z_stills_glo, z_share_glo, z_bor_bin, z_still_bin, z_stills_bin, z_share_bin, z_bor_neg, z_still_neg, z_stills_neg, z_share_neg, z_bor_nt, z_still_nt, z_stills_nt, z_share_nt, z_bor_bo, z_still_bo, z_stills_bo, z_share_bo, z_bor_cmp, z_still_cmp, z_stills_cmp, z_share_cmp, z_bor_chn, z_still_chn, z_stills_chn, z_share_chn, z_bor_ife, z_still_ife, z_stills_ife, z_share_ife, z_bor_call, z_still_call, z_stills_call, z_share_call, z_bor_calk, z_still_calk, z_stills_calk, z_share_calk, z_bor_bi, z_still_bi, z_stills_bi, z_share_bi, z_bor_isi, z_still_isi, z_stills_isi, z_share_isi, z_bor_sub, z_still_sub, z_stills_sub, z_share_sub, z_bor_slc, z_still_slc, z_stills_slc, z_share_slc, z_bor_rpr, z_still_rpr, z_stills_rpr, z_share_rpr, z_bor_tup, z_still_tup, z_stills_tup, z_share_tup, z_bor_lst, z_still_lst, z_stills_lst, z_share_lst, z_bor_lc, z_still_lc, z_stills_lc, z_share_lc, z_bor_mov, z_still_mov, z_stills_mov, z_share_mov, z_setNm, z_setTpT, z_setTpL, z_setsN, z_setsC, z_putN, z_putC, z_var, z_mov, z_con, z_glo, z_bin, z_neg, z_nt, z_bo, z_cmp, z_chn, z_ife, z_call, z_calk, z_bi, z_isi, z_sub, z_slc, z_tup, z_lst, z_rprL, z_rprT, z_lc, z_esN, z_esC, z_bsN, z_bsC, z_aN, z_aM, z_aF, z_aE, z_oN, z_oY, z_bo1, z_bo2, zt_nt, zt_bo, zt_cmp, zt_chn, zt_isi, zt_call, zt_var, zt_bi, zt_to1, zt_to2, zt_tsN, zt_ts1, i_ex, i_r1, i_r2, i_r3, i_zip, i_enum, i_rev, c_asg, c_par, c_pst, c_pag, c_aug, c_app, c_exp, c_ite, c_for, c_ret, c_rtn, c_brk, c_cnt, c_pas, c_nev, c_nil, c_cons, b_add, b_sub, b_mul, b_fdiv, b_mod, b_pow, b_shl, b_shr, b_cat, b_rep, a_add, a_sub, a_mul, a_mod, q_eqI, q_neI, q_eqS, q_neS, q_eqB, q_neB, q_eqNil, q_neNil, q_lt, q_le, q_gt, q_ge, q_is, q_isnt, r_bl, r_int, r_lst, r_tup, s_szL, s_szT, s_subL, s_subT, s_slcL, s_slcT, s_itL, s_itT, s_liL, n_lenL, n_lenT, n_abs, n_min2, n_max2, n_int, n_intB, n_listL, n_listT, n_tupL, n_strI, n_boolI, n_allL, n_anyL, n_sumL, f_non, f_bl, f_int, f_str, f_tup, f_lst, f_nil, f_cons, g_int, g_bl, g_non, g_str, g_lstF, g_tup, g_lstT, g_nil, g_cons, o_nil, o_0, o_1, z_cast0, z_cast1, z_cast2, z_cast3, z_cast4, z_cast5, z_cast6, z_cast7, z_cast8, z_cast9, z_cast10, z_cast11, z_cast12, l_ltl0, l_ltl1, l_ltl2, l_ltl3, l_ltl4, l_ltl5, l_ltl6, l_ltl7, l_ltl8, l_ltl9, l_ltl10, l_ltl11, l_ltl12, l_line0, l_line1, l_line2, l_line3, l_line4, l_line5, l_line6, l_line7, l_line8, l_line9, l_line10, l_line11, l_line12, k_NoneType_int, k_NoneType_bool, k_NoneType_str, k_NoneType_list, k_NoneType_tuple, k_NoneType_dict, k_bool_int, k_bool_bool, k_bool_str, k_bool_list, k_bool_tuple, k_bool_dict, k_int_int, k_int_bool, k_int_str, k_int_list, k_int_tuple, k_int_dict, k_str_int, k_str_bool, k_str_str, k_str_list, k_str_tuple, k_str_dict, k_tuple_int, k_tuple_bool, k_tuple_str, k_tuple_list, k_tuple_tuple, k_tuple_dict, k_list_int, k_list_bool, k_list_str, k_list_list, k_list_tuple, k_list_dict, z_at0, z_at1, z_at2, z_at3, z_at4, z_at5, z_at6, z_at7, z_at8, z_ix1_0, z_ix2_0, z_ix2_1, z_ix3_0, z_ix3_1, z_ix3_2, z_ix4_0, z_ix4_1, z_ix4_2, z_ix4_3, z_ix5_0, z_ix5_1, z_ix5_2, z_ix5_3, z_ix5_4, z_ix6_0, z_ix6_1, z_ix6_2, z_ix6_3, z_ix6_4, z_ix6_5, z_ix7_0, z_ix7_1, z_ix7_2, z_ix7_3, z_ix7_4, z_ix7_5, z_ix7_6, z_ix8_0, z_ix8_1, z_ix8_2, z_ix8_3, z_ix8_4, z_ix8_5, z_ix8_6, z_ix8_7, Bool.not_eq_true', decide_eq_false_iff_not, ite_not, Bool.false_eq_true, Int.reduceEq, wipeE, backE, IL_fz, IL_isFz, fz_fz, fzL_fzL, List.set_cons_zero, List.set_cons_succ, List.getElem?_cons_zero, List.getElem?_cons_succ, List.length_cons, List.length_nil, and_true, true_and, Bool.and_true, Bool.true_and, Bool.not_true, Bool.not_false, Bool.not_not, if_true, if_false, ite_true, ite_false, Option.map_some, Option.some.injEq, exists_eq_left, exists_eq_left', D.int.injEq, D.lst.injEq, D.bl.injEq, D.str.injEq, D.tup.injEq, List.cons_append, List.nil_append, List.not_mem_nil, not_false_eq_true, Bool.false_eq_true, List.all_cons, List.all_nil, reduceIte, reduceCtorEq, List.isEmpty_cons, List.isEmpty_nil, eq_self, decide_true, decide_false, Bool.if_true_left, exists_eq, exists_eq', decide_eq_true_eq, Int.reduceToNat, Int.reducePow, Int.reduceNeg, Int.reduceLT, Int.reduceLE, Int.reduceSub, Int.reduceAdd, and_false, false_and, List.mem_cons, or_false, false_or, exists_and_left, Nat.zero_add, ne_eq, not_true_eq_false, Nat.reduceAdd, Nat.reduceLT, Nat.reduceEqDiff, Nat.reduceLeDiff])
          refine ⟨line60 (by rw [IL_len]; omega), hk _ ⟨n, _, _, _, _, rfl, rfl⟩⟩
  · rintro x xs acc e k ⟨l, g, u, hi, rfl, hg, rfl⟩ hk
    cases l with
    | nil => simp [IL] at hi
    | cons p l =>
      simp only [IL_cons, List.cons.injEq] at hi
      obtain ⟨rfl, rfl⟩ := hi
      have hn : g.length ≤ 60 := by have := congrArg List.length hg; have := ht.1; simp at *; omega
      have p0 : p ≠ 0 := ht.2 p (by rw [← hg]; simp)
      simp only [lcStep, hm, IL_len, List.length_map, z_get0, z_getS, z_borV, z_stillV, z_stillsV, z_stillsN, z_shareV, z_bor_con, z_still_con, z_stills_con, z_share_con, z_bor_glo, z_still_glo, z_stills_glo, z_share_glo, z_bor_bin, z_still_bin, z_stills_bin, z_share_bin, z_bor_neg, z_still_neg, z_stills_neg, z_share_neg, z_bor_nt, z_still_nt, z_stills_nt, z_share_nt, z_bor_bo, z_still_bo, z_stills_bo, z_share_bo, z_bor_cmp, z_still_cmp, z_stills_cmp, z_share_cmp, z_bor_chn, z_still_chn, z_stills_chn, z_share_chn, z_bor_ife, z_still_ife, z_stills_ife, z_share_ife, z_bor_call, z_still_call, z_stills_call, z_share_call, z_bor_calk, z_still_calk, z_stills_calk, z_share_calk, z_bor_bi, z_still_bi, z_stills_bi, z_share_bi, z_bor_isi, z_still_isi, z_stills_isi, z_share_isi, z_bor_sub, z_still_sub, z_stills_sub, z_share_sub, z_bor_slc, z_still_slc, z_stills_slc, z_share_slc, z_bor_rpr, z_still_rpr, z_stills_rpr, z_share_rpr, z_bor_tup, z_still_tup, z_stills_tup, z_share_tup, z_bor_lst, z_still_lst, z_stills_lst, z_share_lst, z_bor_lc, z_still_lc, z_stills_lc, z_share_lc, z_bor_mov, z_still_mov, z_stills_mov, z_share_mov, z_setNm, z_setTpT, z_setTpL, z_setsN, z_setsC, z_putN, z_putC, z_var, z_mov, z_con, z_glo, z_bin, z_neg, z_nt, z_bo, z_cmp, z_chn, z_ife, z_call, z_calk, z_bi, z_isi, z_sub, z_slc, z_tup, z_lst, z_rprL, z_rprT, z_lc, z_esN, z_esC, z_bsN, z_bsC, z_aN, z_aM, z_aF, z_aE, z_oN, z_oY, z_bo1, z_bo2, zt_nt, zt_bo, zt_cmp, zt_chn, zt_isi, zt_call, zt_var, zt_bi, zt_to1, zt_to2, zt_tsN, zt_ts1, i_ex, i_r1, i_r2, i_r3, i_zip, i_enum, i_rev, c_asg, c_par, c_pst, c_pag, c_aug, c_app, c_exp, c_ite, c_for, c_ret, c_rtn, c_brk, c_cnt, c_pas, c_nev, c_nil, c_cons, b_add, b_sub, b_mul, b_fdiv, b_mod, b_pow, b_shl, b_shr, b_cat, b_rep, a_add, a_sub, a_mul, a_mod, q_eqI, q_neI, q_eqS, q_neS, q_eqB, q_neB, q_eqNil, q_neNil, q_lt, q_le, q_gt, q_ge, q_is, q_isnt, r_bl, r_int, r_lst, r_tup, s_szL, s_szT, s_subL, s_subT, s_slcL, s_slcT, s_itL, s_itT, s_liL, n_lenL, n_lenT, n_abs, n_min2, n_max2, n_int, n_intB, n_listL, n_listT, n_tupL, n_strI, n_boolI, n_allL, n_anyL, n_sumL, f_non, f_bl, f_int, f_str, f_tup, f_lst, f_nil, f_cons, g_int, g_bl, g_non, g_str, g_lstF, g_tup, g_lstT, g_nil, g_cons, o_nil, o_0, o_1, z_cast0, z_cast1, z_cast2, z_cast3, z_cast4, z_cast5, z_cast6, z_cast7, z_cast8, z_cast9, z_cast10, z_cast11, z_cast12, l_ltl0, l_ltl1, l_ltl2, l_ltl3, l_ltl4, l_ltl5, l_ltl6, l_ltl7, l_ltl8, l_ltl9, l_ltl10, l_ltl11, l_ltl12, l_line0, l_line1, l_line2, l_line3, l_line4, l_line5, l_line6, l_line7, l_line8, l_line9, l_line10, l_line11, l_line12, k_NoneType_int, k_NoneType_bool, k_NoneType_str, k_NoneType_list, k_NoneType_tuple, k_NoneType_dict, k_bool_int, k_bool_bool, k_bool_str, k_bool_list, k_bool_tuple, k_bool_dict, k_int_int, k_int_bool, k_int_str, k_int_list, k_int_tuple, k_int_dict, k_str_int, k_str_bool, k_str_str, k_str_list, k_str_tuple, k_str_dict, k_tuple_int, k_tuple_bool, k_tuple_str, k_tuple_list, k_tuple_tuple, k_tuple_dict, k_list_int, k_list_bool, k_list_str, k_list_list, k_list_tuple, k_list_dict, z_at0, z_at1, z_at2, z_at3, z_at4, z_at5, z_at6, z_at7, z_at8, z_ix1_0, z_ix2_0, z_ix2_1, z_ix3_0, z_ix3_1, z_ix3_2, z_ix4_0, z_ix4_1, z_ix4_2, z_ix4_3, z_ix5_0, z_ix5_1, z_ix5_2, z_ix5_3, z_ix5_4, z_ix6_0, z_ix6_1, z_ix6_2, z_ix6_3, z_ix6_4, z_ix6_5, z_ix7_0, z_ix7_1, z_ix7_2, z_ix7_3, z_ix7_4, z_ix7_5, z_ix7_6, z_ix8_0, z_ix8_1, z_ix8_2, z_ix8_3, z_ix8_4, z_ix8_5, z_ix8_6, z_ix8_7, Bool.not_eq_true', decide_eq_false_iff_not, ite_not, Bool.false_eq_true, Int.reduceEq, wipeE, backE, IL_fz, IL_isFz, fz_fz, fzL_fzL, List.set_cons_zero, List.set_cons_succ, List.getElem?_cons_zero, List.getElem?_cons_succ, List.length_cons, List.length_nil, and_true, true_and, Bool.and_true, Bool.true_and, Bool.not_true, Bool.not_false, Bool.not_not, if_true, if_false, ite_true, ite_false, Option.map_some, Option.some.injEq, exists_eq_left, exists_eq_left', D.int.injEq, D.lst.injEq, D.bl.injEq, D.str.injEq, D.tup.injEq, List.cons_append, List.nil_append, List.not_mem_nil, not_false_eq_true, Bool.false_eq_true, List.all_cons, List.all_nil, reduceIte, reduceCtorEq, List.isEmpty_cons, List.isEmpty_nil, eq_self, decide_true, decide_false, Bool.if_true_left, exists_eq, exists_eq', decide_eq_true_eq, Int.reduceToNat, Int.reducePow, Int.reduceNeg, Int.reduceLT, Int.reduceLE, Int.reduceSub, Int.reduceAdd, and_false, false_and, List.mem_cons, or_false, false_or, exists_and_left, Nat.zero_add, ne_eq, not_true_eq_false, Nat.reduceAdd, Nat.reduceLT, Nat.reduceEqDiff, Nat.reduceLeDiff]
      split
      · rename_i c
        rw [IL_app]
        refine ⟨line60 (by omega), hk _ _ ⟨l, g ++ [p], _, rfl, ?_, by rw [← hg, List.append_assoc]; rfl, rfl⟩⟩
        rw [List.map_append, List.map_cons, List.map_nil, if_neg (by omega)]
      · rename_i c
        rw [IL_app]
        refine ⟨line60 (by omega), hk _ _ ⟨l, g ++ [p], _, rfl, ?_, by rw [← hg, List.append_assoc]; rfl, rfl⟩⟩
        rw [List.map_append, List.map_cons, List.map_nil, if_pos (by omega), Int.zero_sub]
def sp_law7 : FSpec := fun ds Q _ => ∃ o ns, ds = [.lst o (IL ns)] ∧ ns.length ≤ 63 ∧ Q (.bl true) []
theorem w_law7 {Γ : Sig} (hm : Γ.me = []) (H1 : Has Γ "_law_coil" [] sp_coil) (H2 : Has Γ "_law_draw" [true] sp_cdraw) (H3 : Has Γ "_law_pack" [true] sp_pack) (H4 : Has Γ "_law_stand" [true] sp_stand) (H5 : Has Γ "_law_rows" [true] sp_rows) (H6 : Has Γ "_law_right" [] sp_right7)
    (H7 : Has Γ "joined_turns" [] sp_joined_turns) (H8 : Has Γ "way_of" [] sp_way_of) (ds : List D) (Q : D → List D → Prop) (R : Exc → Prop) (h : sp_law7 ds Q R) : wpF Γ f_law_7 ds Q R := by
  obtain ⟨o, ns, rfl, hl, q⟩ := h
  simp only [wpF_eq, f_law_7, startE, hm, List.map_cons, List.map_nil, IL_len, z_get0, z_getS, z_borV, z_stillV, z_stillsV, z_stillsN, z_shareV, z_bor_con, z_still_con, z_stills_con, z_share_con, z_bor_glo, z_still_glo, z_stills_glo, z_share_glo, z_bor_bin, z_still_bin, z_stills_bin, z_share_bin, z_bor_neg, z_still_neg, z_stills_neg, z_share_neg, z_bor_nt, z_still_nt, z_stills_nt, z_share_nt, z_bor_bo, z_still_bo, z_stills_bo, z_share_bo, z_bor_cmp, z_still_cmp, z_stills_cmp, z_share_cmp, z_bor_chn, z_still_chn, z_stills_chn, z_share_chn, z_bor_ife, z_still_ife, z_stills_ife, z_share_ife, z_bor_call, z_still_call, z_stills_call, z_share_call, z_bor_calk, z_still_calk, z_stills_calk, z_share_calk, z_bor_bi, z_still_bi, z_stills_bi, z_share_bi, z_bor_isi, z_still_isi, z_stills_isi, z_share_isi, z_bor_sub, z_still_sub, z_stills_sub, z_share_sub, z_bor_slc, z_still_slc, z_stills_slc, z_share_slc, z_bor_rpr, z_still_rpr, z_stills_rpr, z_share_rpr, z_bor_tup, z_still_tup, z_stills_tup, z_share_tup, z_bor_lst, z_still_lst, z_stills_lst, z_share_lst, z_bor_lc, z_still_lc, z_stills_lc, z_share_lc, z_bor_mov, z_still_mov, z_stills_mov, z_share_mov, z_setNm, z_setTpT, z_setTpL, z_setsN, z_setsC, z_putN, z_putC, z_var, z_mov, z_con, z_glo, z_bin, z_neg, z_nt, z_bo, z_cmp, z_chn, z_ife, z_call, z_calk, z_bi, z_isi, z_sub, z_slc, z_tup, z_lst, z_rprL, z_rprT, z_lc, z_esN, z_esC, z_bsN, z_bsC, z_aN, z_aM, z_aF, z_aE, z_oN, z_oY, z_bo1, z_bo2, zt_nt, zt_bo, zt_cmp, zt_chn, zt_isi, zt_call, zt_var, zt_bi, zt_to1, zt_to2, zt_tsN, zt_ts1, i_ex, i_r1, i_r2, i_r3, i_zip, i_enum, i_rev, c_asg, c_par, c_pst, c_pag, c_aug, c_app, c_exp, c_ite, c_for, c_ret, c_rtn, c_brk, c_cnt, c_pas, c_nev, c_nil, c_cons, b_add, b_sub, b_mul, b_fdiv, b_mod, b_pow, b_shl, b_shr, b_cat, b_rep, a_add, a_sub, a_mul, a_mod, q_eqI, q_neI, q_eqS, q_neS, q_eqB, q_neB, q_eqNil, q_neNil, q_lt, q_le, q_gt, q_ge, q_is, q_isnt, r_bl, r_int, r_lst, r_tup, s_szL, s_szT, s_subL, s_subT, s_slcL, s_slcT, s_itL, s_itT, s_liL, n_lenL, n_lenT, n_abs, n_min2, n_max2, n_int, n_intB, n_listL, n_listT, n_tupL, n_strI, n_boolI, n_allL, n_anyL, n_sumL, f_non, f_bl, f_int, f_str, f_tup, f_lst, f_nil, f_cons, g_int, g_bl, g_non, g_str, g_lstF, g_tup, g_lstT, g_nil, g_cons, o_nil, o_0, o_1, z_cast0, z_cast1, z_cast2, z_cast3, z_cast4, z_cast5, z_cast6, z_cast7, z_cast8, z_cast9, z_cast10, z_cast11, z_cast12, l_ltl0, l_ltl1, l_ltl2, l_ltl3, l_ltl4, l_ltl5, l_ltl6, l_ltl7, l_ltl8, l_ltl9, l_ltl10, l_ltl11, l_ltl12, l_line0, l_line1, l_line2, l_line3, l_line4, l_line5, l_line6, l_line7, l_line8, l_line9, l_line10, l_line11, l_line12, k_NoneType_int, k_NoneType_bool, k_NoneType_str, k_NoneType_list, k_NoneType_tuple, k_NoneType_dict, k_bool_int, k_bool_bool, k_bool_str, k_bool_list, k_bool_tuple, k_bool_dict, k_int_int, k_int_bool, k_int_str, k_int_list, k_int_tuple, k_int_dict, k_str_int, k_str_bool, k_str_str, k_str_list, k_str_tuple, k_str_dict, k_tuple_int, k_tuple_bool, k_tuple_str, k_tuple_list, k_tuple_tuple, k_tuple_dict, k_list_int, k_list_bool, k_list_str, k_list_list, k_list_tuple, k_list_dict, z_at0, z_at1, z_at2, z_at3, z_at4, z_at5, z_at6, z_at7, z_at8, z_ix1_0, z_ix2_0, z_ix2_1, z_ix3_0, z_ix3_1, z_ix3_2, z_ix4_0, z_ix4_1, z_ix4_2, z_ix4_3, z_ix5_0, z_ix5_1, z_ix5_2, z_ix5_3, z_ix5_4, z_ix6_0, z_ix6_1, z_ix6_2, z_ix6_3, z_ix6_4, z_ix6_5, z_ix7_0, z_ix7_1, z_ix7_2, z_ix7_3, z_ix7_4, z_ix7_5, z_ix7_6, z_ix8_0, z_ix8_1, z_ix8_2, z_ix8_3, z_ix8_4, z_ix8_5, z_ix8_6, z_ix8_7, Bool.not_eq_true', decide_eq_false_iff_not, ite_not, Bool.false_eq_true, Int.reduceEq, wipeE, backE, IL_fz, IL_isFz, fz_fz, fzL_fzL, List.set_cons_zero, List.set_cons_succ, List.getElem?_cons_zero, List.getElem?_cons_succ, List.length_cons, List.length_nil, and_true, true_and, Bool.and_true, Bool.true_and, Bool.not_true, Bool.not_false, Bool.not_not, if_true, if_false, ite_true, ite_false, Option.map_some, Option.some.injEq, exists_eq_left, exists_eq_left', D.int.injEq, D.lst.injEq, D.bl.injEq, D.str.injEq, D.tup.injEq, List.cons_append, List.nil_append, List.not_mem_nil, not_false_eq_true, Bool.false_eq_true, List.all_cons, List.all_nil, reduceIte, reduceCtorEq, List.isEmpty_cons, List.isEmpty_nil, eq_self, decide_true, decide_false, Bool.if_true_left, exists_eq, exists_eq', decide_eq_true_eq, Int.reduceToNat, Int.reducePow, Int.reduceNeg, Int.reduceLT, Int.reduceLE, Int.reduceSub, Int.reduceAdd, and_false, false_and, List.mem_cons, or_false, false_or, exists_and_left, Nat.zero_add, ne_eq, not_true_eq_false, Nat.reduceAdd, Nat.reduceLT, Nat.reduceEqDiff, Nat.reduceLeDiff]
  have hr : ∃ N : Int, (if (if (ns.length : Int) < 8 then (ns.length : Int) else 8) > 1 then (if (ns.length : Int) < 8 then (ns.length : Int) else 8) else 1) = N ∧ 0 ≤ N ∧ N ≤ 8 := ⟨_, rfl, by split <;> split <;> omega, by split <;> split <;> omega⟩
  obtain ⟨N, hN, hN0, hN8⟩ := hr
  rw [hN]
  refine ⟨by omega, by omega, ?_⟩
  refine forDK (fun items e => ∃ (n m : Nat) (o' : Bool) (a b c g : Option D), items = rngD m n 1 ∧ m + n ≤ 8 ∧ e = [some (.lst o' (IL ns)), a, b, c, g, none]) ⟨N.toNat, 0, _, none, none, none, none, rfl, by omega, rfl⟩ ?_ ?_
  · rintro e ⟨n, m, o', a, b, c, g, hi, _, rfl⟩
    simp only [hm, H7.sp, H7.io, H8.sp, H8.io, z_get0, z_getS, z_borV, z_stillV, z_stillsV, z_stillsN, z_shareV, z_bor_con, z_still_con, z_stills_con, z_share_con, z_bor_glo, z_still_glo, z_stills_glo, z_share_glo, z_bor_bin, z_still_bin, z_stills_bin, z_share_bin, z_bor_neg, z_still_neg, z_stills_neg, z_share_neg, z_bor_nt, z_still_nt, z_stills_nt, z_share_nt, z_bor_bo, z_still_bo, z_stills_bo, z_share_bo, z_bor_cmp, z_still_cmp, z_stills_cmp, z_share_cmp, z_bor_chn, z_still_chn, z_stills_chn, z_share_chn, z_bor_ife, z_still_ife, z_stills_ife, z_share_ife, z_bor_call, z_still_call, z_stills_call, z_share_call, z_bor_calk, z_still_calk, z_stills_calk, z_share_calk, z_bor_bi, z_still_bi, z_stills_bi, z_share_bi, z_bor_isi, z_still_isi, z_stills_isi, z_share_isi, z_bor_sub, z_still_sub, z_stills_sub, z_share_sub, z_bor_slc, z_still_slc, z_stills_slc, z_share_slc, z_bor_rpr, z_still_rpr, z_stills_rpr, z_share_rpr, z_bor_tup, z_still_tup, z_stills_tup, z_share_tup, z_bor_lst, z_still_lst, z_stills_lst, z_share_lst, z_bor_lc, z_still_lc, z_stills_lc, z_share_lc, z_bor_mov, z_still_mov, z_stills_mov, z_share_mov, z_setNm, z_setTpT, z_setTpL, z_setsN, z_setsC, z_putN, z_putC, z_var, z_mov, z_con, z_glo, z_bin, z_neg, z_nt, z_bo, z_cmp, z_chn, z_ife, z_call, z_calk, z_bi, z_isi, z_sub, z_slc, z_tup, z_lst, z_rprL, z_rprT, z_lc, z_esN, z_esC, z_bsN, z_bsC, z_aN, z_aM, z_aF, z_aE, z_oN, z_oY, z_bo1, z_bo2, zt_nt, zt_bo, zt_cmp, zt_chn, zt_isi, zt_call, zt_var, zt_bi, zt_to1, zt_to2, zt_tsN, zt_ts1, i_ex, i_r1, i_r2, i_r3, i_zip, i_enum, i_rev, c_asg, c_par, c_pst, c_pag, c_aug, c_app, c_exp, c_ite, c_for, c_ret, c_rtn, c_brk, c_cnt, c_pas, c_nev, c_nil, c_cons, b_add, b_sub, b_mul, b_fdiv, b_mod, b_pow, b_shl, b_shr, b_cat, b_rep, a_add, a_sub, a_mul, a_mod, q_eqI, q_neI, q_eqS, q_neS, q_eqB, q_neB, q_eqNil, q_neNil, q_lt, q_le, q_gt, q_ge, q_is, q_isnt, r_bl, r_int, r_lst, r_tup, s_szL, s_szT, s_subL, s_subT, s_slcL, s_slcT, s_itL, s_itT, s_liL, n_lenL, n_lenT, n_abs, n_min2, n_max2, n_int, n_intB, n_listL, n_listT, n_tupL, n_strI, n_boolI, n_allL, n_anyL, n_sumL, f_non, f_bl, f_int, f_str, f_tup, f_lst, f_nil, f_cons, g_int, g_bl, g_non, g_str, g_lstF, g_tup, g_lstT, g_nil, g_cons, o_nil, o_0, o_1, z_cast0, z_cast1, z_cast2, z_cast3, z_cast4, z_cast5, z_cast6, z_cast7, z_cast8, z_cast9, z_cast10, z_cast11, z_cast12, l_ltl0, l_ltl1, l_ltl2, l_ltl3, l_ltl4, l_ltl5, l_ltl6, l_ltl7, l_ltl8, l_ltl9, l_ltl10, l_ltl11, l_ltl12, l_line0, l_line1, l_line2, l_line3, l_line4, l_line5, l_line6, l_line7, l_line8, l_line9, l_line10, l_line11, l_line12, k_NoneType_int, k_NoneType_bool, k_NoneType_str, k_NoneType_list, k_NoneType_tuple, k_NoneType_dict, k_bool_int, k_bool_bool, k_bool_str, k_bool_list, k_bool_tuple, k_bool_dict, k_int_int, k_int_bool, k_int_str, k_int_list, k_int_tuple, k_int_dict, k_str_int, k_str_bool, k_str_str, k_str_list, k_str_tuple, k_str_dict, k_tuple_int, k_tuple_bool, k_tuple_str, k_tuple_list, k_tuple_tuple, k_tuple_dict, k_list_int, k_list_bool, k_list_str, k_list_list, k_list_tuple, k_list_dict, z_at0, z_at1, z_at2, z_at3, z_at4, z_at5, z_at6, z_at7, z_at8, z_ix1_0, z_ix2_0, z_ix2_1, z_ix3_0, z_ix3_1, z_ix3_2, z_ix4_0, z_ix4_1, z_ix4_2, z_ix4_3, z_ix5_0, z_ix5_1, z_ix5_2, z_ix5_3, z_ix5_4, z_ix6_0, z_ix6_1, z_ix6_2, z_ix6_3, z_ix6_4, z_ix6_5, z_ix7_0, z_ix7_1, z_ix7_2, z_ix7_3, z_ix7_4, z_ix7_5, z_ix7_6, z_ix8_0, z_ix8_1, z_ix8_2, z_ix8_3, z_ix8_4, z_ix8_5, z_ix8_6, z_ix8_7, Bool.not_eq_true', decide_eq_false_iff_not, ite_not, Bool.false_eq_true, Int.reduceEq, wipeE, backE, IL_fz, IL_isFz, fz_fz, fzL_fzL, List.set_cons_zero, List.set_cons_succ, List.getElem?_cons_zero, List.getElem?_cons_succ, List.length_cons, List.length_nil, and_true, true_and, Bool.and_true, Bool.true_and, Bool.not_true, Bool.not_false, Bool.not_not, if_true, if_false, ite_true, ite_false, Option.map_some, Option.some.injEq, exists_eq_left, exists_eq_left', D.int.injEq, D.lst.injEq, D.bl.injEq, D.str.injEq, D.tup.injEq, List.cons_append, List.nil_append, List.not_mem_nil, not_false_eq_true, Bool.false_eq_true, List.all_cons, List.all_nil, reduceIte, reduceCtorEq, List.isEmpty_cons, List.isEmpty_nil, eq_self, decide_true, decide_false, Bool.if_true_left, exists_eq, exists_eq', decide_eq_true_eq, Int.reduceToNat, Int.reducePow, Int.reduceNeg, Int.reduceLT, Int.reduceLE, Int.reduceSub, Int.reduceAdd, and_false, false_and, List.mem_cons, or_false, false_or, exists_and_left, Nat.zero_add, ne_eq, not_true_eq_false, Nat.reduceAdd, Nat.reduceLT, Nat.reduceEqDiff, Nat.reduceLeDiff]
    refine ⟨_, [300, 5, -2, -3, 7], rfl, ⟨by decide, by decide⟩, rfl, ?_⟩
    refine ⟨_, [5, -5], rfl, ⟨by decide, by decide⟩, rfl, ?_⟩
    refine ⟨_, [], rfl, ⟨by decide, by decide⟩, rfl, ?_⟩
    refine ⟨_, [300, -100, 91], rfl, ⟨by decide, by decide⟩, rfl, ?_⟩
    rw [show joinJ [] [300, 5, -2, -3, 7] = [305, -5, 7] by decide, show joinJ [] [5, -5] = [5, -5] by decide, show joinJ [] [] = [] from rfl, show wayT [300, -100, 91] = 491 by decide]
    exact cmp_same rfl rfl q
  · rintro x0 xs e k bk ⟨n, m, o', a, b, c, g, hi, hn, rfl⟩ hk _
    cases n with
    | zero => cases hi
    | succ n =>
      rw [rng_cons] at hi
      obtain ⟨rfl, rfl⟩ := List.cons.inj hi
      simp only [f_law_7_b3, hm, H1.sp, H1.io, z_get0, z_getS, z_borV, z_stillV, z_stillsV, z_stillsN, z_shareV, z_bor_con, z_still_con, z_stills_con, z_share_con, z_bor_glo, z_still_glo, z_stills_glo, z_share_glo, z_bor_bin, z_still_bin, z_stills_bin, z_share_bin, z_bor_neg, z_still_neg, z_stills_neg, z_share_neg, z_bor_nt, z_still_nt, z_stills_nt, z_share_nt, z_bor_bo, z_still_bo, z_stills_bo, z_share_bo, z_bor_cmp, z_still_cmp, z_stills_cmp, z_share_cmp, z_bor_chn, z_still_chn, z_stills_chn, z_share_chn, z_bor_ife, z_still_ife, z_stills_ife, z_share_ife, z_bor_call, z_still_call, z_stills_call, z_share_call, z_bor_calk, z_still_calk, z_stills_calk, z_share_calk, z_bor_bi, z_still_bi, z_stills_bi, z_share_bi, z_bor_isi, z_still_isi, z_stills_isi, z_share_isi, z_bor_sub, z_still_sub, z_stills_sub, z_share_sub, z_bor_slc, z_still_slc, z_stills_slc, z_share_slc, z_bor_rpr, z_still_rpr, z_stills_rpr, z_share_rpr, z_bor_tup, z_still_tup, z_stills_tup, z_share_tup, z_bor_lst, z_still_lst, z_stills_lst, z_share_lst, z_bor_lc, z_still_lc, z_stills_lc, z_share_lc, z_bor_mov, z_still_mov, z_stills_mov, z_share_mov, z_setNm, z_setTpT, z_setTpL, z_setsN, z_setsC, z_putN, z_putC, z_var, z_mov, z_con, z_glo, z_bin, z_neg, z_nt, z_bo, z_cmp, z_chn, z_ife, z_call, z_calk, z_bi, z_isi, z_sub, z_slc, z_tup, z_lst, z_rprL, z_rprT, z_lc, z_esN, z_esC, z_bsN, z_bsC, z_aN, z_aM, z_aF, z_aE, z_oN, z_oY, z_bo1, z_bo2, zt_nt, zt_bo, zt_cmp, zt_chn, zt_isi, zt_call, zt_var, zt_bi, zt_to1, zt_to2, zt_tsN, zt_ts1, i_ex, i_r1, i_r2, i_r3, i_zip, i_enum, i_rev, c_asg, c_par, c_pst, c_pag, c_aug, c_app, c_exp, c_ite, c_for, c_ret, c_rtn, c_brk, c_cnt, c_pas, c_nev, c_nil, c_cons, b_add, b_sub, b_mul, b_fdiv, b_mod, b_pow, b_shl, b_shr, b_cat, b_rep, a_add, a_sub, a_mul, a_mod, q_eqI, q_neI, q_eqS, q_neS, q_eqB, q_neB, q_eqNil, q_neNil, q_lt, q_le, q_gt, q_ge, q_is, q_isnt, r_bl, r_int, r_lst, r_tup, s_szL, s_szT, s_subL, s_subT, s_slcL, s_slcT, s_itL, s_itT, s_liL, n_lenL, n_lenT, n_abs, n_min2, n_max2, n_int, n_intB, n_listL, n_listT, n_tupL, n_strI, n_boolI, n_allL, n_anyL, n_sumL, f_non, f_bl, f_int, f_str, f_tup, f_lst, f_nil, f_cons, g_int, g_bl, g_non, g_str, g_lstF, g_tup, g_lstT, g_nil, g_cons, o_nil, o_0, o_1, z_cast0, z_cast1, z_cast2, z_cast3, z_cast4, z_cast5, z_cast6, z_cast7, z_cast8, z_cast9, z_cast10, z_cast11, z_cast12, l_ltl0, l_ltl1, l_ltl2, l_ltl3, l_ltl4, l_ltl5, l_ltl6, l_ltl7, l_ltl8, l_ltl9, l_ltl10, l_ltl11, l_ltl12, l_line0, l_line1, l_line2, l_line3, l_line4, l_line5, l_line6, l_line7, l_line8, l_line9, l_line10, l_line11, l_line12, k_NoneType_int, k_NoneType_bool, k_NoneType_str, k_NoneType_list, k_NoneType_tuple, k_NoneType_dict, k_bool_int, k_bool_bool, k_bool_str, k_bool_list, k_bool_tuple, k_bool_dict, k_int_int, k_int_bool, k_int_str, k_int_list, k_int_tuple, k_int_dict, k_str_int, k_str_bool, k_str_str, k_str_list, k_str_tuple, k_str_dict, k_tuple_int, k_tuple_bool, k_tuple_str, k_tuple_list, k_tuple_tuple, k_tuple_dict, k_list_int, k_list_bool, k_list_str, k_list_list, k_list_tuple, k_list_dict, z_at0, z_at1, z_at2, z_at3, z_at4, z_at5, z_at6, z_at7, z_at8, z_ix1_0, z_ix2_0, z_ix2_1, z_ix3_0, z_ix3_1, z_ix3_2, z_ix4_0, z_ix4_1, z_ix4_2, z_ix4_3, z_ix5_0, z_ix5_1, z_ix5_2, z_ix5_3, z_ix5_4, z_ix6_0, z_ix6_1, z_ix6_2, z_ix6_3, z_ix6_4, z_ix6_5, z_ix7_0, z_ix7_1, z_ix7_2, z_ix7_3, z_ix7_4, z_ix7_5, z_ix7_6, z_ix8_0, z_ix8_1, z_ix8_2, z_ix8_3, z_ix8_4, z_ix8_5, z_ix8_6, z_ix8_7, Bool.not_eq_true', decide_eq_false_iff_not, ite_not, Bool.false_eq_true, Int.reduceEq, wipeE, backE, IL_fz, IL_isFz, fz_fz, fzL_fzL, List.set_cons_zero, List.set_cons_succ, List.getElem?_cons_zero, List.getElem?_cons_succ, List.length_cons, List.length_nil, and_true, true_and, Bool.and_true, Bool.true_and, Bool.not_true, Bool.not_false, Bool.not_not, if_true, if_false, ite_true, ite_false, Option.map_some, Option.some.injEq, exists_eq_left, exists_eq_left', D.int.injEq, D.lst.injEq, D.bl.injEq, D.str.injEq, D.tup.injEq, List.cons_append, List.nil_append, List.not_mem_nil, not_false_eq_true, Bool.false_eq_true, List.all_cons, List.all_nil, reduceIte, reduceCtorEq, List.isEmpty_cons, List.isEmpty_nil, eq_self, decide_true, decide_false, Bool.if_true_left, exists_eq, exists_eq', decide_eq_true_eq, Int.reduceToNat, Int.reducePow, Int.reduceNeg, Int.reduceLT, Int.reduceLE, Int.reduceSub, Int.reduceAdd, and_false, false_and, List.mem_cons, or_false, false_or, exists_and_left, Nat.zero_add, ne_eq, not_true_eq_false, Nat.reduceAdd, Nat.reduceLT, Nat.reduceEqDiff, Nat.reduceLeDiff]
      refine ⟨_, ns, _, rfl, by omega, by omega, fun y hy => ⟨rfl, ?_⟩⟩
      (try simp only [hm, z_get0, z_getS, z_borV, z_stillV, z_stillsV, z_stillsN, z_shareV, z_bor_con, z_still_con, z_stills_con, z_share_con, z_bor_glo, z_still_glo, z_stills_glo, z_share_glo, z_bor_bin, z_still_bin, z_stills_bin, z_share_bin, z_bor_neg, z_still_neg, z_stills_neg, z_share_neg, z_bor_nt, z_still_nt, z_stills_nt, z_share_nt, z_bor_bo, z_still_bo, z_stills_bo, z_share_bo, z_bor_cmp, z_still_cmp, z_stills_cmp, z_share_cmp, z_bor_chn, z_still_chn, z_stills_chn, z_share_chn, z_bor_ife, z_still_ife, z_stills_ife, z_share_ife, z_bor_call, z_still_call, z_stills_call, z_share_call, z_bor_calk, z_still_calk, z_stills_calk, z_share_calk, z_bor_bi, z_still_bi, z_stills_bi, z_share_bi, z_bor_isi, z_still_isi, z_stills_isi, z_share_isi, z_bor_sub, z_still_sub, z_stills_sub, z_share_sub, z_bor_slc, z_still_slc, z_stills_slc, z_share_slc, z_bor_rpr, z_still_rpr, z_stills_rpr, z_share_rpr, z_bor_tup, z_still_tup, z_stills_tup, z_share_tup, z_bor_lst, z_still_lst, z_stills_lst, z_share_lst, z_bor_lc, z_still_lc, z_stills_lc, z_share_lc, z_bor_mov, z_still_mov, z_stills_mov, z_share_mov, z_setNm, z_setTpT, z_setTpL, z_setsN, z_setsC, z_putN, z_putC, z_var, z_mov, z_con, z_glo, z_bin, z_neg, z_nt, z_bo, z_cmp, z_chn, z_ife, z_call, z_calk, z_bi, z_isi, z_sub, z_slc, z_tup, z_lst, z_rprL, z_rprT, z_lc, z_esN, z_esC, z_bsN, z_bsC, z_aN, z_aM, z_aF, z_aE, z_oN, z_oY, z_bo1, z_bo2, zt_nt, zt_bo, zt_cmp, zt_chn, zt_isi, zt_call, zt_var, zt_bi, zt_to1, zt_to2, zt_tsN, zt_ts1, i_ex, i_r1, i_r2, i_r3, i_zip, i_enum, i_rev, c_asg, c_par, c_pst, c_pag, c_aug, c_app, c_exp, c_ite, c_for, c_ret, c_rtn, c_brk, c_cnt, c_pas, c_nev, c_nil, c_cons, b_add, b_sub, b_mul, b_fdiv, b_mod, b_pow, b_shl, b_shr, b_cat, b_rep, a_add, a_sub, a_mul, a_mod, q_eqI, q_neI, q_eqS, q_neS, q_eqB, q_neB, q_eqNil, q_neNil, q_lt, q_le, q_gt, q_ge, q_is, q_isnt, r_bl, r_int, r_lst, r_tup, s_szL, s_szT, s_subL, s_subT, s_slcL, s_slcT, s_itL, s_itT, s_liL, n_lenL, n_lenT, n_abs, n_min2, n_max2, n_int, n_intB, n_listL, n_listT, n_tupL, n_strI, n_boolI, n_allL, n_anyL, n_sumL, f_non, f_bl, f_int, f_str, f_tup, f_lst, f_nil, f_cons, g_int, g_bl, g_non, g_str, g_lstF, g_tup, g_lstT, g_nil, g_cons, o_nil, o_0, o_1, z_cast0, z_cast1, z_cast2, z_cast3, z_cast4, z_cast5, z_cast6, z_cast7, z_cast8, z_cast9, z_cast10, z_cast11, z_cast12, l_ltl0, l_ltl1, l_ltl2, l_ltl3, l_ltl4, l_ltl5, l_ltl6, l_ltl7, l_ltl8, l_ltl9, l_ltl10, l_ltl11, l_ltl12, l_line0, l_line1, l_line2, l_line3, l_line4, l_line5, l_line6, l_line7, l_line8, l_line9, l_line10, l_line11, l_line12, k_NoneType_int, k_NoneType_bool, k_NoneType_str, k_NoneType_list, k_NoneType_tuple, k_NoneType_dict, k_bool_int, k_bool_bool, k_bool_str, k_bool_list, k_bool_tuple, k_bool_dict, k_int_int, k_int_bool, k_int_str, k_int_list, k_int_tuple, k_int_dict, k_str_int, k_str_bool, k_str_str, k_str_list, k_str_tuple, k_str_dict, k_tuple_int, k_tuple_bool, k_tuple_str, k_tuple_list, k_tuple_tuple, k_tuple_dict, k_list_int, k_list_bool, k_list_str, k_list_list, k_list_tuple, k_list_dict, z_at0, z_at1, z_at2, z_at3, z_at4, z_at5, z_at6, z_at7, z_at8, z_ix1_0, z_ix2_0, z_ix2_1, z_ix3_0, z_ix3_1, z_ix3_2, z_ix4_0, z_ix4_1, z_ix4_2, z_ix4_3, z_ix5_0, z_ix5_1, z_ix5_2, z_ix5_3, z_ix5_4, z_ix6_0, z_ix6_1, z_ix6_2, z_ix6_3, z_ix6_4, z_ix6_5, z_ix7_0, z_ix7_1, z_ix7_2, z_ix7_3, z_ix7_4, z_ix7_5, z_ix7_6, z_ix8_0, z_ix8_1, z_ix8_2, z_ix8_3, z_ix8_4, z_ix8_5, z_ix8_6, z_ix8_7, Bool.not_eq_true', decide_eq_false_iff_not, ite_not, Bool.false_eq_true, Int.reduceEq, wipeE, backE, IL_fz, IL_isFz, fz_fz, fzL_fzL, List.set_cons_zero, List.set_cons_succ, List.getElem?_cons_zero, List.getElem?_cons_succ, List.length_cons, List.length_nil, and_true, true_and, Bool.and_true, Bool.true_and, Bool.not_true, Bool.not_false, Bool.not_not, if_true, if_false, ite_true, ite_false, Option.map_some, Option.some.injEq, exists_eq_left, exists_eq_left', D.int.injEq, D.lst.injEq, D.bl.injEq, D.str.injEq, D.tup.injEq, List.cons_append, List.nil_append, List.not_mem_nil, not_false_eq_true, Bool.false_eq_true, List.all_cons, List.all_nil, reduceIte, reduceCtorEq, List.isEmpty_cons, List.isEmpty_nil, eq_self, decide_true, decide_false, Bool.if_true_left, exists_eq, exists_eq', decide_eq_true_eq, Int.reduceToNat, Int.reducePow, Int.reduceNeg, Int.reduceLT, Int.reduceLE, Int.reduceSub, Int.reduceAdd, and_false, false_and, List.mem_cons, or_false, false_or, exists_and_left, Nat.zero_add, ne_eq, not_true_eq_false, Nat.reduceAdd, Nat.reduceLT, Nat.reduceEqDiff, Nat.reduceLeDiff])
      refine forDK (fun items e => ∃ (n2 : Nat) (lo : Int) (x : D) (c g : Option D), items = rngD lo n2 1 ∧ n2 ≤ 4 ∧ Coil (1000 * (4 - n2)) x ∧ e = [some (.lst false (IL ns)), some (.int m), some x, c, g, none]) ⟨4, 0, y, _, _, rfl, by decide, by simpa using hy, rfl⟩ ?_ ?_
      · rintro e ⟨n2, lo, x, c, g, hi2, _, _, rfl⟩
        exact hk _ ⟨n, m + 1, _, _, _, _, _, by push_cast; rfl, by omega, rfl⟩
      · rintro x0 xs e k' bk' ⟨n2, lo, x, c, g, hi2, hn2, hx, rfl⟩ hk' _
        cases n2 with
        | zero => cases hi2
        | succ n2 =>
          rw [rng_cons] at hi2
          obtain ⟨rfl, rfl⟩ := List.cons.inj hi2
          simp only [f_law_7_b2, f_law_7_b1, hm, H2.sp, H2.io, H3.sp, H3.io, H4.sp, H4.io, H5.sp, H5.io, H6.sp, H6.io, z_get0, z_getS, z_borV, z_stillV, z_stillsV, z_stillsN, z_shareV, z_bor_con, z_still_con, z_stills_con, z_share_con, z_bor_glo, z_still_glo, z_stills_glo, z_share_glo, z_bor_bin, z_still_bin, z_stills_bin, z_share_bin, z_bor_neg, z_still_neg, z_stills_neg, z_share_neg, z_bor_nt, z_still_nt, z_stills_nt, z_share_nt, z_bor_bo, z_still_bo, z_stills_bo, z_share_bo, z_bor_cmp, z_still_cmp, z_stills_cmp, z_share_cmp, z_bor_chn, z_still_chn, z_stills_chn, z_share_chn, z_bor_ife, z_still_ife, z_stills_ife, z_share_ife, z_bor_call, z_still_call, z_stills_call, z_share_call, z_bor_calk, z_still_calk, z_stills_calk, z_share_calk, z_bor_bi, z_still_bi, z_stills_bi, z_share_bi, z_bor_isi, z_still_isi, z_stills_isi, z_share_isi, z_bor_sub, z_still_sub, z_stills_sub, z_share_sub, z_bor_slc, z_still_slc, z_stills_slc, z_share_slc, z_bor_rpr, z_still_rpr, z_stills_rpr, z_share_rpr, z_bor_tup, z_still_tup, z_stills_tup, z_share_tup, z_bor_lst, z_still_lst, z_stills_lst, z_share_lst, z_bor_lc, z_still_lc, z_stills_lc, z_share_lc, z_bor_mov, z_still_mov, z_stills_mov, z_share_mov, z_setNm, z_setTpT, z_setTpL, z_setsN, z_setsC, z_putN, z_putC, z_var, z_mov, z_con, z_glo, z_bin, z_neg, z_nt, z_bo, z_cmp, z_chn, z_ife, z_call, z_calk, z_bi, z_isi, z_sub, z_slc, z_tup, z_lst, z_rprL, z_rprT, z_lc, z_esN, z_esC, z_bsN, z_bsC, z_aN, z_aM, z_aF, z_aE, z_oN, z_oY, z_bo1, z_bo2, zt_nt, zt_bo, zt_cmp, zt_chn, zt_isi, zt_call, zt_var, zt_bi, zt_to1, zt_to2, zt_tsN, zt_ts1, i_ex, i_r1, i_r2, i_r3, i_zip, i_enum, i_rev, c_asg, c_par, c_pst, c_pag, c_aug, c_app, c_exp, c_ite, c_for, c_ret, c_rtn, c_brk, c_cnt, c_pas, c_nev, c_nil, c_cons, b_add, b_sub, b_mul, b_fdiv, b_mod, b_pow, b_shl, b_shr, b_cat, b_rep, a_add, a_sub, a_mul, a_mod, q_eqI, q_neI, q_eqS, q_neS, q_eqB, q_neB, q_eqNil, q_neNil, q_lt, q_le, q_gt, q_ge, q_is, q_isnt, r_bl, r_int, r_lst, r_tup, s_szL, s_szT, s_subL, s_subT, s_slcL, s_slcT, s_itL, s_itT, s_liL, n_lenL, n_lenT, n_abs, n_min2, n_max2, n_int, n_intB, n_listL, n_listT, n_tupL, n_strI, n_boolI, n_allL, n_anyL, n_sumL, f_non, f_bl, f_int, f_str, f_tup, f_lst, f_nil, f_cons, g_int, g_bl, g_non, g_str, g_lstF, g_tup, g_lstT, g_nil, g_cons, o_nil, o_0, o_1, z_cast0, z_cast1, z_cast2, z_cast3, z_cast4, z_cast5, z_cast6, z_cast7, z_cast8, z_cast9, z_cast10, z_cast11, z_cast12, l_ltl0, l_ltl1, l_ltl2, l_ltl3, l_ltl4, l_ltl5, l_ltl6, l_ltl7, l_ltl8, l_ltl9, l_ltl10, l_ltl11, l_ltl12, l_line0, l_line1, l_line2, l_line3, l_line4, l_line5, l_line6, l_line7, l_line8, l_line9, l_line10, l_line11, l_line12, k_NoneType_int, k_NoneType_bool, k_NoneType_str, k_NoneType_list, k_NoneType_tuple, k_NoneType_dict, k_bool_int, k_bool_bool, k_bool_str, k_bool_list, k_bool_tuple, k_bool_dict, k_int_int, k_int_bool, k_int_str, k_int_list, k_int_tuple, k_int_dict, k_str_int, k_str_bool, k_str_str, k_str_list, k_str_tuple, k_str_dict, k_tuple_int, k_tuple_bool, k_tuple_str, k_tuple_list, k_tuple_tuple, k_tuple_dict, k_list_int, k_list_bool, k_list_str, k_list_list, k_list_tuple, k_list_dict, z_at0, z_at1, z_at2, z_at3, z_at4, z_at5, z_at6, z_at7, z_at8, z_ix1_0, z_ix2_0, z_ix2_1, z_ix3_0, z_ix3_1, z_ix3_2, z_ix4_0, z_ix4_1, z_ix4_2, z_ix4_3, z_ix5_0, z_ix5_1, z_ix5_2, z_ix5_3, z_ix5_4, z_ix6_0, z_ix6_1, z_ix6_2, z_ix6_3, z_ix6_4, z_ix6_5, z_ix7_0, z_ix7_1, z_ix7_2, z_ix7_3, z_ix7_4, z_ix7_5, z_ix7_6, z_ix8_0, z_ix8_1, z_ix8_2, z_ix8_3, z_ix8_4, z_ix8_5, z_ix8_6, z_ix8_7, Bool.not_eq_true', decide_eq_false_iff_not, ite_not, Bool.false_eq_true, Int.reduceEq, wipeE, backE, IL_fz, IL_isFz, fz_fz, fzL_fzL, List.set_cons_zero, List.set_cons_succ, List.getElem?_cons_zero, List.getElem?_cons_succ, List.length_cons, List.length_nil, and_true, true_and, Bool.and_true, Bool.true_and, Bool.not_true, Bool.not_false, Bool.not_not, if_true, if_false, ite_true, ite_false, Option.map_some, Option.some.injEq, exists_eq_left, exists_eq_left', D.int.injEq, D.lst.injEq, D.bl.injEq, D.str.injEq, D.tup.injEq, List.cons_append, List.nil_append, List.not_mem_nil, not_false_eq_true, Bool.false_eq_true, List.all_cons, List.all_nil, reduceIte, reduceCtorEq, List.isEmpty_cons, List.isEmpty_nil, eq_self, decide_true, decide_false, Bool.if_true_left, exists_eq, exists_eq', decide_eq_true_eq, Int.reduceToNat, Int.reducePow, Int.reduceNeg, Int.reduceLT, Int.reduceLE, Int.reduceSub, Int.reduceAdd, and_false, false_and, List.mem_cons, or_false, false_or, exists_and_left, Nat.zero_add, ne_eq, not_true_eq_false, Nat.reduceAdd, Nat.reduceLT, Nat.reduceEqDiff, Nat.reduceLeDiff]
          refine ⟨pow_by 4 (by decide) (by decide) (by decide) (by decide), _, _, _, rfl, hx, by omega, by decide, by decide, fun r1 x1 a1 a2 k1 => ⟨rfl, ⟨_, rfl⟩, ?_⟩⟩
          obtain ⟨el, he, far, rfl, hf1, hf2⟩ := atI_in (P := fun (z : D) => ∃ v : Int, z = .int v ∧ 0 < v ∧ v < 10 ^ 35) (xs := [D.int 30, D.int 100000000000000000000000000]) a1 (by simpa using a2) (fun z hz => by
            simp only [List.mem_cons, List.not_mem_nil, or_false] at hz
            rcases hz with rfl | rfl
            · exact ⟨_, rfl, by omega, by omega⟩
            · exact ⟨_, rfl, by omega, by omega⟩)
          refine ⟨_, he, ?_⟩
          simp only [hm, H2.sp, H2.io, H3.sp, H3.io, H4.sp, H4.io, H5.sp, H5.io, H6.sp, H6.io, z_get0, z_getS, z_borV, z_stillV, z_stillsV, z_stillsN, z_shareV, z_bor_con, z_still_con, z_stills_con, z_share_con, z_bor_glo, z_still_glo, z_stills_glo, z_share_glo, z_bor_bin, z_still_bin, z_stills_bin, z_share_bin, z_bor_neg, z_still_neg, z_stills_neg, z_share_neg, z_bor_nt, z_still_nt, z_stills_nt, z_share_nt, z_bor_bo, z_still_bo, z_stills_bo, z_share_bo, z_bor_cmp, z_still_cmp, z_stills_cmp, z_share_cmp, z_bor_chn, z_still_chn, z_stills_chn, z_share_chn, z_bor_ife, z_still_ife, z_stills_ife, z_share_ife, z_bor_call, z_still_call, z_stills_call, z_share_call, z_bor_calk, z_still_calk, z_stills_calk, z_share_calk, z_bor_bi, z_still_bi, z_stills_bi, z_share_bi, z_bor_isi, z_still_isi, z_stills_isi, z_share_isi, z_bor_sub, z_still_sub, z_stills_sub, z_share_sub, z_bor_slc, z_still_slc, z_stills_slc, z_share_slc, z_bor_rpr, z_still_rpr, z_stills_rpr, z_share_rpr, z_bor_tup, z_still_tup, z_stills_tup, z_share_tup, z_bor_lst, z_still_lst, z_stills_lst, z_share_lst, z_bor_lc, z_still_lc, z_stills_lc, z_share_lc, z_bor_mov, z_still_mov, z_stills_mov, z_share_mov, z_setNm, z_setTpT, z_setTpL, z_setsN, z_setsC, z_putN, z_putC, z_var, z_mov, z_con, z_glo, z_bin, z_neg, z_nt, z_bo, z_cmp, z_chn, z_ife, z_call, z_calk, z_bi, z_isi, z_sub, z_slc, z_tup, z_lst, z_rprL, z_rprT, z_lc, z_esN, z_esC, z_bsN, z_bsC, z_aN, z_aM, z_aF, z_aE, z_oN, z_oY, z_bo1, z_bo2, zt_nt, zt_bo, zt_cmp, zt_chn, zt_isi, zt_call, zt_var, zt_bi, zt_to1, zt_to2, zt_tsN, zt_ts1, i_ex, i_r1, i_r2, i_r3, i_zip, i_enum, i_rev, c_asg, c_par, c_pst, c_pag, c_aug, c_app, c_exp, c_ite, c_for, c_ret, c_rtn, c_brk, c_cnt, c_pas, c_nev, c_nil, c_cons, b_add, b_sub, b_mul, b_fdiv, b_mod, b_pow, b_shl, b_shr, b_cat, b_rep, a_add, a_sub, a_mul, a_mod, q_eqI, q_neI, q_eqS, q_neS, q_eqB, q_neB, q_eqNil, q_neNil, q_lt, q_le, q_gt, q_ge, q_is, q_isnt, r_bl, r_int, r_lst, r_tup, s_szL, s_szT, s_subL, s_subT, s_slcL, s_slcT, s_itL, s_itT, s_liL, n_lenL, n_lenT, n_abs, n_min2, n_max2, n_int, n_intB, n_listL, n_listT, n_tupL, n_strI, n_boolI, n_allL, n_anyL, n_sumL, f_non, f_bl, f_int, f_str, f_tup, f_lst, f_nil, f_cons, g_int, g_bl, g_non, g_str, g_lstF, g_tup, g_lstT, g_nil, g_cons, o_nil, o_0, o_1, z_cast0, z_cast1, z_cast2, z_cast3, z_cast4, z_cast5, z_cast6, z_cast7, z_cast8, z_cast9, z_cast10, z_cast11, z_cast12, l_ltl0, l_ltl1, l_ltl2, l_ltl3, l_ltl4, l_ltl5, l_ltl6, l_ltl7, l_ltl8, l_ltl9, l_ltl10, l_ltl11, l_ltl12, l_line0, l_line1, l_line2, l_line3, l_line4, l_line5, l_line6, l_line7, l_line8, l_line9, l_line10, l_line11, l_line12, k_NoneType_int, k_NoneType_bool, k_NoneType_str, k_NoneType_list, k_NoneType_tuple, k_NoneType_dict, k_bool_int, k_bool_bool, k_bool_str, k_bool_list, k_bool_tuple, k_bool_dict, k_int_int, k_int_bool, k_int_str, k_int_list, k_int_tuple, k_int_dict, k_str_int, k_str_bool, k_str_str, k_str_list, k_str_tuple, k_str_dict, k_tuple_int, k_tuple_bool, k_tuple_str, k_tuple_list, k_tuple_tuple, k_tuple_dict, k_list_int, k_list_bool, k_list_str, k_list_list, k_list_tuple, k_list_dict, z_at0, z_at1, z_at2, z_at3, z_at4, z_at5, z_at6, z_at7, z_at8, z_ix1_0, z_ix2_0, z_ix2_1, z_ix3_0, z_ix3_1, z_ix3_2, z_ix4_0, z_ix4_1, z_ix4_2, z_ix4_3, z_ix5_0, z_ix5_1, z_ix5_2, z_ix5_3, z_ix5_4, z_ix6_0, z_ix6_1, z_ix6_2, z_ix6_3, z_ix6_4, z_ix6_5, z_ix7_0, z_ix7_1, z_ix7_2, z_ix7_3, z_ix7_4, z_ix7_5, z_ix7_6, z_ix8_0, z_ix8_1, z_ix8_2, z_ix8_3, z_ix8_4, z_ix8_5, z_ix8_6, z_ix8_7, Bool.not_eq_true', decide_eq_false_iff_not, ite_not, Bool.false_eq_true, Int.reduceEq, wipeE, backE, IL_fz, IL_isFz, fz_fz, fzL_fzL, List.set_cons_zero, List.set_cons_succ, List.getElem?_cons_zero, List.getElem?_cons_succ, List.length_cons, List.length_nil, and_true, true_and, Bool.and_true, Bool.true_and, Bool.not_true, Bool.not_false, Bool.not_not, if_true, if_false, ite_true, ite_false, Option.map_some, Option.some.injEq, exists_eq_left, exists_eq_left', D.int.injEq, D.lst.injEq, D.bl.injEq, D.str.injEq, D.tup.injEq, List.cons_append, List.nil_append, List.not_mem_nil, not_false_eq_true, Bool.false_eq_true, List.all_cons, List.all_nil, reduceIte, reduceCtorEq, List.isEmpty_cons, List.isEmpty_nil, eq_self, decide_true, decide_false, Bool.if_true_left, exists_eq, exists_eq', decide_eq_true_eq, Int.reduceToNat, Int.reducePow, Int.reduceNeg, Int.reduceLT, Int.reduceLE, Int.reduceSub, Int.reduceAdd, and_false, false_and, List.mem_cons, or_false, false_or, exists_and_left, Nat.zero_add, ne_eq, not_true_eq_false, Nat.reduceAdd, Nat.reduceLT, Nat.reduceEqDiff, Nat.reduceLeDiff]
          refine ⟨_, _, _, _, rfl, k1, by omega, by decide, by decide, hf1, hf2, fun rr qs y2 lk p1 p2 p3 k2 => ⟨rfl, ?_⟩⟩
          simp only [hm, H2.sp, H2.io, H3.sp, H3.io, H4.sp, H4.io, H5.sp, H5.io, H6.sp, H6.io, z_get0, z_getS, z_borV, z_stillV, z_stillsV, z_stillsN, z_shareV, z_bor_con, z_still_con, z_stills_con, z_share_con, z_bor_glo, z_still_glo, z_stills_glo, z_share_glo, z_bor_bin, z_still_bin, z_stills_bin, z_share_bin, z_bor_neg, z_still_neg, z_stills_neg, z_share_neg, z_bor_nt, z_still_nt, z_stills_nt, z_share_nt, z_bor_bo, z_still_bo, z_stills_bo, z_share_bo, z_bor_cmp, z_still_cmp, z_stills_cmp, z_share_cmp, z_bor_chn, z_still_chn, z_stills_chn, z_share_chn, z_bor_ife, z_still_ife, z_stills_ife, z_share_ife, z_bor_call, z_still_call, z_stills_call, z_share_call, z_bor_calk, z_still_calk, z_stills_calk, z_share_calk, z_bor_bi, z_still_bi, z_stills_bi, z_share_bi, z_bor_isi, z_still_isi, z_stills_isi, z_share_isi, z_bor_sub, z_still_sub, z_stills_sub, z_share_sub, z_bor_slc, z_still_slc, z_stills_slc, z_share_slc, z_bor_rpr, z_still_rpr, z_stills_rpr, z_share_rpr, z_bor_tup, z_still_tup, z_stills_tup, z_share_tup, z_bor_lst, z_still_lst, z_stills_lst, z_share_lst, z_bor_lc, z_still_lc, z_stills_lc, z_share_lc, z_bor_mov, z_still_mov, z_stills_mov, z_share_mov, z_setNm, z_setTpT, z_setTpL, z_setsN, z_setsC, z_putN, z_putC, z_var, z_mov, z_con, z_glo, z_bin, z_neg, z_nt, z_bo, z_cmp, z_chn, z_ife, z_call, z_calk, z_bi, z_isi, z_sub, z_slc, z_tup, z_lst, z_rprL, z_rprT, z_lc, z_esN, z_esC, z_bsN, z_bsC, z_aN, z_aM, z_aF, z_aE, z_oN, z_oY, z_bo1, z_bo2, zt_nt, zt_bo, zt_cmp, zt_chn, zt_isi, zt_call, zt_var, zt_bi, zt_to1, zt_to2, zt_tsN, zt_ts1, i_ex, i_r1, i_r2, i_r3, i_zip, i_enum, i_rev, c_asg, c_par, c_pst, c_pag, c_aug, c_app, c_exp, c_ite, c_for, c_ret, c_rtn, c_brk, c_cnt, c_pas, c_nev, c_nil, c_cons, b_add, b_sub, b_mul, b_fdiv, b_mod, b_pow, b_shl, b_shr, b_cat, b_rep, a_add, a_sub, a_mul, a_mod, q_eqI, q_neI, q_eqS, q_neS, q_eqB, q_neB, q_eqNil, q_neNil, q_lt, q_le, q_gt, q_ge, q_is, q_isnt, r_bl, r_int, r_lst, r_tup, s_szL, s_szT, s_subL, s_subT, s_slcL, s_slcT, s_itL, s_itT, s_liL, n_lenL, n_lenT, n_abs, n_min2, n_max2, n_int, n_intB, n_listL, n_listT, n_tupL, n_strI, n_boolI, n_allL, n_anyL, n_sumL, f_non, f_bl, f_int, f_str, f_tup, f_lst, f_nil, f_cons, g_int, g_bl, g_non, g_str, g_lstF, g_tup, g_lstT, g_nil, g_cons, o_nil, o_0, o_1, z_cast0, z_cast1, z_cast2, z_cast3, z_cast4, z_cast5, z_cast6, z_cast7, z_cast8, z_cast9, z_cast10, z_cast11, z_cast12, l_ltl0, l_ltl1, l_ltl2, l_ltl3, l_ltl4, l_ltl5, l_ltl6, l_ltl7, l_ltl8, l_ltl9, l_ltl10, l_ltl11, l_ltl12, l_line0, l_line1, l_line2, l_line3, l_line4, l_line5, l_line6, l_line7, l_line8, l_line9, l_line10, l_line11, l_line12, k_NoneType_int, k_NoneType_bool, k_NoneType_str, k_NoneType_list, k_NoneType_tuple, k_NoneType_dict, k_bool_int, k_bool_bool, k_bool_str, k_bool_list, k_bool_tuple, k_bool_dict, k_int_int, k_int_bool, k_int_str, k_int_list, k_int_tuple, k_int_dict, k_str_int, k_str_bool, k_str_str, k_str_list, k_str_tuple, k_str_dict, k_tuple_int, k_tuple_bool, k_tuple_str, k_tuple_list, k_tuple_tuple, k_tuple_dict, k_list_int, k_list_bool, k_list_str, k_list_list, k_list_tuple, k_list_dict, z_at0, z_at1, z_at2, z_at3, z_at4, z_at5, z_at6, z_at7, z_at8, z_ix1_0, z_ix2_0, z_ix2_1, z_ix3_0, z_ix3_1, z_ix3_2, z_ix4_0, z_ix4_1, z_ix4_2, z_ix4_3, z_ix5_0, z_ix5_1, z_ix5_2, z_ix5_3, z_ix5_4, z_ix6_0, z_ix6_1, z_ix6_2, z_ix6_3, z_ix6_4, z_ix6_5, z_ix7_0, z_ix7_1, z_ix7_2, z_ix7_3, z_ix7_4, z_ix7_5, z_ix7_6, z_ix8_0, z_ix8_1, z_ix8_2, z_ix8_3, z_ix8_4, z_ix8_5, z_ix8_6, z_ix8_7, Bool.not_eq_true', decide_eq_false_iff_not, ite_not, Bool.false_eq_true, Int.reduceEq, wipeE, backE, IL_fz, IL_isFz, fz_fz, fzL_fzL, List.set_cons_zero, List.set_cons_succ, List.getElem?_cons_zero, List.getElem?_cons_succ, List.length_cons, List.length_nil, and_true, true_and, Bool.and_true, Bool.true_and, Bool.not_true, Bool.not_false, Bool.not_not, if_true, if_false, ite_true, ite_false, Option.map_some, Option.some.injEq, exists_eq_left, exists_eq_left', D.int.injEq, D.lst.injEq, D.bl.injEq, D.str.injEq, D.tup.injEq, List.cons_append, List.nil_append, List.not_mem_nil, not_false_eq_true, Bool.false_eq_true, List.all_cons, List.all_nil, reduceIte, reduceCtorEq, List.isEmpty_cons, List.isEmpty_nil, eq_self, decide_true, decide_false, Bool.if_true_left, exists_eq, exists_eq', decide_eq_true_eq, Int.reduceToNat, Int.reducePow, Int.reduceNeg, Int.reduceLT, Int.reduceLE, Int.reduceSub, Int.reduceAdd, and_false, false_and, List.mem_cons, or_false, false_or, exists_and_left, Nat.zero_add, ne_eq, not_true_eq_false, Nat.reduceAdd, Nat.reduceLT, Nat.reduceEqDiff, Nat.reduceLeDiff]
          refine ⟨pow_by 4 (by decide) (by decide) (by decide) (by decide), _, _, _, qs, _, rfl, k2, by omega, lk.2.2.1, fun p hp => ⟨lk.2.2.2 p hp, p1 p hp⟩, by decide, by decide, fun dd ps y3 hch d1 d2 k3 => ⟨rfl, ?_⟩⟩
          simp only [hm, H2.sp, H2.io, H3.sp, H3.io, H4.sp, H4.io, H5.sp, H5.io, H6.sp, H6.io, z_get0, z_getS, z_borV, z_stillV, z_stillsV, z_stillsN, z_shareV, z_bor_con, z_still_con, z_stills_con, z_share_con, z_bor_glo, z_still_glo, z_stills_glo, z_share_glo, z_bor_bin, z_still_bin, z_stills_bin, z_share_bin, z_bor_neg, z_still_neg, z_stills_neg, z_share_neg, z_bor_nt, z_still_nt, z_stills_nt, z_share_nt, z_bor_bo, z_still_bo, z_stills_bo, z_share_bo, z_bor_cmp, z_still_cmp, z_stills_cmp, z_share_cmp, z_bor_chn, z_still_chn, z_stills_chn, z_share_chn, z_bor_ife, z_still_ife, z_stills_ife, z_share_ife, z_bor_call, z_still_call, z_stills_call, z_share_call, z_bor_calk, z_still_calk, z_stills_calk, z_share_calk, z_bor_bi, z_still_bi, z_stills_bi, z_share_bi, z_bor_isi, z_still_isi, z_stills_isi, z_share_isi, z_bor_sub, z_still_sub, z_stills_sub, z_share_sub, z_bor_slc, z_still_slc, z_stills_slc, z_share_slc, z_bor_rpr, z_still_rpr, z_stills_rpr, z_share_rpr, z_bor_tup, z_still_tup, z_stills_tup, z_share_tup, z_bor_lst, z_still_lst, z_stills_lst, z_share_lst, z_bor_lc, z_still_lc, z_stills_lc, z_share_lc, z_bor_mov, z_still_mov, z_stills_mov, z_share_mov, z_setNm, z_setTpT, z_setTpL, z_setsN, z_setsC, z_putN, z_putC, z_var, z_mov, z_con, z_glo, z_bin, z_neg, z_nt, z_bo, z_cmp, z_chn, z_ife, z_call, z_calk, z_bi, z_isi, z_sub, z_slc, z_tup, z_lst, z_rprL, z_rprT, z_lc, z_esN, z_esC, z_bsN, z_bsC, z_aN, z_aM, z_aF, z_aE, z_oN, z_oY, z_bo1, z_bo2, zt_nt, zt_bo, zt_cmp, zt_chn, zt_isi, zt_call, zt_var, zt_bi, zt_to1, zt_to2, zt_tsN, zt_ts1, i_ex, i_r1, i_r2, i_r3, i_zip, i_enum, i_rev, c_asg, c_par, c_pst, c_pag, c_aug, c_app, c_exp, c_ite, c_for, c_ret, c_rtn, c_brk, c_cnt, c_pas, c_nev, c_nil, c_cons, b_add, b_sub, b_mul, b_fdiv, b_mod, b_pow, b_shl, b_shr, b_cat, b_rep, a_add, a_sub, a_mul, a_mod, q_eqI, q_neI, q_eqS, q_neS, q_eqB, q_neB, q_eqNil, q_neNil, q_lt, q_le, q_gt, q_ge, q_is, q_isnt, r_bl, r_int, r_lst, r_tup, s_szL, s_szT, s_subL, s_subT, s_slcL, s_slcT, s_itL, s_itT, s_liL, n_lenL, n_lenT, n_abs, n_min2, n_max2, n_int, n_intB, n_listL, n_listT, n_tupL, n_strI, n_boolI, n_allL, n_anyL, n_sumL, f_non, f_bl, f_int, f_str, f_tup, f_lst, f_nil, f_cons, g_int, g_bl, g_non, g_str, g_lstF, g_tup, g_lstT, g_nil, g_cons, o_nil, o_0, o_1, z_cast0, z_cast1, z_cast2, z_cast3, z_cast4, z_cast5, z_cast6, z_cast7, z_cast8, z_cast9, z_cast10, z_cast11, z_cast12, l_ltl0, l_ltl1, l_ltl2, l_ltl3, l_ltl4, l_ltl5, l_ltl6, l_ltl7, l_ltl8, l_ltl9, l_ltl10, l_ltl11, l_ltl12, l_line0, l_line1, l_line2, l_line3, l_line4, l_line5, l_line6, l_line7, l_line8, l_line9, l_line10, l_line11, l_line12, k_NoneType_int, k_NoneType_bool, k_NoneType_str, k_NoneType_list, k_NoneType_tuple, k_NoneType_dict, k_bool_int, k_bool_bool, k_bool_str, k_bool_list, k_bool_tuple, k_bool_dict, k_int_int, k_int_bool, k_int_str, k_int_list, k_int_tuple, k_int_dict, k_str_int, k_str_bool, k_str_str, k_str_list, k_str_tuple, k_str_dict, k_tuple_int, k_tuple_bool, k_tuple_str, k_tuple_list, k_tuple_tuple, k_tuple_dict, k_list_int, k_list_bool, k_list_str, k_list_list, k_list_tuple, k_list_dict, z_at0, z_at1, z_at2, z_at3, z_at4, z_at5, z_at6, z_at7, z_at8, z_ix1_0, z_ix2_0, z_ix2_1, z_ix3_0, z_ix3_1, z_ix3_2, z_ix4_0, z_ix4_1, z_ix4_2, z_ix4_3, z_ix5_0, z_ix5_1, z_ix5_2, z_ix5_3, z_ix5_4, z_ix6_0, z_ix6_1, z_ix6_2, z_ix6_3, z_ix6_4, z_ix6_5, z_ix7_0, z_ix7_1, z_ix7_2, z_ix7_3, z_ix7_4, z_ix7_5, z_ix7_6, z_ix8_0, z_ix8_1, z_ix8_2, z_ix8_3, z_ix8_4, z_ix8_5, z_ix8_6, z_ix8_7, Bool.not_eq_true', decide_eq_false_iff_not, ite_not, Bool.false_eq_true, Int.reduceEq, wipeE, backE, IL_fz, IL_isFz, fz_fz, fzL_fzL, List.set_cons_zero, List.set_cons_succ, List.getElem?_cons_zero, List.getElem?_cons_succ, List.length_cons, List.length_nil, and_true, true_and, Bool.and_true, Bool.true_and, Bool.not_true, Bool.not_false, Bool.not_not, if_true, if_false, ite_true, ite_false, Option.map_some, Option.some.injEq, exists_eq_left, exists_eq_left', D.int.injEq, D.lst.injEq, D.bl.injEq, D.str.injEq, D.tup.injEq, List.cons_append, List.nil_append, List.not_mem_nil, not_false_eq_true, Bool.false_eq_true, List.all_cons, List.all_nil, reduceIte, reduceCtorEq, List.isEmpty_cons, List.isEmpty_nil, eq_self, decide_true, decide_false, Bool.if_true_left, exists_eq, exists_eq', decide_eq_true_eq, Int.reduceToNat, Int.reducePow, Int.reduceNeg, Int.reduceLT, Int.reduceLE, Int.reduceSub, Int.reduceAdd, and_false, false_and, List.mem_cons, or_false, false_or, exists_and_left, Nat.zero_add, ne_eq, not_true_eq_false, Nat.reduceAdd, Nat.reduceLT, Nat.reduceEqDiff, Nat.reduceLeDiff]
          refine ⟨_, _, rfl, k3, by omega, fun ts y4 tu tb k4 => ⟨rfl, ?_⟩⟩
          simp only [hm, H2.sp, H2.io, H3.sp, H3.io, H4.sp, H4.io, H5.sp, H5.io, H6.sp, H6.io, z_get0, z_getS, z_borV, z_stillV, z_stillsV, z_stillsN, z_shareV, z_bor_con, z_still_con, z_stills_con, z_share_con, z_bor_glo, z_still_glo, z_stills_glo, z_share_glo, z_bor_bin, z_still_bin, z_stills_bin, z_share_bin, z_bor_neg, z_still_neg, z_stills_neg, z_share_neg, z_bor_nt, z_still_nt, z_stills_nt, z_share_nt, z_bor_bo, z_still_bo, z_stills_bo, z_share_bo, z_bor_cmp, z_still_cmp, z_stills_cmp, z_share_cmp, z_bor_chn, z_still_chn, z_stills_chn, z_share_chn, z_bor_ife, z_still_ife, z_stills_ife, z_share_ife, z_bor_call, z_still_call, z_stills_call, z_share_call, z_bor_calk, z_still_calk, z_stills_calk, z_share_calk, z_bor_bi, z_still_bi, z_stills_bi, z_share_bi, z_bor_isi, z_still_isi, z_stills_isi, z_share_isi, z_bor_sub, z_still_sub, z_stills_sub, z_share_sub, z_bor_slc, z_still_slc, z_stills_slc, z_share_slc, z_bor_rpr, z_still_rpr, z_stills_rpr, z_share_rpr, z_bor_tup, z_still_tup, z_stills_tup, z_share_tup, z_bor_lst, z_still_lst, z_stills_lst, z_share_lst, z_bor_lc, z_still_lc, z_stills_lc, z_share_lc, z_bor_mov, z_still_mov, z_stills_mov, z_share_mov, z_setNm, z_setTpT, z_setTpL, z_setsN, z_setsC, z_putN, z_putC, z_var, z_mov, z_con, z_glo, z_bin, z_neg, z_nt, z_bo, z_cmp, z_chn, z_ife, z_call, z_calk, z_bi, z_isi, z_sub, z_slc, z_tup, z_lst, z_rprL, z_rprT, z_lc, z_esN, z_esC, z_bsN, z_bsC, z_aN, z_aM, z_aF, z_aE, z_oN, z_oY, z_bo1, z_bo2, zt_nt, zt_bo, zt_cmp, zt_chn, zt_isi, zt_call, zt_var, zt_bi, zt_to1, zt_to2, zt_tsN, zt_ts1, i_ex, i_r1, i_r2, i_r3, i_zip, i_enum, i_rev, c_asg, c_par, c_pst, c_pag, c_aug, c_app, c_exp, c_ite, c_for, c_ret, c_rtn, c_brk, c_cnt, c_pas, c_nev, c_nil, c_cons, b_add, b_sub, b_mul, b_fdiv, b_mod, b_pow, b_shl, b_shr, b_cat, b_rep, a_add, a_sub, a_mul, a_mod, q_eqI, q_neI, q_eqS, q_neS, q_eqB, q_neB, q_eqNil, q_neNil, q_lt, q_le, q_gt, q_ge, q_is, q_isnt, r_bl, r_int, r_lst, r_tup, s_szL, s_szT, s_subL, s_subT, s_slcL, s_slcT, s_itL, s_itT, s_liL, n_lenL, n_lenT, n_abs, n_min2, n_max2, n_int, n_intB, n_listL, n_listT, n_tupL, n_strI, n_boolI, n_allL, n_anyL, n_sumL, f_non, f_bl, f_int, f_str, f_tup, f_lst, f_nil, f_cons, g_int, g_bl, g_non, g_str, g_lstF, g_tup, g_lstT, g_nil, g_cons, o_nil, o_0, o_1, z_cast0, z_cast1, z_cast2, z_cast3, z_cast4, z_cast5, z_cast6, z_cast7, z_cast8, z_cast9, z_cast10, z_cast11, z_cast12, l_ltl0, l_ltl1, l_ltl2, l_ltl3, l_ltl4, l_ltl5, l_ltl6, l_ltl7, l_ltl8, l_ltl9, l_ltl10, l_ltl11, l_ltl12, l_line0, l_line1, l_line2, l_line3, l_line4, l_line5, l_line6, l_line7, l_line8, l_line9, l_line10, l_line11, l_line12, k_NoneType_int, k_NoneType_bool, k_NoneType_str, k_NoneType_list, k_NoneType_tuple, k_NoneType_dict, k_bool_int, k_bool_bool, k_bool_str, k_bool_list, k_bool_tuple, k_bool_dict, k_int_int, k_int_bool, k_int_str, k_int_list, k_int_tuple, k_int_dict, k_str_int, k_str_bool, k_str_str, k_str_list, k_str_tuple, k_str_dict, k_tuple_int, k_tuple_bool, k_tuple_str, k_tuple_list, k_tuple_tuple, k_tuple_dict, k_list_int, k_list_bool, k_list_str, k_list_list, k_list_tuple, k_list_dict, z_at0, z_at1, z_at2, z_at3, z_at4, z_at5, z_at6, z_at7, z_at8, z_ix1_0, z_ix2_0, z_ix2_1, z_ix3_0, z_ix3_1, z_ix3_2, z_ix4_0, z_ix4_1, z_ix4_2, z_ix4_3, z_ix5_0, z_ix5_1, z_ix5_2, z_ix5_3, z_ix5_4, z_ix6_0, z_ix6_1, z_ix6_2, z_ix6_3, z_ix6_4, z_ix6_5, z_ix7_0, z_ix7_1, z_ix7_2, z_ix7_3, z_ix7_4, z_ix7_5, z_ix7_6, z_ix8_0, z_ix8_1, z_ix8_2, z_ix8_3, z_ix8_4, z_ix8_5, z_ix8_6, z_ix8_7, Bool.not_eq_true', decide_eq_false_iff_not, ite_not, Bool.false_eq_true, Int.reduceEq, wipeE, backE, IL_fz, IL_isFz, fz_fz, fzL_fzL, List.set_cons_zero, List.set_cons_succ, List.getElem?_cons_zero, List.getElem?_cons_succ, List.length_cons, List.length_nil, and_true, true_and, Bool.and_true, Bool.true_and, Bool.not_true, Bool.not_false, Bool.not_not, if_true, if_false, ite_true, ite_false, Option.map_some, Option.some.injEq, exists_eq_left, exists_eq_left', D.int.injEq, D.lst.injEq, D.bl.injEq, D.str.injEq, D.tup.injEq, List.cons_append, List.nil_append, List.not_mem_nil, not_false_eq_true, Bool.false_eq_true, List.all_cons, List.all_nil, reduceIte, reduceCtorEq, List.isEmpty_cons, List.isEmpty_nil, eq_self, decide_true, decide_false, Bool.if_true_left, exists_eq, exists_eq', decide_eq_true_eq, Int.reduceToNat, Int.reducePow, Int.reduceNeg, Int.reduceLT, Int.reduceLE, Int.reduceSub, Int.reduceAdd, and_false, false_and, List.mem_cons, or_false, false_or, exists_and_left, Nat.zero_add, ne_eq, not_true_eq_false, Nat.reduceAdd, Nat.reduceLT, Nat.reduceEqDiff, Nat.reduceLeDiff]
          refine ⟨_, qs, _, ps, _, ts, rfl, lk, hch, tu, tb, rfl, ?_⟩
          simp only [hm, z_get0, z_getS, z_borV, z_stillV, z_stillsV, z_stillsN, z_shareV, z_bor_con, z_still_con, z_stills_con, z_share_con, z_bor_glo, z_still_glo, z_stills_glo, z_share_glo, z_bor_bin, z_still_bin, z_stills_bin, z_share_bin, z_bor_neg, z_still_neg, z_stills_neg, z_share_neg, z_bor_nt, z_still_nt, z_stills_nt, z_share_nt, z_bor_bo, z_still_bo, z_stills_bo, z_share_bo, z_bor_cmp, z_still_cmp, z_stills_cmp, z_share_cmp, z_bor_chn, z_still_chn, z_stills_chn, z_share_chn, z_bor_ife, z_still_ife, z_stills_ife, z_share_ife, z_bor_call, z_still_call, z_stills_call, z_share_call, z_bor_calk, z_still_calk, z_stills_calk, z_share_calk, z_bor_bi, z_still_bi, z_stills_bi, z_share_bi, z_bor_isi, z_still_isi, z_stills_isi, z_share_isi, z_bor_sub, z_still_sub, z_stills_sub, z_share_sub, z_bor_slc, z_still_slc, z_stills_slc, z_share_slc, z_bor_rpr, z_still_rpr, z_stills_rpr, z_share_rpr, z_bor_tup, z_still_tup, z_stills_tup, z_share_tup, z_bor_lst, z_still_lst, z_stills_lst, z_share_lst, z_bor_lc, z_still_lc, z_stills_lc, z_share_lc, z_bor_mov, z_still_mov, z_stills_mov, z_share_mov, z_setNm, z_setTpT, z_setTpL, z_setsN, z_setsC, z_putN, z_putC, z_var, z_mov, z_con, z_glo, z_bin, z_neg, z_nt, z_bo, z_cmp, z_chn, z_ife, z_call, z_calk, z_bi, z_isi, z_sub, z_slc, z_tup, z_lst, z_rprL, z_rprT, z_lc, z_esN, z_esC, z_bsN, z_bsC, z_aN, z_aM, z_aF, z_aE, z_oN, z_oY, z_bo1, z_bo2, zt_nt, zt_bo, zt_cmp, zt_chn, zt_isi, zt_call, zt_var, zt_bi, zt_to1, zt_to2, zt_tsN, zt_ts1, i_ex, i_r1, i_r2, i_r3, i_zip, i_enum, i_rev, c_asg, c_par, c_pst, c_pag, c_aug, c_app, c_exp, c_ite, c_for, c_ret, c_rtn, c_brk, c_cnt, c_pas, c_nev, c_nil, c_cons, b_add, b_sub, b_mul, b_fdiv, b_mod, b_pow, b_shl, b_shr, b_cat, b_rep, a_add, a_sub, a_mul, a_mod, q_eqI, q_neI, q_eqS, q_neS, q_eqB, q_neB, q_eqNil, q_neNil, q_lt, q_le, q_gt, q_ge, q_is, q_isnt, r_bl, r_int, r_lst, r_tup, s_szL, s_szT, s_subL, s_subT, s_slcL, s_slcT, s_itL, s_itT, s_liL, n_lenL, n_lenT, n_abs, n_min2, n_max2, n_int, n_intB, n_listL, n_listT, n_tupL, n_strI, n_boolI, n_allL, n_anyL, n_sumL, f_non, f_bl, f_int, f_str, f_tup, f_lst, f_nil, f_cons, g_int, g_bl, g_non, g_str, g_lstF, g_tup, g_lstT, g_nil, g_cons, o_nil, o_0, o_1, z_cast0, z_cast1, z_cast2, z_cast3, z_cast4, z_cast5, z_cast6, z_cast7, z_cast8, z_cast9, z_cast10, z_cast11, z_cast12, l_ltl0, l_ltl1, l_ltl2, l_ltl3, l_ltl4, l_ltl5, l_ltl6, l_ltl7, l_ltl8, l_ltl9, l_ltl10, l_ltl11, l_ltl12, l_line0, l_line1, l_line2, l_line3, l_line4, l_line5, l_line6, l_line7, l_line8, l_line9, l_line10, l_line11, l_line12, k_NoneType_int, k_NoneType_bool, k_NoneType_str, k_NoneType_list, k_NoneType_tuple, k_NoneType_dict, k_bool_int, k_bool_bool, k_bool_str, k_bool_list, k_bool_tuple, k_bool_dict, k_int_int, k_int_bool, k_int_str, k_int_list, k_int_tuple, k_int_dict, k_str_int, k_str_bool, k_str_str, k_str_list, k_str_tuple, k_str_dict, k_tuple_int, k_tuple_bool, k_tuple_str, k_tuple_list, k_tuple_tuple, k_tuple_dict, k_list_int, k_list_bool, k_list_str, k_list_list, k_list_tuple, k_list_dict, z_at0, z_at1, z_at2, z_at3, z_at4, z_at5, z_at6, z_at7, z_at8, z_ix1_0, z_ix2_0, z_ix2_1, z_ix3_0, z_ix3_1, z_ix3_2, z_ix4_0, z_ix4_1, z_ix4_2, z_ix4_3, z_ix5_0, z_ix5_1, z_ix5_2, z_ix5_3, z_ix5_4, z_ix6_0, z_ix6_1, z_ix6_2, z_ix6_3, z_ix6_4, z_ix6_5, z_ix7_0, z_ix7_1, z_ix7_2, z_ix7_3, z_ix7_4, z_ix7_5, z_ix7_6, z_ix8_0, z_ix8_1, z_ix8_2, z_ix8_3, z_ix8_4, z_ix8_5, z_ix8_6, z_ix8_7, Bool.not_eq_true', decide_eq_false_iff_not, ite_not, Bool.false_eq_true, Int.reduceEq, wipeE, backE, IL_fz, IL_isFz, fz_fz, fzL_fzL, List.set_cons_zero, List.set_cons_succ, List.getElem?_cons_zero, List.getElem?_cons_succ, List.length_cons, List.length_nil, and_true, true_and, Bool.and_true, Bool.true_and, Bool.not_true, Bool.not_false, Bool.not_not, if_true, if_false, ite_true, ite_false, Option.map_some, Option.some.injEq, exists_eq_left, exists_eq_left', D.int.injEq, D.lst.injEq, D.bl.injEq, D.str.injEq, D.tup.injEq, List.cons_append, List.nil_append, List.not_mem_nil, not_false_eq_true, Bool.false_eq_true, List.all_cons, List.all_nil, reduceIte, reduceCtorEq, List.isEmpty_cons, List.isEmpty_nil, eq_self, decide_true, decide_false, Bool.if_true_left, exists_eq, exists_eq', decide_eq_true_eq, Int.reduceToNat, Int.reducePow, Int.reduceNeg, Int.reduceLT, Int.reduceLE, Int.reduceSub, Int.reduceAdd, and_false, false_and, List.mem_cons, or_false, false_or, exists_and_left, Nat.zero_add, ne_eq, not_true_eq_false, Nat.reduceAdd, Nat.reduceLT, Nat.reduceEqDiff, Nat.reduceLeDiff]
          exact hk' _ ⟨n2, _, _, _, _, rfl, by omega, k4.mono (by push_cast; omega), rfl⟩

end DP
namespace DP
open PySem (Addr Value Shared Str Stmt Scope World Program mainGlobals)
def top (i : Nat) : Stmt := PySem.Challenge.pw_dialpack_k07_ways_and_joined_turns.main.body.getD i (.Pass ⟨0, 0, 0, 0⟩)
def glL : List (String × D) := [("MOST_TURNS", .int 60), ("MOST_WHEELS", .int 8)]
def e_is_integer : Ent := { nm := "is_integer", ps := ["value"], ios := [], sp := sp_is_integer, kws := [] }
def e_turns_fault : Ent := { nm := "turns_fault", ps := ["value"], ios := [], sp := sp_turns_fault, kws := [] }
def e_require_turns : Ent := { nm := "require_turns", ps := ["turns"], ios := [], sp := sp_require_turns, kws := [] }
def e_way_of : Ent := { nm := "way_of", ps := ["turns"], ios := [], sp := sp_way_of, kws := [(0, ["turns"])] }
def e_joined_turns : Ent := { nm := "joined_turns", ps := ["turns"], ios := [], sp := sp_joined_turns, kws := [(0, ["turns"])] }
def e__law_coil : Ent := { nm := "_law_coil", ps := ["script", "at"], ios := [], sp := sp_coil, kws := [] }
def e__law_draw : Ent := { nm := "_law_draw", ps := ["coil", "bound"], ios := [true], sp := sp_cdraw, kws := [] }
def e__law_pack : Ent := { nm := "_law_pack", ps := ["coil", "most", "far"], ios := [true], sp := sp_pack, kws := [] }
def e__law_stand : Ent := { nm := "_law_stand", ps := ["coil", "pack", "far"], ios := [true], sp := sp_stand, kws := [] }
def e__law_rows : Ent := { nm := "_law_rows", ps := ["coil"], ios := [true], sp := sp_rows, kws := [] }
def e_is_at_least : Ent := { nm := "is_at_least", ps := ["value", "least"], ios := [], sp := sp_is_at_least, kws := [] }
def e_lock_fault : Ent := { nm := "lock_fault", ps := ["value"], ios := [], sp := sp_lock_fault, kws := [] }
def e_require_lock : Ent := { nm := "require_lock", ps := ["lock"], ios := [], sp := sp_require_lock, kws := [] }
def e_places_right : Ent := { nm := "places_right", ps := ["plays", "dial", "places"], ios := [], sp := sp_places_right, kws := [] }
def e_state_fault : Ent := { nm := "state_fault", ps := ["lock", "value"], ios := [], sp := sp_state_fault, kws := [] }
def e_require_state : Ent := { nm := "require_state", ps := ["lock", "state"], ios := [], sp := sp_require_state, kws := [] }
def e_wheel_reaches : Ent := { nm := "wheel_reaches", ps := ["lock"], ios := [], sp := sp_wheel_reaches, kws := [] }
def e_held_place : Ent := { nm := "held_place", ps := ["place", "dial", "reach"], ios := [], sp := sp_held_place, kws := [] }
def e_state_behind : Ent := { nm := "state_behind", ps := ["lock", "state", "turns"], ios := [], sp := sp_state_behind, kws := [] }
def e_turned_state : Ent := { nm := "turned_state", ps := ["lock", "state", "turns"], ios := [], sp := sp_turned_state, kws := [] }
def e__law_due : Ent := { nm := "_law_due", ps := ["swings"], ios := [], sp := sp_due, kws := [] }
def e__law_right : Ent := { nm := "_law_right", ps := ["pack", "stand", "swings"], ios := [], sp := sp_right7, kws := [] }
theorem dok_is_integer : dokB [] glL [] [] f_is_integer [] (top 8) = true := by decide +kernel
theorem bp_is_integer : BindPos (PySem.Str.ofString "is_integer") (top 8) (f_is_integer.ps.map PySem.Str.ofString) := fun _ _ _ _ _ _ us hl => match us, hl with | [_], _ => rfl
theorem spec_is_integer : ∀ ds Qd Rd, ds.length = f_is_integer.ps.length → sp_is_integer ds Qd Rd → wpF (sigOf [] (meFrom 0 [])) f_is_integer ds Qd Rd := fun ds Qd Rd _ h => w_is_integer rfl  ds Qd Rd h
theorem dok_turns_fault : dokB [e_is_integer] glL [] [("is_integer", 1)] f_turns_fault [] (top 13) = true := by decide +kernel
theorem bp_turns_fault : BindPos (PySem.Str.ofString "turns_fault") (top 13) (f_turns_fault.ps.map PySem.Str.ofString) := fun _ _ _ _ _ _ us hl => match us, hl with | [_], _ => rfl
theorem spec_turns_fault : ∀ ds Qd Rd, ds.length = f_turns_fault.ps.length → sp_turns_fault ds Qd Rd → wpF (sigOf [e_is_integer] (meFrom 0 [])) f_turns_fault ds Qd Rd := fun ds Qd Rd _ h => w_turns_fault rfl ⟨rfl, rfl⟩ ds Qd Rd h
theorem dok_require_turns : dokB [e_is_integer, e_turns_fault] glL [] [("turns_fault", 1)] f_require_turns [] (top 16) = true := by decide +kernel
theorem bp_require_turns : BindPos (PySem.Str.ofString "require_turns") (top 16) (f_require_turns.ps.map PySem.Str.ofString) := fun _ _ _ _ _ _ us hl => match us, hl with | [_], _ => rfl
theorem spec_require_turns : ∀ ds Qd Rd, ds.length = f_require_turns.ps.length → sp_require_turns ds Qd Rd → wpF (sigOf [e_is_integer, e_turns_fault] (meFrom 0 [])) f_require_turns ds Qd Rd := fun ds Qd Rd _ h => w_require_turns rfl ⟨rfl, rfl⟩ ds Qd Rd h
theorem dok_way_of : dokB [e_is_integer, e_turns_fault, e_require_turns] glL [] [("require_turns", 1)] f_way_of [] (top 23) = true := by decide +kernel
theorem bp_way_of : BindPos (PySem.Str.ofString "way_of") (top 23) (f_way_of.ps.map PySem.Str.ofString) := fun _ _ _ _ _ _ us hl => match us, hl with | [_], _ => rfl
theorem bk_way_of_0 : BindKw (PySem.Str.ofString "way_of") (top 23) f_way_of.ps (0, ["turns"]) := ⟨[0], by decide +kernel, rfl, by decide, fun _ _ _ _ _ _ us ws h1 h2 => match us, h1, ws, h2 with | [], _, [_], _ => rfl⟩
theorem spec_way_of : ∀ ds Qd Rd, ds.length = f_way_of.ps.length → sp_way_of ds Qd Rd → wpF (sigOf [e_is_integer, e_turns_fault, e_require_turns] (meFrom 0 [])) f_way_of ds Qd Rd := fun ds Qd Rd _ h => w_way_of rfl ⟨rfl, rfl⟩ ds Qd Rd h
theorem dok_joined_turns : dokB [e_is_integer, e_turns_fault, e_require_turns, e_way_of] glL [] [("require_turns", 1)] f_joined_turns [] (top 24) = true := by decide +kernel
theorem bp_joined_turns : BindPos (PySem.Str.ofString "joined_turns") (top 24) (f_joined_turns.ps.map PySem.Str.ofString) := fun _ _ _ _ _ _ us hl => match us, hl with | [_], _ => rfl
theorem bk_joined_turns_0 : BindKw (PySem.Str.ofString "joined_turns") (top 24) f_joined_turns.ps (0, ["turns"]) := ⟨[0], by decide +kernel, rfl, by decide, fun _ _ _ _ _ _ us ws h1 h2 => match us, h1, ws, h2 with | [], _, [_], _ => rfl⟩
theorem spec_joined_turns : ∀ ds Qd Rd, ds.length = f_joined_turns.ps.length → sp_joined_turns ds Qd Rd → wpF (sigOf [e_is_integer, e_turns_fault, e_require_turns, e_way_of] (meFrom 0 [])) f_joined_turns ds Qd Rd := fun ds Qd Rd _ h => w_joined_turns rfl ⟨rfl, rfl⟩ ds Qd Rd h
theorem dok__law_coil : dokB [e_is_integer, e_turns_fault, e_require_turns, e_way_of, e_joined_turns] glL [] [] f__law_coil [] (top 26) = true := by decide +kernel
theorem bp__law_coil : BindPos (PySem.Str.ofString "_law_coil") (top 26) (f__law_coil.ps.map PySem.Str.ofString) := fun _ _ _ _ _ _ us hl => match us, hl with | [_, _], _ => rfl
theorem spec__law_coil : ∀ ds Qd Rd, ds.length = f__law_coil.ps.length → sp_coil ds Qd Rd → wpF (sigOf [e_is_integer, e_turns_fault, e_require_turns, e_way_of, e_joined_turns] (meFrom 0 [])) f__law_coil ds Qd Rd := fun ds Qd Rd _ h => w_coil rfl  ds Qd Rd h
theorem dok__law_draw : dokB [e_is_integer, e_turns_fault, e_require_turns, e_way_of, e_joined_turns, e__law_coil] glL [] [] f__law_draw_0 [true] (top 27) = true := by decide +kernel
theorem bp__law_draw : BindPos (PySem.Str.ofString "_law_draw") (top 27) (f__law_draw_0.ps.map PySem.Str.ofString) := fun _ _ _ _ _ _ us hl => match us, hl with | [_, _], _ => rfl
theorem spec__law_draw : ∀ ds Qd Rd, ds.length = f__law_draw_0.ps.length → sp_cdraw ds Qd Rd → wpF (sigOf [e_is_integer, e_turns_fault, e_require_turns, e_way_of, e_joined_turns, e__law_coil] (meFrom 0 [true])) f__law_draw_0 ds Qd Rd := fun ds Qd Rd _ h => w_cdraw rfl  ds Qd Rd h
theorem dok__law_pack : dokB [e_is_integer, e_turns_fault, e_require_turns, e_way_of, e_joined_turns, e__law_coil, e__law_draw] glL [] [("_law_draw", 2)] f__law_pack [true] (top 28) = true := by decide +kernel
theorem bp__law_pack : BindPos (PySem.Str.ofString "_law_pack") (top 28) (f__law_pack.ps.map PySem.Str.ofString) := fun _ _ _ _ _ _ us hl => match us, hl with | [_, _, _], _ => rfl
theorem spec__law_pack : ∀ ds Qd Rd, ds.length = f__law_pack.ps.length → sp_pack ds Qd Rd → wpF (sigOf [e_is_integer, e_turns_fault, e_require_turns, e_way_of, e_joined_turns, e__law_coil, e__law_draw] (meFrom 0 [true])) f__law_pack ds Qd Rd := fun ds Qd Rd _ h => w_pack rfl ⟨rfl, rfl⟩ ds Qd Rd h
theorem dok__law_stand : dokB [e_is_integer, e_turns_fault, e_require_turns, e_way_of, e_joined_turns, e__law_coil, e__law_draw, e__law_pack] glL [] [("_law_draw", 2)] f__law_stand [true] (top 30) = true := by decide +kernel
theorem bp__law_stand : BindPos (PySem.Str.ofString "_law_stand") (top 30) (f__law_stand.ps.map PySem.Str.ofString) := fun _ _ _ _ _ _ us hl => match us, hl with | [_, _, _], _ => rfl
theorem spec__law_stand : ∀ ds Qd Rd, ds.length = f__law_stand.ps.length → sp_stand ds Qd Rd → wpF (sigOf [e_is_integer, e_turns_fault, e_require_turns, e_way_of, e_joined_turns, e__law_coil, e__law_draw, e__law_pack] (meFrom 0 [true])) f__law_stand ds Qd Rd := fun ds Qd Rd _ h => w_stand rfl ⟨rfl, rfl⟩ ds Qd Rd h
theorem dok__law_rows : dokB [e_is_integer, e_turns_fault, e_require_turns, e_way_of, e_joined_turns, e__law_coil, e__law_draw, e__law_pack, e__law_stand] glL [] [("_law_draw", 2)] f__law_rows_0 [true] (top 31) = true := by decide +kernel
theorem bp__law_rows : BindPos (PySem.Str.ofString "_law_rows") (top 31) (f__law_rows_0.ps.map PySem.Str.ofString) := fun _ _ _ _ _ _ us hl => match us, hl with | [_], _ => rfl
theorem spec__law_rows : ∀ ds Qd Rd, ds.length = f__law_rows_0.ps.length → sp_rows ds Qd Rd → wpF (sigOf [e_is_integer, e_turns_fault, e_require_turns, e_way_of, e_joined_turns, e__law_coil, e__law_draw, e__law_pack, e__law_stand] (meFrom 0 [true])) f__law_rows_0 ds Qd Rd := fun ds Qd Rd _ h => w_rows rfl ⟨rfl, rfl⟩ ds Qd Rd h
theorem dok_is_at_least : dokB [e_is_integer, e_turns_fault, e_require_turns, e_way_of, e_joined_turns, e__law_coil, e__law_draw, e__law_pack, e__law_stand, e__law_rows] glL [] [("is_integer", 1)] f_is_at_least [] (top 9) = true := by decide +kernel
theorem bp_is_at_least : BindPos (PySem.Str.ofString "is_at_least") (top 9) (f_is_at_least.ps.map PySem.Str.ofString) := fun _ _ _ _ _ _ us hl => match us, hl with | [_, _], _ => rfl
theorem spec_is_at_least : ∀ ds Qd Rd, ds.length = f_is_at_least.ps.length → sp_is_at_least ds Qd Rd → wpF (sigOf [e_is_integer, e_turns_fault, e_require_turns, e_way_of, e_joined_turns, e__law_coil, e__law_draw, e__law_pack, e__law_stand, e__law_rows] (meFrom 0 [])) f_is_at_least ds Qd Rd := fun ds Qd Rd _ h => w_is_at_least rfl ⟨rfl, rfl⟩ ds Qd Rd h
theorem dok_lock_fault : dokB [e_is_integer, e_turns_fault, e_require_turns, e_way_of, e_joined_turns, e__law_coil, e__law_draw, e__law_pack, e__law_stand, e__law_rows, e_is_at_least] glL [] [("is_at_least", 2)] f_lock_fault [] (top 10) = true := by decide +kernel
theorem bp_lock_fault : BindPos (PySem.Str.ofString "lock_fault") (top 10) (f_lock_fault.ps.map PySem.Str.ofString) := fun _ _ _ _ _ _ us hl => match us, hl with | [_], _ => rfl
theorem spec_lock_fault : ∀ ds Qd Rd, ds.length = f_lock_fault.ps.length → sp_lock_fault ds Qd Rd → wpF (sigOf [e_is_integer, e_turns_fault, e_require_turns, e_way_of, e_joined_turns, e__law_coil, e__law_draw, e__law_pack, e__law_stand, e__law_rows, e_is_at_least] (meFrom 0 [])) f_lock_fault ds Qd Rd := fun ds Qd Rd _ h => w_lock_fault rfl ⟨rfl, rfl⟩ ds Qd Rd h
theorem dok_require_lock : dokB [e_is_integer, e_turns_fault, e_require_turns, e_way_of, e_joined_turns, e__law_coil, e__law_draw, e__law_pack, e__law_stand, e__law_rows, e_is_at_least, e_lock_fault] glL [] [("lock_fault", 1)] f_require_lock [] (top 14) = true := by decide +kernel
theorem bp_require_lock : BindPos (PySem.Str.ofString "require_lock") (top 14) (f_require_lock.ps.map PySem.Str.ofString) := fun _ _ _ _ _ _ us hl => match us, hl with | [_], _ => rfl
theorem spec_require_lock : ∀ ds Qd Rd, ds.length = f_require_lock.ps.length → sp_require_lock ds Qd Rd → wpF (sigOf [e_is_integer, e_turns_fault, e_require_turns, e_way_of, e_joined_turns, e__law_coil, e__law_draw, e__law_pack, e__law_stand, e__law_rows, e_is_at_least, e_lock_fault] (meFrom 0 [])) f_require_lock ds Qd Rd := fun ds Qd Rd _ h => w_require_lock rfl ⟨rfl, rfl⟩ ds Qd Rd h
theorem dok_places_right : dokB [e_is_integer, e_turns_fault, e_require_turns, e_way_of, e_joined_turns, e__law_coil, e__law_draw, e__law_pack, e__law_stand, e__law_rows, e_is_at_least, e_lock_fault, e_require_lock] glL [] [("is_integer", 1)] f_places_right [] (top 11) = true := by decide +kernel
theorem bp_places_right : BindPos (PySem.Str.ofString "places_right") (top 11) (f_places_right.ps.map PySem.Str.ofString) := fun _ _ _ _ _ _ us hl => match us, hl with | [_, _, _], _ => rfl
theorem spec_places_right : ∀ ds Qd Rd, ds.length = f_places_right.ps.length → sp_places_right ds Qd Rd → wpF (sigOf [e_is_integer, e_turns_fault, e_require_turns, e_way_of, e_joined_turns, e__law_coil, e__law_draw, e__law_pack, e__law_stand, e__law_rows, e_is_at_least, e_lock_fault, e_require_lock] (meFrom 0 [])) f_places_right ds Qd Rd := fun ds Qd Rd _ h => w_places_right rfl ⟨rfl, rfl⟩ ds Qd Rd h
theorem dok_state_fault : dokB [e_is_integer, e_turns_fault, e_require_turns, e_way_of, e_joined_turns, e__law_coil, e__law_draw, e__law_pack, e__law_stand, e__law_rows, e_is_at_least, e_lock_fault, e_require_lock, e_places_right] glL [] [("is_integer", 1), ("places_right", 3)] f_state_fault [] (top 12) = true := by decide +kernel
theorem bp_state_fault : BindPos (PySem.Str.ofString "state_fault") (top 12) (f_state_fault.ps.map PySem.Str.ofString) := fun _ _ _ _ _ _ us hl => match us, hl with | [_, _], _ => rfl
theorem spec_state_fault : ∀ ds Qd Rd, ds.length = f_state_fault.ps.length → sp_state_fault ds Qd Rd → wpF (sigOf [e_is_integer, e_turns_fault, e_require_turns, e_way_of, e_joined_turns, e__law_coil, e__law_draw, e__law_pack, e__law_stand, e__law_rows, e_is_at_least, e_lock_fault, e_require_lock, e_places_right] (meFrom 0 [])) f_state_fault ds Qd Rd := fun ds Qd Rd _ h => w_state_fault rfl ⟨rfl, rfl⟩ ⟨rfl, rfl⟩ ds Qd Rd h
theorem dok_require_state : dokB [e_is_integer, e_turns_fault, e_require_turns, e_way_of, e_joined_turns, e__law_coil, e__law_draw, e__law_pack, e__law_stand, e__law_rows, e_is_at_least, e_lock_fault, e_require_lock, e_places_right, e_state_fault] glL [] [("state_fault", 2)] f_require_state [] (top 15) = true := by decide +kernel
theorem bp_require_state : BindPos (PySem.Str.ofString "require_state") (top 15) (f_require_state.ps.map PySem.Str.ofString) := fun _ _ _ _ _ _ us hl => match us, hl with | [_, _], _ => rfl
theorem spec_require_state : ∀ ds Qd Rd, ds.length = f_require_state.ps.length → sp_require_state ds Qd Rd → wpF (sigOf [e_is_integer, e_turns_fault, e_require_turns, e_way_of, e_joined_turns, e__law_coil, e__law_draw, e__law_pack, e__law_stand, e__law_rows, e_is_at_least, e_lock_fault, e_require_lock, e_places_right, e_state_fault] (meFrom 0 [])) f_require_state ds Qd Rd := fun ds Qd Rd _ h => w_require_state rfl ⟨rfl, rfl⟩ ds Qd Rd h
theorem dok_wheel_reaches : dokB [e_is_integer, e_turns_fault, e_require_turns, e_way_of, e_joined_turns, e__law_coil, e__law_draw, e__law_pack, e__law_stand, e__law_rows, e_is_at_least, e_lock_fault, e_require_lock, e_places_right, e_state_fault, e_require_state] glL [] [] f_wheel_reaches [] (top 17) = true := by decide +kernel
theorem bp_wheel_reaches : BindPos (PySem.Str.ofString "wheel_reaches") (top 17) (f_wheel_reaches.ps.map PySem.Str.ofString) := fun _ _ _ _ _ _ us hl => match us, hl with | [_], _ => rfl
theorem spec_wheel_reaches : ∀ ds Qd Rd, ds.length = f_wheel_reaches.ps.length → sp_wheel_reaches ds Qd Rd → wpF (sigOf [e_is_integer, e_turns_fault, e_require_turns, e_way_of, e_joined_turns, e__law_coil, e__law_draw, e__law_pack, e__law_stand, e__law_rows, e_is_at_least, e_lock_fault, e_require_lock, e_places_right, e_state_fault, e_require_state] (meFrom 0 [])) f_wheel_reaches ds Qd Rd := fun ds Qd Rd _ h => w_wheel_reaches rfl  ds Qd Rd h
theorem dok_held_place : dokB [e_is_integer, e_turns_fault, e_require_turns, e_way_of, e_joined_turns, e__law_coil, e__law_draw, e__law_pack, e__law_stand, e__law_rows, e_is_at_least, e_lock_fault, e_require_lock, e_places_right, e_state_fault, e_require_state, e_wheel_reaches] glL [] [] f_held_place [] (top 19) = true := by decide +kernel
theorem bp_held_place : BindPos (PySem.Str.ofString "held_place") (top 19) (f_held_place.ps.map PySem.Str.ofString) := fun _ _ _ _ _ _ us hl => match us, hl with | [_, _, _], _ => rfl
theorem spec_held_place : ∀ ds Qd Rd, ds.length = f_held_place.ps.length → sp_held_place ds Qd Rd → wpF (sigOf [e_is_integer, e_turns_fault, e_require_turns, e_way_of, e_joined_turns, e__law_coil, e__law_draw, e__law_pack, e__law_stand, e__law_rows, e_is_at_least, e_lock_fault, e_require_lock, e_places_right, e_state_fault, e_require_state, e_wheel_reaches] (meFrom 0 [])) f_held_place ds Qd Rd := fun ds Qd Rd _ h => w_held_place rfl  ds Qd Rd h
theorem dok_state_behind : dokB [e_is_integer, e_turns_fault, e_require_turns, e_way_of, e_joined_turns, e__law_coil, e__law_draw, e__law_pack, e__law_stand, e__law_rows, e_is_at_least, e_lock_fault, e_require_lock, e_places_right, e_state_fault, e_require_state, e_wheel_reaches, e_held_place] glL [] [("held_place", 3), ("wheel_reaches", 1)] f_state_behind [] (top 20) = true := by decide +kernel
theorem bp_state_behind : BindPos (PySem.Str.ofString "state_behind") (top 20) (f_state_behind.ps.map PySem.Str.ofString) := fun _ _ _ _ _ _ us hl => match us, hl with | [_, _, _], _ => rfl
theorem spec_state_behind : ∀ ds Qd Rd, ds.length = f_state_behind.ps.length → sp_state_behind ds Qd Rd → wpF (sigOf [e_is_integer, e_turns_fault, e_require_turns, e_way_of, e_joined_turns, e__law_coil, e__law_draw, e__law_pack, e__law_stand, e__law_rows, e_is_at_least, e_lock_fault, e_require_lock, e_places_right, e_state_fault, e_require_state, e_wheel_reaches, e_held_place] (meFrom 0 [])) f_state_behind ds Qd Rd := fun ds Qd Rd _ h => w_state_behind rfl ⟨rfl, rfl⟩ ⟨rfl, rfl⟩ ds Qd Rd h
theorem dok_turned_state : dokB [e_is_integer, e_turns_fault, e_require_turns, e_way_of, e_joined_turns, e__law_coil, e__law_draw, e__law_pack, e__law_stand, e__law_rows, e_is_at_least, e_lock_fault, e_require_lock, e_places_right, e_state_fault, e_require_state, e_wheel_reaches, e_held_place, e_state_behind] glL [] [("require_lock", 1), ("require_state", 2), ("require_turns", 1), ("state_behind", 3)] f_turned_state [] (top 22) = true := by decide +kernel
theorem bp_turned_state : BindPos (PySem.Str.ofString "turned_state") (top 22) (f_turned_state.ps.map PySem.Str.ofString) := fun _ _ _ _ _ _ us hl => match us, hl with | [_, _, _], _ => rfl
theorem spec_turned_state : ∀ ds Qd Rd, ds.length = f_turned_state.ps.length → sp_turned_state ds Qd Rd → wpF (sigOf [e_is_integer, e_turns_fault, e_require_turns, e_way_of, e_joined_turns, e__law_coil, e__law_draw, e__law_pack, e__law_stand, e__law_rows, e_is_at_least, e_lock_fault, e_require_lock, e_places_right, e_state_fault, e_require_state, e_wheel_reaches, e_held_place, e_state_behind] (meFrom 0 [])) f_turned_state ds Qd Rd := fun ds Qd Rd _ h => w_turned_state rfl ⟨rfl, rfl⟩ ⟨rfl, rfl⟩ ⟨rfl, rfl⟩ ⟨rfl, rfl⟩ ds Qd Rd h
theorem dok__law_due : dokB [e_is_integer, e_turns_fault, e_require_turns, e_way_of, e_joined_turns, e__law_coil, e__law_draw, e__law_pack, e__law_stand, e__law_rows, e_is_at_least, e_lock_fault, e_require_lock, e_places_right, e_state_fault, e_require_state, e_wheel_reaches, e_held_place, e_state_behind, e_turned_state] glL [] [] f__law_due_2 [] (top 32) = true := by decide +kernel
theorem bp__law_due : BindPos (PySem.Str.ofString "_law_due") (top 32) (f__law_due_2.ps.map PySem.Str.ofString) := fun _ _ _ _ _ _ us hl => match us, hl with | [_], _ => rfl
theorem spec__law_due : ∀ ds Qd Rd, ds.length = f__law_due_2.ps.length → sp_due ds Qd Rd → wpF (sigOf [e_is_integer, e_turns_fault, e_require_turns, e_way_of, e_joined_turns, e__law_coil, e__law_draw, e__law_pack, e__law_stand, e__law_rows, e_is_at_least, e_lock_fault, e_require_lock, e_places_right, e_state_fault, e_require_state, e_wheel_reaches, e_held_place, e_state_behind, e_turned_state] (meFrom 0 [])) f__law_due_2 ds Qd Rd := fun ds Qd Rd _ h => w_due rfl  ds Qd Rd h
theorem dok__law_right : dokB [e_is_integer, e_turns_fault, e_require_turns, e_way_of, e_joined_turns, e__law_coil, e__law_draw, e__law_pack, e__law_stand, e__law_rows, e_is_at_least, e_lock_fault, e_require_lock, e_places_right, e_state_fault, e_require_state, e_wheel_reaches, e_held_place, e_state_behind, e_turned_state, e__law_due] glL [("joined_turns", 0, ["turns"]), ("way_of", 0, ["turns"])] [("_law_due", 1), ("joined_turns", 1), ("turned_state", 3), ("way_of", 1)] f__law_right_3 [] (top 33) = true := by decide +kernel
theorem bp__law_right : BindPos (PySem.Str.ofString "_law_right") (top 33) (f__law_right_3.ps.map PySem.Str.ofString) := fun _ _ _ _ _ _ us hl => match us, hl with | [_, _, _], _ => rfl
theorem spec__law_right : ∀ ds Qd Rd, ds.length = f__law_right_3.ps.length → sp_right7 ds Qd Rd → wpF (sigOf [e_is_integer, e_turns_fault, e_require_turns, e_way_of, e_joined_turns, e__law_coil, e__law_draw, e__law_pack, e__law_stand, e__law_rows, e_is_at_least, e_lock_fault, e_require_lock, e_places_right, e_state_fault, e_require_state, e_wheel_reaches, e_held_place, e_state_behind, e_turned_state, e__law_due] (meFrom 0 [])) f__law_right_3 ds Qd Rd := fun ds Qd Rd _ h => w_right7 rfl ⟨rfl, rfl⟩ ⟨rfl, rfl⟩ ⟨rfl, rfl⟩ ⟨rfl, rfl⟩ rfl rfl ds Qd Rd h
theorem dok_law : dokB [e_is_integer, e_turns_fault, e_require_turns, e_way_of, e_joined_turns, e__law_coil, e__law_draw, e__law_pack, e__law_stand, e__law_rows, e_is_at_least, e_lock_fault, e_require_lock, e_places_right, e_state_fault, e_require_state, e_wheel_reaches, e_held_place, e_state_behind, e_turned_state, e__law_due, e__law_right] glL [] [("_law_coil", 2), ("_law_draw", 2), ("_law_pack", 3), ("_law_right", 3), ("_law_rows", 1), ("_law_stand", 3), ("joined_turns", 1), ("way_of", 1)] f_law_7 [] (top 34) = true := by decide +kernel
theorem bp_law : BindPos (PySem.Str.ofString "law") (top 34) (f_law_7.ps.map PySem.Str.ofString) := fun _ _ _ _ _ _ us hl => match us, hl with | [_], _ => rfl
theorem spec_law : ∀ ds Qd Rd, ds.length = f_law_7.ps.length → sp_law7 ds Qd Rd → wpF (sigOf [e_is_integer, e_turns_fault, e_require_turns, e_way_of, e_joined_turns, e__law_coil, e__law_draw, e__law_pack, e__law_stand, e__law_rows, e_is_at_least, e_lock_fault, e_require_lock, e_places_right, e_state_fault, e_require_state, e_wheel_reaches, e_held_place, e_state_behind, e_turned_state, e__law_due, e__law_right] []) f_law_7 ds Qd Rd := fun ds Qd Rd _ h => w_law7 rfl ⟨rfl, rfl⟩ ⟨rfl, rfl⟩ ⟨rfl, rfl⟩ ⟨rfl, rfl⟩ ⟨rfl, rfl⟩ ⟨rfl, rfl⟩ ⟨rfl, rfl⟩ ⟨rfl, rfl⟩ ds Qd Rd h
theorem all_mk {P : Program} {w : World} {K : PySem.W.Frag} {mg : Str → Option Value} {h : PySem.Heap} {fa : Addr} (X : K.In h) (G : h.Ns mainGlobals mg) (hfa : mg "law" = some (.ref fa)) (hnl : noLst K) (nb : NoB K) (at_is_integer : AtK K (PySem.Str.ofString "is_integer") (top 8)) (at_turns_fault : AtK K (PySem.Str.ofString "turns_fault") (top 13)) (at_require_turns : AtK K (PySem.Str.ofString "require_turns") (top 16)) (at_way_of : AtK K (PySem.Str.ofString "way_of") (top 23)) (at_joined_turns : AtK K (PySem.Str.ofString "joined_turns") (top 24)) (at__law_coil : AtK K (PySem.Str.ofString "_law_coil") (top 26)) (at__law_draw : AtK K (PySem.Str.ofString "_law_draw") (top 27)) (at__law_pack : AtK K (PySem.Str.ofString "_law_pack") (top 28)) (at__law_stand : AtK K (PySem.Str.ofString "_law_stand") (top 30)) (at__law_rows : AtK K (PySem.Str.ofString "_law_rows") (top 31)) (at_is_at_least : AtK K (PySem.Str.ofString "is_at_least") (top 9)) (at_lock_fault : AtK K (PySem.Str.ofString "lock_fault") (top 10)) (at_require_lock : AtK K (PySem.Str.ofString "require_lock") (top 14)) (at_places_right : AtK K (PySem.Str.ofString "places_right") (top 11)) (at_state_fault : AtK K (PySem.Str.ofString "state_fault") (top 12)) (at_require_state : AtK K (PySem.Str.ofString "require_state") (top 15)) (at_wheel_reaches : AtK K (PySem.Str.ofString "wheel_reaches") (top 17)) (at_held_place : AtK K (PySem.Str.ofString "held_place") (top 19)) (at_state_behind : AtK K (PySem.Str.ofString "state_behind") (top 20)) (at_turned_state : AtK K (PySem.Str.ofString "turned_state") (top 22)) (at__law_due : AtK K (PySem.Str.ofString "_law_due") (top 32)) (at__law_right : AtK K (PySem.Str.ofString "_law_right") (top 33)) (at_law : AtK K (PySem.Str.ofString "law") (top 34)) {ug0 : Value} (g0 : PySem.W.nsIn K mainGlobals (PySem.Str.ofString "MOST_TURNS") = some (some ug0)) (gr0 : L2.RelV (.int 60) ug0) {ug1 : Value} (g1 : PySem.W.nsIn K mainGlobals (PySem.Str.ofString "MOST_WHEELS") = some (some ug1)) (gr1 : L2.RelV (.int 8) ug1) : LawG P w K mg 23 63 fa := by
  have hg : ∀ p ∈ glL, ∃ u v, mg (Str.ofString p.1) = some u ∧ L2.RelV v u ∧ ∀ F, Rep F p.2 v [] := by
    intro p hp
    simp only [glL, List.mem_cons, List.not_mem_nil, or_false] at hp
    rcases hp with rfl | rfl
    · exact gl_of X G g0 gr0 fun F => .int _
    · exact gl_of X G g1 gr1 fun F => .int _
  refine law_of (L := [e_is_integer, e_turns_fault, e_require_turns, e_way_of, e_joined_turns, e__law_coil, e__law_draw, e__law_pack, e__law_stand, e__law_rows, e_is_at_least, e_lock_fault, e_require_lock, e_places_right, e_state_fault, e_require_state, e_wheel_reaches, e_held_place, e_state_behind, e_turned_state, e__law_due, e__law_right]) (gl := glL) (x := "script") hnl X G hfa at_law bp_law rfl (dok_by dok_law) (fun base h1 h2 => ?_) spec_law (fun ns hl hb => ⟨_, ns, rfl, hl, rfl⟩)
  have wd0 : Wd [] glL P w K mg base 0 := wd_nil X G nb hg
  have wd1 : Wd [e_is_integer] glL P w K mg base 1 := wd0.snoc (kn_of (e := e_is_integer) X G at_is_integer bp_is_integer (fun kw hkw => nomatch hkw) rfl rfl (dok_by dok_is_integer) wd0 spec_is_integer)
  have wd2 : Wd [e_is_integer, e_turns_fault] glL P w K mg base 2 := wd1.snoc (kn_of (e := e_turns_fault) X G at_turns_fault bp_turns_fault (fun kw hkw => nomatch hkw) rfl rfl (dok_by dok_turns_fault) wd1 spec_turns_fault)
  have wd3 : Wd [e_is_integer, e_turns_fault, e_require_turns] glL P w K mg base 3 := wd2.snoc (kn_of (e := e_require_turns) X G at_require_turns bp_require_turns (fun kw hkw => nomatch hkw) rfl rfl (dok_by dok_require_turns) wd2 spec_require_turns)
  have wd4 : Wd [e_is_integer, e_turns_fault, e_require_turns, e_way_of] glL P w K mg base 4 := wd3.snoc (kn_of (e := e_way_of) X G at_way_of bp_way_of (fun kw hkw => by simp only [e_way_of, List.mem_cons, List.not_mem_nil, or_false] at hkw; subst hkw; exact bk_way_of_0) rfl rfl (dok_by dok_way_of) wd3 spec_way_of)
  have wd5 : Wd [e_is_integer, e_turns_fault, e_require_turns, e_way_of, e_joined_turns] glL P w K mg base 5 := wd4.snoc (kn_of (e := e_joined_turns) X G at_joined_turns bp_joined_turns (fun kw hkw => by simp only [e_joined_turns, List.mem_cons, List.not_mem_nil, or_false] at hkw; subst hkw; exact bk_joined_turns_0) rfl rfl (dok_by dok_joined_turns) wd4 spec_joined_turns)
  have wd6 : Wd [e_is_integer, e_turns_fault, e_require_turns, e_way_of, e_joined_turns, e__law_coil] glL P w K mg base 6 := wd5.snoc (kn_of (e := e__law_coil) X G at__law_coil bp__law_coil (fun kw hkw => nomatch hkw) rfl rfl (dok_by dok__law_coil) wd5 spec__law_coil)
  have wd7 : Wd [e_is_integer, e_turns_fault, e_require_turns, e_way_of, e_joined_turns, e__law_coil, e__law_draw] glL P w K mg base 7 := wd6.snoc (kn_of (e := e__law_draw) X G at__law_draw bp__law_draw (fun kw hkw => nomatch hkw) rfl rfl (dok_by dok__law_draw) wd6 spec__law_draw)
  have wd8 : Wd [e_is_integer, e_turns_fault, e_require_turns, e_way_of, e_joined_turns, e__law_coil, e__law_draw, e__law_pack] glL P w K mg base 8 := wd7.snoc (kn_of (e := e__law_pack) X G at__law_pack bp__law_pack (fun kw hkw => nomatch hkw) rfl rfl (dok_by dok__law_pack) wd7 spec__law_pack)
  have wd9 : Wd [e_is_integer, e_turns_fault, e_require_turns, e_way_of, e_joined_turns, e__law_coil, e__law_draw, e__law_pack, e__law_stand] glL P w K mg base 9 := wd8.snoc (kn_of (e := e__law_stand) X G at__law_stand bp__law_stand (fun kw hkw => nomatch hkw) rfl rfl (dok_by dok__law_stand) wd8 spec__law_stand)
  have wd10 : Wd [e_is_integer, e_turns_fault, e_require_turns, e_way_of, e_joined_turns, e__law_coil, e__law_draw, e__law_pack, e__law_stand, e__law_rows] glL P w K mg base 10 := wd9.snoc (kn_of (e := e__law_rows) X G at__law_rows bp__law_rows (fun kw hkw => nomatch hkw) rfl rfl (dok_by dok__law_rows) wd9 spec__law_rows)
  have wd11 : Wd [e_is_integer, e_turns_fault, e_require_turns, e_way_of, e_joined_turns, e__law_coil, e__law_draw, e__law_pack, e__law_stand, e__law_rows, e_is_at_least] glL P w K mg base 11 := wd10.snoc (kn_of (e := e_is_at_least) X G at_is_at_least bp_is_at_least (fun kw hkw => nomatch hkw) rfl rfl (dok_by dok_is_at_least) wd10 spec_is_at_least)
  have wd12 : Wd [e_is_integer, e_turns_fault, e_require_turns, e_way_of, e_joined_turns, e__law_coil, e__law_draw, e__law_pack, e__law_stand, e__law_rows, e_is_at_least, e_lock_fault] glL P w K mg base 12 := wd11.snoc (kn_of (e := e_lock_fault) X G at_lock_fault bp_lock_fault (fun kw hkw => nomatch hkw) rfl rfl (dok_by dok_lock_fault) wd11 spec_lock_fault)
  have wd13 : Wd [e_is_integer, e_turns_fault, e_require_turns, e_way_of, e_joined_turns, e__law_coil, e__law_draw, e__law_pack, e__law_stand, e__law_rows, e_is_at_least, e_lock_fault, e_require_lock] glL P w K mg base 13 := wd12.snoc (kn_of (e := e_require_lock) X G at_require_lock bp_require_lock (fun kw hkw => nomatch hkw) rfl rfl (dok_by dok_require_lock) wd12 spec_require_lock)
  have wd14 : Wd [e_is_integer, e_turns_fault, e_require_turns, e_way_of, e_joined_turns, e__law_coil, e__law_draw, e__law_pack, e__law_stand, e__law_rows, e_is_at_least, e_lock_fault, e_require_lock, e_places_right] glL P w K mg base 14 := wd13.snoc (kn_of (e := e_places_right) X G at_places_right bp_places_right (fun kw hkw => nomatch hkw) rfl rfl (dok_by dok_places_right) wd13 spec_places_right)
  have wd15 : Wd [e_is_integer, e_turns_fault, e_require_turns, e_way_of, e_joined_turns, e__law_coil, e__law_draw, e__law_pack, e__law_stand, e__law_rows, e_is_at_least, e_lock_fault, e_require_lock, e_places_right, e_state_fault] glL P w K mg base 15 := wd14.snoc (kn_of (e := e_state_fault) X G at_state_fault bp_state_fault (fun kw hkw => nomatch hkw) rfl rfl (dok_by dok_state_fault) wd14 spec_state_fault)
  have wd16 : Wd [e_is_integer, e_turns_fault, e_require_turns, e_way_of, e_joined_turns, e__law_coil, e__law_draw, e__law_pack, e__law_stand, e__law_rows, e_is_at_least, e_lock_fault, e_require_lock, e_places_right, e_state_fault, e_require_state] glL P w K mg base 16 := wd15.snoc (kn_of (e := e_require_state) X G at_require_state bp_require_state (fun kw hkw => nomatch hkw) rfl rfl (dok_by dok_require_state) wd15 spec_require_state)
  have wd17 : Wd [e_is_integer, e_turns_fault, e_require_turns, e_way_of, e_joined_turns, e__law_coil, e__law_draw, e__law_pack, e__law_stand, e__law_rows, e_is_at_least, e_lock_fault, e_require_lock, e_places_right, e_state_fault, e_require_state, e_wheel_reaches] glL P w K mg base 17 := wd16.snoc (kn_of (e := e_wheel_reaches) X G at_wheel_reaches bp_wheel_reaches (fun kw hkw => nomatch hkw) rfl rfl (dok_by dok_wheel_reaches) wd16 spec_wheel_reaches)
  have wd18 : Wd [e_is_integer, e_turns_fault, e_require_turns, e_way_of, e_joined_turns, e__law_coil, e__law_draw, e__law_pack, e__law_stand, e__law_rows, e_is_at_least, e_lock_fault, e_require_lock, e_places_right, e_state_fault, e_require_state, e_wheel_reaches, e_held_place] glL P w K mg base 18 := wd17.snoc (kn_of (e := e_held_place) X G at_held_place bp_held_place (fun kw hkw => nomatch hkw) rfl rfl (dok_by dok_held_place) wd17 spec_held_place)
  have wd19 : Wd [e_is_integer, e_turns_fault, e_require_turns, e_way_of, e_joined_turns, e__law_coil, e__law_draw, e__law_pack, e__law_stand, e__law_rows, e_is_at_least, e_lock_fault, e_require_lock, e_places_right, e_state_fault, e_require_state, e_wheel_reaches, e_held_place, e_state_behind] glL P w K mg base 19 := wd18.snoc (kn_of (e := e_state_behind) X G at_state_behind bp_state_behind (fun kw hkw => nomatch hkw) rfl rfl (dok_by dok_state_behind) wd18 spec_state_behind)
  have wd20 : Wd [e_is_integer, e_turns_fault, e_require_turns, e_way_of, e_joined_turns, e__law_coil, e__law_draw, e__law_pack, e__law_stand, e__law_rows, e_is_at_least, e_lock_fault, e_require_lock, e_places_right, e_state_fault, e_require_state, e_wheel_reaches, e_held_place, e_state_behind, e_turned_state] glL P w K mg base 20 := wd19.snoc (kn_of (e := e_turned_state) X G at_turned_state bp_turned_state (fun kw hkw => nomatch hkw) rfl rfl (dok_by dok_turned_state) wd19 spec_turned_state)
  have wd21 : Wd [e_is_integer, e_turns_fault, e_require_turns, e_way_of, e_joined_turns, e__law_coil, e__law_draw, e__law_pack, e__law_stand, e__law_rows, e_is_at_least, e_lock_fault, e_require_lock, e_places_right, e_state_fault, e_require_state, e_wheel_reaches, e_held_place, e_state_behind, e_turned_state, e__law_due] glL P w K mg base 21 := wd20.snoc (kn_of (e := e__law_due) X G at__law_due bp__law_due (fun kw hkw => nomatch hkw) rfl rfl (dok_by dok__law_due) wd20 spec__law_due)
  have wd22 : Wd [e_is_integer, e_turns_fault, e_require_turns, e_way_of, e_joined_turns, e__law_coil, e__law_draw, e__law_pack, e__law_stand, e__law_rows, e_is_at_least, e_lock_fault, e_require_lock, e_places_right, e_state_fault, e_require_state, e_wheel_reaches, e_held_place, e_state_behind, e_turned_state, e__law_due, e__law_right] glL P w K mg base 22 := wd21.snoc (kn_of (e := e__law_right) X G at__law_right bp__law_right (fun kw hkw => nomatch hkw) rfl rfl (dok_by dok__law_right) wd21 spec__law_right)
  exact wd22
end DP
open PySem PySem.W PyProof.Rows
set_option maxRecDepth 100000 in
set_option maxHeartbeats 0 in
theorem PySem.Challenge.cw_dialpack_k07_ways_and_joined_turns_holds : PySem.Challenge.rw_dialpack_k07_ways_and_joined_turns.Holds := by
  w_on; o_law; k_head; (case hw => w_witness2)
  k_fill
  refine DP.walk_ofG (l := PySem.Challenge.rw_dialpack_k07_ways_and_joined_turns) (n := 63) (k := 23) rfl (by decide +kernel) rfl ⟨rfl, by decide, by decide⟩ (fun w h Y => PySem.W.kIn_of Y) ?F
  case F =>
    intro w mg fa h KX G hmg
    refine' DP.all_mk KX G hmg ?dpNl ?dpNb ?dpA0 ?dpA1 ?dpA2 ?dpA3 ?dpA4 ?dpA5 ?dpA6 ?dpA7 ?dpA8 ?dpA9 ?dpA10 ?dpA11 ?dpA12 ?dpA13 ?dpA14 ?dpA15 ?dpA16 ?dpA17 ?dpA18 ?dpA19 ?dpA20 ?dpA21 ?dpA22 ?dpG0 ?dpR0 ?dpG1 ?dpR1
    case dpNl => exact DP.noLst_by (by kernel_rfl)
    case dpNb =>
      unfold DP.NoB DP.bnames
      simp only [List.forall_mem_cons, List.not_mem_nil, false_implies, implies_true, and_true]
      refine' ⟨?dpN0, ?dpN1, ?dpN2, ?dpN3, ?dpN4, ?dpN5, ?dpN6, ?dpN7, ?dpN8, ?dpN9, ?dpN10, ?dpN11, ?dpN12, ?dpN13, ?dpN14, ?dpN15, ?dpN16, ?dpN17, ?dpN18, ?dpN19, ?dpN20⟩
      (case dpN0 => k_is)
      (case dpN1 => k_is)
      (case dpN2 => k_is)
      (case dpN3 => k_is)
      (case dpN4 => k_is)
      (case dpN5 => k_is)
      (case dpN6 => k_is)
      (case dpN7 => k_is)
      (case dpN8 => k_is)
      (case dpN9 => k_is)
      (case dpN10 => k_is)
      (case dpN11 => k_is)
      (case dpN12 => k_is)
      (case dpN13 => k_is)
      (case dpN14 => k_is)
      (case dpN15 => k_is)
      (case dpN16 => k_is)
      (case dpN17 => k_is)
      (case dpN18 => k_is)
      (case dpN19 => k_is)
      (case dpN20 => k_is)
    (case dpA0 => refine' DP.at_mk ?dpW0 ?dpX0 ?dpY0 ?dpZ0; (case dpW0 => k_is); (case dpX0 => k_is); (case dpY0 => k_is); (case dpZ0 => k_is))
    (case dpA1 => refine' DP.at_mk ?dpW1 ?dpX1 ?dpY1 ?dpZ1; (case dpW1 => k_is); (case dpX1 => k_is); (case dpY1 => k_is); (case dpZ1 => k_is))
    (case dpA2 => refine' DP.at_mk ?dpW2 ?dpX2 ?dpY2 ?dpZ2; (case dpW2 => k_is); (case dpX2 => k_is); (case dpY2 => k_is); (case dpZ2 => k_is))
    (case dpA3 => refine' DP.at_mk ?dpW3 ?dpX3 ?dpY3 ?dpZ3; (case dpW3 => k_is); (case dpX3 => k_is); (case dpY3 => k_is); (case dpZ3 => k_is))
    (case dpA4 => refine' DP.at_mk ?dpW4 ?dpX4 ?dpY4 ?dpZ4; (case dpW4 => k_is); (case dpX4 => k_is); (case dpY4 => k_is); (case dpZ4 => k_is))
    (case dpA5 => refine' DP.at_mk ?dpW5 ?dpX5 ?dpY5 ?dpZ5; (case dpW5 => k_is); (case dpX5 => k_is); (case dpY5 => k_is); (case dpZ5 => k_is))
    (case dpA6 => refine' DP.at_mk ?dpW6 ?dpX6 ?dpY6 ?dpZ6; (case dpW6 => k_is); (case dpX6 => k_is); (case dpY6 => k_is); (case dpZ6 => k_is))
    (case dpA7 => refine' DP.at_mk ?dpW7 ?dpX7 ?dpY7 ?dpZ7; (case dpW7 => k_is); (case dpX7 => k_is); (case dpY7 => k_is); (case dpZ7 => k_is))
    (case dpA8 => refine' DP.at_mk ?dpW8 ?dpX8 ?dpY8 ?dpZ8; (case dpW8 => k_is); (case dpX8 => k_is); (case dpY8 => k_is); (case dpZ8 => k_is))
    (case dpA9 => refine' DP.at_mk ?dpW9 ?dpX9 ?dpY9 ?dpZ9; (case dpW9 => k_is); (case dpX9 => k_is); (case dpY9 => k_is); (case dpZ9 => k_is))
    (case dpA10 => refine' DP.at_mk ?dpW10 ?dpX10 ?dpY10 ?dpZ10; (case dpW10 => k_is); (case dpX10 => k_is); (case dpY10 => k_is); (case dpZ10 => k_is))
    (case dpA11 => refine' DP.at_mk ?dpW11 ?dpX11 ?dpY11 ?dpZ11; (case dpW11 => k_is); (case dpX11 => k_is); (case dpY11 => k_is); (case dpZ11 => k_is))
    (case dpA12 => refine' DP.at_mk ?dpW12 ?dpX12 ?dpY12 ?dpZ12; (case dpW12 => k_is); (case dpX12 => k_is); (case dpY12 => k_is); (case dpZ12 => k_is))
    (case dpA13 => refine' DP.at_mk ?dpW13 ?dpX13 ?dpY13 ?dpZ13; (case dpW13 => k_is); (case dpX13 => k_is); (case dpY13 => k_is); (case dpZ13 => k_is))
    (case dpA14 => refine' DP.at_mk ?dpW14 ?dpX14 ?dpY14 ?dpZ14; (case dpW14 => k_is); (case dpX14 => k_is); (case dpY14 => k_is); (case dpZ14 => k_is))
    (case dpA15 => refine' DP.at_mk ?dpW15 ?dpX15 ?dpY15 ?dpZ15; (case dpW15 => k_is); (case dpX15 => k_is); (case dpY15 => k_is); (case dpZ15 => k_is))
    (case dpA16 => refine' DP.at_mk ?dpW16 ?dpX16 ?dpY16 ?dpZ16; (case dpW16 => k_is); (case dpX16 => k_is); (case dpY16 => k_is); (case dpZ16 => k_is))
    (case dpA17 => refine' DP.at_mk ?dpW17 ?dpX17 ?dpY17 ?dpZ17; (case dpW17 => k_is); (case dpX17 => k_is); (case dpY17 => k_is); (case dpZ17 => k_is))
    (case dpA18 => refine' DP.at_mk ?dpW18 ?dpX18 ?dpY18 ?dpZ18; (case dpW18 => k_is); (case dpX18 => k_is); (case dpY18 => k_is); (case dpZ18 => k_is))
    (case dpA19 => refine' DP.at_mk ?dpW19 ?dpX19 ?dpY19 ?dpZ19; (case dpW19 => k_is); (case dpX19 => k_is); (case dpY19 => k_is); (case dpZ19 => k_is))
    (case dpA20 => refine' DP.at_mk ?dpW20 ?dpX20 ?dpY20 ?dpZ20; (case dpW20 => k_is); (case dpX20 => k_is); (case dpY20 => k_is); (case dpZ20 => k_is))
    (case dpA21 => refine' DP.at_mk ?dpW21 ?dpX21 ?dpY21 ?dpZ21; (case dpW21 => k_is); (case dpX21 => k_is); (case dpY21 => k_is); (case dpZ21 => k_is))
    (case dpA22 => refine' DP.at_mk ?dpW22 ?dpX22 ?dpY22 ?dpZ22; (case dpW22 => k_is); (case dpX22 => k_is); (case dpY22 => k_is); (case dpZ22 => k_is))
    (case dpG0 => k_is); (case dpR0 => exact ⟨_, rfl⟩)
    (case dpG1 => k_is); (case dpR1 => exact ⟨_, rfl⟩)
#print axioms PySem.Challenge.cw_dialpack_k07_ways_and_joined_turns_holds
