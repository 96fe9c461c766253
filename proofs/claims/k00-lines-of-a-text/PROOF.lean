import PyProof.Rows.All
import Wide.All
import OpenK.AllK
import Wide.FinOn
import HandS.ForMost
import HandS.Exc
import HandS.CallSlots
import HandS.StrMore
import HandS.FStr
import HandS.Flow
import HandS.IsInst
import HandS.Wide
import HandS.Deep
import HandS.Zip
import HandS.WordsExc
import PySem.Challenge.RW_everylater_k00_lines_of_a_text
set_option Elab.async false
set_option linter.all false
set_option maxRecDepth  100000
set_option maxHeartbeats  8000000
set_option exponentiation.threshold  1000
/-! DP.Core: data, memory, the small language and its evaluation. -/
namespace DP
open PySem PySem.Spec PyProof.Rows L2

/-- data: what a value stands for. klist: a list that is only read (locked, or of the module's top); loc n: the n-th cell of the memory -/
inductive D where
  | non | bl (b : Bool) | int (i : Int) | str (s : Str) | list (xs : List D) | klist (xs : List D) | tup (xs : List D) | loc (n : Nat)

/-- a cell of the memory: a list that may change; an instance; nothing any more (it was frozen) -/
inductive Cell where
  | lst (xs : List D) | obj (c : Nat) (fs : List (Str × D)) | dead

abbrev Mem := List Cell
/-- an exception: its class's number, its fields -/
structure Exn where
  cls : Nat
  fs : List (Str × D)
/-- an evaluation's end: stuck; an exception; a result -/
inductive Res (α : Type) where
  | bad | exc (x : Exn) (M : Mem) | ok (a : α) (M : Mem)
@[simp] def Res.bind {α β : Type} : Res α → (α → Mem → Res β) → Res β
  | .bad, _ => .bad
  | .exc x M, _ => .exc x M
  | .ok a M, f => f a M

abbrev Env := List (Option D)

/-- primitive operations -/
inductive Pr where
  | add | sub | mul | fdiv | mod | pow | neg
  | lt | le | gt | ge | eq | ne | isN | notN | in_ | notIn | not_
  | list | listM | tup | idx | slice (lo hi : Bool)
  | len | int_ | str_ | abs | sum | all | any | tuple_ | list_ | isinst (t : String) | min2 | max2
  | append | join | split | rmsuf | rmpre | strip | fmt1 | fmt
  | freeze | setIdx | iadd

/-- what a loop walks -/
inductive SrcK where
  | seq | rng1 | rng2 | enum | zip

/-- targets -/
inductive T where
  | nm (i : Nat) | tp (is : List Nat)

inductive E where
  | c (d : D)
  | v (i : Nat)
  | pr (p : Pr) (es : List E)
  | and_ (a b : E)
  | or_ (a b : E)
  | ite (c a b : E)
  | call (f : Nat) (es : List E)
  | meth (p : Pr) (t : String) (o : E) (es : List E)
  | fstr (es : List E)
  | slc3 (a l u : E)
  | never
  | comp (mt : Bool) (own : List Nat) (t : T) (k : SrcK) (src : List E) (cond : Option E) (elt : E)

inductive Flow where
  | nx | rt (d : D) | bk | ct | ex (x : Exn)
/-- a statement's end -/
inductive SRes where
  | bad | done (f : Flow) (env : Env) (M : Mem)
@[simp] def Res.sb {α : Type} (env : Env) : Res α → (α → Mem → SRes) → SRes
  | .bad, _ => .bad
  | .exc x M, _ => .done (.ex x) env M
  | .ok a M, f => f a M

inductive S where
  | asg (t : T) (e : E)
  | setIx (o i e : E)
  | aug (i : Nat) (p : Pr) (e : E)
  | augIx (o i : E) (p : Pr) (e : E)
  | ex (e : E)
  | ret (e : E)
  | retN
  | ife (c : E) (a b : List S)
  | for_ (t : T) (k : SrcK) (src : List E) (body : List S)
  | pass | brk | cont | never

/-! ### data by their parts -/
def asL (M : Mem) : D → Option (List D)
  | .list xs => some xs
  | .klist xs => some xs
  | .loc n => match M[n]? with
    | some (.lst xs) => some xs
    | _ => none
  | _ => none
def asT : D → Option (List D)
  | .tup xs => some xs
  | _ => none
/-- a list (not a locked one) -/
def asLL (M : Mem) : D → Option (List D)
  | .klist _ => none
  | d => asL M d
def asSeq (M : Mem) (d : D) : Option (List D) := match d with
  | .tup xs => some xs
  | d => asL M d
mutual
/-- as plain data, lists by what they hold now -/
def py (M : Mem) (n : Nat) : D → Option PyData
  | .non => some .none
  | .bl b => some (.bool b)
  | .int i => some (.int i)
  | .str s => some (.str s)
  | .list xs => (pys M n xs).map .list
  | .klist xs => (pys M n xs).map .list
  | .tup xs => (pys M n xs).map .tuple
  | .loc _ => none
def pys (M : Mem) (n : Nat) : List D → Option (List PyData)
  | [] => some []
  | d :: ds => match py M n d, pys M n ds with
    | some a, some b => some (a :: b)
    | _, _ => none
end
/-- .. a changing list of plain data too -/
def pyM (M : Mem) : D → Option PyData
  | .loc n => match M[n]? with
    | some (.lst xs) => (pys M 0 xs).map .list
    | _ => none
  | d => py M 0 d
def truth (M : Mem) : D → Option Bool
  | .non => some false
  | .bl b => some b
  | .int i => some (i != 0)
  | .str s => if s.length ≤ sizeLine then some ((s.length : Int) != 0) else none
  | .tup xs => some (!xs.isEmpty)
  | d => (asL M d).map fun xs => !xs.isEmpty
def strsOf : List D → Option (List Str)
  | [] => some []
  | .str s :: r => (strsOf r).map (s :: ·)
  | _ => none
def intsOf : List D → Option (List Int)
  | [] => some []
  | .int s :: r => (intsOf r).map (s :: ·)
  | _ => none
def boolsOf : List D → Option (List Bool)
  | [] => some []
  | .bl s :: r => (boolsOf r).map (s :: ·)
  | _ => none

/-! ### the primitive operations -/
abbrev PRes := Option (D × Mem)
def okB (b : Bool) (M : Mem) : PRes := some (.bl b, M)
def prAdd (M : Mem) : List D → PRes
  | [.int i, .int j] => some (.int (i + j), M)
  | [.str s, .str t] => if s.length + t.length ≤ sizeLine then some (.str (s ++ t), M) else none
  | [a, b] => match asLL M a, asLL M b with
    | some xs, some ys => if xs.length + ys.length ≤ sizeLine then some (.list (xs ++ ys), M) else none
    | _, _ => match asT a, asT b with
      | some (x :: xs), some (y :: ys) => if xs.length + 1 + (ys.length + 1) ≤ sizeLine then some (.tup ((x :: xs) ++ (y :: ys)), M) else none
      | _, _ => none
  | _ => none
def prIadd (M : Mem) : List D → PRes
  | [.int i, .int j] => some (.int (i + j), M)
  | _ => none
def prSub (M : Mem) : List D → PRes
  | [.int i, .int j] => some (.int (i - j), M)
  | _ => none
/-- a product's size -/
def mulFits (i j : Int) : Prop := i.natAbs.log2 + j.natAbs.log2 < 1000000
open Classical in
noncomputable def prMul (M : Mem) : List D → PRes
  | [.int i, .int j] => if mulFits i j then some (.int (i * j), M) else none
  | [a, .int k] => match asLL M a with
    | some xs => if -(2 ^ 63) ≤ k ∧ k < 2 ^ 63 ∧ xs.length * k.toNat ≤ sizeLine then some (.list (List.replicate k.toNat xs).flatten, M) else none
    | none => none
  | _ => none
open Classical in
noncomputable def prFdiv (M : Mem) : List D → PRes
  | [.int i, .int j] => if 0 < j ∧ j.natAbs.log2 < 9000 then some (.int (i / j), M) else none
  | _ => none
def prMod (M : Mem) : List D → PRes
  | [.int i, .int j] => if 0 < j then some (.int (i % j), M) else none
  | _ => none
def prPow (M : Mem) : List D → PRes
  | [.int i, .int j] => if 0 ≤ j ∧ j ≤ 1000 ∧ i.natAbs < 2 ^ 64 then some (.int (i ^ j.toNat), M) else none
  | _ => none
def prNeg (M : Mem) : List D → PRes
  | [.int i] => some (.int (-i), M)
  | _ => none
def prCmp (f : Int → Int → Bool) (M : Mem) : List D → PRes
  | [.int i, .int j] => okB (f i j) M
  | _ => none
def prEq (M : Mem) : List D → PRes
  | [a, b] => match pyM M a, pyM M b with
    | some x, some y => if SeqAt.shaped x = true ∧ SeqAt.shaped y = true then okB (PyData.eqv x y) M else none
    | _, _ => none
  | _ => none
def prNe (M : Mem) : List D → PRes
  | [a, b] => match pyM M a, pyM M b with
    | some x, some y => if SeqAt.shaped x = true ∧ SeqAt.shaped y = true then okB (!PyData.eqv x y) M else none
    | _, _ => none
  | _ => none
def D.isN : D → Bool
  | .non => true
  | _ => false
def prIsN (M : Mem) : List D → PRes
  | [a] => okB a.isN M
  | _ => none
def prNotN (M : Mem) : List D → PRes
  | [a] => okB (!a.isN) M
  | _ => none
/-- a in b -/
def inB (M : Mem) : List D → Option Bool
  | [.str s, .str t] => match s.cps.toList with
    | [c] => some (decide (c ∈ t.cps.toList))
    | _ => some (!(Builtin.Str.occurrences t s 0 t.length 1).isEmpty)
  | [a, b] => match pyM M a, asSeq M b with
    | some x, some ys => match pys M 0 ys with
      | some zs => if SeqAt.shaped x = true ∧ SeqAt.shaped (.list zs) = true then some (zs.any fun z => PyData.eqv z x) else none
      | none => none
    | _, _ => none
  | _ => none
def prIn (M : Mem) (ds : List D) : PRes := match inB M ds with
  | some b => okB b M
  | none => none
def prNotIn (M : Mem) (ds : List D) : PRes := match inB M ds with
  | some b => okB (!b) M
  | none => none
def prNot (M : Mem) : List D → PRes
  | [a] => match truth M a with
    | some b => okB (!b) M
    | none => none
  | _ => none
def prList (M : Mem) (ds : List D) : PRes := if ds.length ≤ sizeLine then some (.list ds, M) else none
def prListM (M : Mem) (ds : List D) : PRes := if ds.length ≤ sizeLine then some (.loc M.length, M ++ [.lst ds]) else none
def prTup (M : Mem) (ds : List D) : PRes := if ds.length ≤ sizeLine then some (.tup ds, M) else none
def prIdx (M : Mem) : List D → PRes
  | [.str z, .int i] => if z.length ≤ sizeLine then (match atI z.cps.toList i with
    | some c => some (.str ⟨#[c]⟩, M)
    | none => none) else none
  | [a, .int i] => match asSeq M a with
    | some xs => match atI xs i with
      | some d => some (d, M)
      | none => none
    | none => none
  | _ => none
/-- an item of a list -/
def prIdxL (M : Mem) : List D → PRes
  | [a, .int i] => match asL M a with
    | some xs => match atI xs i with
      | some d => some (d, M)
      | none => none
    | none => none
  | _ => none
def cutD (xs : List D) (lo hi : Option Int) : List D := (xs.drop (HT.sIx xs.length 0 lo)).take (HT.sIx xs.length xs.length hi - HT.sIx xs.length 0 lo)
def slc (M : Mem) (lo hi : Option Int) : D → PRes
  | .str z => if z.length ≤ sizeLine then some (.str (cutS z lo hi), M) else none
  | .tup xs => if (cutD xs lo hi).length < xs.length then some (.tup (cutD xs lo hi), M) else none
  | a => match asL M a with
    | some xs => some (.list (cutD xs lo hi), M)
    | none => none
def prSlice (lo hi : Bool) (M : Mem) : List D → PRes
  | [a, .int i] => if lo && !hi then slc M (some i) none a else if !lo && hi then slc M none (some i) a else none
  | [a] => if !lo && !hi then slc M none none a else none
  | _ => none
def prLen (M : Mem) : List D → PRes
  | [.str z] => if z.length ≤ sizeLine then some (.int z.length, M) else none
  | [a] => match asSeq M a with
    | some xs => some (.int xs.length, M)
    | none => none
  | _ => none
def prInt (M : Mem) : List D → PRes
  | [.int i] => some (.int i, M)
  | [.str s] => if s.length ≤ 640 then (match PySem.intText? s with
    | some n => some (.int n, M)
    | none => none) else none
  | _ => none
def prStr (M : Mem) : List D → PRes
  | [.int i] => if i.natAbs.log2 < 1920 then some (.str (toString i), M) else none
  | _ => none
def prAbs (M : Mem) : List D → PRes
  | [.int i] => some (.int (if i < 0 then -i else i), M)
  | _ => none
def prSum (M : Mem) : List D → PRes
  | [a] => match asL M a with
    | some xs => match intsOf xs with
      | some ns => some (.int ns.sum, M)
      | none => none
    | none => none
  | _ => none
def prAll (M : Mem) : List D → PRes
  | [a] => match asL M a with
    | some xs => match boolsOf xs with
      | some bs => okB (bs.all id) M
      | none => none
    | none => none
  | _ => none
def prAny (M : Mem) : List D → PRes
  | [a] => match asL M a with
    | some xs => match boolsOf xs with
      | some bs => okB (bs.any id) M
      | none => none
    | none => none
  | _ => none
def prTuple (M : Mem) : List D → PRes
  | [.tup xs] => some (.tup xs, M)
  | [a] => match asL M a with
    | some xs => some (.tup xs, M)
    | none => none
  | _ => none
def prListOf (M : Mem) : List D → PRes
  | [a] => match asSeq M a with
    | some xs => some (.list xs, M)
    | none => none
  | _ => none
/-- the built-in class of data -/
def D.ty (M : Mem) : D → Option String
  | .non => some "NoneType"
  | .bl _ => some "bool"
  | .int _ => some "int"
  | .str _ => some "str"
  | .list _ => some "list"
  | .klist _ => none
  | .tup _ => some "tuple"
  | .loc n => match M[n]? with
    | some (.lst _) => some "list"
    | _ => none
def prIsInst (t : String) (M : Mem) : List D → PRes
  | [a] => match a.ty M with
    | some u => match L2.kitB u t with
      | some b => okB b M
      | none => none
    | none => none
  | _ => none
def prMin2 (M : Mem) : List D → PRes
  | [.int i, .int j] => some (.int (if j < i then j else i), M)
  | _ => none
def prMax2 (M : Mem) : List D → PRes
  | [.int i, .int j] => some (.int (if j > i then j else i), M)
  | _ => none
def prAppend (M : Mem) : List D → PRes
  | [.loc n, d] => match M[n]? with
    | some (.lst xs) => if xs.length < sizeLine then some (.non, M.set n (.lst (xs ++ [d]))) else none
    | _ => none
  | _ => none
def prSetIdx (M : Mem) : List D → PRes
  | [.loc n, .int i, d] => match M[n]? with
    | some (.lst xs) => match ixN xs.length i with
      | some j => some (.non, M.set n (.lst (xs.set j d)))
      | none => none
    | _ => none
  | _ => none
/-- the size of texts joined, by a bound that is easy to reckon -/
def joinSize (s : Str) (ys : List Str) : Nat := (ys.map (·.length)).sum + ys.length * s.length
def prJoin (M : Mem) : List D → PRes
  | [.str s, a] => match asSeq M a with
    | some xs => match strsOf xs with
      | some ys => if joinSize s ys ≤ 16777216 then some (.str (Txt.join s ys), M) else none
      | none => none
    | none => none
  | _ => none
def prSplit (M : Mem) : List D → PRes
  | [.str s, .str t] => if (t.length == 0) = false ∧ s.length + 2 ≤ sizeLine then some (.list ((Txt.split s t).map .str), M) else none
  | _ => none
def prRmsuf (M : Mem) : List D → PRes
  | [.str s, .str t] => if s.length ≤ sizeLine then some (.str (Txt.removesuffix s t), M) else none
  | _ => none
def prRmpre (M : Mem) : List D → PRes
  | [.str s, .str t] => if s.length ≤ sizeLine then some (.str (Txt.removeprefix s t), M) else none
  | _ => none
def prStrip (M : Mem) : List D → PRes
  | [.str s, .str t] => if s.length ≤ sizeLine then some (.str (Txt.stripChars s t), M) else none
  | _ => none
def prFmt1 (M : Mem) : List D → PRes
  | [.str s] => if s.length ≤ sizeLine then some (.str s, M) else none
  | [.int i] => if i.natAbs.log2 < 1920 then some (.str (toString i), M) else none
  | _ => none
def fmtAll (acc : Str) : List D → Option Str
  | [] => some acc
  | .str s :: r => if (acc ++ s).length ≤ sizeLine then fmtAll (acc ++ s) r else none
  | _ => none
def prFmt (M : Mem) (ds : List D) : PRes := match fmtAll Str.empty ds with
  | some s => some (.str s, M)
  | none => none
/-- a changing list becomes a plain one (its changing items too) -/
def fz : Nat → Mem → D → Option (D × Mem)
  | 0, _, .loc _ => none
  | k + 1, M, .loc n => match M[n]? with
    | some (.lst xs) => (xs.foldl (fun (r : Option (List D × Mem)) x => match r with
        | some (acc, M1) => match fz k M1 x with
          | some (y, M2) => some (acc ++ [y], M2)
          | none => none
        | none => none) (some ([], M.set n .dead))).map fun p => (.list p.1, p.2)
    | _ => none
  | _, M, d => some (d, M)
def prFreeze (M : Mem) : List D → PRes
  | [d] => fz 4 M d
  | _ => none

noncomputable def pr : Pr → Mem → List D → PRes
  | .add => prAdd | .sub => prSub | .mul => prMul | .fdiv => prFdiv | .mod => prMod | .pow => prPow | .neg => prNeg
  | .lt => prCmp fun i j => decide (i < j) | .le => prCmp fun i j => decide (i ≤ j) | .gt => prCmp fun i j => decide (j < i) | .ge => prCmp fun i j => decide (j ≤ i)
  | .eq => prEq | .ne => prNe | .isN => prIsN | .notN => prNotN | .in_ => prIn | .notIn => prNotIn | .not_ => prNot
  | .list => prList | .listM => prListM | .tup => prTup | .idx => prIdx | .slice lo hi => prSlice lo hi
  | .len => prLen | .int_ => prInt | .str_ => prStr | .abs => prAbs | .sum => prSum | .all => prAll | .any => prAny | .tuple_ => prTuple | .list_ => prListOf
  | .isinst t => prIsInst t | .min2 => prMin2 | .max2 => prMax2
  | .append => prAppend | .join => prJoin | .split => prSplit | .rmsuf => prRmsuf | .rmpre => prRmpre | .strip => prStrip | .fmt1 => prFmt1 | .fmt => prFmt
  | .freeze => prFreeze | .setIdx => prSetIdx | .iadd => prIadd

@[simp] def ofP : PRes → Res D
  | some (d, M) => .ok d M
  | none => .bad

/-! ### what is walked -/
/-- what a loop walks: the items as they are, the items with the cell that holds them -/
inductive Walk where
  | items (xs : List D) | cell (n : Nat) (xs : List D)
def Walk.xs : Walk → List D
  | .items xs => xs
  | .cell _ xs => xs
def Walk.Ok (M : Mem) : Walk → Prop
  | .items _ => True
  | .cell n xs => M[n]? = some (.lst xs)
def rngD (lo : Int) (n : Nat) : List D := (List.range n).map fun (k : Nat) => D.int (lo + k)
def enumD : Nat → List D → List D
  | _, [] => []
  | k, x :: xs => .tup [.int k, x] :: enumD (k + 1) xs
def zipD : List D → List D → List D
  | x :: xs, y :: ys => .tup [x, y] :: zipD xs ys
  | _, _ => []
def walk (M : Mem) : SrcK → List D → Option Walk
  | .seq, [.loc n] => match M[n]? with
    | some (.lst xs) => some (.cell n xs)
    | _ => none
  | .seq, [.str z] => some (.items (z.cps.toList.map fun c => .str ⟨#[c]⟩))
  | .seq, [.tup xs] => some (.items xs)
  | .seq, [d] => (asL M d).map .items
  | .rng1, [.int j] => if -(2 ^ 62) ≤ j ∧ j < 2 ^ 62 then some (.items (rngD 0 j.toNat)) else none
  | .rng2, [.int i, .int j] => if -(2 ^ 62) ≤ i ∧ i < 2 ^ 62 ∧ -(2 ^ 62) ≤ j ∧ j < 2 ^ 62 then some (.items (rngD i (j - i).toNat)) else none
  | .enum, [.list xs] => some (.items (enumD 0 xs))
  | .zip, [.list xs, .list ys] => if xs.length = ys.length then some (.items (zipD xs ys)) else none
  | _, _ => none

/-- the slots of the block's own names forgotten -/
def wipeE (env : Env) : List Nat → Env
  | [] => env
  | v :: vs => (wipeE env vs).set v none
def setAll (env : Env) : List Nat → List D → Option Env
  | [], [] => some env
  | i :: is, d :: ds => setAll (env.set i (some d)) is ds
  | _, _ => none
def store (env : Env) (d : D) : T → Option Env
  | .nm i => some (env.set i (some d))
  | .tp is => match d with
    | .tup xs => setAll env is xs
    | _ => none

/-- a comprehension's turns -/
noncomputable def compLoop (w : Walk) (f : D → Mem → Res (Option D)) : List D → Mem → Res (List D)
  | [], M => open Classical in if w.Ok M then .ok [] M else .bad
  | x :: xs, M => open Classical in if w.Ok M then match f x M with
      | .ok none M1 => compLoop w f xs M1
      | .ok (some d) M1 => match compLoop w f xs M1 with
        | .ok ds M2 => .ok (d :: ds) M2
        | _ => .bad
      | _ => .bad
    else .bad

/-! ### expressions -/
section
variable (call : Nat → List D → Mem → Res D)
mutual
noncomputable def ev : E → Env → Mem → Res D
  | .c d, _, M => .ok d M
  | .v i, env, M => match env[i]? with
    | some (some d) => .ok d M
    | _ => .bad
  | .pr p es, env, M => (evs es env M).bind fun ds M1 => ofP (pr p M1 ds)
  | .and_ a b, env, M => (ev a env M).bind fun d M1 => match truth M1 d with
    | some true => ev b env M1
    | some false => .ok d M1
    | none => .bad
  | .or_ a b, env, M => (ev a env M).bind fun d M1 => match truth M1 d with
    | some false => ev b env M1
    | some true => .ok d M1
    | none => .bad
  | .ite c a b, env, M => (ev c env M).bind fun d M1 => match truth M1 d with
    | some true => ev a env M1
    | some false => ev b env M1
    | none => .bad
  | .call f es, env, M => (evs es env M).bind fun ds M1 => call f ds M1
  | .meth p t o es, env, M => (ev o env M).bind fun d M1 => if d.ty M1 = some t then (evs es env M1).bind fun ds M2 => ofP (pr p M2 (d :: ds)) else .bad
  | .fstr es, env, M => match evs es env M with
    | .ok ds M1 => ofP (prFmt M1 ds)
    | _ => .bad
  | .never, _, _ => .bad
  | .slc3 a l u, env, M => (ev a env M).bind fun d1 M1 => (ev l env M1).bind fun d2 M2 => match d2 with
    | .int i => (ev u env M2).bind fun d3 M3 => match d3 with
      | .int j => ofP (slc M3 (some i) (some j) d1)
      | _ => .bad
    | _ => .bad
  | .comp mt own t k src cond elt, env, M => (evs src env M).bind fun ds M1 => match walk M1 k ds with
    | none => .bad
    | some w => match compLoop w (fun x M2 => match store (wipeE env own) x t with
        | none => .bad
        | some env2 => match cond with
          | none => (match ev elt env2 M2 with
            | .ok d M4 => .ok (some d) M4
            | _ => .bad)
          | some c => match ev c env2 M2 with
            | .ok d M3 => match truth M3 d with
              | some true => (match ev elt env2 M3 with
                | .ok d M4 => .ok (some d) M4
                | _ => .bad)
              | some false => .ok none M3
              | none => .bad
            | _ => .bad) w.xs M1 with
      | .ok ys M5 => if ys.length ≤ sizeLine then (if mt then .ok (.loc M5.length) (M5 ++ [.lst ys]) else .ok (.list ys) M5) else .bad
      | _ => .bad
noncomputable def evs : List E → Env → Mem → Res (List D)
  | [], _, M => .ok [] M
  | e :: es, env, M => (ev e env M).bind fun d M1 => (evs es env M1).bind fun ds M2 => .ok (d :: ds) M2
end

/-! ### statements -/
/-- a loop's turns -/
noncomputable def forLoop (w : Walk) (f : D → Env → Mem → SRes) : List D → Env → Mem → SRes
  | [], env, M => open Classical in if w.Ok M then .done .nx env M else .bad
  | x :: xs, env, M => open Classical in if w.Ok M then match f x env M with
      | .done .nx env1 M1 => forLoop w f xs env1 M1
      | .done .ct env1 M1 => forLoop w f xs env1 M1
      | .done .bk env1 M1 => .done .nx env1 M1
      | .done (.rt d) env1 M1 => .done (.rt d) env1 M1
      | .done (.ex x) env1 M1 => .done (.ex x) env1 M1
      | .bad => .bad
    else .bad
mutual
noncomputable def exec : S → Env → Mem → SRes
  | .asg t e, env, M => (ev call e env M).sb env fun d M1 => match store env d t with
    | some env1 => .done .nx env1 M1
    | none => .bad
  | .setIx o i e, env, M => (ev call e env M).sb env fun d M1 => (ev call o env M1).sb env fun od M2 => (ev call i env M2).sb env fun id M3 => match prSetIdx M3 [od, id, d] with
    | some (_, M4) => .done .nx env M4
    | none => .bad
  | .aug i p e, env, M => match env[i]? with
    | some (some d) => (ev call e env M).sb env fun d2 M1 => match pr p M1 [d, d2] with
      | some (d3, M2) => .done .nx (env.set i (some d3)) M2
      | none => .bad
    | _ => .bad
  | .augIx o i p e, env, M => (ev call o env M).sb env fun od M1 => (ev call i env M1).sb env fun id M2 => match prIdxL M2 [od, id] with
    | none => .bad
    | some (old, M3) => (ev call e env M3).sb env fun d2 M4 => match pr p M4 [old, d2] with
      | none => .bad
      | some (nw, M5) => match prSetIdx M5 [od, id, nw] with
        | some (_, M6) => .done .nx env M6
        | none => .bad
  | .ex e, env, M => (ev call e env M).sb env fun _ M1 => .done .nx env M1
  | .ret e, env, M => (ev call e env M).sb env fun d M1 => .done (.rt d) env M1
  | .retN, env, M => .done (.rt .non) env M
  | .ife c a b, env, M => (ev call c env M).sb env fun d M1 => match truth M1 d with
    | some true => execs a env M1
    | some false => execs b env M1
    | none => .bad
  | .for_ t k src body, env, M => (evs call src env M).sb env fun ds M1 => match walk M1 k ds with
    | none => .bad
    | some w => forLoop w (fun x env2 M2 => match store env2 x t with
        | none => .bad
        | some env3 => execs body env3 M2) w.xs env M1
  | .pass, env, M => .done .nx env M
  | .brk, env, M => .done .bk env M
  | .cont, env, M => .done .ct env M
  | .never, _, _ => .bad
noncomputable def execs : List S → Env → Mem → SRes
  | [], env, M => .done .nx env M
  | s :: ss, env, M => match exec s env M with
    | .done .nx env1 M1 => execs ss env1 M1
    | r => r
end
end

/-! ### calls -/
mutual
/-- no cell from n on is named -/
def below (n : Nat) : D → Bool
  | .loc k => decide (k < n)
  | .list xs => belows n xs
  | .klist xs => belows n xs
  | .tup xs => belows n xs
  | _ => true
def belows (n : Nat) : List D → Bool
  | [] => true
  | d :: ds => below n d && belows n ds
end
def belowC (n : Nat) : Cell → Bool
  | .lst xs => belows n xs
  | .obj _ fs => belows n (fs.map (·.2))
  | .dead => true
/-- behind a call the cells that the call made are let go, if nothing names them -/
def CanTrim (M : Mem) (d : D) (M' : Mem) : Prop := below M.length d = true ∧ M.length ≤ M'.length ∧ ∀ k, k < M.length → M'[k]? = M[k]? ∨ ∃ c, M'[k]? = some c ∧ belowC M.length c = true
open Classical in
noncomputable def trim (M : Mem) (d : D) (M' : Mem) : Mem := if CanTrim M d M' then M'.take M.length else M'
/-- a def: how many parameters, how many names, its body -/
structure Def where
  par : Nat
  names : Nat
  body : List S
noncomputable def run (fs : List Def) : Nat → Nat → List D → Mem → Res D
  | 0, _, _, _ => .bad
  | n + 1, f, ds, M => match fs[f]? with
    | none => .bad
    | some d => if ds.length = d.par then match execs (run fs n) d.body (ds.map some ++ List.replicate (d.names - ds.length) none) M with
        | .done (.rt r) _ M1 => .ok r (trim M r M1)
        | .done .nx _ M1 => .ok .non (trim M .non M1)
        | .done (.ex x) _ M1 => .exc x M1
        | _ => .bad
      else .bad
end DP

/-! DP.Rel: how data and memory stand in the abstract heap. -/
namespace DP
open PySem PySem.Spec PyProof.Rows L2

/-- the frozen part of the abstract heap; the cells' addresses -/
structure G where
  F : Hp
  a : List Addr

mutual
inductive Rep (K : PySem.W.Frag) (g : G) : V → D → Prop
  | non : Rep K g .non .non
  | bl (b : Bool) : Rep K g (.bl b) (.bl b)
  | int (i : Int) : Rep K g (.int i) (.int i)
  | str (s : Str) : Rep K g (.str s) (.str s)
  | lst {a : Addr} {vs : List V} {ds : List D} : g.F a = some (.lst vs) → Reps K g vs ds → Rep K g (.ref a) (.list ds)
  | klst {a : Addr} {vs : List V} {ds : List D} : SqL K g.F a vs → Reps K g vs ds → Rep K g (.ref a) (.klist ds)
  | tup {a : Addr} {vs : List V} {ds : List D} : SqT K g.F a vs → Reps K g vs ds → Rep K g (.ref a) (.tup ds)
  | loc {n : Nat} {a : Addr} : g.a[n]? = some a → Rep K g (.ref a) (.loc n)
inductive Reps (K : PySem.W.Frag) (g : G) : List V → List D → Prop
  | nil : Reps K g [] []
  | cons {v : V} {vs : List V} {d : D} {ds : List D} : Rep K g v d → Reps K g vs ds → Reps K g (v :: vs) (d :: ds)
end

/-- a later ghost -/
structure Le (g g' : G) : Prop where
  F : Same g.F g'.F
  a : ∃ l, g'.a = g.a ++ l
theorem Le.refl (g : G) : Le g g := ⟨Same.refl _, [], by simp⟩
theorem Le.trans {g g1 g2 : G} (h : Le g g1) (k : Le g1 g2) : Le g g2 := by
  obtain ⟨l, e⟩ := h.a
  obtain ⟨m, f⟩ := k.a
  exact ⟨h.F.trans k.F, l ++ m, by rw [f, e, List.append_assoc]⟩
theorem Le.at {g g' : G} (h : Le g g') {n : Nat} {a : Addr} (e : g.a[n]? = some a) : g'.a[n]? = some a := by
  obtain ⟨l, q⟩ := h.a
  rw [q, List.getElem?_append_left (List.getElem?_eq_some_iff.mp e).1]
  exact e
theorem Same.sqT {K : PySem.W.Frag} {H H' : Hp} {a : Addr} {xs : List V} (e : Same H H') (h : SqT K H a xs) : SqT K H' a xs := by
  rcases h with (h | ⟨o, h⟩) | h
  · exact .inl (.inl (e _ _ h))
  · exact .inl (.inr ⟨o, e _ _ h⟩)
  · exact .inr h
section
variable {K : PySem.W.Frag} {g g' : G}
mutual
theorem Rep.mono (h : Le g g') : ∀ {v : V} {d : D}, Rep K g v d → Rep K g' v d
  | _, _, .non => .non
  | _, _, .bl b => .bl b
  | _, _, .int i => .int i
  | _, _, .str s => .str s
  | _, _, .lst e r => .lst (h.F _ _ e) (Reps.mono h r)
  | _, _, .klst e r => .klst (h.F.seq e) (Reps.mono h r)
  | _, _, .tup e r => .tup (DP.Same.sqT h.F e) (Reps.mono h r)
  | _, _, .loc e => .loc (h.at e)
theorem Reps.mono (h : Le g g') : ∀ {vs : List V} {ds : List D}, Reps K g vs ds → Reps K g' vs ds
  | _, _, .nil => .nil
  | _, _, .cons a b => .cons (Rep.mono h a) (Reps.mono h b)
end
theorem Reps.len : ∀ {vs : List V} {ds : List D}, Reps K g vs ds → vs.length = ds.length
  | _, _, .nil => rfl
  | _, _, .cons _ b => by simp [Reps.len b]
theorem Reps.get : ∀ {vs : List V} {ds : List D} {i : Nat} {d : D}, Reps K g vs ds → ds[i]? = some d → ∃ v, vs[i]? = some v ∧ Rep K g v d
  | _, _, _, _, .nil, e => by simp at e
  | _, _, 0, _, .cons a _, e => by simp at e; subst e; exact ⟨_, rfl, a⟩
  | _, _, i + 1, _, .cons _ b, e => by
    obtain ⟨v, h1, h2⟩ := Reps.get (i := i) b (by simpa using e)
    exact ⟨v, by simpa using h1, h2⟩
theorem Reps.getV : ∀ {vs : List V} {ds : List D} {i : Nat} {v : V}, Reps K g vs ds → vs[i]? = some v → ∃ d, ds[i]? = some d ∧ Rep K g v d
  | _, _, _, _, .nil, e => by simp at e
  | _, _, 0, _, .cons a _, e => by simp at e; subst e; exact ⟨_, rfl, a⟩
  | _, _, i + 1, _, .cons _ b, e => by
    obtain ⟨v, h1, h2⟩ := Reps.getV (i := i) b (by simpa using e)
    exact ⟨v, by simpa using h1, h2⟩
theorem Reps.append : ∀ {vs : List V} {ds : List D} {ws : List V} {es : List D}, Reps K g vs ds → Reps K g ws es → Reps K g (vs ++ ws) (ds ++ es)
  | _, _, _, _, .nil, q => q
  | _, _, _, _, .cons a b, q => .cons a (Reps.append b q)
theorem Reps.take : ∀ {vs : List V} {ds : List D} (n : Nat), Reps K g vs ds → Reps K g (vs.take n) (ds.take n)
  | _, _, 0, _ => .nil
  | _, _, _ + 1, .nil => .nil
  | _, _, n + 1, .cons a b => .cons a (Reps.take n b)
theorem Reps.drop : ∀ {vs : List V} {ds : List D} (n : Nat), Reps K g vs ds → Reps K g (vs.drop n) (ds.drop n)
  | _, _, 0, r => r
  | _, _, _ + 1, .nil => .nil
  | _, _, n + 1, .cons _ b => Reps.drop n b
theorem Reps.set {v : V} {d : D} (r : Rep K g v d) : ∀ {vs : List V} {ds : List D} (n : Nat), Reps K g vs ds → Reps K g (vs.set n v) (ds.set n d)
  | _, _, _, .nil => .nil
  | _, _, 0, .cons _ b => .cons r b
  | _, _, n + 1, .cons a b => .cons a (Reps.set r n b)
theorem Reps.cut {vs : List V} {ds : List D} (lo hi : Option Int) (r : Reps K g vs ds) : Reps K g (cutV vs lo hi) (cutD ds lo hi) := by
  unfold cutV cutD
  rw [r.len]
  exact (r.drop _).take _
theorem Reps.rep {vs : List V} {ds : List D} (r : Reps K g vs ds) : ∀ k : Nat, Reps K g (List.replicate k vs).flatten (List.replicate k ds).flatten
  | 0 => .nil
  | k + 1 => by
    rw [List.replicate_succ, List.replicate_succ, List.flatten_cons, List.flatten_cons]
    exact r.append (Reps.rep r k)
end

def CellOk (K : PySem.W.Frag) (g : G) (H : Hp) (a : Addr) : Cell → Prop
  | .lst ds => g.F a = none ∧ ∃ vs, H a = some (.lst vs) ∧ Reps K g vs ds
  | .obj _ _ => False
  | .dead => True
structure RelM (K : PySem.W.Frag) (g : G) (M : Mem) (H : Hp) : Prop where
  sub : Same g.F H
  len : g.a.length = M.length
  nd : g.a.Nodup
  live : ∀ a ∈ g.a, H a ≠ none
  cell : ∀ (n : Nat) (a : Addr) (c : Cell), g.a[n]? = some a → M[n]? = some c → CellOk K g H a c
/-- from here to there: what is no cell stays, new cells are new -/
structure Stp (g : G) (H : Hp) (g' : G) (H' : Hp) : Prop where
  le : Le g g'
  keep : ∀ b o, H b = some o → b ∉ g.a → H' b = some o ∧ b ∉ g'.a ∧ g'.F b = g.F b
theorem Stp.refl {g : G} {H : Hp} : Stp g H g H := ⟨Le.refl g, fun _ _ e n => ⟨e, n, rfl⟩⟩
theorem Stp.trans {g g1 g2 : G} {H H1 H2 : Hp} (h : Stp g H g1 H1) (k : Stp g1 H1 g2 H2) : Stp g H g2 H2 :=
  ⟨h.le.trans k.le, fun b o e n => let ⟨e1, n1, f1⟩ := h.keep b o e n; let ⟨e2, n2, f2⟩ := k.keep b o e1 n1; ⟨e2, n2, f2.trans f1⟩⟩

section
variable {K : PySem.W.Frag} {g : G} {M : Mem} {H : Hp}
/-- a new object that never changes -/
theorem RelM.froze (R : RelM K g M H) {p : Addr} {o : HO} (hp : H p = none) : RelM K ⟨upd g.F p o, g.a⟩ M (upd H p o) ∧ Stp g H ⟨upd g.F p o, g.a⟩ (upd H p o) := by
  have hF : g.F p = none := R.sub.free hp
  have le : Le g ⟨upd g.F p o, g.a⟩ := ⟨fun b u e => by show upd g.F p o b = _; rw [upd_ne (ne_of_none e hF)]; exact e, [], by simp⟩
  have np : p ∉ g.a := fun m => R.live p m hp
  refine ⟨⟨fun b u e => ?_, R.len, R.nd, fun a m => ?_, fun n a c e1 e2 => ?_⟩, le, fun b u e n => ⟨by rw [upd_ne (ne_of_none e hp)]; exact e, n, by show upd g.F p o b = _; rw [upd_ne (ne_of_none e hp)]⟩⟩
  · by_cases hb : b = p
    · subst hb
      have e : upd g.F b o b = some u := e
      rw [upd_same] at e ⊢
      exact e
    · have e : upd g.F p o b = some u := e
      rw [upd_ne hb] at e ⊢
      exact R.sub b u e
  · by_cases hb : a = p
    · subst hb
      rw [upd_same]
      simp
    · rw [upd_ne hb]
      exact R.live a m
  · have q := R.cell n a c e1 e2
    have ha : a ≠ p := fun z => np (z ▸ List.mem_of_getElem? e1)
    cases c with
    | dead => trivial
    | obj _ _ => exact q
    | lst ds =>
      obtain ⟨q1, vs, q2, q3⟩ := q
      exact ⟨by show upd g.F p o a = none; rw [upd_ne ha]; exact q1, vs, by rw [upd_ne ha]; exact q2, q3.mono le⟩
/-- a new cell -/
theorem RelM.born (R : RelM K g M H) {p : Addr} {vs : List V} {ds : List D} (hp : H p = none) (r : Reps K g vs ds) :
    RelM K ⟨g.F, g.a ++ [p]⟩ (M ++ [.lst ds]) (upd H p (.lst vs)) ∧ Stp g H ⟨g.F, g.a ++ [p]⟩ (upd H p (.lst vs)) ∧ Rep K ⟨g.F, g.a ++ [p]⟩ (.ref p) (.loc M.length) := by
  have hF : g.F p = none := R.sub.free hp
  have le : Le g ⟨g.F, g.a ++ [p]⟩ := ⟨Same.refl _, [p], rfl⟩
  have np : p ∉ g.a := fun m => R.live p m hp
  refine ⟨⟨fun b u e => ?_, ?_, ?_, fun a m => ?_, fun n a c e1 e2 => ?_⟩, ⟨le, fun b u e n => ⟨by rw [upd_ne (ne_of_none e hp)]; exact e, ?_, rfl⟩⟩, ?_⟩
  · rw [upd_ne (ne_of_none e hF)]
    exact R.sub b u e
  · show (g.a ++ [p]).length = _
    rw [List.length_append, List.length_append, R.len]
    rfl
  · show (g.a ++ [p]).Nodup
    rw [List.nodup_append]
    exact ⟨R.nd, by simp, fun a ha b hb => by simp at hb; subst hb; exact fun z => np (z ▸ ha)⟩
  · rcases List.mem_append.mp m with m | m
    · rw [upd_ne (show a ≠ p from fun z => np (z ▸ m))]
      exact R.live a m
    · simp at m
      subst m
      rw [upd_same]
      simp
  · by_cases hn : n < M.length
    · have e1 : (g.a ++ [p])[n]? = some a := e1
      rw [List.getElem?_append_left (by rw [R.len]; exact hn)] at e1
      rw [List.getElem?_append_left hn] at e2
      have q := R.cell n a c e1 e2
      have ha : a ≠ p := fun z => np (z ▸ List.mem_of_getElem? e1)
      cases c with
      | dead => trivial
      | obj _ _ => exact q
      | lst ds =>
        obtain ⟨q1, vs, q2, q3⟩ := q
        exact ⟨q1, vs, by rw [upd_ne ha]; exact q2, q3.mono le⟩
    · have hl : n < (M ++ [Cell.lst ds]).length := (List.getElem?_eq_some_iff.mp e2).1
      rw [List.length_append] at hl
      have hn' : n = M.length := by simp at hl; omega
      subst hn'
      rw [List.getElem?_append_right (Nat.le_refl _)] at e2
      have e1 : (g.a ++ [p])[M.length]? = some a := e1
      rw [← R.len, List.getElem?_append_right (Nat.le_refl _)] at e1
      simp at e1
      subst e1
      simp at e2
      subst e2
      exact ⟨hF, vs, upd_same, r.mono le⟩
  · show b ∉ g.a ++ [p]
    rw [List.mem_append]
    rintro (m | m)
    · exact n m
    · simp at m
      subst m
      rw [hp] at e
      cases e
  · refine .loc ?_
    show (g.a ++ [p])[M.length]? = some p
    rw [← R.len, List.getElem?_append_right (Nat.le_refl _)]
    simp
/-- a cell's list changes -/
theorem RelM.put (R : RelM K g M H) {n : Nat} {p : Addr} {xs : List D} {vs : List V} {ds : List D} (ha : g.a[n]? = some p) (hc : M[n]? = some (.lst xs)) (r : Reps K g vs ds) :
    RelM K g (M.set n (.lst ds)) (upd H p (.lst vs)) ∧ Stp g H g (upd H p (.lst vs)) := by
  have q0 : g.F p = none := (R.cell n p _ ha hc).1
  have hm : p ∈ g.a := List.mem_of_getElem? ha
  refine ⟨⟨fun b u e => ?_, by rw [List.length_set]; exact R.len, R.nd, fun a m => ?_, fun k a c e1 e2 => ?_⟩, ⟨Le.refl g, fun b u e n => ⟨by rw [upd_ne (show b ≠ p from fun z => n (z ▸ hm))]; exact e, n, rfl⟩⟩⟩
  · rw [upd_ne (ne_of_none e q0)]
    exact R.sub b u e
  · by_cases hb : a = p
    · subst hb
      rw [upd_same]
      simp
    · rw [upd_ne hb]
      exact R.live a m
  · by_cases hk : k = n
    · subst hk
      rw [ha] at e1
      cases e1
      rw [List.getElem?_set_self (List.getElem?_eq_some_iff.mp hc).1] at e2
      cases e2
      exact ⟨q0, vs, upd_same, r⟩
    · rw [List.getElem?_set_ne (Ne.symm hk)] at e2
      have q := R.cell k a c e1 e2
      have hne : a ≠ p := fun z => by
        subst z
        have h1 := List.getElem?_eq_some_iff.mp e1
        have h2 := List.getElem?_eq_some_iff.mp ha
        exact hk ((List.getElem_inj R.nd).mp (h1.2.trans h2.2.symm))
      cases c with
      | dead => trivial
      | obj _ _ => exact q
      | lst zs =>
        obtain ⟨q1, ws, q2, q3⟩ := q
        exact ⟨q1, ws, by rw [upd_ne hne]; exact q2, q3⟩
/-- a cell is frozen: its list, as data now -/
theorem RelM.kill (R : RelM K g M H) {n : Nat} {p : Addr} {xs : List D} (ha : g.a[n]? = some p) (hc : M[n]? = some (.lst xs)) :
    ∃ vs, H p = some (.lst vs) ∧ Reps K g vs xs ∧ RelM K ⟨upd g.F p (.lst vs), g.a⟩ (M.set n .dead) H ∧ Stp g H ⟨upd g.F p (.lst vs), g.a⟩ H := by
  obtain ⟨q0, vs, q1, q2⟩ := R.cell n p _ ha hc
  have le : Le g ⟨upd g.F p (.lst vs), g.a⟩ := ⟨fun b u e => by show upd g.F p (.lst vs) b = _; rw [upd_ne (ne_of_none e q0)]; exact e, [], by simp⟩
  have hm : p ∈ g.a := List.mem_of_getElem? ha
  refine ⟨vs, q1, q2, ⟨fun b u e => ?_, by rw [List.length_set]; exact R.len, R.nd, R.live, fun k a c e1 e2 => ?_⟩, ⟨le, fun b o e n => ⟨e, n, by show upd g.F p (.lst vs) b = _; rw [upd_ne (show b ≠ p from fun z => n (z ▸ hm))]⟩⟩⟩
  · by_cases hb : b = p
    · subst hb
      have e : upd g.F b (.lst vs) b = some u := e
      rw [upd_same] at e
      cases e
      exact q1
    · have e : upd g.F p (.lst vs) b = some u := e
      rw [upd_ne hb] at e
      exact R.sub b u e
  · by_cases hk : k = n
    · subst hk
      rw [List.getElem?_set_self (List.getElem?_eq_some_iff.mp hc).1] at e2
      cases e2
      trivial
    · rw [List.getElem?_set_ne (Ne.symm hk)] at e2
      have q := R.cell k a c e1 e2
      have hne : a ≠ p := fun z => by
        subst z
        have h1 := List.getElem?_eq_some_iff.mp e1
        have h2 := List.getElem?_eq_some_iff.mp ha
        exact hk ((List.getElem_inj R.nd).mp (h1.2.trans h2.2.symm))
      cases c with
      | dead => trivial
      | obj _ _ => exact q
      | lst zs =>
        obtain ⟨q1, ws, q2, q3⟩ := q
        exact ⟨by show upd g.F p (.lst vs) a = none; rw [upd_ne hne]; exact q1, ws, q2, q3.mono le⟩
end

section
variable {K : PySem.W.Frag} {g : G} {M : Mem} {H : Hp}
/-- an object beside -/
theorem RelM.off (R : RelM K g M H) {p : Addr} {o : HO} (hF : g.F p = none) (ha : p ∉ g.a) : RelM K g M (upd H p o) := by
  refine ⟨fun b u e => ?_, R.len, R.nd, fun a m => ?_, fun n a c e1 e2 => ?_⟩
  · rw [upd_ne (ne_of_none e hF)]
    exact R.sub b u e
  · rw [upd_ne (show a ≠ p from fun z => ha (z ▸ m))]
    exact R.live a m
  · have q := R.cell n a c e1 e2
    have hne : a ≠ p := fun z => ha (z ▸ List.mem_of_getElem? e1)
    cases c with
    | dead => trivial
    | obj _ _ => exact q
    | lst zs =>
      obtain ⟨q1, ws, q2, q3⟩ := q
      exact ⟨q1, ws, by rw [upd_ne hne]; exact q2, q3⟩
/-- an object beside becomes a frozen one -/
theorem RelM.seal (R : RelM K g M H) {p : Addr} {o : HO} (hp : H p = some o) (hF : g.F p = none) (ha : p ∉ g.a) : RelM K ⟨upd g.F p o, g.a⟩ M H ∧ Le g ⟨upd g.F p o, g.a⟩ := by
  have le : Le g ⟨upd g.F p o, g.a⟩ := ⟨fun b u e => by show upd g.F p o b = _; rw [upd_ne (ne_of_none e hF)]; exact e, [], by simp⟩
  refine ⟨⟨fun b u e => ?_, R.len, R.nd, R.live, fun n a c e1 e2 => ?_⟩, le⟩
  · by_cases hb : b = p
    · subst hb
      have e : upd g.F b o b = some u := e
      rw [upd_same] at e
      cases e
      exact hp
    · have e : upd g.F p o b = some u := e
      rw [upd_ne hb] at e
      exact R.sub b u e
  · have q := R.cell n a c e1 e2
    have hne : a ≠ p := fun z => ha (z ▸ List.mem_of_getElem? e1)
    cases c with
    | dead => trivial
    | obj _ _ => exact q
    | lst zs =>
      obtain ⟨q1, ws, q2, q3⟩ := q
      exact ⟨by show upd g.F p o a = none; rw [upd_ne hne]; exact q1, ws, q2, q3.mono le⟩
/-- an object beside becomes a cell -/
theorem RelM.adopt (R : RelM K g M H) {p : Addr} {vs : List V} {ds : List D} (hp : H p = some (.lst vs)) (hF : g.F p = none) (ha : p ∉ g.a) (r : Reps K g vs ds) :
    RelM K ⟨g.F, g.a ++ [p]⟩ (M ++ [.lst ds]) H ∧ Le g ⟨g.F, g.a ++ [p]⟩ ∧ Rep K ⟨g.F, g.a ++ [p]⟩ (.ref p) (.loc M.length) := by
  have le : Le g ⟨g.F, g.a ++ [p]⟩ := ⟨Same.refl _, [p], rfl⟩
  refine ⟨⟨R.sub, ?_, ?_, fun a m => ?_, fun n a c e1 e2 => ?_⟩, le, ?_⟩
  · show (g.a ++ [p]).length = _
    rw [List.length_append, List.length_append, R.len]
    rfl
  · show (g.a ++ [p]).Nodup
    rw [List.nodup_append]
    exact ⟨R.nd, by simp, fun a h b hb => by simp at hb; subst hb; exact fun z => ha (z ▸ h)⟩
  · rcases List.mem_append.mp m with m | m
    · exact R.live a m
    · simp at m
      subst m
      rw [hp]
      simp
  · by_cases hn : n < M.length
    · have e1 : (g.a ++ [p])[n]? = some a := e1
      rw [List.getElem?_append_left (by rw [R.len]; exact hn)] at e1
      rw [List.getElem?_append_left hn] at e2
      have q := R.cell n a c e1 e2
      cases c with
      | dead => trivial
      | obj _ _ => exact q
      | lst ds =>
        obtain ⟨q1, vs, q2, q3⟩ := q
        exact ⟨q1, vs, q2, q3.mono le⟩
    · have hl : n < (M ++ [Cell.lst ds]).length := (List.getElem?_eq_some_iff.mp e2).1
      rw [List.length_append] at hl
      have hn' : n = M.length := by simp at hl; omega
      subst hn'
      rw [List.getElem?_append_right (Nat.le_refl _)] at e2
      have e1 : (g.a ++ [p])[M.length]? = some a := e1
      rw [← R.len, List.getElem?_append_right (Nat.le_refl _)] at e1
      simp at e1
      subst e1
      simp at e2
      subst e2
      exact ⟨hF, vs, hp, r.mono le⟩
  · refine .loc ?_
    show (g.a ++ [p])[M.length]? = some p
    rw [← R.len, List.getElem?_append_right (Nat.le_refl _)]
    simp
end
/-- the slots -/
def RelE (K : PySem.W.Frag) (g : G) (env : Env) (σ : L2.St) : Prop := env.length = σ.length ∧ ∀ (i : Nat) (d : D), env[i]? = some (some d) → ∃ v, σ[i]? = some (some v) ∧ Rep K g v d
theorem RelE.mono {K : PySem.W.Frag} {g g' : G} {env : Env} {σ : L2.St} (h : Le g g') (r : RelE K g env σ) : RelE K g' env σ :=
  ⟨r.1, fun i d e => let ⟨v, e1, q⟩ := r.2 i d e; ⟨v, e1, q.mono h⟩⟩
theorem RelE.set {K : PySem.W.Frag} {g : G} {env : Env} {σ : L2.St} {v : V} {d : D} (r : RelE K g env σ) (q : Rep K g v d) (i : Nat) : RelE K g (env.set i (some d)) (σ.set i (some v)) := by
  refine ⟨by rw [List.length_set, List.length_set]; exact r.1, fun j e h => ?_⟩
  by_cases hj : i = j
  · subst hj
    have hl : i < env.length := by
      have := (List.getElem?_eq_some_iff.mp h).1
      rwa [List.length_set] at this
    rw [List.getElem?_set_self hl] at h
    cases h
    exact ⟨v, List.getElem?_set_self (by rw [← r.1]; exact hl), q⟩
  · rw [List.getElem?_set_ne hj] at h
    rw [List.getElem?_set_ne hj]
    exact r.2 j e h
theorem wipeE_some {env : Env} {i : Nat} {x : D} : ∀ {vs : List Nat}, (wipeE env vs)[i]? = some (some x) → env[i]? = some (some x) ∧ i ∉ vs
  | [], h => ⟨h, by simp⟩
  | v :: vs, h => by
    unfold wipeE at h
    by_cases hi : v = i
    · subst hi
      by_cases hv : v < (wipeE env vs).length
      · rw [List.getElem?_set_self hv] at h; cases h
      · rw [List.getElem?_eq_none (by simpa using hv)] at h; cases h
    · rw [List.getElem?_set_ne hi] at h
      obtain ⟨h1, h2⟩ := wipeE_some h
      exact ⟨h1, by simp only [List.mem_cons, not_or]; exact ⟨fun e => hi e.symm, h2⟩⟩
theorem wipeE_length (env : Env) : ∀ vs : List Nat, (wipeE env vs).length = env.length
  | [] => rfl
  | v :: vs => by unfold wipeE; rw [List.length_set, wipeE_length env vs]
theorem wipe_out' {σ : L2.St} {i : Nat} : ∀ {vs : List Nat}, i ∉ vs → (wipe σ vs)[i]? = σ[i]?
  | [], _ => rfl
  | v :: vs, h => by
    have h1 : v ≠ i := fun e => h (by rw [e]; exact List.mem_cons_self)
    have h2 : i ∉ vs := fun m => h (List.mem_cons_of_mem _ m)
    unfold wipe
    rw [List.getElem?_set_ne h1]
    exact wipe_out' h2
theorem RelE.wipe {K : PySem.W.Frag} {g : G} {env : Env} {σ : L2.St} (r : RelE K g env σ) (vs : List Nat) : RelE K g (wipeE env vs) (L2.wipe σ vs) := by
  refine ⟨by rw [wipeE_length, wipe_length]; exact r.1, fun i d h => ?_⟩
  obtain ⟨h1, h2⟩ := wipeE_some h
  rw [wipe_out' h2]
  exact r.2 i d h1

/-! ### data by their parts, in the heap -/
section
variable {K : PySem.W.Frag} {g : G} {M : Mem} {H : Hp}
theorem RelM.asL (R : RelM K g M H) {d : D} {v : V} {xs : List D} (r : Rep K g v d) (h : DP.asL M d = some xs) : ∃ a vs, v = .ref a ∧ SqL K H a vs ∧ Reps K g vs xs := by
  cases r with
  | lst e q => cases h; exact ⟨_, _, rfl, SqL.of (R.sub _ _ e), q⟩
  | klst e q => cases h; exact ⟨_, _, rfl, R.sub.seq e, q⟩
  | @loc n a e =>
    simp only [DP.asL] at h
    split at h
    · rename_i ys hc
      cases h
      obtain ⟨_, vs, q1, q2⟩ := R.cell n a _ e hc
      exact ⟨a, vs, rfl, SqL.of q1, q2⟩
    · cases h
  | _ => cases h
theorem RelM.asLL (R : RelM K g M H) {d : D} {v : V} {xs : List D} (r : Rep K g v d) (h : DP.asLL M d = some xs) : ∃ a vs, v = .ref a ∧ H a = some (.lst vs) ∧ Reps K g vs xs := by
  cases r with
  | lst e q => cases h; exact ⟨_, _, rfl, R.sub _ _ e, q⟩
  | klst e q => cases h
  | @loc n a e =>
    simp only [DP.asLL, DP.asL] at h
    split at h
    · rename_i ys hc
      cases h
      obtain ⟨_, vs, q1, q2⟩ := R.cell n a _ e hc
      exact ⟨a, vs, rfl, q1, q2⟩
    · cases h
  | _ => cases h
theorem RelM.asT (R : RelM K g M H) {d : D} {v : V} {xs : List D} (r : Rep K g v d) (h : DP.asT d = some xs) : ∃ a vs, v = .ref a ∧ SqT K H a vs ∧ Reps K g vs xs := by
  cases r with
  | tup e q => cases h; exact ⟨_, _, rfl, DP.Same.sqT R.sub e, q⟩
  | _ => cases h
theorem RelM.asSeq (R : RelM K g M H) {d : D} {v : V} {xs : List D} (r : Rep K g v d) (h : DP.asSeq M d = some xs) : ∃ a vs, v = .ref a ∧ (SqL K H a vs ∨ SqT K H a vs) ∧ Reps K g vs xs := by
  cases r with
  | tup e q => cases h; exact ⟨_, _, rfl, .inr (DP.Same.sqT R.sub e), q⟩
  | lst e q => cases h; exact ⟨_, _, rfl, .inl (SqL.of (R.sub _ _ e)), q⟩
  | klst e q => cases h; exact ⟨_, _, rfl, .inl (R.sub.seq e), q⟩
  | loc e =>
    obtain ⟨a, vs, e1, e2, e3⟩ := R.asL (.loc e) h
    exact ⟨a, vs, e1, .inl e2, e3⟩
  | _ => cases h
mutual
theorem Rep.py (R : RelM K g M H) {n : Nat} : ∀ (d : D) (v : V) (p : PyData), Rep K g v d → DP.py M n d = some p → Dp K H v p
  | .non, _, _, r, h => by cases r; cases h; exact .non
  | .bl b, _, _, r, h => by cases r; cases h; exact .bl b
  | .int i, _, _, r, h => by cases r; cases h; exact .int i
  | .str s, _, _, r, h => by cases r; cases h; exact .str s
  | .list xs, _, _, r, h => by
    cases r with
    | lst e q =>
      simp only [DP.py, Option.map_eq_some_iff] at h
      obtain ⟨ps, h, rfl⟩ := h
      exact .lst (SqL.of (R.sub _ _ e)) (Reps.py R xs _ _ q h)
  | .klist xs, _, _, r, h => by
    cases r with
    | klst e q =>
      simp only [DP.py, Option.map_eq_some_iff] at h
      obtain ⟨ps, h, rfl⟩ := h
      exact .lst (R.sub.seq e) (Reps.py R xs _ _ q h)
  | .tup xs, _, _, r, h => by
    cases r with
    | tup e q =>
      simp only [DP.py, Option.map_eq_some_iff] at h
      obtain ⟨ps, h, rfl⟩ := h
      exact .tup (DP.Same.sqT R.sub e) (Reps.py R xs _ _ q h)
  | .loc _, _, _, _, h => by cases h
theorem Reps.py (R : RelM K g M H) {n : Nat} : ∀ (ds : List D) (vs : List V) (ps : List PyData), Reps K g vs ds → DP.pys M n ds = some ps → DpAll K H vs ps
  | [], _, _, r, h => by cases r; cases h; exact .nil
  | d :: ds, _, _, r, h => by
    cases r with
    | cons a b =>
      simp only [DP.pys] at h
      split at h
      · rename_i x y h1 h2
        cases h
        exact .cons (Rep.py R d _ _ a h1) (Reps.py R ds _ _ b h2)
      · cases h
end
theorem RelM.pyM (R : RelM K g M H) {d : D} {v : V} {p : PyData} (r : Rep K g v d) (h : DP.pyM M d = some p) : Dp K H v p := by
  cases d with
  | loc n =>
    cases r with
    | loc e =>
      simp only [DP.pyM] at h
      split at h
      · rename_i ys hc
        simp only [Option.map_eq_some_iff] at h
        obtain ⟨ps, h, rfl⟩ := h
        obtain ⟨_, vs, q1, q2⟩ := R.cell n _ _ e hc
        exact .lst (SqL.of q1) (Reps.py R _ _ _ q2 h)
      · cases h
  | _ => exact Rep.py (n := 0) R _ _ _ r h
theorem RelM.truth (R : RelM K g M H) {d : D} {v : V} {b : Bool} (r : Rep K g v d) (h : DP.truth M d = some b) : TruV K v H b := by
  cases r with
  | non => cases h; rfl
  | bl b => cases h; rfl
  | int i => cases h; rfl
  | str s =>
    simp only [DP.truth] at h
    split at h
    · rename_i hl
      cases h
      exact ⟨hl, rfl⟩
    · cases h
  | lst e q =>
    cases h
    refine .inl ⟨_, SqL.of (R.sub _ _ e), ?_⟩
    cases q <;> rfl
  | klst e q =>
    cases h
    refine .inl ⟨_, R.sub.seq e, ?_⟩
    cases q <;> rfl
  | tup e q =>
    cases h
    refine .inr (.inl ⟨_, DP.Same.sqT R.sub e, ?_⟩)
    cases q <;> rfl
  | @loc n a e =>
    simp only [DP.truth, Option.map_eq_some_iff] at h
    obtain ⟨xs, h1, rfl⟩ := h
    obtain ⟨a', vs, e1, e2, e3⟩ := R.asL (.loc e) h1
    cases e1
    refine .inl ⟨_, e2, ?_⟩
    cases e3 <;> rfl
theorem Reps.strsOf : ∀ {vs : List V} {ds : List D} {ys : List Str}, Reps K g vs ds → DP.strsOf ds = some ys → vs = ys.map V.str
  | _, _, _, .nil, h => by cases h; rfl
  | _, _, _, .cons a b, h => by
    cases a with
    | str s =>
      simp only [DP.strsOf, Option.map_eq_some_iff] at h
      obtain ⟨zs, h, rfl⟩ := h
      rw [Reps.strsOf b h]
      rfl
    | _ => cases h
theorem Reps.intsOf : ∀ {vs : List V} {ds : List D} {ys : List Int}, Reps K g vs ds → DP.intsOf ds = some ys → vs = ys.map V.int
  | _, _, _, .nil, h => by cases h; rfl
  | _, _, _, .cons a b, h => by
    cases a with
    | int s =>
      simp only [DP.intsOf, Option.map_eq_some_iff] at h
      obtain ⟨zs, h, rfl⟩ := h
      rw [Reps.intsOf b h]
      rfl
    | _ => cases h
theorem Reps.boolsOf : ∀ {vs : List V} {ds : List D} {ys : List Bool}, Reps K g vs ds → DP.boolsOf ds = some ys → vs = ys.map V.bl
  | _, _, _, .nil, h => by cases h; rfl
  | _, _, _, .cons a b, h => by
    cases a with
    | bl s =>
      simp only [DP.boolsOf, Option.map_eq_some_iff] at h
      obtain ⟨zs, h, rfl⟩ := h
      rw [Reps.boolsOf b h]
      rfl
    | _ => cases h
theorem Reps.ofStrs : ∀ ys : List Str, Reps K g (ys.map V.str) (ys.map D.str)
  | [] => .nil
  | y :: ys => .cons (.str y) (Reps.ofStrs ys)
end
end DP

/-! DP.Prim: the primitive operations hold in the model. -/
namespace DP
open PySem PySem.Spec PyProof.Rows L2

def PostP (K : PySem.W.Frag) (g : G) (H : Hp) (r : PRes) (Q : VK) : Prop := match r with
  | none => False
  | some (d, M') => ∀ g' v H', Stp g H g' H' → RelM K g' M' H' → Rep K g' v d → Q v H'
def rP (K : PySem.W.Frag) (f : Mem → List D → PRes) (vs : List V) (H : Hp) (Q : VK) : Prop := ∃ g M ds, RelM K g M H ∧ Reps K g vs ds ∧ PostP K g H (f M ds) Q
def rP2 (K : PySem.W.Frag) (f : Mem → List D → PRes) : R2 := fun x y H Q => rP K f [x, y] H Q
section
variable {K : PySem.W.Frag} {g : G} {M : Mem} {H : Hp} {f : Mem → List D → PRes}
theorem Reps.one {x : V} {ds : List D} (r : Reps K g [x] ds) : ∃ a, ds = [a] ∧ Rep K g x a := by
  cases r with
  | cons a b =>
    cases b
    exact ⟨_, rfl, a⟩
theorem Reps.two {x y : V} {ds : List D} (r : Reps K g [x, y] ds) : ∃ a b, ds = [a, b] ∧ Rep K g x a ∧ Rep K g y b := by
  cases r with
  | cons a b =>
    obtain ⟨c, rfl, q⟩ := b.one
    exact ⟨_, _, rfl, a, q⟩
theorem rP.one {x : V} {Q : VK} (h : rP K f [x] H Q) : ∃ g M a, RelM K g M H ∧ Rep K g x a ∧ PostP K g H (f M [a]) Q := by
  obtain ⟨g, M, ds, R, r, q⟩ := h
  obtain ⟨a, rfl, ra⟩ := r.one
  exact ⟨g, M, a, R, ra, q⟩
theorem rP.two {x y : V} {Q : VK} (h : rP K f [x, y] H Q) : ∃ g M a b, RelM K g M H ∧ Rep K g x a ∧ Rep K g y b ∧ PostP K g H (f M [a, b]) Q := by
  obtain ⟨g, M, ds, R, r, q⟩ := h
  obtain ⟨a, b, rfl, ra, rb⟩ := r.two
  exact ⟨g, M, a, b, R, ra, rb, q⟩
/-- the memory as it was -/
theorem PostP.here {d : D} {v : V} {Q : VK} (R : RelM K g M H) (q : PostP K g H (some (d, M)) Q) (r : Rep K g v d) : Q v H := q g v H Stp.refl R r
/-- a new frozen object -/
theorem PostP.new {d : D} {Q : VK} (R : RelM K g M H) (q : PostP K g H (some (d, M)) Q) {p : Addr} {o : HO} (hp : H p = none) (r : ∀ g', Le g g' → g'.F p = some o → Rep K g' (.ref p) d) : Q (.ref p) (upd H p o) := by
  obtain ⟨R', st⟩ := R.froze (o := o) hp
  exact q _ _ _ st R' (r _ st.le upd_same)
end

section
variable {X : Cx}
theorem so_int2 {h : Value → Value → Sem Value} {C : Int → Int → Prop} {gg : Int → Int → V} {f : Mem → List D → PRes} (ho : OpR X h (rI C gg))
    (hf : ∀ M a b Q g H, PostP X.K g H (f M [a, b]) Q → ∃ i j, a = .int i ∧ b = .int j ∧ C i j ∧ (RelM X.K g M H → Q (gg i j) H)) : OpR X h (rP2 X.K f) := by
  intro pins s σ H x y v u Q I rx ry hq
  obtain ⟨g, M, a, b, R, ra, rb, q⟩ := rP.two hq
  obtain ⟨i, j, rfl, rfl, hc, k⟩ := hf M a b Q g H q
  cases ra
  cases rb
  exact ho pins s σ H _ _ v u Q I rx ry ⟨i, j, rfl, rfl, hc, k R⟩
theorem rI0_to {gg : Int → Int → V} {h : Value → Value → Sem Value} (ho : OpR X h (rI0 gg)) : OpR X h (rI (fun _ _ => True) gg) := by
  intro pins s σ H x y v u Q I rx ry ⟨i, j, e1, e2, _, q⟩
  exact ho pins s σ H x y v u Q I rx ry ⟨i, j, e1, e2, q⟩
theorem so_sub : OpR X (binaryOp .Sub) (rP2 X.K prSub) := by
  refine so_int2 (rI0_to op_sub) fun M a b Q g H q => ?_
  cases a <;> cases b <;> first | exact False.elim q | exact ⟨_, _, rfl, rfl, trivial, fun R => q.here R (.int _)⟩
theorem so_fdiv : OpR X (binaryOp .FloorDiv) (rP2 X.K prFdiv) := by
  refine so_int2 op_fdivW fun M a b Q g H q => ?_
  cases a <;> cases b <;> first | exact False.elim q | skip
  dsimp only [prFdiv] at q
  split at q
  · rename_i h
    exact ⟨_, _, rfl, rfl, h, fun R => q.here R (.int _)⟩
  · exact False.elim q
theorem so_mod : OpR X (binaryOp .Mod) (rP2 X.K prMod) := by
  refine so_int2 op_mod fun M a b Q g H q => ?_
  cases a <;> cases b <;> first | exact False.elim q | skip
  dsimp only [prMod] at q
  split at q
  · rename_i h
    exact ⟨_, _, rfl, rfl, h, fun R => q.here R (.int _)⟩
  · exact False.elim q
theorem so_pow : OpR X (binaryOp .Pow) (rP2 X.K prPow) := by
  refine so_int2 op_pow fun M a b Q g H q => ?_
  cases a <;> cases b <;> first | exact False.elim q | skip
  dsimp only [prPow] at q
  split at q
  · rename_i h
    exact ⟨_, _, rfl, rfl, ⟨h.1, by have := h.2.1; omega, h.2.2⟩, fun R => q.here R (.int _)⟩
  · exact False.elim q
theorem so_cmp {op : CmpOp} {p : Int → Int → Bool} (ho : OpR X (compareOp op) (rI0 fun i j => .bl (p i j))) : OpR X (compareOp op) (rP2 X.K (prCmp p)) := by
  refine so_int2 (rI0_to ho) fun M a b Q g H q => ?_
  cases a <;> cases b <;> first | exact False.elim q | exact ⟨_, _, rfl, rfl, trivial, fun R => q.here R (.bl _)⟩
theorem so_mul : OpR X (binaryOp .Mult) (rP2 X.K prMul) := by
  intro pins s σ H x y v u Q I rx ry hq
  obtain ⟨g, M, a, b, R, ra, rb, q⟩ := rP.two hq
  have lst : ∀ {k : Int}, b = .int k → PostP X.K g H (match asLL M a with
    | some xs => if -(2 ^ 63) ≤ k ∧ k < 2 ^ 63 ∧ xs.length * k.toNat ≤ sizeLine then some (.list (List.replicate k.toNat xs).flatten, M) else none
    | none => none) Q → wpAny (model X.prog X.w) X.A (binaryOp .Mult v u) (EP X pins σ Q) X.xe s := by
    clear q
    intro k e q
    subst e
    cases rb
    split at q
    · rename_i xs hx
      split at q
      · rename_i hk
        obtain ⟨l, vs, rfl, hl, rs⟩ := R.asLL ra hx
        exact op_rep pins s σ H _ _ v u Q I rx ry ⟨l, k, vs, rfl, rfl, hl, hk.1, hk.2.1, by rw [rs.len]; exact hk.2.2, fun p hp => q.new R hp fun g' le e => .lst e ((rs.mono le).rep _)⟩
      · exact False.elim q
    · exact False.elim q
  cases b with
  | int k =>
    cases a with
    | int i =>
      dsimp only [prMul] at q
      split at q
      · rename_i h
        cases ra
        cases rb
        exact op_mulW pins s σ H _ _ v u Q I rx ry ⟨_, _, rfl, rfl, h, q.here R (.int _)⟩
      · exact False.elim q
    | _ => exact lst rfl q
  | _ => cases a <;> exact False.elim q
theorem so_add : OpR X (binaryOp .Add) (rP2 X.K prAdd) := by
  intro pins s σ H x y v u Q I rx ry hq
  obtain ⟨g, M, a, b, R, ra, rb, q⟩ := rP.two hq
  have tups : PostP X.K g H (match asT a, asT b with
      | some (x :: xs), some (y :: ys) => if xs.length + 1 + (ys.length + 1) ≤ sizeLine then some (.tup ((x :: xs) ++ (y :: ys)), M) else none
      | _, _ => none) Q → wpAny (model X.prog X.w) X.A (binaryOp .Add v u) (EP X pins σ Q) X.xe s := by
    intro q
    split at q
    · rename_i z zs w ws h1 h2
      split at q
      · rename_i hz
        obtain ⟨l, vs, rfl, hl, rs⟩ := R.asT ra h1
        obtain ⟨l2, vs2, rfl, hl2, rs2⟩ := R.asT rb h2
        have e1 := rs.len
        have e2 := rs2.len
        refine op_catT pins s σ H _ _ v u Q I rx ry ⟨l, l2, vs, vs2, rfl, rfl, hl, hl2, ?_, ?_, ?_, ?_⟩
        · intro z
          rw [z] at e1
          simp at e1
        · rw [e1, e2]
          exact hz
        · intro z
          rw [z] at e2
          simp at e2
        · intro _ p hp
          exact q.new R hp fun g' le e => .tup (SqT.of e) ((rs.mono le).append (rs2.mono le))
      · exact False.elim q
    · exact False.elim q
  have lists : PostP X.K g H (match asLL M a, asLL M b with
    | some xs, some ys => if xs.length + ys.length ≤ sizeLine then some (.list (xs ++ ys), M) else none
    | _, _ => match asT a, asT b with
      | some (x :: xs), some (y :: ys) => if xs.length + 1 + (ys.length + 1) ≤ sizeLine then some (.tup ((x :: xs) ++ (y :: ys)), M) else none
      | _, _ => none) Q → wpAny (model X.prog X.w) X.A (binaryOp .Add v u) (EP X pins σ Q) X.xe s := by
    intro q
    split at q
    · rename_i zs ws h1 h2
      split at q
      · rename_i hz
        obtain ⟨l, vs, rfl, hl, rs⟩ := R.asLL ra h1
        obtain ⟨l2, vs2, rfl, hl2, rs2⟩ := R.asLL rb h2
        exact op_cat pins s σ H _ _ v u Q I rx ry ⟨l, l2, vs, vs2, rfl, rfl, hl, hl2, by rw [rs.len, rs2.len]; exact hz, fun p hp => q.new R hp fun g' le e => .lst e ((rs.mono le).append (rs2.mono le))⟩
      · exact False.elim q
    · exact tups q
  cases a with
  | int i =>
    cases b with
    | int j =>
      cases ra
      cases rb
      exact op_add pins s σ H _ _ v u Q I rx ry ⟨_, _, rfl, rfl, q.here R (.int _)⟩
    | _ => exact lists q
  | str i =>
    cases b with
    | str j =>
      cases ra
      cases rb
      dsimp only [prAdd] at q
      split at q
      · rename_i h
        exact op_add_str pins s σ H _ _ v u Q I rx ry ⟨_, _, rfl, rfl, h, q.here R (.str _)⟩
      · exact False.elim q
    | _ => exact lists q
  | _ => exact lists q
theorem so_eq (hu : X.A.units + 64 < cLine) : OpR X (compareOp .Eq) (rP2 X.K prEq) := by
  intro pins s σ H x y v u Q I rx ry hq
  obtain ⟨g, M, a, b, R, ra, rb, q⟩ := rP.two hq
  unfold prEq at q
  dsimp only at q
  split at q
  · rename_i p1 p2 h1 h2
    split at q
    · rename_i hs
      exact op_eqD hu pins s σ H x y v u Q I rx ry ⟨_, _, R.pyM ra h1, R.pyM rb h2, hs.1, hs.2, q.here R (.bl _)⟩
    · exact False.elim q
  · exact False.elim q
theorem so_ne (hu : X.A.units + 64 < cLine) : OpR X (compareOp .NotEq) (rP2 X.K prNe) := by
  intro pins s σ H x y v u Q I rx ry hq
  obtain ⟨g, M, a, b, R, ra, rb, q⟩ := rP.two hq
  unfold prNe at q
  dsimp only at q
  split at q
  · rename_i p1 p2 h1 h2
    split at q
    · rename_i hs
      exact op_neD hu pins s σ H x y v u Q I rx ry ⟨_, _, R.pyM ra h1, R.pyM rb h2, hs.1, hs.2, q.here R (.bl _)⟩
    · exact False.elim q
  · exact False.elim q
/-- membership: what is asked of the values -/
theorem in_val {g : G} {M : Mem} {H : Hp} {a b : D} {x y : V} {k : Bool} (R : RelM X.K g M H) (ra : Rep X.K g x a) (rb : Rep X.K g y b) (h : inB M [a, b] = some k) :
    (∃ (c : Nat) (z : Str), x = .str ⟨#[c]⟩ ∧ y = .str z ∧ k = decide (c ∈ z.cps.toList)) ∨ (∃ i j, x = .str i ∧ y = .str j ∧ k = !(Builtin.Str.occurrences j i 0 j.length 1).isEmpty) ∨
      ∃ (d : PyData) (ds : List PyData) (p : Addr) (e : PyData), y = .ref p ∧ Dp X.K H x d ∧ (∃ xs, (SqL X.K H p xs ∨ SqT X.K H p xs) ∧ DpAll X.K H xs ds) ∧ SeqAt.shaped d = true ∧ SeqAt.shaped (.list ds) = true ∧ k = ds.any fun z => PyData.eqv z d := by
  have seq : (match pyM M a, asSeq M b with
    | some x, some ys => match pys M 0 ys with
      | some zs => if SeqAt.shaped x = true ∧ SeqAt.shaped (.list zs) = true then some (zs.any fun z => PyData.eqv z x) else none
      | none => none
    | _, _ => none) = some k → ∃ (d : PyData) (ds : List PyData) (p : Addr) (e : PyData), y = .ref p ∧ Dp X.K H x d ∧ (∃ xs, (SqL X.K H p xs ∨ SqT X.K H p xs) ∧ DpAll X.K H xs ds) ∧ SeqAt.shaped d = true ∧ SeqAt.shaped (.list ds) = true ∧ k = ds.any fun z => PyData.eqv z d := by
    intro h
    split at h
    · rename_i p1 ys h1 h2
      split at h
      · rename_i zs h3
        split at h
        · rename_i hs
          cases h
          obtain ⟨l, vs, rfl, hl, rs⟩ := R.asSeq rb h2
          exact ⟨p1, zs, l, p1, rfl, R.pyM ra h1, ⟨vs, hl, Reps.py R _ _ _ rs h3⟩, hs.1, hs.2, rfl⟩
        · cases h
      · cases h
    · cases h
  cases a with
  | str s =>
    cases b with
    | str t =>
      cases ra
      cases rb
      simp only [inB] at h
      split at h
      · rename_i c hc
        cases h
        refine .inl ⟨c, t, ?_, rfl, rfl⟩
        have : s = ⟨#[c]⟩ := TL.ext_tl (by show s.cps.toList = _; rw [hc])
        rw [this]
      · cases h
        exact .inr (.inl ⟨s, t, rfl, rfl, rfl⟩)
    | _ => exact .inr (.inr (seq h))
  | _ => exact .inr (.inr (seq h))
theorem dec_mem {c : Nat} {z : Str} {k : Bool} (h : k = decide (c ∈ z.cps.toList)) : (!k) = !decide (c ∈ z.cps.toList) := by rw [h]
theorem so_in (hu : X.A.units + 65 < cLine) : OpR X (compareOp .In) (rP2 X.K prIn) := by
  intro pins s σ H x y v u Q I rx ry hq
  obtain ⟨g, M, a, b, R, ra, rb, q⟩ := rP.two hq
  unfold prIn at q
  split at q
  · rename_i k hk
    have fin := q.here R (.bl _)
    rcases in_val R ra rb hk with ⟨c, z, rfl, rfl, e⟩ | ⟨i, j, rfl, rfl, e⟩ | ⟨d, ds, p, _, rfl, hd, ⟨xs, hx, hds⟩, s1, s2, e⟩
    · subst e
      exact op_in_sign pins s σ H _ _ v u Q I rx ry ⟨c, z, rfl, rfl, fin⟩
    · subst e
      exact op_in_str pins s σ H _ _ v u Q I rx ry ⟨i, j, rfl, rfl, fin⟩
    · subst e
      rcases hx with hx | hx
      · exact op_inD hu pins s σ H _ _ v u Q I rx ry ⟨d, ds, hd, .lst hx hds, s1, s2, fin⟩
      · obtain ⟨as, r1⟩ := Dp.reads I d x v hd rx
        obtain ⟨bs, r2⟩ := Dp.reads I (.tuple ds) _ u (.tup hx hds) ry
        exact SeqAt.in_tuple_reads r2 r1 (SeqAt.canLay_of_shaped (d := .tuple ds) s2) (SeqAt.canLay_of_shaped s1) (room_in_shaped s1 hu) ⟨.bl _, H, I, rfl, fin⟩
  · exact False.elim q
theorem so_notIn (hu : X.A.units + 65 < cLine) : OpR X (compareOp .NotIn) (rP2 X.K prNotIn) := by
  intro pins s σ H x y v u Q I rx ry hq
  obtain ⟨g, M, a, b, R, ra, rb, q⟩ := rP.two hq
  unfold prNotIn at q
  split at q
  · rename_i k hk
    have fin := q.here R (.bl _)
    rcases in_val R ra rb hk with ⟨c, z, rfl, rfl, e⟩ | ⟨i, j, rfl, rfl, e⟩ | ⟨d, ds, p, _, rfl, hd, ⟨xs, hx, hds⟩, s1, s2, e⟩
    · subst e
      exact op_notIn_sign pins s σ H _ _ v u Q I rx ry ⟨c, z, rfl, rfl, fin⟩
    · subst e
      exact op_notin_str pins s σ H _ _ v u Q I rx ry ⟨i, j, rfl, rfl, fin⟩
    · subst e
      rcases hx with hx | hx
      · exact op_notInD hu pins s σ H _ _ v u Q I rx ry ⟨d, ds, hd, .lst hx hds, s1, s2, fin⟩
      · obtain ⟨as, r1⟩ := Dp.reads I d x v hd rx
        obtain ⟨bs, r2⟩ := Dp.reads I (.tuple ds) _ u (.tup hx hds) ry
        exact SeqAt.notIn_tuple_reads r2 r1 (SeqAt.canLay_of_shaped (d := .tuple ds) s2) (SeqAt.canLay_of_shaped s1) (room_in_shaped s1 hu) ⟨.bl _, H, I, rfl, fin⟩
  · exact False.elim q
end
end DP

/-! DP.Prim2: calls of built-ins, subscripts, methods. -/
namespace DP
open PySem PySem.Spec PyProof.Rows L2
section
variable {X : Cx}
theorem so_neg : UnR X (unaryOp .USub) (fun x H Q => rP X.K prNeg [x] H Q) := by
  intro pins s σ H x v Q I rx hq
  obtain ⟨g, M, a, R, ra, q⟩ := rP.one hq
  cases ra <;> first | exact False.elim q | exact un_neg pins s σ H _ v Q I rx ⟨_, rfl, q.here R (.int _)⟩
theorem so_isN : OpR X (compareOp .Is) (fun x y H Q => y = .non ∧ rP X.K prIsN [x] H Q) := by
  intro pins s σ H x y v u Q I rx ry ⟨e, hq⟩
  obtain ⟨g, M, a, R, ra, q⟩ := rP.one hq
  refine op_isN pins s σ H x y v u Q I rx ry ⟨e, ?_⟩
  have fin := q.here R (.bl _)
  cases ra <;> exact fin
theorem so_notN : OpR X (compareOp .IsNot) (fun x y H Q => y = .non ∧ rP X.K prNotN [x] H Q) := by
  intro pins s σ H x y v u Q I rx ry ⟨e, hq⟩
  obtain ⟨g, M, a, R, ra, q⟩ := rP.one hq
  refine op_notN pins s σ H x y v u Q I rx ry ⟨e, ?_⟩
  have fin := q.here R (.bl _)
  cases ra <;> exact fin
theorem so_idx : IxR X (rP2 X.K prIdx) := by
  intro value slice pins s σ H x y v u Q I rx ry hq hs
  obtain ⟨g, M, a, b, R, ra, rb, q⟩ := rP.two hq
  have seq : ∀ {i : Int}, b = .int i → PostP X.K g H (match asSeq M a with
    | some xs => match atI xs i with
      | some d => some (d, M)
      | none => none
    | none => none) Q → wpAny (model X.prog X.w) X.A (subscriptTail value slice v u) (EP X pins σ Q) X.xe s := by
    clear q
    intro i e q
    subst e
    cases rb
    split at q
    · rename_i xs hx
      split at q
      · rename_i d hd
        obtain ⟨l, vs, rfl, hl, rs⟩ := R.asSeq ra hx
        have hv : ∃ w, atI vs i = some w ∧ Rep X.K g w d := by
          unfold atI at hd ⊢
          rw [rs.len]
          cases e : ixN xs.length i with
          | none => rw [e] at hd; cases hd
          | some j =>
            rw [e] at hd
            exact rs.get hd
        obtain ⟨w, hw, rw'⟩ := hv
        exact ix_seq value slice pins s σ H _ _ v u Q I rx ry (hl.elim (fun hl => .inl ⟨l, vs, i, w, rfl, rfl, hl, hw, q.here R rw'⟩) fun hl => .inr (.inl ⟨l, vs, i, w, rfl, rfl, hl, hw, q.here R rw'⟩)) hs
      · exact False.elim q
    · exact False.elim q
  cases b with
  | int i =>
    cases a with
    | str z =>
      dsimp only [prIdx] at q
      split at q
      · rename_i hz
        split at q
        · rename_i c hc
          cases ra
          cases rb
          exact ix_seq value slice pins s σ H _ _ v u Q I rx ry (.inr (.inr ⟨z, i, c, rfl, rfl, hz, hc, q.here R (.str _)⟩)) hs
        · exact False.elim q
      · exact False.elim q
    | _ => exact seq rfl q
  | _ => cases a <;> exact False.elim q
/-- a slice -/
def rSl (K : PySem.W.Frag) : V → Option Int → Option Int → Hp → VK → Prop := fun x lo hi H Q => ∃ g M a, RelM K g M H ∧ Rep K g x a ∧ PostP K g H (slc M lo hi a) Q
theorem so_slice : SlR X (rSl X.K) := by
  intro pins s σ H x v vl vu lo hi sl Q I rx hs pl pu h
  obtain ⟨g, M, a, R, ra, q⟩ := h
  have lst : PostP X.K g H (match asL M a with
    | some xs => some (.list (cutD xs lo hi), M)
    | none => none) Q → ∃ T id, typeLookup (.type T) (Str.ofString "__getitem__") = pure (some (.builtin id)) ∧ s.TypeIs v T ∧ wpAny (model X.prog X.w) X.A (getItem v (.ref sl)) (EP X pins σ Q) X.xe s := by
    clear q
    intro q
    split at q
    · rename_i xs hx
      obtain ⟨l, vs, rfl, hl, rs⟩ := R.asL ra hx
      exact sl_list pins s σ H _ v vl vu lo hi sl Q I rx hs pl pu ⟨l, vs, rfl, hl, fun p hp => q.new R hp fun g' le e => .lst e ((rs.mono le).cut lo hi)⟩
    · exact False.elim q
  cases a with
  | str z =>
    cases ra
    dsimp only [slc] at q
    split at q
    · rename_i hz
      exact sl_str pins s σ H _ v vl vu lo hi sl Q I rx hs pl pu ⟨z, rfl, hz, q.here R (.str _)⟩
    · exact False.elim q
  | tup xs =>
    dsimp only [slc] at q
    split at q
    · rename_i hz
      cases ra with
      | tup e rs =>
        have hl := rs.len
        refine sl_tup pins s σ H _ v vl vu lo hi sl Q I rx hs pl pu ⟨_, _, rfl, DP.Same.sqT R.sub e, fun w => ?_, fun p hp => q.new R hp fun g' le e => .tup (SqT.of e) ((rs.mono le).cut lo hi)⟩
        rw [hl] at w
        unfold cutD at hz
        rw [w.1, w.2] at hz
        simp at hz
    · exact False.elim q
  | _ => exact lst q
theorem so_len : CallR X (.builtin "len") (rP X.K prLen) := by
  intro pins s σ H xs us Q I r h
  obtain ⟨g, M, ds, R, rs, q⟩ := h
  cases ds with
  | nil => exact False.elim q
  | cons a ds =>
  cases ds with
  | cons _ _ => cases a <;> exact False.elim q
  | nil =>
  cases rs with
  | cons ra rn =>
  cases rn
  have seq : PostP X.K g H (match asSeq M a with
    | some xs => some (.int xs.length, M)
    | none => none) Q → wpAny (model X.prog X.w) X.A (call (.builtin "len") us) (EP X pins σ Q) X.xe s := by
    clear q
    intro q
    split at q
    · rename_i xs hx
      obtain ⟨l, vs, rfl, hl, rs⟩ := R.asSeq ra hx
      refine call_len_seq pins s σ H _ us Q I r ⟨l, vs, rfl, hl, ?_⟩
      rw [rs.len]
      exact q.here R (.int _)
    · exact False.elim q
  cases a with
  | str z =>
    cases ra
    dsimp only [prLen] at q
    split at q
    · rename_i hz
      exact call_len_str pins s σ H _ us Q I r ⟨z, rfl, hz, q.here R (.int _)⟩
    · exact False.elim q
  | _ => exact seq q
theorem one_arg {f : Mem → List D → PRes} {g : G} {M : Mem} {H : Hp} {ds : List D} {xs : List V} {Q : VK} (h0 : f M [] = none) (h2 : ∀ a b r, f M (a :: b :: r) = none) (rs : Reps X.K g xs ds) (q : PostP X.K g H (f M ds) Q) : ∃ a x, ds = [a] ∧ xs = [x] ∧ Rep X.K g x a := by
  cases ds with
  | nil => rw [h0] at q; exact False.elim q
  | cons a ds =>
    cases ds with
    | nil =>
      cases rs with
      | cons ra rn =>
        cases rn
        exact ⟨a, _, rfl, rfl, ra⟩
    | cons b ds => rw [h2] at q; exact False.elim q
theorem so_int : CallR X (.type "int") (rP X.K prInt) := by
  intro pins s σ H xs us Q I r h
  obtain ⟨g, M, ds, R, rs, q⟩ := h
  obtain ⟨a, x, rfl, rfl, ra⟩ := one_arg (f := prInt) rfl (fun a b r => by cases a <;> rfl) rs q
  cases ra with
  | int i => exact call_int1 pins s σ H _ us Q I r (.inl ⟨_, rfl, q.here R (.int _)⟩)
  | str z =>
    dsimp only [prInt] at q
    split at q
    · rename_i hz
      split at q
      · rename_i n hn
        exact call_int_str pins s σ H _ us Q I r ⟨z, n, rfl, hn, hz, q.here R (.int _)⟩
      · exact False.elim q
    · exact False.elim q
  | _ => exact False.elim q
theorem so_str : CallR X (.type "str") (rP X.K prStr) := by
  intro pins s σ H xs us Q I r h
  obtain ⟨g, M, ds, R, rs, q⟩ := h
  obtain ⟨a, x, rfl, rfl, ra⟩ := one_arg (f := prStr) rfl (fun a b r => by cases a <;> rfl) rs q
  cases ra with
  | int i =>
    dsimp only [prStr] at q
    split at q
    · rename_i hz
      exact call_str_int pins s σ H _ us Q I r ⟨i, rfl, hz, q.here R (.str _)⟩
    · exact False.elim q
  | _ => exact False.elim q
theorem so_abs : CallR X (.builtin "abs") (rP X.K prAbs) := by
  intro pins s σ H xs us Q I r h
  obtain ⟨g, M, ds, R, rs, q⟩ := h
  obtain ⟨a, x, rfl, rfl, ra⟩ := one_arg (f := prAbs) rfl (fun a b r => by cases a <;> rfl) rs q
  cases ra with
  | int i => exact call_abs pins s σ H _ us Q I r ⟨i, rfl, q.here R (.int _)⟩
  | _ => exact False.elim q
theorem so_sum (hc : X.calm = true) : CallR X (.builtin "sum") (rP X.K prSum) := by
  intro pins s σ H xs us Q I r h
  obtain ⟨g, M, ds, R, rs, q⟩ := h
  obtain ⟨a, x, rfl, rfl, ra⟩ := one_arg (f := prSum) rfl (fun a b r => rfl) rs q
  dsimp only [prSum] at q
  split at q
  · rename_i xs hx
    split at q
    · rename_i ns hn
      obtain ⟨l, vs, rfl, hl, rs⟩ := R.asL ra hx
      rw [rs.intsOf hn] at hl
      exact cr_sum hc pins s σ H _ us Q I r ⟨l, ns, rfl, hl, q.here R (.int _)⟩
    · exact False.elim q
  · exact False.elim q
theorem so_all (hc : X.calm = true) : CallR X (.builtin "all") (rP X.K prAll) := by
  intro pins s σ H xs us Q I r h
  obtain ⟨g, M, ds, R, rs, q⟩ := h
  obtain ⟨a, x, rfl, rfl, ra⟩ := one_arg (f := prAll) rfl (fun a b r => rfl) rs q
  dsimp only [prAll] at q
  split at q
  · rename_i xs hx
    split at q
    · rename_i ns hn
      obtain ⟨l, vs, rfl, hl, rs⟩ := R.asL ra hx
      rw [rs.boolsOf hn] at hl
      exact cr_all hc pins s σ H _ us Q I r ⟨l, ns, rfl, hl, q.here R (.bl _)⟩
    · exact False.elim q
  · exact False.elim q
theorem so_any (hc : X.calm = true) : CallR X (.builtin "any") (rP X.K prAny) := by
  intro pins s σ H xs us Q I r h
  obtain ⟨g, M, ds, R, rs, q⟩ := h
  obtain ⟨a, x, rfl, rfl, ra⟩ := one_arg (f := prAny) rfl (fun a b r => rfl) rs q
  dsimp only [prAny] at q
  split at q
  · rename_i xs hx
    split at q
    · rename_i ns hn
      obtain ⟨l, vs, rfl, hl, rs⟩ := R.asL ra hx
      rw [rs.boolsOf hn] at hl
      exact cr_any hc pins s σ H _ us Q I r ⟨l, ns, rfl, hl, q.here R (.bl _)⟩
    · exact False.elim q
  · exact False.elim q
theorem so_tuple : CallR X (.type "tuple") (rP X.K prTuple) := by
  intro pins s σ H xs us Q I r h
  obtain ⟨g, M, ds, R, rs, q⟩ := h
  obtain ⟨a, x, rfl, rfl, ra⟩ := one_arg (f := prTuple) rfl (fun a b r => by cases a <;> rfl) rs q
  have lst : PostP X.K g H (match asL M a with
    | some xs => some (.tup xs, M)
    | none => none) Q → wpAny (model X.prog X.w) X.A (call (.type "tuple") us) (EP X pins σ Q) X.xe s := by
    clear q
    intro q
    split at q
    · rename_i xs hx
      obtain ⟨l, vs, rfl, hl, rs⟩ := R.asL ra hx
      exact call_tuple_of pins s σ H _ us Q I r ⟨l, vs, rfl, .inl ⟨hl, fun p hp => q.new R hp fun g' le e => .tup (SqT.of e) (rs.mono le)⟩⟩
    · exact False.elim q
  cases a with
  | tup xs =>
    cases ra with
    | tup e rs' => exact call_tupleT pins s σ H _ us Q I r ⟨_, _, rfl, DP.Same.sqT R.sub e, q.here R (.tup e rs')⟩
  | _ => exact lst q
theorem so_list : CallR X (.type "list") (rP X.K prListOf) := by
  intro pins s σ H xs us Q I r h
  obtain ⟨g, M, ds, R, rs, q⟩ := h
  obtain ⟨a, x, rfl, rfl, ra⟩ := one_arg (f := prListOf) rfl (fun a b r => rfl) rs q
  dsimp only [prListOf] at q
  split at q
  · rename_i xs hx
    obtain ⟨l, vs, rfl, hl, rs⟩ := R.asSeq ra hx
    exact call_list_of pins s σ H _ us Q I r ⟨l, vs, rfl, hl, fun p hp => q.new R hp fun g' le e => .lst e (rs.mono le)⟩
  · exact False.elim q
theorem so_min2 (hc : X.calm = true) : CallR X (.builtin "min") (rP X.K prMin2) := by
  intro pins s σ H xs us Q I r h
  obtain ⟨g, M, ds, R, rs, q⟩ := h
  match ds, rs, q with
  | [], _, q => exact False.elim q
  | [a], _, q => cases a <;> exact False.elim q
  | a :: b :: c :: ds, _, q => cases a <;> cases b <;> exact False.elim q
  | [a, b], .cons ra (.cons rb .nil), q =>
    cases ra <;> cases rb <;> first | exact False.elim q | exact call_min2 hc pins s σ H _ us Q I r ⟨_, _, rfl, q.here R (.int _)⟩
theorem so_max2 (hc : X.calm = true) : CallR X (.builtin "max") (rP X.K prMax2) := by
  intro pins s σ H xs us Q I r h
  obtain ⟨g, M, ds, R, rs, q⟩ := h
  match ds, rs, q with
  | [], _, q => exact False.elim q
  | [a], _, q => cases a <;> exact False.elim q
  | a :: b :: c :: ds, _, q => cases a <;> cases b <;> exact False.elim q
  | [a, b], .cons ra (.cons rb .nil), q =>
    cases ra <;> cases rb <;> first | exact False.elim q | exact call_max2 hc pins s σ H _ us Q I r ⟨_, _, rfl, q.here R (.int _)⟩
theorem RelM.tyX {K : PySem.W.Frag} {g : G} {M : Mem} {H : Hp} {a : D} {x : V} {u : String} (R : RelM K g M H) (ra : Rep K g x a) (h : a.ty M = some u) : TyX K H x (.type u) := by
  cases ra with
  | non => cases h; exact .base .non
  | bl b => cases h; exact .base (.bl b)
  | int i => cases h; exact .base (.int i)
  | str s => cases h; exact .base (.str s)
  | lst e rs => cases h; exact .base (.lst (R.sub _ _ e))
  | klst e rs => cases h
  | tup e rs =>
    cases h
    rcases DP.Same.sqT R.sub e with (h | ⟨o, h⟩) | ⟨o, its, n, h1, h2, _⟩
    · exact .base (.tup h)
    · exact .fTuple h
    · exact .kTuple h1 h2
  | @loc n p e =>
    simp only [D.ty] at h
    split at h
    · rename_i xs hc
      cases h
      obtain ⟨_, vs, q1, _⟩ := R.cell n p _ e hc
      exact .base (.lst q1)
    · cases h
/-- isinstance(x, T), T a built-in type -/
theorem so_isinst {t : String} : CallR X (.builtin "isinstance") (fun xs H Q => ∃ x, xs = [x, .ty t] ∧ rP X.K (prIsInst t) [x] H Q) := by
  intro pins s σ H xs us Q I r ⟨x, e, hq⟩
  subst e
  obtain ⟨g, M, a, R, ra, q⟩ := rP.one hq
  dsimp only [prIsInst] at q
  split at q
  · rename_i u hu
    split at q
    · rename_i b hb
      exact call_isi pins s σ H _ us Q I r ⟨x, .ty t, .type u, .type t, b, rfl, .ty t, R.tyX ra hu, kit_ty hb, q.here R (.bl _)⟩
    · exact False.elim q
  · exact False.elim q

/-! ### methods: rM f: x.m(xs) by f of x :: xs -/
def rM (K : PySem.W.Frag) (f : Mem → List D → PRes) : V → List V → Hp → VK → Prop := fun x xs H Q => rP K f (x :: xs) H Q
theorem rM.two {K : PySem.W.Frag} {f : Mem → List D → PRes} {x : V} {xs : List V} {H : Hp} {Q : VK} (h : rM K f x xs H Q) (h1 : ∀ M a, f M [a] = none) (h3 : ∀ M a b c r, f M (a :: b :: c :: r) = none) :
    ∃ g M a b y, xs = [y] ∧ RelM K g M H ∧ Rep K g x a ∧ Rep K g y b ∧ PostP K g H (f M [a, b]) Q := by
  obtain ⟨g, M, ds, R, rs, q⟩ := h
  match ds, rs, q with
  | [a], _, q => rw [h1] at q; exact False.elim q
  | a :: b :: c :: ds, _, q => rw [h3] at q; exact False.elim q
  | [a, b], .cons ra (.cons rb .nil), q => exact ⟨g, M, a, b, _, rfl, R, ra, rb, q⟩
theorem so_append : MtR X "list.append" (rM X.K prAppend) := by
  intro pins s σ H x xs v us Q I rx rs h
  obtain ⟨g, M, a, b, y, rfl, R, ra, rb, q⟩ := h.two (fun M a => by cases a <;> rfl) (fun M a b c r => by cases a <;> rfl)
  cases ra with
  | @loc n p e =>
    dsimp only [prAppend] at q
    split at q
    · rename_i ys hc
      split at q
      · rename_i hz
        obtain ⟨_, vs, q1, q2⟩ := R.cell n p _ e hc
        obtain ⟨R', st⟩ := R.put e hc (q2.append (.cons rb .nil))
        exact mt_append pins s σ H _ _ v us Q I rx rs ⟨p, vs, y, rfl, rfl, q1, by rw [q2.len]; exact hz, q g .non _ st R' .non⟩
      · exact False.elim q
    · exact False.elim q
  | _ => exact False.elim q
theorem so_join : MtR X "str.join" (rM X.K prJoin) := by
  intro pins s σ H x xs v us Q I rx rs h
  obtain ⟨g, M, a, b, y, rfl, R, ra, rb, q⟩ := h.two (fun M a => by cases a <;> rfl) (fun M a b c r => by cases a <;> rfl)
  cases ra with
  | str z =>
    dsimp only [prJoin] at q
    split at q
    · rename_i ys hy
      split at q
      · rename_i ss hs
        split at q
        · rename_i hz
          obtain ⟨l, vs, rfl, hl, rs'⟩ := R.asSeq rb hy
          rw [rs'.strsOf hs] at hl
          exact mt_join pins s σ H _ _ v us Q I rx rs ⟨z, l, ss, rfl, rfl, hl, hz, q.here R (.str _)⟩
        · exact False.elim q
      · exact False.elim q
    · exact False.elim q
  | _ => exact False.elim q
theorem so_split : MtR X "str.split" (rM X.K prSplit) := by
  intro pins s σ H x xs v us Q I rx rs h
  obtain ⟨g, M, a, b, y, rfl, R, ra, rb, q⟩ := h.two (fun M a => by cases a <;> rfl) (fun M a b c r => by cases a <;> cases b <;> rfl)
  cases ra <;> cases rb <;> first | exact False.elim q | skip
  dsimp only [prSplit] at q
  split at q
  · rename_i hz
    exact mt_split pins s σ H _ _ v us Q I rx rs ⟨_, _, rfl, rfl, hz.1, hz.2, fun p hp => q.new R hp fun g' le e => .lst e (Reps.ofStrs _)⟩
  · exact False.elim q
theorem so_rmsuf : MtR X "str.removesuffix" (rM X.K prRmsuf) := by
  intro pins s σ H x xs v us Q I rx rs h
  obtain ⟨g, M, a, b, y, rfl, R, ra, rb, q⟩ := h.two (fun M a => by cases a <;> rfl) (fun M a b c r => by cases a <;> cases b <;> rfl)
  cases ra <;> cases rb <;> first | exact False.elim q | skip
  dsimp only [prRmsuf] at q
  split at q
  · rename_i hz
    exact mt_removesuffix pins s σ H _ _ v us Q I rx rs ⟨_, _, rfl, rfl, hz, q.here R (.str _)⟩
  · exact False.elim q
theorem so_rmpre : MtR X "str.removeprefix" (rM X.K prRmpre) := by
  intro pins s σ H x xs v us Q I rx rs h
  obtain ⟨g, M, a, b, y, rfl, R, ra, rb, q⟩ := h.two (fun M a => by cases a <;> rfl) (fun M a b c r => by cases a <;> cases b <;> rfl)
  cases ra <;> cases rb <;> first | exact False.elim q | skip
  dsimp only [prRmpre] at q
  split at q
  · rename_i hz
    exact mt_removeprefix pins s σ H _ _ v us Q I rx rs ⟨_, _, rfl, rfl, hz, q.here R (.str _)⟩
  · exact False.elim q
theorem so_strip2 : MtR X "str.strip" (rM X.K prStrip) := by
  intro pins s σ H x xs v us Q I rx rs h
  obtain ⟨g, M, a, b, y, rfl, R, ra, rb, q⟩ := h.two (fun M a => by cases a <;> rfl) (fun M a b c r => by cases a <;> cases b <;> rfl)
  cases ra <;> cases rb <;> first | exact False.elim q | skip
  dsimp only [prStrip] at q
  split at q
  · rename_i hz
    exact mt_stripChars pins s σ H _ _ v us Q I rx rs ⟨_, _, rfl, rfl, hz, q.here R (.str _)⟩
  · exact False.elim q
/-- o[i] = v -/
theorem so_setIdx : PSet X (fun o i v H k => ∃ g M a b c, RelM X.K g M H ∧ Rep X.K g o a ∧ Rep X.K g i b ∧ Rep X.K g v c ∧ (match prSetIdx M [a, b, c] with
    | none => False
    | some (_, M') => ∀ g' H', Stp g H g' H' → RelM X.K g' M' H' → k H')) := by
  intro pins s σ H o i v ov iv u Q I ro ri rv h
  obtain ⟨g, M, a, b, c, R, ra, rb, rc, q⟩ := h
  cases ra with
  | @loc n p e =>
    cases rb with
    | int j =>
      dsimp only [prSetIdx] at q
      split at q
      · exact False.elim q
      · rename_i d M' hq
        split at hq
        · rename_i xs hc
          split at hq
          · rename_i k hk
            cases hq
            obtain ⟨_, vs, q1, q2⟩ := R.cell n p _ e hc
            obtain ⟨R', st⟩ := R.put e hc (Reps.set rc k q2)
            exact set_list pins s σ H _ _ v ov iv u Q I ro ri rv ⟨p, vs, j, k, rfl, rfl, q1, by rw [q2.len]; exact hk, q g _ st R'⟩
          · cases hq
        · cases hq
    | _ => exact False.elim q
  | _ => cases rb <;> exact False.elim q
/-- o[i] of a list, by values -/
theorem so_getL : PGet X (rP2 X.K prIdxL) := by
  intro pins s σ H x y v u Q I rx ry hq
  obtain ⟨g, M, a, b, R, ra, rb, q⟩ := rP.two hq
  cases b with
  | int i =>
    dsimp only [prIdxL] at q
    split at q
    · rename_i xs hx
      split at q
      · rename_i d hd
        cases rb
        obtain ⟨l, vs, rfl, hl, rs⟩ := R.asL ra hx
        have hv : ∃ w, atI vs i = some w ∧ Rep X.K g w d := by
          unfold atI at hd ⊢
          rw [rs.len]
          cases e : ixN xs.length i with
          | none => rw [e] at hd; cases hd
          | some j =>
            rw [e] at hd
            exact rs.get hd
        obtain ⟨z, he, rz⟩ := hv
        cases rx
        obtain ⟨t, rfl⟩ := ry
        obtain ⟨its, r, pl, hz⟩ := I.list hl
        obtain ⟨j, h1, h2, h3, h4, h5⟩ := atI_get he
        obtain ⟨w, ew, rw'⟩ := r.get h2
        have hl := r.length
        have hn := line63
        have fin : EP X pins σ Q w s := ⟨z, H, I, rw', q.here R rz⟩
        by_cases h0 : 0 ≤ i
        · have hj : i.toNat = j := by
            rw [seqIndex_of h0 h5] at h1
            exact Option.some.inj h1
          exact wpAny_getItem_list pl.isList h0 (by omega) (by rw [hj]; simpa using ew) fin
        · have hj : (i + (its.toArray.size : Int)).toNat = j := by
            rw [seqIndex_neg (by omega) h4] at h1
            rw [List.size_toArray, ← hl]
            exact Option.some.inj h1
          exact wpAny_getItem_list_neg pl.isList (by omega) (by rw [List.size_toArray] <;> omega) (by omega) (by rw [hj]; simpa using ew) fin
      · exact False.elim q
    · exact False.elim q
  | _ => exact False.elim q
end
end DP

/-! DP.Expr: evaluation holds in the model: expressions. -/
namespace DP
open PySem PySem.Spec PyProof.Rows L2

/-- what stands fast: the written part, what calls give, the exceptions' classes -/
structure Cf where
  K : PySem.W.Frag
  call : Nat → List D → Mem → Res D
  cls : Nat → Option Addr
def RepX (cf : Cf) (g : G) (x : Exn) (cls : Value) (dx : Option Addr) (H : Hp) : Prop :=
  ∃ C d vs, cf.cls x.cls = some C ∧ cls = .ref C ∧ dx = some d ∧ H d = some (.xd ((x.fs.map (·.1)).zip vs)) ∧ Reps cf.K g vs (x.fs.map (·.2))
/-- an evaluation's end, in the heap -/
def Post {α : Type} (cf : Cf) (W : WX) (g : G) (H : Hp) (σ : L2.St) (r : Res α) (k : α → Mem → G → Hp → Prop) : Prop := match r with
  | .bad => False
  | .exc x M' => ∀ g' H' cls dx, Stp g H g' H' → RelM cf.K g' M' H' → RepX cf g' x cls dx H' → W cls dx σ H'
  | .ok a M' => ∀ g' H', Stp g H g' H' → RelM cf.K g' M' H' → k a M' g' H'
section
variable {cf : Cf} {W : WX} {g g' : G} {H H' : Hp} {σ : L2.St} {α β : Type} {r : Res α} {k k' : α → Mem → G → Hp → Prop}
theorem Post.step (h : Post cf W g H σ r k) (st : Stp g H g' H') : Post cf W g' H' σ r k := by
  cases r with
  | bad => exact h
  | exc x M => exact fun g2 H2 c d s R X => h g2 H2 c d (st.trans s) R X
  | ok a M => exact fun g2 H2 s R => h g2 H2 (st.trans s) R
theorem Post.bind {f : α → Mem → Res β} {k : β → Mem → G → Hp → Prop} (h : Post cf W g H σ (r.bind f) k) : Post cf W g H σ r fun a M1 g1 H1 => Post cf W g1 H1 σ (f a M1) k := by
  cases r with
  | bad => exact h
  | exc x M => exact h
  | ok a M => exact fun g2 H2 s R => Post.step (r := f a M) h s
theorem Post.imp (h : Post cf W g H σ r k) (f : ∀ a M' g' H', Stp g H g' H' → RelM cf.K g' M' H' → k a M' g' H' → k' a M' g' H') : Post cf W g H σ r k' := by
  cases r with
  | bad => exact h
  | exc x M => exact h
  | ok a M => exact fun g2 H2 s R => f _ _ _ _ s R (h g2 H2 s R)
theorem Post.ok {a : α} {M : Mem} (h : Post cf W g H σ (.ok a M) k) (R : RelM cf.K g M H) : k a M g H := h g H Stp.refl R
theorem Post.ofP {p : PRes} {Q : VK} (h : Post cf W g H σ (DP.ofP p) fun d _ g' H' => ∀ v, Rep cf.K g' v d → Q v H') : PostP cf.K g H p Q := by
  cases p with
  | none => exact h
  | some dm => exact fun g' v H' st R r => h g' H' st R v r
theorem bind_assoc {γ : Type} {r : Res α} {f : α → Mem → Res β} {h : β → Mem → Res γ} : (r.bind f).bind h = r.bind fun a M => (f a M).bind h := by
  cases r <;> rfl
end
/-! ### readings -/
def TD (cf : Cf) (W : WX) (e : E) : TE := fun σ H Q => ∃ g env M, RelM cf.K g M H ∧ RelE cf.K g env σ ∧ Post cf W g H σ (ev cf.call e env M) fun d _ g' H' => ∀ v, Rep cf.K g' v d → Q v H'
def TDs (cf : Cf) (W : WX) (es : List E) : TA := fun σ H Q => ∃ g env M, RelM cf.K g M H ∧ RelE cf.K g env σ ∧ Post cf W g H σ (evs cf.call es env M) fun ds _ g' H' => ∀ vs, Reps cf.K g' vs ds → Q vs H'
/-- a test's answer -/
def tru (d : D) (M : Mem) : Res Bool := match truth M d with
  | some b => .ok b M
  | none => .bad
noncomputable def tst (call : Nat → List D → Mem → Res D) (e : E) (env : Env) (M : Mem) : Res Bool := (ev call e env M).bind tru
def TT (cf : Cf) (W : WX) (e : E) : L2.TT := fun σ H Q => ∃ g env M, RelM cf.K g M H ∧ RelE cf.K g env σ ∧ Post cf W g H σ (tst cf.call e env M) fun b _ _ H' => Q b H'

theorem pe_weak {X : Cx} {e : Expr} {t t' : TE} (h : PE X e t) (f : ∀ σ H Q, t' σ H Q → t σ H Q) : PE X e t' := ⟨fun pins s σ H Q I q => h.run pins s σ H Q I (f _ _ _ q)⟩
theorem pt_weak {X : Cx} {e : Expr} {t t' : L2.TT} (h : PT X e t) (f : ∀ σ H Q, t' σ H Q → t σ H Q) : PT X e t' := ⟨fun pins s σ H Q I q => h.run pins s σ H Q I (f _ _ _ q)⟩
theorem pw_weak {X : Cx} {e : Expr} {t t' : L2.TT} (h : PW X e t) (f : ∀ σ H Q, t' σ H Q → t σ H Q) : PW X e t' := ⟨fun w pins s σ H Q I q => h.run w pins s σ H Q I (f _ _ _ q)⟩
theorem pa_weak {X : Cx} {es : List Expr} {t t' : TA} (h : PA X es t) (f : ∀ σ H Q, t' σ H Q → t σ H Q) : PA X es t' := ⟨fun pos pins s σ H Q I q => h.run pos pins s σ H Q I (f _ _ _ q)⟩

section
variable {cf : Cf} {W : WX} {X : Cx}
theorem ev_pr1 {p : Pr} {a : E} {env : Env} {M : Mem} : ev cf.call (.pr p [a]) env M = (ev cf.call a env M).bind fun d1 M1 => ofP (pr p M1 [d1]) := by
  simp only [ev, evs, bind_assoc]
  cases ev cf.call a env M <;> rfl
theorem ev_pr2 {p : Pr} {a b : E} {env : Env} {M : Mem} : ev cf.call (.pr p [a, b]) env M = (ev cf.call a env M).bind fun d1 M1 => (ev cf.call b env M1).bind fun d2 M2 => ofP (pr p M2 [d1, d2]) := by
  simp only [ev, evs, bind_assoc]
  cases ev cf.call a env M with
  | ok d1 M1 =>
    simp only [Res.bind]
  | _ => rfl
theorem ev_pr {p : Pr} {es : List E} {env : Env} {M : Mem} : ev cf.call (.pr p es) env M = (evs cf.call es env M).bind fun ds M1 => ofP (pr p M1 ds) := by simp only [ev]
theorem ev_prc {p : Pr} {a : E} {es : List E} {env : Env} {M : Mem} : ev cf.call (.pr p (a :: es)) env M = (ev cf.call a env M).bind fun d M1 => (evs cf.call es env M1).bind fun ds M2 => ofP (pr p M2 (d :: ds)) := by
  simp only [ev, evs, bind_assoc]
  congr 1
/-! ### names and constants -/
theorem td_c {e : Expr} {d : D} {v : V} (h : PE X e (tC v)) (hr : ∀ g, Rep cf.K g v d) : PE X e (TD cf W (.c d)) := pe_weak h fun σ H Q ⟨g, env, M, R, RE, q⟩ => by
  simp only [ev] at q
  exact q.ok R v (hr g)
theorem td_v {x : Str} {i : Nat} {pos : Pos} (h : PE X (.Name x pos) (tVar i)) : PE X (.Name x pos) (TD cf W (.v i)) := pe_weak h fun σ H Q ⟨g, env, M, R, RE, q⟩ => by
  simp only [ev] at q
  split at q
  · rename_i d hd
    obtain ⟨v, hv, r⟩ := RE.2 _ _ hd
    exact ⟨v, hv, q.ok R v r⟩
  · exact False.elim q
/-! ### strict operations -/
theorem td_op2 {p : Pr} {e a b : Expr} {a' b' : E} (ho : PE X a (TD cf W a') → PE X b (TD cf W b') → PE X e (tOp (rP2 cf.K (pr p)) (TD cf W a') (TD cf W b'))) (ha : PE X a (TD cf W a')) (hb : PE X b (TD cf W b')) :
    PE X e (TD cf W (.pr p [a', b'])) := pe_weak (ho ha hb) fun σ H Q ⟨g, env, M, R, RE, q⟩ => by
  rw [ev_pr2] at q
  exact ⟨g, env, M, R, RE, q.bind.imp fun d1 M1 g1 H1 st1 R1 q1 x rx => ⟨g1, env, M1, R1, RE.mono st1.le, q1.bind.imp fun d2 M2 g2 H2 st2 R2 q2 y ry => ⟨g2, M2, [d1, d2], R2, .cons (rx.mono st2.le) (.cons ry .nil), q2.ofP⟩⟩⟩
/-- .. as a test -/
theorem tt_op2 {p : Pr} {e a b : Expr} {a' b' : E} (ho : PE X a (TD cf W a') → PE X b (TD cf W b') → PT X e (tTest (tOp (rP2 cf.K (pr p)) (TD cf W a') (TD cf W b')))) (hb0 : ∀ M ds d M', pr p M ds = some (d, M') → ∃ b, d = .bl b)
    (ha : PE X a (TD cf W a')) (hb : PE X b (TD cf W b')) : PT X e (TT cf W (.pr p [a', b'])) := pt_weak (ho ha hb) fun σ H Q ⟨g, env, M, R, RE, q⟩ => by
  unfold tst at q
  rw [ev_pr2, bind_assoc] at q
  simp only [bind_assoc] at q
  refine ⟨g, env, M, R, RE, q.bind.imp fun d1 M1 g1 H1 st1 R1 q1 x rx => ⟨g1, env, M1, R1, RE.mono st1.le, q1.bind.imp fun d2 M2 g2 H2 st2 R2 q2 y ry => ⟨g2, M2, [d1, d2], R2, .cons (rx.mono st2.le) (.cons ry .nil), ?_⟩⟩⟩
  cases e : pr p M2 [d1, d2] with
  | none => rw [e] at q2; exact q2
  | some dm =>
    obtain ⟨d, M3⟩ := dm
    obtain ⟨b, rfl⟩ := hb0 _ _ _ _ e
    rw [e] at q2
    intro g3 v H3 st3 R3 r3
    cases r3
    exact ⟨b, rfl, q2 g3 H3 st3 R3⟩
theorem td_args {es : List Expr} {es' : List E} {p : Pr} {e : Expr} (ho : PE X e (tCB (rP cf.K (pr p)) (TDs cf W es'))) : PE X e (TD cf W (.pr p es')) := pe_weak ho fun σ H Q ⟨g, env, M, R, RE, q⟩ => by
  rw [ev_pr] at q
  exact ⟨g, env, M, R, RE, q.bind.imp fun ds M1 g1 H1 st1 R1 q1 vs rs => ⟨g1, M1, ds, R1, rs, q1.ofP⟩⟩
theorem pa_nilD : PA X [] (TDs cf W []) := pa_weak pa_nil fun σ H Q ⟨g, env, M, R, RE, q⟩ => by
  simp only [evs] at q
  exact q.ok R [] .nil
theorem pa_consD {e : Expr} {es : List Expr} {e' : E} {es' : List E} (ha : PE X e (TD cf W e')) (hr : PA X es (TDs cf W es')) (hs : starEach (e :: es) X.env = (false, eval e X.env) :: starEach es X.env) : PA X (e :: es) (TDs cf W (e' :: es')) :=
  pa_weak (pa_cons ha hr hs) fun σ H Q ⟨g, env, M, R, RE, q⟩ => by
    simp only [evs] at q
    refine ⟨g, env, M, R, RE, q.bind.imp fun d1 M1 g1 H1 st1 R1 q1 x rx => ⟨g1, env, M1, R1, RE.mono st1.le, q1.bind.imp fun d2 M2 g2 H2 st2 R2 q2 y ry => ?_⟩⟩
    exact q2.ok R2 (x :: y) (.cons (rx.mono st2.le) ry)
/-- displays -/
theorem td_tup {es : List Expr} {es' : List E} {k : Nat} {pos : Pos} (h : PA X es (TDs cf W es')) : PE X (.Tuple es k pos) (TD cf W (.pr .tup es')) := pe_weak (pe_tup h) fun σ H Q ⟨g, env, M, R, RE, q⟩ => by
  rw [ev_pr] at q
  refine ⟨g, env, M, R, RE, q.bind.imp fun ds M1 g1 H1 st1 R1 q1 vs rs => ?_⟩
  have q2 := q1.ofP
  simp only [pr, prTup] at q2
  split at q2
  · rename_i hz
    exact ⟨by rw [rs.len]; exact hz, fun p hp => q2.new R1 hp fun g' le e => .tup (SqT.of e) (rs.mono le)⟩
  · exact False.elim q2
theorem td_list {es : List Expr} {es' : List E} {pos : Pos} (h : PA X es (TDs cf W es')) : PE X (.List es pos) (TD cf W (.pr .list es')) := pe_weak (pe_lst h) fun σ H Q ⟨g, env, M, R, RE, q⟩ => by
  rw [ev_pr] at q
  refine ⟨g, env, M, R, RE, q.bind.imp fun ds M1 g1 H1 st1 R1 q1 vs rs => ?_⟩
  have q2 := q1.ofP
  simp only [pr, prList] at q2
  split at q2
  · rename_i hz
    exact ⟨by rw [rs.len]; exact hz, fun p hp => q2.new R1 hp fun g' le e => .lst e (rs.mono le)⟩
  · exact False.elim q2
theorem td_listM {es : List Expr} {es' : List E} {pos : Pos} (h : PA X es (TDs cf W es')) : PE X (.List es pos) (TD cf W (.pr .listM es')) := pe_weak (pe_lst h) fun σ H Q ⟨g, env, M, R, RE, q⟩ => by
  rw [ev_pr] at q
  refine ⟨g, env, M, R, RE, q.bind.imp fun ds M1 g1 H1 st1 R1 q1 vs rs => ?_⟩
  have q2 := q1.ofP
  simp only [pr, prListM] at q2
  split at q2
  · rename_i hz
    refine ⟨by rw [rs.len]; exact hz, fun p hp => ?_⟩
    obtain ⟨R', st, r⟩ := R1.born hp rs
    exact q2 _ _ _ st R' r
  · exact False.elim q2
/-- a changing list becomes a plain one -/
theorem fz_rep {K : PySem.W.Frag} {g : G} {M M' : Mem} {H : Hp} : ∀ {k : Nat} {d d' : D} {v : V}, RelM K g M H → Rep K g v d → fz k M d = some (d', M') → ∃ g', Stp g H g' H ∧ RelM K g' M' H ∧ Rep K g' v d' := by
  intro k
  induction k generalizing g M M' with
  | zero =>
    intro d d' v R r h
    cases d <;> first | (cases h; exact ⟨g, Stp.refl, R, r⟩) | (simp [fz] at h)
  | succ k ih =>
    intro d d' v R r h
    cases r with
    | @loc n p e =>
      simp only [fz] at h
      split at h
      · rename_i xs hc
        simp only [Option.map_eq_some_iff] at h
        obtain ⟨⟨ys, M2⟩, h, e2⟩ := h
        cases e2
        obtain ⟨vs, q1, q2, R1, le1⟩ := R.kill e hc
        -- the items
        have items : ∀ (xs : List D) (vs : List V) (g1 : G) (M1 : Mem) (acc : List D) (ws : List V) (ys : List D) (M2 : Mem), RelM K g1 M1 H → Reps K g1 vs xs → Reps K g1 ws acc →
            xs.foldl (fun (r : Option (List D × Mem)) x => match r with
              | some (acc, M1) => match fz k M1 x with
                | some (y, M2) => some (acc ++ [y], M2)
                | none => none
              | none => none) (some (acc, M1)) = some (ys, M2) → ∃ g', Stp g1 H g' H ∧ RelM K g' M2 H ∧ Reps K g' (ws ++ vs) ys := by
          intro xs
          induction xs with
          | nil =>
            intro vs g1 M1 acc ws ys M2 R1 rs ra h
            cases rs
            cases h
            exact ⟨g1, Stp.refl, R1, by simpa using ra⟩
          | cons x xs ihx =>
            intro vs g1 M1 acc ws ys M2 R1 rs ra h
            cases rs with
            | cons r rs =>
              rw [List.foldl_cons] at h
              cases hx : fz k M1 x with
              | none =>
                simp only [hx] at h
                exfalso
                have none_stays : ∀ l : List D, l.foldl (fun (r : Option (List D × Mem)) x => match r with
                  | some (acc, M1) => match fz k M1 x with
                    | some (y, M2) => some (acc ++ [y], M2)
                    | none => none
                  | none => none) none = none := by
                  intro l
                  induction l with
                  | nil => rfl
                  | cons _ _ ih => rw [List.foldl_cons]; exact ih
                rw [none_stays] at h
                cases h
              | some ym =>
                obtain ⟨y, M3⟩ := ym
                simp only [hx] at h
                obtain ⟨g2, st2, R2, r2⟩ := ih R1 r hx
                obtain ⟨g3, st3, R3, r3⟩ := ihx _ g2 M3 (acc ++ [y]) (ws ++ [_]) ys M2 R2 (rs.mono st2.le) ((ra.mono st2.le).append (.cons r2 .nil)) h
                exact ⟨g3, st2.trans st3, R3, by simpa using r3⟩
        obtain ⟨g3, st3, R3, r3⟩ := items xs vs _ _ [] [] ys _ R1 (q2.mono le1.le) .nil h
        exact ⟨g3, le1.trans st3, R3, .lst (st3.le.F _ _ upd_same) (by simpa using r3)⟩
      · cases h
    | _ =>
      cases h
      exact ⟨g, Stp.refl, R, by constructor <;> assumption⟩
theorem td_freeze {e : Expr} {e' : E} (h : PE X e (TD cf W e')) : PE X e (TD cf W (.pr .freeze [e'])) := pe_weak h fun σ H Q ⟨g, env, M, R, RE, q⟩ => by
  rw [ev_pr1] at q
  refine ⟨g, env, M, R, RE, q.bind.imp fun d M1 g1 H1 st1 R1 q1 v r => ?_⟩
  have q2 := q1.ofP
  simp only [pr, prFreeze] at q2
  cases hf : fz 4 M1 d with
  | none => rw [hf] at q2; exact False.elim q2
  | some dm =>
    obtain ⟨d2, M2⟩ := dm
    rw [hf] at q2
    obtain ⟨g2, st, R2, r2⟩ := fz_rep R1 r hf
    exact q2 g2 v H1 st R2 r2
end
end DP

/-! DP.Expr2: tests, and, or, if, methods, slices, f-strings, calls. -/
namespace DP
open PySem PySem.Spec PyProof.Rows L2
section
variable {cf : Cf} {W : WX} {X : Cx}
/-! ### tests -/
theorem tst_op {e' : E} {env : Env} {M : Mem} : tst cf.call e' env M = (ev cf.call e' env M).bind tru := rfl
theorem Post.tru {g : G} {H : Hp} {σ : L2.St} {d : D} {M : Mem} {k : Bool → Mem → G → Hp → Prop} (h : Post cf W g H σ (DP.tru d M) k) : ∃ b, truth M d = some b ∧ Post cf W g H σ (.ok b M) k := by
  unfold DP.tru at h
  split at h
  · rename_i b hb
    exact ⟨b, hb, h⟩
  · exact False.elim h
theorem tt_plain {e : Expr} {e' : E} (hK : X.K = cf.K) (h : PE X e (TD cf W e')) (he : ∀ whole, isTrue e X.env whole = (do let v ← whole; standAt e.pos; holding [v] (truthy v))) : PT X e (TT cf W e') := pt_weak (pt_truth h he) fun σ H Q ⟨g, env, M, R, RE, q⟩ => by
  refine ⟨g, env, M, R, RE, q.bind.imp fun d M1 g1 H1 st1 R1 q1 v r => ?_⟩
  obtain ⟨b, hb, q2⟩ := q1.tru
  exact ⟨b, by rw [hK]; exact R1.truth r hb, q2.ok R1⟩
theorem tt_and1 {a : Expr} {a' : E} {pos : Pos} (h : PT X a (TT cf W a')) : PW X (.BoolOp .And [a] pos) (TT cf W a') := pw_and1 h
theorem tt_or1 {a : Expr} {a' : E} {pos : Pos} (h : PT X a (TT cf W a')) : PW X (.BoolOp .Or [a] pos) (TT cf W a') := pw_or1 h
theorem tt_and {a b : Expr} {rest : List Expr} {a' b' : E} {pos : Pos} (ha : PT X a (TT cf W a')) (hb : PW X (.BoolOp .And (b :: rest) pos) (TT cf W b')) : PW X (.BoolOp .And (a :: b :: rest) pos) (TT cf W (.and_ a' b')) :=
  pw_weak (pw_and ha hb) fun σ H Q ⟨g, env, M, R, RE, q⟩ => by
    refine ⟨g, env, M, R, RE, ?_⟩
    unfold tst at q ⊢
    simp only [ev, bind_assoc] at q
    cases h : ev cf.call a' env M with
    | bad => rw [h] at q; exact q
    | exc x M1 => rw [h] at q; exact q
    | ok d M1 =>
      rw [h] at q
      simp only [Res.bind] at q ⊢
      unfold DP.tru
      cases ht : truth M1 d with
      | none => simp only [ht] at q; exact q
      | some b =>
        simp only [ht] at q
        cases b with
        | true =>
          intro g1 H1 st1 R1
          exact ⟨g1, env, M1, R1, RE.mono st1.le, q.step st1⟩
        | false =>
          simp only [Res.bind, DP.tru, ht] at q
          intro g1 H1 st1 R1
          exact q g1 H1 st1 R1
theorem tt_or {a b : Expr} {rest : List Expr} {a' b' : E} {pos : Pos} (ha : PT X a (TT cf W a')) (hb : PW X (.BoolOp .Or (b :: rest) pos) (TT cf W b')) : PW X (.BoolOp .Or (a :: b :: rest) pos) (TT cf W (.or_ a' b')) :=
  pw_weak (pw_or ha hb) fun σ H Q ⟨g, env, M, R, RE, q⟩ => by
    refine ⟨g, env, M, R, RE, ?_⟩
    unfold tst at q ⊢
    simp only [ev, bind_assoc] at q
    cases h : ev cf.call a' env M with
    | bad => rw [h] at q; exact q
    | exc x M1 => rw [h] at q; exact q
    | ok d M1 =>
      rw [h] at q
      simp only [Res.bind] at q ⊢
      unfold DP.tru
      cases ht : truth M1 d with
      | none => simp only [ht] at q; exact q
      | some b =>
        simp only [ht] at q
        cases b with
        | false =>
          intro g1 H1 st1 R1
          exact ⟨g1, env, M1, R1, RE.mono st1.le, q.step st1⟩
        | true =>
          simp only [Res.bind, DP.tru, ht] at q
          intro g1 H1 st1 R1
          exact q g1 H1 st1 R1
theorem tt_not {a : Expr} {a' : E} {pos : Pos} (ha : PT X a (TT cf W a')) : PT X (.UnaryOp .Not a pos) (TT cf W (.pr .not_ [a'])) := pt_weak (pt_not ha) fun σ H Q ⟨g, env, M, R, RE, q⟩ => by
  refine ⟨g, env, M, R, RE, ?_⟩
  unfold tst at q ⊢
  rw [ev_pr1, bind_assoc] at q
  cases h : ev cf.call a' env M with
  | bad => rw [h] at q; exact q
  | exc x M1 => rw [h] at q; exact q
  | ok d M1 =>
    rw [h] at q
    simp only [Res.bind, pr, prNot] at q ⊢
    unfold DP.tru
    cases ht : truth M1 d with
    | none => simp only [ht] at q; exact q
    | some b =>
      simp only [ht, okB, DP.ofP, Res.bind] at q
      exact q
/-! ### values -/
theorem td_one {op : BoolOp} {a : Expr} {a' : E} {pos : Pos} (h : PE X a (TD cf W a')) : PE X (.BoolOp op [a] pos) (TD cf W a') := pe_one h
theorem td_and {a b : Expr} {rest : List Expr} {a' b' : E} {pos : Pos} (hK : X.K = cf.K) (ha : PE X a (TD cf W a')) (hb : PE X (.BoolOp .And (b :: rest) pos) (TD cf W b')) : PE X (.BoolOp .And (a :: b :: rest) pos) (TD cf W (.and_ a' b')) :=
  pe_weak (pe_andT ha hb) fun σ H Q ⟨g, env, M, R, RE, q⟩ => by
    simp only [ev] at q
    refine ⟨g, env, M, R, RE, q.bind.imp fun d M1 g1 H1 st1 R1 q1 v r => ?_⟩
    cases ht : truth M1 d with
    | none => simp only [ht] at q1; exact False.elim q1
    | some b =>
      simp only [ht] at q1
      refine ⟨b, by rw [hK]; exact R1.truth r ht, ?_⟩
      cases b with
      | true => exact ⟨g1, env, M1, R1, RE.mono st1.le, q1⟩
      | false => exact q1.ok R1 v r
theorem td_or {a b : Expr} {rest : List Expr} {a' b' : E} {pos : Pos} (hK : X.K = cf.K) (ha : PE X a (TD cf W a')) (hb : PE X (.BoolOp .Or (b :: rest) pos) (TD cf W b')) : PE X (.BoolOp .Or (a :: b :: rest) pos) (TD cf W (.or_ a' b')) :=
  pe_weak (pe_orT ha hb) fun σ H Q ⟨g, env, M, R, RE, q⟩ => by
    simp only [ev] at q
    refine ⟨g, env, M, R, RE, q.bind.imp fun d M1 g1 H1 st1 R1 q1 v r => ?_⟩
    cases ht : truth M1 d with
    | none => simp only [ht] at q1; exact False.elim q1
    | some b =>
      simp only [ht] at q1
      refine ⟨b, by rw [hK]; exact R1.truth r ht, ?_⟩
      cases b with
      | false => exact ⟨g1, env, M1, R1, RE.mono st1.le, q1⟩
      | true => exact q1.ok R1 v r
theorem td_not {a : Expr} {a' : E} {pos : Pos} (hK : X.K = cf.K) (ha : PE X a (TD cf W a')) : PE X (.UnaryOp .Not a pos) (TD cf W (.pr .not_ [a'])) := pe_weak (pe_notT ha) fun σ H Q ⟨g, env, M, R, RE, q⟩ => by
  rw [ev_pr1] at q
  refine ⟨g, env, M, R, RE, q.bind.imp fun d M1 g1 H1 st1 R1 q1 v r => ?_⟩
  simp only [pr, prNot] at q1
  cases ht : truth M1 d with
  | none => simp only [ht] at q1; exact False.elim q1
  | some b =>
    simp only [ht] at q1
    exact ⟨b, by rw [hK]; exact R1.truth r ht, q1.ok R1 _ (.bl _)⟩
theorem td_ite {c a b : Expr} {c' a' b' : E} {pos : Pos} (hc : PT X c (TT cf W c')) (ha : PE X a (TD cf W a')) (hb : PE X b (TD cf W b')) : PE X (.IfExp c a b pos) (TD cf W (.ite c' a' b')) :=
  pe_weak (pe_ifExp hc ha hb) fun σ H Q ⟨g, env, M, R, RE, q⟩ => by
    simp only [ev] at q
    refine ⟨g, env, M, R, RE, ?_⟩
    unfold tst
    cases h : ev cf.call c' env M with
    | bad => rw [h] at q; exact q
    | exc x M1 => rw [h] at q; exact q
    | ok d M1 =>
      rw [h] at q
      simp only [Res.bind] at q ⊢
      unfold DP.tru
      cases ht : truth M1 d with
      | none => simp only [ht] at q; exact q
      | some b =>
        simp only [ht] at q
        intro g1 H1 st1 R1
        cases b with
        | true => exact ⟨g1, env, M1, R1, RE.mono st1.le, q.step st1⟩
        | false => exact ⟨g1, env, M1, R1, RE.mono st1.le, q.step st1⟩
/-! ### unary minus, is None -/
theorem td_neg {a : Expr} {a' : E} {pos : Pos} (hK : X.K = cf.K) (ha : PE X a (TD cf W a')) : PE X (.UnaryOp .USub a pos) (TD cf W (.pr .neg [a'])) := pe_weak (pe_un so_neg ha) fun σ H Q ⟨g, env, M, R, RE, q⟩ => by
  rw [ev_pr1] at q
  rw [hK]
  exact ⟨g, env, M, R, RE, q.bind.imp fun d M1 g1 H1 st1 R1 q1 v r => ⟨g1, M1, [d], R1, .cons r .nil, q1.ofP⟩⟩
theorem td_isN {a : Expr} {a' : E} {j : Nat} {pos pos' : Pos} (hK : X.K = cf.K) (ha : PE X a (TD cf W a')) : PE X (.Compare a [.Is] [.Constant .none j pos'] pos) (TD cf W (.pr .isN [a'])) :=
  pe_weak (pe_cmpR so_isN ha pe_non (nomark _)) fun σ H Q ⟨g, env, M, R, RE, q⟩ => by
    rw [ev_pr1] at q
    rw [hK]
    exact ⟨g, env, M, R, RE, q.bind.imp fun d M1 g1 H1 st1 R1 q1 v r => ⟨rfl, g1, M1, [d], R1, .cons r .nil, q1.ofP⟩⟩
theorem td_notN {a : Expr} {a' : E} {j : Nat} {pos pos' : Pos} (hK : X.K = cf.K) (ha : PE X a (TD cf W a')) : PE X (.Compare a [.IsNot] [.Constant .none j pos'] pos) (TD cf W (.pr .notN [a'])) :=
  pe_weak (pe_cmpR so_notN ha pe_non (nomark _)) fun σ H Q ⟨g, env, M, R, RE, q⟩ => by
    rw [ev_pr1] at q
    rw [hK]
    exact ⟨g, env, M, R, RE, q.bind.imp fun d M1 g1 H1 st1 R1 q1 v r => ⟨rfl, g1, M1, [d], R1, .cons r .nil, q1.ofP⟩⟩
theorem tt_one {p : Pr} {e a : Expr} {a' : E} (f : PE X a (TD cf W a') → PT X e (fun σ H Q => TD cf W a' σ H fun x H1 => rP cf.K (pr p) [x] H1 fun x H' => ∃ k, x = .bl k ∧ Q k H')) (hb0 : ∀ M ds d M', pr p M ds = some (d, M') → ∃ b, d = .bl b)
    (ha : PE X a (TD cf W a')) : PT X e (TT cf W (.pr p [a'])) := pt_weak (f ha) fun σ H Q ⟨g, env, M, R, RE, q⟩ => by
  unfold tst at q
  rw [ev_pr1, bind_assoc] at q
  refine ⟨g, env, M, R, RE, q.bind.imp fun d1 M1 g1 H1 st1 R1 q1 x rx => ⟨g1, M1, [d1], R1, .cons rx .nil, ?_⟩⟩
  cases e : pr p M1 [d1] with
  | none => rw [e] at q1; exact q1
  | some dm =>
    obtain ⟨d, M3⟩ := dm
    obtain ⟨b, rfl⟩ := hb0 _ _ _ _ e
    rw [e] at q1
    intro g3 v H3 st3 R3 r3
    cases r3
    exact ⟨b, rfl, q1 g3 H3 st3 R3⟩
theorem tt_isN {a : Expr} {a' : E} {j : Nat} {pos pos' : Pos} (hK : X.K = cf.K) (ha : PE X a (TD cf W a')) : PT X (.Compare a [.Is] [.Constant .none j pos'] pos) (TT cf W (.pr .isN [a'])) :=
  tt_one (fun ha => pt_weak (pt_cmpR so_isN ha pe_non (nomark _)) fun σ H Q q => by
    obtain ⟨g, env, M, R, RE, q⟩ := q
    rw [hK]
    exact ⟨g, env, M, R, RE, q.imp fun _ _ _ _ _ _ k v r => ⟨rfl, k v r⟩⟩) (fun M ds d M' e => by
      simp only [pr, prIsN] at e
      split at e <;> cases e
      exact ⟨_, rfl⟩) ha
theorem tt_notN {a : Expr} {a' : E} {j : Nat} {pos pos' : Pos} (hK : X.K = cf.K) (ha : PE X a (TD cf W a')) : PT X (.Compare a [.IsNot] [.Constant .none j pos'] pos) (TT cf W (.pr .notN [a'])) :=
  tt_one (fun ha => pt_weak (pt_cmpR so_notN ha pe_non (nomark _)) fun σ H Q q => by
    obtain ⟨g, env, M, R, RE, q⟩ := q
    rw [hK]
    exact ⟨g, env, M, R, RE, q.imp fun _ _ _ _ _ _ k v r => ⟨rfl, k v r⟩⟩) (fun M ds d M' e => by
      simp only [pr, prNotN] at e
      split at e <;> cases e
      exact ⟨_, rfl⟩) ha
/-! ### methods of built-in types -/
theorem D.ty_tyV {K : PySem.W.Frag} {g : G} {M : Mem} {H : Hp} {d : D} {v : V} {t : String} (R : RelM K g M H) (r : Rep K g v d) (ht : t = "str" ∨ t = "list") (h : d.ty M = some t) : tyV K t v H := by
  cases r with
  | str s => cases h; rfl
  | lst e q => cases h; exact .inl ⟨rfl, _, SqL.of (R.sub _ _ e)⟩
  | @loc n a e =>
    simp only [D.ty] at h
    split at h
    · rename_i xs hc
      cases h
      obtain ⟨_, vs, q1, _⟩ := R.cell n a _ e hc
      exact .inl ⟨rfl, _, SqL.of q1⟩
    · cases h
  | klst e q => cases h
  | _ =>
    exfalso
    rcases ht with rfl | rfl <;> simp [D.ty] at h
theorem td_meth {p : Pr} {t : String} {o e : Expr} {es : List Expr} {o' e' : E} {es' : List E} {name : Str} {apos cpos : Pos} {id : String} (hK : X.K = cf.K) (pa : PlainAttrs t) (slot : Slot t name id) (hty : typeOf (.builtin id) = pure (.type "method_descriptor")) (hm : MtR X id (rM X.K (pr p))) (ht : t = "str" ∨ t = "list")
    (ho : PE X o (TD cf W o')) (ha : PA X (e :: es) (TDs cf W (e' :: es')))
    (hbase : attributeBase o name X.env (eval o X.env) = eval o X.env)
    (hfew : ((backTo cpos (starEach (e :: es) X.env)).all (fun x => !x.1) && (backToKw cpos (keywordEach [] X.env)).all (fun x => x.1.isSome)
      && decide ((e :: es).length + ([] : List Keyword).length + (if ([] : List Keyword).isEmpty then 0 else 1) < 30)) = true)
    (hline : (apos.endLine == cpos.line) = true) (hs : starEach (e :: es) X.env = (false, eval e X.env) :: starEach es X.env) (hplain : (backTo cpos (starEach es X.env)).any (·.1) = false) :
    PE X (.Call (.Attribute o name apos) (e :: es) [] cpos) (TD cf W (.meth p t o' (e' :: es'))) := pe_weak (pe_bm pa slot hty hm ho ha hbase hfew hline hs hplain) fun σ H Q ⟨g, env, M, R, RE, q⟩ => by
  rw [ev] at q
  refine ⟨g, env, M, R, RE, q.bind.imp fun d1 M1 g1 H1 st1 R1 q1 x rx => ?_⟩
  split at q1
  · rename_i hty
    rw [hK]
    refine ⟨D.ty_tyV R1 rx ht hty, g1, env, M1, R1, RE.mono st1.le, q1.bind.imp fun ds M2 g2 H2 st2 R2 q2 vs rs => ?_⟩
    exact ⟨g2, M2, d1 :: ds, R2, .cons (rx.mono st2.le) rs, q2.ofP⟩
  · exact False.elim q1
/-! ### subscripts -/
theorem td_idx {a b : Expr} {a' b' : E} {pos : Pos} (hK : X.K = cf.K) (hs : PlainIx b) (ha : PE X a (TD cf W a')) (hb : PE X b (TD cf W b')) : PE X (.Subscript a b pos) (TD cf W (.pr .idx [a', b'])) :=
  td_op2 (fun ha hb => by rw [← hK]; exact pe_ix so_idx ha hb hs) ha hb
theorem slc_post {g : G} {M : Mem} {H : Hp} {σ : L2.St} {lo hi : Option Int} {d : D} {x : V} {Q : VK} (hK : X.K = cf.K) (R : RelM cf.K g M H) (r : Rep cf.K g x d) (q : PostP cf.K g H (slc M lo hi d) Q) : rSl X.K x lo hi H Q := by
  rw [hK]
  exact ⟨g, M, d, R, r, q⟩
theorem td_slice0 {a : Expr} {a' : E} {pos p2 : Pos} (hK : X.K = cf.K) (ha : PE X a (TD cf W a')) : PE X (.Subscript a (.Slice none none none p2) pos) (TD cf W (.pr (.slice false false) [a'])) :=
  pe_weak (pe_slice so_slice ha po_none po_none) fun σ H Q ⟨g, env, M, R, RE, q⟩ => by
    rw [ev_pr1] at q
    exact ⟨g, env, M, R, RE, q.bind.imp fun d1 M1 g1 H1 st1 R1 q1 x rx => slc_post (σ := σ) hK R1 rx q1.ofP⟩
theorem td_sliceL {a l : Expr} {a' l' : E} {pos p2 : Pos} (hK : X.K = cf.K) (ha : PE X a (TD cf W a')) (hl : PE X l (TD cf W l')) : PE X (.Subscript a (.Slice (some l) none none p2) pos) (TD cf W (.pr (.slice true false) [a', l'])) :=
  pe_weak (pe_slice so_slice ha (po_some hl) po_none) fun σ H Q ⟨g, env, M, R, RE, q⟩ => by
    rw [ev_pr2] at q
    refine ⟨g, env, M, R, RE, q.bind.imp fun d1 M1 g1 H1 st1 R1 q1 x rx => ⟨g1, env, M1, R1, RE.mono st1.le, q1.bind.imp fun d2 M2 g2 H2 st2 R2 q2 y ry => ?_⟩⟩
    have q3 := q2.ofP
    cases ry <;> first | exact False.elim q3 | exact ⟨_, rfl, slc_post (σ := σ) hK R2 (rx.mono st2.le) q3⟩
theorem td_sliceH {a l : Expr} {a' l' : E} {pos p2 : Pos} (hK : X.K = cf.K) (ha : PE X a (TD cf W a')) (hl : PE X l (TD cf W l')) : PE X (.Subscript a (.Slice none (some l) none p2) pos) (TD cf W (.pr (.slice false true) [a', l'])) :=
  pe_weak (pe_slice so_slice ha po_none (po_some hl)) fun σ H Q ⟨g, env, M, R, RE, q⟩ => by
    rw [ev_pr2] at q
    refine ⟨g, env, M, R, RE, q.bind.imp fun d1 M1 g1 H1 st1 R1 q1 x rx => ⟨g1, env, M1, R1, RE.mono st1.le, q1.bind.imp fun d2 M2 g2 H2 st2 R2 q2 y ry => ?_⟩⟩
    have q3 := q2.ofP
    cases ry <;> first | exact False.elim q3 | exact ⟨_, rfl, slc_post (σ := σ) hK R2 (rx.mono st2.le) q3⟩
theorem td_sliceLH {a l u : Expr} {a' l' u' : E} {pos p2 : Pos} (hK : X.K = cf.K) (ha : PE X a (TD cf W a')) (hl : PE X l (TD cf W l')) (hu : PE X u (TD cf W u')) : PE X (.Subscript a (.Slice (some l) (some u) none p2) pos) (TD cf W (.slc3 a' l' u')) :=
  pe_weak (pe_slice so_slice ha (po_some hl) (po_some hu)) fun σ H Q ⟨g, env, M, R, RE, q⟩ => by
    rw [ev] at q
    refine ⟨g, env, M, R, RE, q.bind.imp fun d1 M1 g1 H1 st1 R1 q1 x rx => ⟨g1, env, M1, R1, RE.mono st1.le, q1.bind.imp fun d2 M2 g2 H2 st2 R2 q2 y ry => ?_⟩⟩
    cases ry <;> first | exact False.elim q2 | skip
    refine ⟨_, rfl, g2, env, M2, R2, RE.mono (st1.le.trans st2.le), q2.bind.imp fun d3 M3 g3 H3 st3 R3 q3 z rz => ?_⟩
    cases rz <;> first | exact False.elim q3 | exact ⟨_, rfl, slc_post (σ := σ) hK R3 ((rx.mono st2.le).mono st3.le) q3.ofP⟩
/-! ### f-strings -/
theorem td_fmt1 {e : Expr} {e' : E} {pos : Pos} (h : PE X e (TD cf W e')) : PE X (.FormattedValue e (-1) none pos) (TD cf W (.pr .fmt1 [e'])) := pe_weak (pe_fmt h) fun σ H Q ⟨g, env, M, R, RE, q⟩ => by
  rw [ev_pr1] at q
  refine ⟨g, env, M, R, RE, q.bind.imp fun d M1 g1 H1 st1 R1 q1 v r => ?_⟩
  have q2 := q1.ofP
  simp only [pr] at q2
  cases r with
  | str s =>
    dsimp only [prFmt1] at q2
    split at q2
    · rename_i hz
      exact .inl ⟨s, rfl, hz, q2.here R1 (.str _)⟩
    · exact False.elim q2
  | int i =>
    dsimp only [prFmt1] at q2
    split at q2
    · rename_i hz
      exact .inr ⟨i, rfl, hz, q2.here R1 (.str _)⟩
    · exact False.elim q2
  | _ => exact False.elim q2
theorem fstr_run {σ : L2.St} {env : Env} : ∀ (es : List E) (acc out : Str) (g : G) (M M' : Mem) (H : Hp) (ds : List D) (Q : Str → Hp → Prop), RelM cf.K g M H → RelE cf.K g env σ → evs cf.call es env M = .ok ds M' → fmtAll acc ds = some out →
    (∀ g' H', Stp g H g' H' → RelM cf.K g' M' H' → Q out H') → tJs (es.map (TD cf W)) acc σ H Q
  | [], acc, out, g, M, M', H, ds, Q, R, RE, he, hf, k => by
    simp only [evs] at he
    cases he
    cases hf
    exact k g H Stp.refl R
  | e :: es, acc, out, g, M, M', H, ds, Q, R, RE, he, hf, k => by
    simp only [evs] at he
    cases h1 : ev cf.call e env M with
    | bad => rw [h1] at he; cases he
    | exc x M1 => rw [h1] at he; cases he
    | ok d M1 =>
      rw [h1] at he
      simp only [Res.bind] at he
      cases h2 : evs cf.call es env M1 with
      | bad => rw [h2] at he; cases he
      | exc x M2 => rw [h2] at he; cases he
      | ok ds2 M2 =>
        rw [h2] at he
        simp only [Res.bind] at he
        cases he
        show TD cf W e σ H _
        refine ⟨g, env, M, R, RE, ?_⟩
        rw [h1]
        intro g1 H1 st1 R1 v r
        cases r with
        | str s =>
          simp only [fmtAll] at hf
          split at hf
          · rename_i hz
            exact ⟨s, rfl, hz, fstr_run es _ out g1 M1 _ H1 ds2 Q R1 (RE.mono st1.le) h2 hf fun g' H' st R' => k g' H' (st1.trans st) R'⟩
          · cases hf
        | _ => cases hf
theorem td_fstr {v1 v2 : Expr} {rest : List Expr} {es' : List E} {pos : Pos} (h : PJ X (v1 :: v2 :: rest) (es'.map (TD cf W))) : PE X (.JoinedStr (v1 :: v2 :: rest) pos) (TD cf W (.fstr es')) := pe_weak (pe_joined h) fun σ H Q ⟨g, env, M, R, RE, q⟩ => by
  rw [ev] at q
  cases he : evs cf.call es' env M with
  | bad => rw [he] at q; exact False.elim q
  | exc x M1 => rw [he] at q; exact False.elim q
  | ok ds M1 =>
    rw [he] at q
    simp only [prFmt] at q
    cases hf : fmtAll Str.empty ds with
    | none => simp only [hf] at q; exact False.elim q
    | some out =>
      simp only [hf] at q
      exact fstr_run es' _ out g M M1 H ds _ R RE he hf fun g' H' st R' => q g' H' st R' _ (.str _)
/-! ### calls of own defs -/
/-- what a def promises: what the evaluation gives -/
def spOf (cf : Cf) (f : Nat) : Sp := fun vs H Q E => ∃ g M ds, RelM cf.K g M H ∧ Reps cf.K g vs ds ∧ Post cf (fun cls d _ H => E cls d H) g H [] (cf.call f ds M) fun d _ g' H' => ∀ v, Rep cf.K g' v d → Q v H'
theorem td_call {x : Str} {p pos : Pos} {e : Expr} {es : List Expr} {es' : List E} {f : Nat} {k : Nat} {fa : Addr} {fd : FuncData} {ps : List Str} (F : FnOk X.prog X.w X.K X.mg X.base (L2.CX X.prog X.w) k fa fd ps (spOf cf f)) (hr : Room k X.A) (hg : Gl X x)
    (hm : X.mg x = some (.ref fa)) (hk : PySem.W.keepIn X.K (.ref fa) = true) (hb : Binds X.K fd ps []) (tk : Takes X W) (ha : PA X (e :: es) (TDs cf W es')) (hdb : (x == ("__debug__" : Str)) = false)
    (he : starEach (e :: es) X.env = (false, eval e X.env) :: starEach es X.env) (hpl : (backTo pos (starEach es X.env)).any (·.1) = false) : PE X (.Call (.Name x p) (e :: es) [] pos) (TD cf W (.call f es')) :=
  pe_weak (pe_callSD (E := WE W) (dvs := []) F hr hg hm hk hb .nil (passAt tk) ha hdb he hpl) fun σ H Q ⟨g, env, M, R, RE, q⟩ => by
    rw [ev] at q
    refine ⟨g, env, M, R, RE, q.bind.imp fun ds M1 g1 H1 st1 R1 q1 vs rs => ?_⟩
    show spOf cf f (vs ++ []) H1 Q (WE W σ)
    rw [List.append_nil]
    refine ⟨g1, M1, ds, R1, rs, ?_⟩
    cases h : cf.call f ds M1 with
    | bad => rw [h] at q1; exact q1
    | exc x M2 => rw [h] at q1; exact q1
    | ok d M2 => rw [h] at q1; exact q1
end
end DP

/-! DP.Walks: targets, what loops walk, comprehensions. -/
namespace DP
open PySem PySem.Spec PyProof.Rows L2

/-- an iterator walks these data -/
structure Walks (cf : Cf) (J : It) (w : Walk) (g : G) (H : Hp) : Prop where
  go : ∀ i d g' M' H', w.xs[i]? = some d → Stp g H g' H' → RelM cf.K g' M' H' → w.Ok M' → J.go i H' ∧ ∀ x H'', J.yld i H' x H'' → ∃ g'', Stp g' H' g'' H'' ∧ RelM cf.K g'' M' H'' ∧ Rep cf.K g'' x d
  stop : ∀ g' M' H', Stp g H g' H' → RelM cf.K g' M' H' → w.Ok M' → J.stop w.xs.length H'
def walkR (k : SrcK) (ds : List D) (M : Mem) : Res Walk := match walk M k ds with
  | none => .bad
  | some w => .ok w M
def TSrc (cf : Cf) (W : WX) (k : SrcK) (src : List E) : TI := fun σ H R => ∃ g env M, RelM cf.K g M H ∧ RelE cf.K g env σ ∧ Post cf W g H σ ((evs cf.call src env M).bind (walkR k)) fun w _ g' H' => ∀ J, Walks cf J w g' H' → R J H'
section
variable {cf : Cf} {W : WX} {X : Cx}
theorem Walks.list {a : Addr} {vs : List V} {xs : List D} {g : G} {H : Hp} (hs : ∀ H', Same g.F H' → SqL cf.K H' a vs) (hl : ∀ {H' : Hp} {ys : List V}, SqL cf.K H' a ys → SqL cf.K H' a vs → ys = vs ∨ True) (rs : Reps cf.K g vs xs) : Walks cf (Itl cf.K a) (.items xs) g H := by
  refine ⟨fun i d g' M' H' hd st R _ => ?_, fun g' M' H' st R _ => ?_⟩
  · obtain ⟨v, hv, r⟩ := rs.get hd
    have q := hs H' (st.le.F.trans R.sub)
    refine ⟨⟨vs, v, q, hv⟩, fun x H'' y => ?_⟩
    obtain ⟨e, y⟩ := y
    subst e
    have e := y vs q
    rw [hv] at e
    cases e
    exact ⟨g', Stp.refl, R, r.mono st.le⟩
  · exact ⟨vs, hs H' (st.le.F.trans R.sub), by rw [rs.len]; exact Nat.le_refl _⟩
theorem Walks.cell {a : Addr} {n : Nat} {xs : List D} {g : G} {H : Hp} (ha : g.a[n]? = some a) : Walks cf (Itl cf.K a) (.cell n xs) g H := by
  refine ⟨fun i d g' M' H' hd st R ok => ?_, fun g' M' H' st R ok => ?_⟩
  · obtain ⟨_, vs, q1, rs⟩ := R.cell n a _ (st.le.at ha) (show M'[n]? = some (.lst xs) from ok)
    obtain ⟨v, hv, r⟩ := rs.get hd
    refine ⟨⟨vs, v, SqL.of q1, hv⟩, fun x H'' y => ?_⟩
    obtain ⟨e, y⟩ := y
    subst e
    have e := y vs (SqL.of q1)
    rw [hv] at e
    cases e
    exact ⟨g', Stp.refl, R, r⟩
  · obtain ⟨_, vs, q1, rs⟩ := R.cell n a _ (st.le.at ha) (show M'[n]? = some (.lst xs) from ok)
    exact ⟨vs, SqL.of q1, by rw [rs.len]; exact Nat.le_refl _⟩
theorem Walks.tup {a : Addr} {vs : List V} {xs : List D} {g : G} {H : Hp} (hs : ∀ H', Same g.F H' → SqT cf.K H' a vs) (rs : Reps cf.K g vs xs) : Walks cf (Itt cf.K a) (.items xs) g H := by
  refine ⟨fun i d g' M' H' hd st R _ => ?_, fun g' M' H' st R _ => ?_⟩
  · obtain ⟨v, hv, r⟩ := rs.get hd
    have q := hs H' (st.le.F.trans R.sub)
    refine ⟨⟨vs, v, q, hv⟩, fun x H'' y => ?_⟩
    obtain ⟨e, y⟩ := y
    subst e
    have e := y vs q
    rw [hv] at e
    cases e
    exact ⟨g', Stp.refl, R, r.mono st.le⟩
  · exact ⟨vs, hs H' (st.le.F.trans R.sub), by rw [rs.len]; exact Nat.le_refl _⟩
theorem Walks.rng {lo : Int} {n : Nat} {g : G} {H : Hp} : Walks cf (Itr lo n) (.items (rngD lo n)) g H := by
  refine ⟨fun i d g' M' H' hd st R _ => ?_, fun g' M' H' st R _ => ?_⟩
  · have hi : i < n := by
      have := (List.getElem?_eq_some_iff.mp hd).1
      simpa [rngD, Walk.xs] using this
    simp only [Walk.xs, rngD, List.getElem?_map, List.getElem?_range hi, Option.map_some, Option.some.injEq] at hd
    refine ⟨hi, fun x H'' y => ?_⟩
    obtain ⟨e1, e2⟩ := y
    subst e1 e2 hd
    exact ⟨g', Stp.refl, R, .int _⟩
  · show n ≤ (rngD lo n).length
    simp [rngD]
theorem Walks.str {z : Str} {g : G} {H : Hp} : Walks cf (Its z) (.items (z.cps.toList.map fun c => .str ⟨#[c]⟩)) g H := by
  refine ⟨fun i d g' M' H' hd st R _ => ?_, fun g' M' H' st R _ => ?_⟩
  · simp only [Walk.xs, List.getElem?_map, Option.map_eq_some_iff] at hd
    obtain ⟨c, hc, e⟩ := hd
    subst e
    have hi : i < z.cps.size := by
      have := (List.getElem?_eq_some_iff.mp hc).1
      simpa using this
    refine ⟨hi, fun x H'' y => ?_⟩
    obtain ⟨e1, c', hc', e2⟩ := y
    subst e1 e2
    have : c' = c := by
      have h1 : z.cps.toList[i]? = some c' := by rw [Array.getElem?_toList]; exact hc'
      rw [hc] at h1
      exact (Option.some.inj h1).symm
    subst this
    exact ⟨g', Stp.refl, R, .str _⟩
  · show z.cps.size ≤ (z.cps.toList.map _).length
    simp
theorem enumD_get : ∀ {xs : List D} {k i : Nat} {d : D}, (enumD k xs)[i]? = some d → ∃ x, xs[i]? = some x ∧ d = .tup [.int ((k + i : Nat) : Int), x]
  | [], _, _, _, h => by simp [enumD] at h
  | x :: xs, k, 0, d, h => by
    simp [enumD] at h
    exact ⟨x, rfl, by rw [← h]; simp⟩
  | x :: xs, k, i + 1, d, h => by
    simp only [enumD, List.getElem?_cons_succ] at h
    obtain ⟨y, e, q⟩ := enumD_get h
    exact ⟨y, by simpa using e, by rw [q, show k + 1 + i = k + (i + 1) by omega]⟩
theorem enumD_len : ∀ (xs : List D) (k : Nat), (enumD k xs).length = xs.length
  | [], _ => rfl
  | _ :: xs, k => by simp [enumD, enumD_len xs]
theorem Walks.enum {a : Addr} {vs : List V} {xs : List D} {g : G} {H : Hp} (ha : g.F a = some (.lst vs)) (rs : Reps cf.K g vs xs) : Walks cf (Ite cf.K a) (.items (enumD 0 xs)) g H := by
  refine ⟨fun i d g' M' H' hd st R _ => ?_, fun g' M' H' st R _ => ?_⟩
  · obtain ⟨x0, hx, e0⟩ := enumD_get hd
    subst e0
    obtain ⟨v, hv, r⟩ := rs.get hx
    have q : SqL cf.K H' a vs := SqL.of (R.sub _ _ (st.le.F _ _ ha))
    refine ⟨⟨vs, v, q, hv⟩, fun x H'' y => ?_⟩
    obtain ⟨T, w, e1, hT, e2, y⟩ := y
    subst e1 e2
    have e := y vs q
    rw [hv] at e
    cases e
    obtain ⟨R', st'⟩ := R.froze (o := .tup [.int (i : Nat), v]) hT
    exact ⟨_, st', R', .tup (SqT.of upd_same) (.cons (by rw [Nat.zero_add]; exact .int _) (.cons ((r.mono st.le).mono st'.le) .nil))⟩
  · refine ⟨vs, SqL.of (R.sub _ _ (st.le.F _ _ ha)), ?_⟩
    show vs.length ≤ (enumD 0 xs).length
    rw [enumD_len, rs.len]
    exact Nat.le_refl _
theorem zipD_get : ∀ {xs ys : List D} {i : Nat} {d : D}, (zipD xs ys)[i]? = some d → ∃ x y, xs[i]? = some x ∧ ys[i]? = some y ∧ d = .tup [x, y]
  | [], _, _, _, h => by simp [zipD] at h
  | _ :: _, [], _, _, h => by simp [zipD] at h
  | x :: xs, y :: ys, 0, d, h => by
    simp [zipD] at h
    exact ⟨x, y, rfl, rfl, h.symm⟩
  | x :: xs, y :: ys, i + 1, d, h => by
    simp only [zipD, List.getElem?_cons_succ] at h
    obtain ⟨a, b, e, f, q⟩ := zipD_get h
    exact ⟨a, b, by simpa using e, by simpa using f, q⟩
theorem zipD_len : ∀ (xs ys : List D), xs.length = ys.length → (zipD xs ys).length = xs.length
  | [], _, _ => by simp [zipD]
  | _ :: _, [], h => by simp at h
  | _ :: xs, _ :: ys, h => by simp [zipD, zipD_len xs ys (by simpa using h)]

/-! ### sources -/
theorem Post.walkR {g : G} {H : Hp} {σ : L2.St} {k : SrcK} {ds : List D} {M : Mem} {kk : Walk → Mem → G → Hp → Prop} (h : Post cf W g H σ (DP.walkR k ds M) kk) : ∃ w, walk M k ds = some w ∧ Post cf W g H σ (.ok w M) kk := by
  unfold DP.walkR at h
  split at h
  · exact False.elim h
  · rename_i w hw
    exact ⟨w, hw, h⟩
theorem src_seq {tg e : Expr} {e' : E} (hK : X.K = cf.K) (he : PE X e (TD cf W e')) : PI X tg e (TSrc cf W .seq [e']) := by
  refine ⟨fun pins s σ H R I h => ?_⟩
  obtain ⟨g, env, M, Rm, RE, q⟩ := h
  simp only [evs, bind_assoc] at q
  cases h : ev cf.call e' env M with
  | bad => rw [h] at q; exact False.elim q
  | exc x M1 => exact (pi_list he).run pins s σ H R I ⟨g, env, M, Rm, RE, by rw [h] at q ⊢; exact q⟩
  | ok d M1 =>
    rw [h] at q
    simp only [Res.bind] at q
    obtain ⟨w, hw, q⟩ := q.walkR
    have go : ∀ {t : L2.V → Hp → Prop}, (∀ g1 H1 v, Stp g H g1 H1 → RelM cf.K g1 M1 H1 → Rep cf.K g1 v d → t v H1) → TD cf W e' σ H t := fun {t} k => ⟨g, env, M, Rm, RE, by rw [h]; exact fun g1 H1 st R1 v r => k g1 H1 v st R1 r⟩
    cases d with
    | list xs =>
      simp only [walk, asL, Option.map_some, Option.some.injEq] at hw
      subst hw
      refine (pi_list he).run pins s σ H R I (go fun g1 H1 v st R1 r => ?_)
      cases r with
      | @lst a vs _ e rs =>
        rw [hK]
        exact ⟨a, rfl, ⟨vs, SqL.of (R1.sub _ _ e)⟩, q g1 H1 st R1 _ (Walks.list (fun H' s => SqL.of (s _ _ e)) (fun _ _ => .inr trivial) rs)⟩
    | klist xs =>
      simp only [walk, asL, Option.map_some, Option.some.injEq] at hw
      subst hw
      refine (pi_list he).run pins s σ H R I (go fun g1 H1 v st R1 r => ?_)
      cases r with
      | @klst a vs _ e rs =>
        rw [hK]
        exact ⟨a, rfl, ⟨vs, R1.sub.seq e⟩, q g1 H1 st R1 _ (Walks.list (fun H' s => s.seq e) (fun _ _ => .inr trivial) rs)⟩
    | loc n =>
      simp only [walk] at hw
      split at hw
      · rename_i xs hc
        cases hw
        refine (pi_list he).run pins s σ H R I (go fun g1 H1 v st R1 r => ?_)
        cases r with
        | @loc _ a e =>
          rw [hK]
          obtain ⟨_, vs, q1, _⟩ := R1.cell n a _ e hc
          exact ⟨a, rfl, ⟨vs, SqL.of q1⟩, q g1 H1 st R1 _ (Walks.cell e)⟩
      · cases hw
    | tup xs =>
      simp only [walk, Option.some.injEq] at hw
      subst hw
      refine (pi_tup he).run pins s σ H R I (go fun g1 H1 v st R1 r => ?_)
      cases r with
      | @tup a vs _ e rs =>
        rw [hK]
        exact ⟨a, rfl, ⟨vs, DP.Same.sqT R1.sub e⟩, q g1 H1 st R1 _ (Walks.tup (fun H' s => DP.Same.sqT s e) rs)⟩
    | str z =>
      simp only [walk, Option.some.injEq] at hw
      subst hw
      refine (pi_str he).run pins s σ H R I (go fun g1 H1 v st R1 r => ?_)
      cases r
      exact ⟨z, rfl, q g1 H1 st R1 _ Walks.str⟩
    | _ => simp [walk, asL] at hw
theorem src_rng1 {tg a : Expr} {a' : E} {p pos : Pos} (hg : Gl X "range") (hm : X.mg "range" = none) (ha : PA X [a] (TDs cf W [a'])) (hs : starEach [a] X.env = [(false, eval a X.env)]) : PI X tg (.Call (.Name "range" p) [a] [] pos) (TSrc cf W .rng1 [a']) := by
  refine ⟨fun pins s σ H R I h => (pi_range1 hg hm ha hs).run pins s σ H R I ?_⟩
  obtain ⟨g, env, M, Rm, RE, q⟩ := h
  refine ⟨g, env, M, Rm, RE, q.bind.imp fun ds M1 g1 H1 st1 R1 q1 vs rs => ?_⟩
  obtain ⟨w, hw, q2⟩ := q1.walkR
  match ds, rs, hw with
  | [.int j], .cons (.int _) .nil, hw =>
    simp only [walk] at hw
    split at hw
    · rename_i hj
      cases hw
      exact ⟨j, rfl, hj.1, hj.2, q2.ok R1 _ Walks.rng⟩
    · cases hw
theorem src_rng2 {tg a b : Expr} {a' b' : E} {p pos : Pos} (hg : Gl X "range") (hm : X.mg "range" = none) (ha : PA X [a, b] (TDs cf W [a', b'])) (hs : starEach [a, b] X.env = [(false, eval a X.env), (false, eval b X.env)]) (hs2 : starEach [b] X.env = [(false, eval b X.env)]) :
    PI X tg (.Call (.Name "range" p) [a, b] [] pos) (TSrc cf W .rng2 [a', b']) := by
  refine ⟨fun pins s σ H R I h => (pi_range2 hg hm ha hs hs2).run pins s σ H R I ?_⟩
  obtain ⟨g, env, M, Rm, RE, q⟩ := h
  refine ⟨g, env, M, Rm, RE, q.bind.imp fun ds M1 g1 H1 st1 R1 q1 vs rs => ?_⟩
  obtain ⟨w, hw, q2⟩ := q1.walkR
  match ds, rs, hw with
  | [.int i, .int j], .cons (.int _) (.cons (.int _) .nil), hw =>
    simp only [walk] at hw
    split at hw
    · rename_i hj
      cases hw
      exact ⟨i, j, rfl, hj, q2.ok R1 _ Walks.rng⟩
    · cases hw
theorem src_enum {a : Expr} {a' : E} {p pos tpos : Pos} {elts : List Expr} {kk : Nat} (hK : X.K = cf.K) (hg : Gl X "enumerate") (hm : X.mg "enumerate" = none) (ha : PA X [a] (TDs cf W [a'])) (hs : starEach [a] X.env = [(false, eval a X.env)]) :
    PI X (.Tuple elts kk tpos) (.Call (.Name "enumerate" p) [a] [] pos) (TSrc cf W .enum [a']) := by
  refine ⟨fun pins s σ H R I h => (pi_enum hg hm ha hs).run pins s σ H R I ?_⟩
  obtain ⟨g, env, M, Rm, RE, q⟩ := h
  refine ⟨g, env, M, Rm, RE, q.bind.imp fun ds M1 g1 H1 st1 R1 q1 vs rs => ?_⟩
  obtain ⟨w, hw, q2⟩ := q1.walkR
  match ds, rs, hw with
  | [.list xs], .cons (.lst e rs) .nil, hw =>
    simp only [walk, Option.some.injEq] at hw
    subst hw
    rw [hK]
    exact ⟨_, _, rfl, SqL.of (R1.sub _ _ e), q2.ok R1 _ (Walks.enum e rs)⟩
end
end DP

/-! DP.Comps: targets, comprehensions. -/
namespace DP
open PySem PySem.Spec PyProof.Rows L2

/-! ### targets -/
def T.slots : T → List Nat
  | .nm i => [i]
  | .tp is => is
/-- the slots but those are the same -/
def Off (is : List Nat) (σ σ' : L2.St) : Prop := σ'.length = σ.length ∧ ∀ i, i ∉ is → σ'[i]? = σ[i]?
theorem Off.refl {is : List Nat} {σ : L2.St} : Off is σ σ := ⟨rfl, fun _ _ => rfl⟩
def gD (cf : Cf) (t : T) : TG := fun v σ H Q => ∃ g env d env', Same g.F H ∧ RelE cf.K g env σ ∧ Rep cf.K g v d ∧ store env d t = some env' ∧ ∀ σ', RelE cf.K g env' σ' → Off t.slots σ σ' → Q σ' H
def gNs : List Nat → TGs
  | [] => gNil
  | i :: is => gCons (gName i) (gNs is)
theorem pg_weak {X : Cx} {e : Expr} {t t' : TG} (h : PG X e t) (f : ∀ v σ H Q, t' v σ H Q → t v σ H Q) : PG X e t' := ⟨fun pins s σ H v u Q I r q => h.run pins s σ H v u Q I r (f _ _ _ _ q)⟩
theorem pi_weak {X : Cx} {tg e : Expr} {t t' : TI} (h : PI X tg e t) (f : ∀ σ H Q, t' σ H Q → t σ H Q) : PI X tg e t' := ⟨fun pins s σ H Q I q => h.run pins s σ H Q I (f _ _ _ q)⟩
theorem set_off {σ : L2.St} {i : Nat} {v : Option V} {is : List Nat} (h : i ∈ is) : Off is σ (σ.set i v) := ⟨by rw [List.length_set], fun j hj => by rw [List.getElem?_set_ne (show i ≠ j from fun e => hj (e ▸ h))]⟩
theorem Off.trans {is : List Nat} {σ σ1 σ2 : L2.St} (a : Off is σ σ1) (b : Off is σ1 σ2) : Off is σ σ2 := ⟨b.1.trans a.1, fun i h => (b.2 i h).trans (a.2 i h)⟩
theorem Off.mono {is js : List Nat} {σ σ1 : L2.St} (a : Off is σ σ1) (h : ∀ i ∈ is, i ∈ js) : Off js σ σ1 := ⟨a.1, fun i hi => a.2 i fun z => hi (h i z)⟩
section
variable {cf : Cf} {W : WX} {X : Cx}
theorem gNs_run {g : G} {H : Hp} {Q : L2.St → Hp → Prop} : ∀ {is : List Nat} {env env' : Env} {σ : L2.St} {vs : List V} {ds : List D}, RelE cf.K g env σ → Reps cf.K g vs ds → setAll env is ds = some env' → (∀ σ', RelE cf.K g env' σ' → Off is σ σ' → Q σ' H) → gNs is vs σ H Q
  | [], env, env', σ, vs, ds, RE, rs, h, k => by
    cases rs with
    | nil =>
      cases h
      exact ⟨rfl, k σ RE Off.refl⟩
    | cons _ _ => cases h
  | i :: is, env, env', σ, vs, ds, RE, rs, h, k => by
    cases rs with
    | nil => cases h
    | cons r rs =>
      refine ⟨_, _, rfl, ?_⟩
      exact gNs_run (RE.set r i) rs h fun σ' RE' o => k σ' RE' ((set_off (is := i :: is) List.mem_cons_self).trans (o.mono fun j hj => List.mem_cons_of_mem _ hj))
theorem gd_name {x : Str} {pos : Pos} {i : Nat} (h : PG X (.Name x pos) (gName i)) : PG X (.Name x pos) (gD cf (.nm i)) := pg_weak h fun v σ H Q ⟨g, env, d, env', sub, RE, r, e, k⟩ => by
  cases e
  exact k _ (RE.set r i) (set_off List.mem_cons_self)
theorem gd_tup {es : List Expr} {k : Nat} {pos : Pos} {is : List Nat} (hK : X.K = cf.K) (hc : X.calm = true) (h : PGs X es (gNs is)) (hn : (assignEach es X.env).length = is.length) (hst : (assignEach es X.env).findIdx? (·.1) = none) :
    PG X (.Tuple es k pos) (gD cf (.tp is)) := pg_weak (pg_tup hc h hn hst) fun v σ H Q ⟨g, env, d, env', sub, RE, r, e, k⟩ => by
  cases d with
  | tup xs =>
    cases r with
    | tup e1 rs =>
      rw [hK]
      refine ⟨_, _, rfl, DP.Same.sqT sub e1, ?_, gNs_run RE rs e k⟩
      rw [rs.len]
      have len : ∀ (is : List Nat) (xs : List D) (env env' : Env), setAll env is xs = some env' → xs.length = is.length := by
        intro is
        induction is with
        | nil => intro xs env env' h; cases xs with
          | nil => rfl
          | cons _ _ => cases h
        | cons i is ih => intro xs env env' h; cases xs with
          | nil => cases h
          | cons x xs => simp only [List.length_cons, ih xs _ _ h]
      exact len is xs env env' e
  | _ => cases e
/-! ### comprehensions -/
theorem wipe_get {σ : L2.St} : ∀ {vs : List Nat} {i : Nat}, (wipe σ vs)[i]? = if i ∈ vs ∧ i < σ.length then some none else σ[i]?
  | [], i => by simp [wipe]
  | v :: vs, i => by
    unfold wipe
    by_cases h : v = i
    · subst h
      by_cases hl : v < σ.length
      · rw [List.getElem?_set_self (by rw [wipe_length]; exact hl), if_pos ⟨List.mem_cons_self, hl⟩]
      · rw [List.getElem?_eq_none (by rw [List.length_set, wipe_length]; omega), if_neg (fun q => hl q.2), List.getElem?_eq_none (by omega)]
    · rw [List.getElem?_set_ne h, wipe_get (vs := vs) (i := i)]
      have : (i ∈ v :: vs) ↔ i ∈ vs := by simp [Ne.symm h]
      simp only [this]
theorem wipe_off {vs : List Nat} {σ σ' : L2.St} (h : Off vs (wipe σ vs) σ') : wipe σ' vs = wipe σ vs := by
  apply List.ext_getElem?
  intro i
  have hl : σ'.length = σ.length := by rw [h.1, wipe_length]
  rw [wipe_get, wipe_get, hl]
  by_cases hi : i ∈ vs
  · by_cases hil : i < σ.length
    · rw [if_pos ⟨hi, hil⟩, if_pos ⟨hi, hil⟩]
    · rw [if_neg (fun q => hil q.2), if_neg (fun q => hil q.2), List.getElem?_eq_none (by omega), List.getElem?_eq_none (by omega)]
  · rw [if_neg (fun q => hi q.1), if_neg (fun q => hi q.1), h.2 i hi, wipe_get, if_neg (fun q => hi q.1)]
abbrev W0 : WX := fun _ _ _ _ => False
/-- the test of a comprehension -/
def tC' (cf : Cf) : Option E → L2.TT
  | none => tYes
  | some c => TT cf W0 c
noncomputable def turnF (cf : Cf) (env : Env) (own : List Nat) (t : T) (cond : Option E) (elt : E) (x : D) (M2 : Mem) : Res (Option D) := match store (wipeE env own) x t with
        | none => .bad
        | some env2 => match cond with
          | none => (match ev cf.call elt env2 M2 with
            | .ok d M4 => .ok (some d) M4
            | _ => .bad)
          | some c => match ev cf.call c env2 M2 with
            | .ok d M3 => match truth M3 d with
              | some true => (match ev cf.call elt env2 M3 with
                | .ok d M4 => .ok (some d) M4
                | _ => .bad)
              | some false => .ok none M3
              | none => .bad
            | _ => .bad
theorem ev_comp {mt : Bool} {own : List Nat} {t : T} {k : SrcK} {src : List E} {cond : Option E} {elt : E} {env : Env} {M : Mem} : ev cf.call (.comp mt own t k src cond elt) env M = ((evs cf.call src env M).bind (walkR k)).bind fun w M1 =>
    match compLoop w (turnF cf env own t cond elt) w.xs M1 with
      | .ok ys M5 => if ys.length ≤ sizeLine then (if mt then .ok (.loc M5.length) (M5 ++ [.lst ys]) else .ok (.list ys) M5) else .bad
      | _ => .bad := by
  rw [ev, bind_assoc]
  cases evs cf.call src env M with
  | bad => rfl
  | exc x M1 => rfl
  | ok ds M1 =>
    simp only [Res.bind, walkR]
    cases walk M1 k ds <;> rfl
/-- one turn -/
theorem turn_run {own : List Nat} {t : T} {cond : Option E} {elt : E} {env : Env} {x : D} {M M2 : Mem} {o : Option D} {g : G} {H : Hp} {σ : L2.St} {v : V} (ho : ∀ i ∈ t.slots, i ∈ own) (R : RelM cf.K g M H) (RE : RelE cf.K g env σ) (r : Rep cf.K g v x)
    (h : turnF cf env own t cond elt x M = .ok o M2) {K1 : V → Hp → Prop} {K0 : Hp → Prop} (k1 : ∀ d, o = some d → ∀ g' v' H', Stp g H g' H' → RelM cf.K g' M2 H' → Rep cf.K g' v' d → K1 v' H') (k0 : o = none → ∀ g' H', Stp g H g' H' → RelM cf.K g' M2 H' → K0 H') :
    gD cf t v (wipe σ own) H fun σ2 H2 => wipe σ2 own = wipe σ own ∧ tC' cf cond σ2 H2 fun b H3 => if b = true then TD cf W0 elt σ2 H3 K1 else K0 H3 := by
  unfold turnF at h
  cases hs : store (wipeE env own) x t with
  | none => rw [hs] at h; cases h
  | some env2 =>
    rw [hs] at h
    simp only at h
    refine ⟨g, wipeE env own, x, env2, R.sub, RE.wipe own, r, hs, fun σ2 RE2 off => ⟨wipe_off (off.mono ho), ?_⟩⟩
    cases cond with
    | none =>
      simp only at h
      show (if true = true then TD cf W0 elt σ2 H K1 else K0 H)
      rw [if_pos rfl]
      refine ⟨g, env2, M, R, RE2, ?_⟩
      cases he : ev cf.call elt env2 M with
      | ok d M4 =>
        rw [he] at h
        cases h
        exact fun g' H' st R' v' r' => k1 d rfl g' v' H' st R' r'
      | bad => rw [he] at h; cases h
      | exc _ _ => rw [he] at h; cases h
    | some c =>
      simp only at h
      show TT cf W0 c σ2 H _
      refine ⟨g, env2, M, R, RE2, ?_⟩
      unfold tst
      cases hc : ev cf.call c env2 M with
      | bad => rw [hc] at h; cases h
      | exc _ _ => rw [hc] at h; cases h
      | ok d M3 =>
        rw [hc] at h
        simp only at h
        simp only [Res.bind, DP.tru]
        cases ht : truth M3 d with
        | none => rw [ht] at h; cases h
        | some b =>
          rw [ht] at h
          intro g3 H3 st3 R3
          cases b with
          | false =>
            simp only at h
            cases h
            rw [if_neg Bool.false_ne_true]
            exact k0 rfl g3 H3 st3 R3
          | true =>
            simp only at h
            rw [if_pos rfl]
            refine ⟨g3, env2, M3, R3, RE2.mono st3.le, ?_⟩
            cases he : ev cf.call elt env2 M3 with
            | ok d M4 =>
              rw [he] at h
              cases h
              exact fun g' H' st R' v' r' => k1 d rfl g' v' H' (st3.trans st) R' r'
            | bad => rw [he] at h; cases h
            | exc _ _ => rw [he] at h; cases h
/-- the new list D through the turns -/
structure CInv (cf : Cf) (env : Env) (own : List Nat) (t : T) (cond : Option E) (elt : E) (w : Walk) (g1 : G) (H1 : Hp) (σ : L2.St) (D : Addr) (ys : List DP.D) (M5 : Mem) (i : Nat) (H' : Hp) (g' : G) (M' : Mem) (acc : List V) (ds rest : List DP.D) : Prop where
  st : Stp g1 H1 g' H'
  rel : RelM cf.K g' M' H'
  at_ : H' D = some (.lst acc)
  nF : g'.F D = none
  na : D ∉ g'.a
  reps : Reps cf.K g' acc ds
  run : compLoop w (turnF cf env own t cond elt) (w.xs.drop i) M' = .ok rest M5
  all : ys = ds ++ rest
theorem comp_core {mt : Bool} {own : List Nat} {t : T} {k : SrcK} {src : List E} {cond : Option E} {elt : E} {σ : L2.St} {H : Hp} {Q : VK} (ho : ∀ i ∈ t.slots, i ∈ own) (h : TD cf W (.comp mt own t k src cond elt) σ H Q) :
    tLc (TSrc cf W k src) (gD cf t) (tC' cf cond) (TD cf W0 elt) own σ H Q := by
  obtain ⟨g, env, M, R, RE, q⟩ := h
  rw [ev_comp] at q
  refine ⟨g, env, M, R, RE, q.bind.imp fun w M1 g1 H1 st1 R1 q1 J wk D hD => ?_⟩
  cases hr : compLoop w (turnF cf env own t cond elt) w.xs M1 with
  | bad => rw [hr] at q1; exact False.elim q1
  | exc _ _ => rw [hr] at q1; exact False.elim q1
  | ok ys M5 =>
    rw [hr] at q1
    simp only at q1
    by_cases hz : ys.length ≤ sizeLine
    · rw [if_pos hz] at q1
      have hF1 : g1.F D = none := R1.sub.free hD
      have ha1 : D ∉ g1.a := fun m => R1.live D m hD
      have neD : ∀ b o, H1 b = some o → b ≠ D := fun b o e => ne_of_none e hD
      refine ⟨fun i m H' => m = w.xs.length - i ∧ i ≤ w.xs.length ∧ ∃ g' M' acc ds rest, CInv cf env own t cond elt w g1 H1 σ D ys M5 i H' g' M' acc ds rest, ⟨_, rfl, Nat.zero_le _, g1, M1, [], [], ys, ?_⟩, ?_⟩
      · exact ⟨⟨Le.refl _, fun b o e n => ⟨by rw [upd_ne (neD b o e)]; exact e, n, rfl⟩⟩, R1.off hF1 ha1, upd_same, hF1, ha1, .nil, hr, rfl⟩
      · rintro i m H' ⟨rfl, hi, g', M', acc, ds, rest, c⟩
        -- the ghost without the new list
        have wk' : Stp g1 H1 g' H' := c.st
        by_cases hlt : i < w.xs.length
        · obtain ⟨x, hx⟩ : ∃ x, w.xs[i]? = some x := ⟨_, List.getElem?_eq_getElem hlt⟩
          have hd : w.xs.drop i = x :: w.xs.drop (i + 1) := by
            rw [List.drop_eq_getElem_cons hlt]
            rw [List.getElem?_eq_getElem hlt] at hx
            rw [Option.some.inj hx]
          have run := c.run
          rw [hd] at run
          unfold compLoop at run
          by_cases ok : w.Ok M'
          · rw [if_pos ok] at run
            obtain ⟨go, yld⟩ := wk.go i x g' M' H' hx c.st c.rel ok
            refine .inr ⟨go, fun H' => ∃ g' M' acc ds rest, CInv cf env own t cond elt w g1 H1 σ D ys M5 (i + 1) H' g' M' acc ds rest, fun H2 n => ⟨_, by omega, rfl, hlt, n⟩, fun v H2 y => ?_⟩
            obtain ⟨g2, st2, R2, r2⟩ := yld v H2 y
            have k2 := st2.keep D _ c.at_ c.na
            cases hf : turnF cf env own t cond elt x M' with
            | bad => rw [hf] at run; cases run
            | exc _ _ => rw [hf] at run; cases run
            | ok o M2 =>
              rw [hf] at run
              refine turn_run ho R2 (RE.mono ((st1.trans c.st).trans st2).le) r2 hf (fun d ed g3 v3 H3 st3 R3 r3 => ?_) (fun ed g3 H3 st3 R3 => ?_)
              · subst ed
                simp only at run
                cases hr2 : compLoop w (turnF cf env own t cond elt) (w.xs.drop (i + 1)) M2 with
                | bad => rw [hr2] at run; cases run
                | exc _ _ => rw [hr2] at run; cases run
                | ok rest2 M6 =>
                  rw [hr2] at run
                  cases run
                  have st := st2.trans st3
                  obtain ⟨e3, n3, f3⟩ := st.keep D _ c.at_ c.na
                  have hl : acc.length < sizeLine := by
                    have e1 := c.reps.len
                    have e2 := congrArg List.length c.all
                    rw [List.length_append, List.length_cons] at e2
                    omega
                  refine ⟨acc, e3, hl, g3, M2, acc ++ [v3], ds ++ [d], rest2, ?_⟩
                  have nF3 : g3.F D = none := f3.trans c.nF
                  refine ⟨⟨(c.st.trans st).le, fun b o e n => ?_⟩, R3.off nF3 n3, upd_same, nF3, n3, (c.reps.mono st.le).append (.cons r3 .nil), hr2, by rw [c.all]; simp⟩
                  obtain ⟨a1, a2, a3⟩ := (c.st.trans st).keep b o e n
                  exact ⟨by rw [upd_ne (neD b o e)]; exact a1, a2, a3⟩
              · subst ed
                simp only at run
                have st := st2.trans st3
                obtain ⟨e3, n3, f3⟩ := st.keep D _ c.at_ c.na
                exact ⟨g3, M2, acc, ds, rest, c.st.trans st, R3, e3, f3.trans c.nF, n3, c.reps.mono st.le, run, c.all⟩
          · rw [if_neg ok] at run
            cases run
        · have e : i = w.xs.length := by omega
          subst e
          have run := c.run
          rw [List.drop_of_length_le (Nat.le_refl _)] at run
          unfold compLoop at run
          by_cases ok : w.Ok M'
          · rw [if_pos ok] at run
            cases run
            refine .inl ⟨wk.stop g' _ H' c.st c.rel ok, ?_⟩
            have ea : ys = ds := by rw [c.all]; simp
            subst ea
            cases mt with
            | false =>
              obtain ⟨R', le⟩ := c.rel.seal c.at_ c.nF c.na
              refine q1 _ H' ⟨c.st.le.trans le, fun b o e n => ?_⟩ R' _ (.lst upd_same (c.reps.mono le))
              obtain ⟨a1, a2, a3⟩ := c.st.keep b o e n
              refine ⟨a1, a2, ?_⟩
              show upd g'.F D _ b = _
              rw [upd_ne (neD b o e)]
              exact a3
            | true =>
              obtain ⟨R', le, r⟩ := c.rel.adopt c.at_ c.nF c.na c.reps
              refine q1 _ H' ⟨c.st.le.trans le, fun b o e n => ?_⟩ R' _ r
              obtain ⟨a1, a2, a3⟩ := c.st.keep b o e n
              refine ⟨a1, ?_, a3⟩
              show b ∉ g'.a ++ [D]
              rw [List.mem_append]
              rintro (m | m)
              · exact a2 m
              · simp at m
                exact neD b o e m
          · rw [if_neg ok] at run
            cases run
    · rw [if_neg hz] at q1
      exact False.elim q1
end
end DP

/-! DP.Stmt: statements hold in the model. -/
namespace DP
open PySem PySem.Spec PyProof.Rows L2

def endOf (cf : Cf) (W : WX) (e : Ends) (g : G) (σ : L2.St) (H : Hp) : Flow → Prop
  | .nx => e.nx σ H
  | .bk => e.bk σ H
  | .ct => e.ct σ H
  | .rt d => ∀ v, Rep cf.K g v d → e.rt v H
  | .ex x => ∀ cls dx, RepX cf g x cls dx H → W cls dx σ H
def PostS (cf : Cf) (W : WX) (g : G) (H : Hp) (r : SRes) (e : Ends) : Prop := match r with
  | .bad => False
  | .done f env M => ∀ g' H' σ', Stp g H g' H' → RelM cf.K g' M H' → RelE cf.K g' env σ' → endOf cf W e g' σ' H' f
section
variable {cf : Cf} {W : WX} {g g' : G} {H H' : Hp} {σ : L2.St} {α : Type} {r : SRes} {e : Ends}
theorem PostS.step (h : PostS cf W g H r e) (st : Stp g H g' H') : PostS cf W g' H' r e := by
  cases r with
  | bad => exact h
  | done f env M => exact fun g2 H2 σ2 s R RE => h g2 H2 σ2 (st.trans s) R RE
theorem PostS.sb {env : Env} {p : Res α} {f : α → Mem → SRes} (RE : RelE cf.K g env σ) (h : PostS cf W g H (p.sb env f) e) : Post cf W g H σ p fun a M1 g1 H1 => PostS cf W g1 H1 (f a M1) e := by
  cases p with
  | bad => exact h
  | exc x M => exact fun g2 H2 c d s R X => h g2 H2 σ s R (RE.mono s.le) c d X
  | ok a M => exact fun g2 H2 s R => PostS.step (r := f a M) h s
theorem PostS.nx {env : Env} {M : Mem} (h : PostS cf W g H (.done .nx env M) e) (R : RelM cf.K g M H) {σ' : L2.St} (RE : RelE cf.K g env σ') : e.nx σ' H := h g H σ' Stp.refl R RE
end
def TSt (cf : Cf) (W : WX) (s : S) : TS := fun e σ H => ∃ g env M, RelM cf.K g M H ∧ RelE cf.K g env σ ∧ PostS cf W g H (exec cf.call s env M) e
def TSs (cf : Cf) (W : WX) (ss : List S) : TS := fun e σ H => ∃ g env M, RelM cf.K g M H ∧ RelE cf.K g env σ ∧ PostS cf W g H (execs cf.call ss env M) e
theorem ps_weak {X : Cx} {s : Stmt} {t t' : TS} (h : PS X s t) (f : ∀ D σ H, t' D σ H → t D σ H) : PS X s t' := ⟨fun pins s σ H D I q => h.run pins s σ H D I (f _ _ _ q)⟩
theorem pss_weak {X : Cx} {s : List Stmt} {t t' : TS} (h : PSs X s t) (f : ∀ D σ H, t' D σ H → t D σ H) : PSs X s t' := ⟨fun pins s σ H D I q => h.run pins s σ H D I (f _ _ _ q)⟩
section
variable {cf : Cf} {W : WX} {X : Cx} {pos : Pos}
theorem tss_nil : PSs X [] (TSs cf W []) := pss_weak pss_nil fun e σ H ⟨g, env, M, R, RE, q⟩ => by
  simp only [execs] at q
  exact q.nx R RE
theorem tss_cons {s : Stmt} {ss : List Stmt} {s' : S} {ss' : List S} (h1 : PS X s (TSt cf W s')) (h2 : PSs X ss (TSs cf W ss')) : PSs X (s :: ss) (TSs cf W (s' :: ss')) := pss_weak (pss_cons h1 h2) fun e σ H ⟨g, env, M, R, RE, q⟩ => by
  simp only [execs] at q
  refine ⟨g, env, M, R, RE, ?_⟩
  cases h : exec cf.call s' env M with
  | bad => rw [h] at q; exact q
  | done f env1 M1 =>
    rw [h] at q
    cases f with
    | nx => exact fun g1 H1 σ1 st R1 RE1 => ⟨g1, env1, M1, R1, RE1, q.step st⟩
    | bk => exact q
    | ct => exact q
    | rt d => exact q
    | ex x => exact q
theorem ts_expr {e : Expr} {e' : E} (he : PE X e (TD cf W e')) (hs : swapsWith e none pos.line X.env = pure false) : PS X (.Expr e pos) (TSt cf W (.ex e')) := ps_weak (ps_expr he hs) fun en σ H ⟨g, env, M, R, RE, q⟩ => by
  simp only [exec] at q
  exact ⟨g, env, M, R, RE, (q.sb RE).imp fun d M1 g1 H1 st R1 q1 v r => q1.nx R1 (RE.mono st.le)⟩
theorem ts_ret {e : Expr} {e' : E} (he : PE X e (TD cf W e')) : PS X (.Return (some e) pos) (TSt cf W (.ret e')) := ps_weak (ps_ret he) fun en σ H ⟨g, env, M, R, RE, q⟩ => by
  simp only [exec] at q
  exact ⟨g, env, M, R, RE, (q.sb RE).imp fun d M1 g1 H1 st R1 q1 v r => q1 g1 H1 σ Stp.refl R1 (RE.mono st.le) v r⟩
theorem ts_retN : PS X (.Return none pos) (TSt cf W .retN) := ps_weak ps_retN fun en σ H ⟨g, env, M, R, RE, q⟩ => by
  simp only [exec] at q
  exact q g H σ Stp.refl R RE _ .non
theorem ts_pass : PS X (.Pass pos) (TSt cf W .pass) := ps_weak ps_pass fun en σ H ⟨g, env, M, R, RE, q⟩ => by
  simp only [exec] at q
  exact q.nx R RE
theorem ts_brk : PS X (.Break pos) (TSt cf W .brk) := ps_weak ps_break fun en σ H ⟨g, env, M, R, RE, q⟩ => by
  simp only [exec] at q
  exact q g H σ Stp.refl R RE
theorem ts_cont : PS X (.Continue pos) (TSt cf W .cont) := ps_weak ps_continue fun en σ H ⟨g, env, M, R, RE, q⟩ => by
  simp only [exec] at q
  exact q g H σ Stp.refl R RE
theorem ts_never {s : Stmt} : PS X s (TSt cf W .never) := ps_weak ps_never fun en σ H ⟨g, env, M, R, RE, q⟩ => by
  simp only [exec] at q
  exact q
theorem ts_doc {x : Str} {j : Nat} {pos pos' : Pos} : PS X (.Expr (.Constant (.str x) j pos) pos') (TSt cf W .pass) := ps_weak ps_doc fun en σ H ⟨g, env, M, R, RE, q⟩ => by
  simp only [exec] at q
  exact q.nx R RE
theorem ts_if {c : Expr} {a b : List Stmt} {c' : E} {a' b' : List S} (hc : PT X c (TT cf W c')) (ha : PSs X a (TSs cf W a')) (hb : PSs X b (TSs cf W b')) : PS X (.If c a b pos) (TSt cf W (.ife c' a' b')) := ps_weak (ps_if hc ha hb) fun en σ H ⟨g, env, M, R, RE, q⟩ => by
  simp only [exec] at q
  refine ⟨g, env, M, R, RE, ?_⟩
  unfold tst
  cases h : ev cf.call c' env M with
  | bad => rw [h] at q; exact q
  | exc x M1 =>
    rw [h] at q
    exact fun g1 H1 c d st R1 X => q g1 H1 σ st R1 (RE.mono st.le) c d X
  | ok d M1 =>
    rw [h] at q
    simp only [Res.bind, Res.sb] at q ⊢
    unfold DP.tru
    cases ht : truth M1 d with
    | none => simp only [ht] at q; exact q
    | some b =>
      simp only [ht] at q
      intro g1 H1 st1 R1
      cases b with
      | true =>
        rw [if_pos rfl]
        exact ⟨g1, env, M1, R1, RE.mono st1.le, q.step st1⟩
      | false =>
        rw [if_neg Bool.false_ne_true]
        exact ⟨g1, env, M1, R1, RE.mono st1.le, q.step st1⟩
/-! ### stores -/
theorem asg_read {t : T} {e' : E} {en : Ends} {σ : L2.St} {H : Hp} (h : TSt cf W (.asg t e') en σ H) : tAsg (TD cf W e') (gD cf t) en σ H := by
  obtain ⟨g, env, M, R, RE, q⟩ := h
  simp only [exec] at q
  refine ⟨g, env, M, R, RE, (q.sb RE).imp fun d M1 g1 H1 st R1 q1 v r => ?_⟩
  cases hs : store env d t with
  | none => rw [hs] at q1; exact False.elim q1
  | some env1 =>
    rw [hs] at q1
    exact ⟨g1, env, d, env1, R1.sub, RE.mono st.le, r, hs, fun σ' RE' _ => q1.nx R1 RE'⟩
theorem ts_asg {tg e : Expr} {t : T} {e' : E} (he : PE X e (TD cf W e')) (hg : PG X tg (gD cf t)) (hs : swapsWithSole [tg] e pos.line X.env = pure false) (hw : swappedStores [tg] e X.env = pure none)
    (h1 : (assignEach [tg] X.env).map (·.2) = [assign tg X.env]) : PS X (.Assign [tg] e pos) (TSt cf W (.asg t e')) := ps_weak (ps_asg he hg hs hw h1) fun en σ H h => asg_read h
theorem ts_setLc {i : Nat} {y : Str} {py : Pos} {elt tg iter : Expr} {ifs : List Expr} {scope : Scope} {own : List (Str × Nat)} {pos spos : Pos} {mt : Bool} {t : T} {k : SrcK} {src : List E} {cond : Option E} {el : E} (hc : X.calm = true) (hN : X.N.Nodup) (hy : X.N[i]? = some y) (hyl : X.env.scope.names.lookup y = some .local)
    (hsw : swapsWith (.ListComp elt [⟨tg, iter, ifs, 0⟩] scope pos) (some (.Name y py)) spos.line X.env = pure true) (hi : PI X tg iter (TSrc cf W k src)) (ok : BlkOk X.N X.env.scope scope own) (ho : ∀ i ∈ t.slots, i ∈ own.map (·.2))
    (hg : ∀ (s : Shared) (H : Hp) (C : Addr) (cl : List (Str × Addr)) (fp : List Addr), PG (X.blk s H scope (compEnvC scope cl C X.env) fp) tg (gD cf t)) (ht : ∀ (s : Shared) (H : Hp) (C : Addr) (cl : List (Str × Addr)) (fp : List Addr), PTs (X.blk s H scope (compEnvC scope cl C X.env) fp) ifs (tC' cf cond))
    (he : ∀ (s : Shared) (H : Hp) (C : Addr) (cl : List (Str × Addr)) (fp : List Addr), PE (X.blk s H scope (compEnvC scope cl C X.env) fp) elt (TD cf W0 el)) (hs : ∀ x, foldedSetIterable iter X.env x = pure x) :
    PS X (.Assign [.Name y py] (.ListComp elt [⟨tg, iter, ifs, 0⟩] scope pos) spos) (TSt cf W (.asg (.nm i) (.comp mt (own.map (·.2)) t k src cond el))) :=
  ps_weak (ps_setLc hc hN hy hyl hsw hi ok hg ht he hs) fun en σ H h => by
    have h := asg_read h
    have h2 : TD cf W (.comp mt (own.map (·.2)) t k src cond el) σ H fun x H1 => gName i x σ H1 en.nx := by
      obtain ⟨g, env, M, R, RE, q⟩ := h
      refine ⟨g, env, M, R, RE, q.imp fun d M1 g1 H1 st R1 q1 v r => ?_⟩
      obtain ⟨g2, env2, d2, env3, sub, RE2, r2, e2, k2⟩ := q1 v r
      cases e2
      exact k2 _ (RE2.set r2 i) (set_off List.mem_cons_self)
    exact comp_core ho h2
theorem td_comp {elt tg iter : Expr} {ifs : List Expr} {scope : Scope} {own : List (Str × Nat)} {pos : Pos} {mt : Bool} {t : T} {k : SrcK} {src : List E} {cond : Option E} {el : E} (hc : X.calm = true) (hN : X.N.Nodup) (hi : PI X tg iter (TSrc cf W k src)) (ok : BlkOk X.N X.env.scope scope own) (ho : ∀ i ∈ t.slots, i ∈ own.map (·.2))
    (hg : ∀ (s : Shared) (H : Hp) (C : Addr) (cl : List (Str × Addr)) (fp : List Addr), PG (X.blk s H scope (compEnvC scope cl C X.env) fp) tg (gD cf t)) (ht : ∀ (s : Shared) (H : Hp) (C : Addr) (cl : List (Str × Addr)) (fp : List Addr), PTs (X.blk s H scope (compEnvC scope cl C X.env) fp) ifs (tC' cf cond))
    (he : ∀ (s : Shared) (H : Hp) (C : Addr) (cl : List (Str × Addr)) (fp : List Addr), PE (X.blk s H scope (compEnvC scope cl C X.env) fp) elt (TD cf W0 el)) (hs : ∀ x, foldedSetIterable iter X.env x = pure x) :
    PE X (.ListComp elt [⟨tg, iter, ifs, 0⟩] scope pos) (TD cf W (.comp mt (own.map (·.2)) t k src cond el)) := pe_weak (pe_lc hc hN hi ok hg ht he hs) fun σ H Q h => comp_core ho h
theorem ts_setIx {o i e : Expr} {o' i' e' : E} {tpos : Pos} (hK : X.K = cf.K) (ho : PE X o (TD cf W o')) (hi : PE X i (TD cf W i')) (he : PE X e (TD cf W e')) (ha : ∀ v, assign (.Subscript o i tpos) X.env v = (do
      let ov ← holding [v] (eval o X.env)
      let iv ← holding [v, ov] (eval i X.env)
      standAt tpos
      holding [v, ov, iv] (setItem ov iv v)
      release [v, ov, iv] [])) (hs : swapsWithSole [.Subscript o i tpos] e pos.line X.env = pure false) (hw : swappedStores [.Subscript o i tpos] e X.env = pure none)
    (h1 : (assignEach [.Subscript o i tpos] X.env).map (·.2) = [assign (.Subscript o i tpos) X.env]) : PS X (.Assign [.Subscript o i tpos] e pos) (TSt cf W (.setIx o' i' e')) :=
  ps_weak (ps_asg he (pg_sub ho hi so_setIdx ha) hs hw h1) fun en σ H ⟨g, env, M, R, RE, q⟩ => by
    simp only [exec] at q
    refine ⟨g, env, M, R, RE, (q.sb RE).imp fun d M1 g1 H1 st1 R1 q1 v r => ?_⟩
    refine ⟨g1, env, M1, R1, RE.mono st1.le, (q1.sb (RE.mono st1.le)).imp fun od M2 g2 H2 st2 R2 q2 ov ro => ?_⟩
    have RE2 := (RE.mono st1.le).mono st2.le
    refine ⟨g2, env, M2, R2, RE2, (q2.sb RE2).imp fun id M3 g3 H3 st3 R3 q3 iv ri => ?_⟩
    rw [hK]
    refine ⟨g3, M3, od, id, d, R3, ro.mono st3.le, ri, (r.mono st2.le).mono st3.le, ?_⟩
    cases hp : prSetIdx M3 [od, id, d] with
    | none => rw [hp] at q3; exact q3
    | some dm =>
      obtain ⟨x, M4⟩ := dm
      rw [hp] at q3
      exact fun g4 H4 st4 R4 => q3 g4 H4 σ st4 R4 ((RE2.mono st3.le).mono st4.le)
/-! ### name op= e -/
theorem ip_of {op : Operator} {p : Pr} (h : PIp X op (fun x y H Q => rP cf.K (pr p) [x, y] H Q)) {x : Str} {e : Expr} {i : Nat} {e' : E} {pos' : Pos} (hN : X.N.Nodup) (hi : X.N[i]? = some x) (hx : Loc X.env.scope x) (he : PE X e (TD cf W e')) (hf : X.fn x = true ∨ X.env.scope.names.lookup x = some .local) :
    PS X (.AugAssign (.Name x pos') op e pos) (TSt cf W (.aug i p e')) := ps_weak (ps_aug hN hi hx he h hf) fun en σ H ⟨g, env, M, R, RE, q⟩ => by
  simp only [exec] at q
  split at q
  · rename_i d hd
    obtain ⟨v, hv, r⟩ := RE.2 _ _ hd
    refine ⟨v, hv, g, env, M, R, RE, (q.sb RE).imp fun d2 M1 g1 H1 st1 R1 q1 w rw' => ?_⟩
    refine ⟨g1, M1, [d, d2], R1, .cons (r.mono st1.le) (.cons rw' .nil), ?_⟩
    cases hp : pr p M1 [d, d2] with
    | none => rw [hp] at q1; exact q1
    | some dm =>
      obtain ⟨d3, M2⟩ := dm
      rw [hp] at q1
      exact fun g2 z H2 st2 R2 r2 => q1 g2 H2 _ st2 R2 (((RE.mono st1.le).mono st2.le).set r2 i)
  · exact False.elim q
theorem ip_addD (hK : X.K = cf.K) : PIp X .Add (fun x y H Q => rP cf.K (pr .iadd) [x, y] H Q) := by
  have h : OpR X (inplaceOp .Add) (rP2 X.K prIadd) := by
    refine so_int2 (rI0_to iop_add) fun M a b Q g H q => ?_
    cases a <;> cases b <;> first | exact False.elim q | exact ⟨_, _, rfl, rfl, trivial, fun R => q.here R (.int _)⟩
  rw [hK] at h
  exact h
theorem ts_aug {x : Str} {e : Expr} {i : Nat} {e' : E} {pos' : Pos} (hK : X.K = cf.K) (hN : X.N.Nodup) (hi : X.N[i]? = some x) (hx : Loc X.env.scope x) (he : PE X e (TD cf W e')) (hf : X.fn x = true ∨ X.env.scope.names.lookup x = some .local) :
    PS X (.AugAssign (.Name x pos') .Add e pos) (TSt cf W (.aug i .iadd e')) := ip_of (ip_addD hK) hN hi hx he hf
theorem ts_augIx {o i e : Expr} {o' i' e' : E} {tpos : Pos} (hK : X.K = cf.K) (ho : PE X o (TD cf W o')) (hi : PE X i (TD cf W i')) (he : PE X e (TD cf W e'))
    (ha : ∀ ov iv new, augStore i ov iv new = (do holding [new, ov, iv] (setItem ov iv new); release [new, ov, iv] []; pure .next)) : PS X (.AugAssign (.Subscript o i tpos) .Add e pos) (TSt cf W (.augIx o' i' .iadd e')) :=
  ps_weak (ps_augS ho hi so_getL he (ip_addD hK) so_setIdx ha) fun en σ H ⟨g, env, M, R, RE, q⟩ => by
    simp only [exec] at q
    refine ⟨g, env, M, R, RE, (q.sb RE).imp fun od M1 g1 H1 st1 R1 q1 ov ro => ?_⟩
    have RE1 := RE.mono st1.le
    refine ⟨g1, env, M1, R1, RE1, (q1.sb RE1).imp fun id M2 g2 H2 st2 R2 q2 iv ri => ?_⟩
    have RE2 := RE1.mono st2.le
    have ro2 := ro.mono st2.le
    rw [hK]
    refine ⟨g2, M2, [od, id], R2, .cons ro2 (.cons ri .nil), ?_⟩
    cases hp : prIdxL M2 [od, id] with
    | none => rw [hp] at q2; exact q2
    | some dm =>
      obtain ⟨old, M3⟩ := dm
      rw [hp] at q2
      intro g3 v3 H3 st3 R3 r3
      have RE3 := RE2.mono st3.le
      have q3 := PostS.step (g' := g3) (H' := H3) q2 st3
      refine ⟨g3, env, M3, R3, RE3, (q3.sb RE3).imp fun d2 M4 g4 H4 st4 R4 q4 w rw' => ?_⟩
      have RE4 := RE3.mono st4.le
      refine ⟨g4, M4, [old, d2], R4, .cons (r3.mono st4.le) (.cons rw' .nil), ?_⟩
      cases hp2 : pr .iadd M4 [old, d2] with
      | none => rw [hp2] at q4; exact q4
      | some dm =>
        obtain ⟨nw, M5⟩ := dm
        rw [hp2] at q4
        intro g5 z H5 st5 R5 r5
        have RE5 := RE4.mono st5.le
        have le35 := st4.le.trans st5.le
        refine ⟨g5, M5, od, id, nw, R5, (ro2.mono st3.le).mono le35, (ri.mono st3.le).mono le35, r5, ?_⟩
        have q5 := PostS.step (g' := g5) (H' := H5) q4 st5
        simp only at q5
        cases hp3 : prSetIdx M5 [od, id, nw] with
        | none => rw [hp3] at q5; exact q5
        | some dm =>
          obtain ⟨x, M6⟩ := dm
          rw [hp3] at q5
          exact fun g6 H6 st6 R6 => q5 g6 H6 σ st6 R6 (RE5.mono st6.le)
/-! ### for -/
theorem ts_for {tg iter : Expr} {body : List Stmt} {t : T} {k : SrcK} {src : List E} {b' : List S} (hp : PassesOwn (model X.prog X.w) X.A X.env X.xe) (hc : X.calm = true) (hi : PI X tg iter (TSrc cf W k src)) (hg : PG X tg (gD cf t)) (hb : PSs X body (TSs cf W b'))
    (hs : ∀ x, foldedSetIterable iter X.env x = pure x) : PS X (.For tg iter body [] pos) (TSt cf W (.for_ t k src b')) :=
  ps_weak (ps_for hp hc hi hg hb hs) fun en σ H ⟨g, env, M, R, RE, q⟩ => by
    have e1 : exec cf.call (.for_ t k src b') env M = ((evs cf.call src env M).bind (walkR k)).sb env fun w M1 => forLoop w (fun x env2 M2 => match store env2 x t with
        | none => .bad
        | some env3 => execs cf.call b' env3 M2) w.xs env M1 := by
      rw [exec]
      cases evs cf.call src env M with
      | bad => rfl
      | exc _ _ => rfl
      | ok ds M1 =>
        simp only [Res.bind, Res.sb, walkR]
        cases walk M1 k ds <;> rfl
    rw [e1] at q
    refine ⟨g, env, M, R, RE, (q.sb RE).imp fun w M1 g1 H1 st1 R1 q1 J wk => ?_⟩
    refine ⟨fun i m σ' H' => m = w.xs.length - i ∧ i ≤ w.xs.length ∧ ∃ g' M' env', Stp g1 H1 g' H' ∧ RelM cf.K g' M' H' ∧ RelE cf.K g' env' σ' ∧ PostS cf W g' H' (forLoop w (fun x env2 M2 => match store env2 x t with
        | none => .bad
        | some env3 => execs cf.call b' env3 M2) (w.xs.drop i) env' M') en, ⟨_, rfl, Nat.zero_le _, g1, M1, env, Stp.refl, R1, RE.mono st1.le, q1⟩, ?_⟩
    rintro i m σ' H' ⟨rfl, hi, g', M', env', st, R', RE', q'⟩
    by_cases hlt : i < w.xs.length
    · obtain ⟨x, hx⟩ : ∃ x, w.xs[i]? = some x := ⟨_, List.getElem?_eq_getElem hlt⟩
      have hd : w.xs.drop i = x :: w.xs.drop (i + 1) := by
        rw [List.drop_eq_getElem_cons hlt]
        rw [List.getElem?_eq_getElem hlt] at hx
        rw [Option.some.inj hx]
      rw [hd] at q'
      unfold forLoop at q'
      by_cases ok : w.Ok M'
      · rw [if_pos ok] at q'
        obtain ⟨go, yld⟩ := wk.go i x g' M' H' hx st R' ok
        refine .inr ⟨go, fun σ2 H2 => ∃ g2 M2 env2, Stp g1 H1 g2 H2 ∧ RelM cf.K g2 M2 H2 ∧ RelE cf.K g2 env2 σ2 ∧ PostS cf W g2 H2 (forLoop w (fun x env2 M2 => match store env2 x t with
          | none => .bad
          | some env3 => execs cf.call b' env3 M2) (w.xs.drop (i + 1)) env2 M2) en, fun σ2 H2 n => ⟨_, by omega, rfl, hlt, n⟩, fun v H2 y => ?_⟩
        obtain ⟨g2, st2, R2, r2⟩ := yld v H2 y
        cases hs : store env' x t with
        | none => rw [hs] at q'; exact False.elim q'
        | some env3 =>
          rw [hs] at q'
          simp only at q'
          refine ⟨g2, env', x, env3, R2.sub, RE'.mono st2.le, r2, hs, fun σ3 RE3 _ => ⟨g2, env3, M', R2, RE3, ?_⟩⟩
          cases he : execs cf.call b' env3 M' with
          | bad => rw [he] at q'; exact q'
          | done f env4 M4 =>
            rw [he] at q'
            have q2 := PostS.step (g' := g2) (H' := H2) q' st2
            cases f with
            | nx => exact fun g5 H5 σ5 st5 R5 RE5 => ⟨g5, M4, env4, (st.trans st2).trans st5, R5, RE5, PostS.step q2 st5⟩
            | ct => exact fun g5 H5 σ5 st5 R5 RE5 => ⟨g5, M4, env4, (st.trans st2).trans st5, R5, RE5, PostS.step q2 st5⟩
            | bk => exact q2
            | rt d => exact q2
            | ex x => exact q2
      · rw [if_neg ok] at q'
        exact False.elim q'
    · have e : i = w.xs.length := by omega
      subst e
      rw [List.drop_of_length_le (Nat.le_refl _)] at q'
      unfold forLoop at q'
      by_cases ok : w.Ok M'
      · rw [if_pos ok] at q'
        exact .inl ⟨wk.stop g' M' H' st R' ok, q'.nx R' RE'⟩
      · rw [if_neg ok] at q'
        exact False.elim q'
end
end DP

/-! DP.Compile: from the model's syntax to the small language; soundness. -/
namespace DP
open PySem PySem.Spec PyProof.Rows L2

structure Ctx where
  N : List Str
  names : List (Str × NameKind)
  fnb : Str → Bool
  gl : List (Str × D)
  fns : List (Str × Nat)
  mutN : List Str
  retM : Bool
  retF : Bool
  argM : Bool

/-- the built-ins that are used by their names -/
def bltNames : List Str := ["len", "int", "str", "abs", "sum", "all", "any", "tuple", "list", "isinstance", "range", "enumerate", "min", "max", "bool", "dict", "zip"]

structure Stat (cf : Cf) (W : WX) (k : Nat) (X : Cx) (c : Ctx) : Prop where
  N : X.N = c.N
  nd : X.N.Nodup
  names : X.env.scope.names = c.names
  kind : X.env.scope.kind = .function
  fn : ∀ x, c.fnb x = true → X.fn x = true
  K : X.K = cf.K
  calm : X.calm = true
  room : Room k X.A
  takes : Takes X W
  gl : ∀ x d, c.gl.lookup x = some d → ∃ v u, X.mg x = some u ∧ RelV v u ∧ ∀ g, Rep cf.K g v d
  fns : ∀ x f, c.fns.lookup x = some f → ∃ fa fd ps, FnOk X.prog X.w X.K X.mg X.base (L2.CX X.prog X.w) k fa fd ps (spOf cf f) ∧ X.mg x = some (.ref fa) ∧ PySem.W.keepIn X.K (.ref fa) = true ∧ Binds X.K fd ps []
  blt : ∀ x ∈ bltNames, X.mg x = none

/-! ### side conditions on syntax -/
def isStar : Expr → Bool
  | .Starred _ _ => true
  | _ => false
theorem starEach_cons {e : Expr} {es : List Expr} {env : PySem.Env} (h : isStar e = false) : starEach (e :: es) env = (false, eval e env) :: starEach es env := by
  cases e <;> first | rfl | cases h
def isSet : Expr → Bool
  | .Set _ _ _ => true
  | _ => false
theorem folded_of {e : Expr} {env : PySem.Env} (h : isSet e = false) : ∀ x, foldedSetIterable e env x = pure x := by
  intro x
  cases e <;> first | rfl | cases h
theorem behind_of {op : CmpOp} {e : Expr} (h : isSet e = false) : behindInMarks op e = false := by
  cases e <;> first | rfl | cases h
def isSlice : Expr → Bool
  | .Slice _ _ _ _ => true
  | _ => false
theorem plainIx_of {e : Expr} (h : isSlice e = false) : PlainIx e := by
  intro o i
  cases e <;> first | rfl | cases h
def isComp : Expr → Bool
  | .ListComp _ _ _ _ => true
  | .SetComp _ _ _ _ => true
  | .DictComp _ _ _ _ _ => true
  | _ => false
theorem swaps_of {e : Expr} {t : Option Expr} {l : Nat} {env : PySem.Env} (h : isComp e = false) : swapsWith e t l env = pure false := by
  cases e <;> first | rfl | cases h
/-- a call without arguments of a name: super() looks so -/
def isCall0 : Expr → Bool
  | .Call (.Name _ _) [] [] _ => true
  | _ => false
theorem base_of {o : Expr} {m : Str} {env : PySem.Env} (h : isCall0 o = false) : attributeBase o m env (eval o env) = eval o env := by
  unfold attributeBase
  split
  · cases h
  · rfl
def stars : List Expr → Bool
  | [] => false
  | e :: es => isStar e || stars es
theorem starEach_plain {env : PySem.Env} : ∀ {es : List Expr}, stars es = false → (starEach es env).any (·.1) = false
  | [], _ => rfl
  | e :: es, h => by
    simp only [stars, Bool.or_eq_false_iff] at h
    rw [starEach_cons h.1, List.any_cons, starEach_plain h.2]
    rfl
theorem backTo_any {pos : Pos} : ∀ {l : List (Bool × Sem Value)}, (backTo pos l).any (·.1) = l.any (·.1)
  | [] => rfl
  | (b, t) :: l => by
    show (b || (backTo pos l).any (·.1)) = (b || l.any (·.1))
    rw [backTo_any]
theorem hpl_of {pos : Pos} {env : PySem.Env} {es : List Expr} (h : stars es = false) : (backTo pos (starEach es env)).any (·.1) = false := by
  rw [backTo_any]
  exact starEach_plain h
theorem backTo_all {pos : Pos} : ∀ {l : List (Bool × Sem Value)}, (backTo pos l).all (fun x => !x.1) = !(l.any (·.1))
  | [] => rfl
  | (b, t) :: l => by
    show (!b && (backTo pos l).all (fun x => !x.1)) = !(b || l.any (·.1))
    rw [backTo_all]
    cases b <;> rfl
theorem hfew_of {pos : Pos} {env : PySem.Env} {es : List Expr} (h : stars es = false) (hl : es.length < 30) : ((backTo pos (starEach es env)).all (fun x => !x.1) && (backToKw pos (keywordEach [] env)).all (fun x => x.1.isSome)
      && decide (es.length + ([] : List Keyword).length + (if ([] : List Keyword).isEmpty then 0 else 1) < 30)) = true := by
  rw [backTo_all, starEach_plain h]
  simp [keywordEach, backToKw, hl]
theorem isTrue_of {e : Expr} {env : PySem.Env} (h : (match e with
  | .UnaryOp .Not _ _ => false
  | .BoolOp _ _ _ => false
  | .IfExp _ _ _ _ => false
  | .Compare _ _ _ _ => false
  | _ => true) = true) : ∀ whole, isTrue e env whole = (do let v ← whole; standAt e.pos; holding [v] (truthy v)) := by
  intro whole
  cases e <;> first | rfl | (rename_i op _ _; cases op <;> first | rfl | cases h) | cases h

/-! ### targets -/
def visB (c : Ctx) (x : Str) : Bool := match c.names.lookup x with
  | some .local => true
  | some .cell => true
  | some .free => true
  | _ => false
def locB (c : Ctx) (x : Str) : Bool := match c.names.lookup x with
  | some .local => true
  | some .cell => c.fnb x
  | _ => false
def okNm (x : Str) : Bool := decide ((x == ("__debug__" : Str)) = false) && decide ((x == ("__classdict__" : Str)) = false) && decide (x ≠ "__name__")
/-- the slot of a name -/
def slot (c : Ctx) (x : Str) : Option Nat := match c.N.findIdx? (· == x) with
  | some i => if c.N[i]? = some x then some i else none
  | none => none
theorem slot_at {c : Ctx} {x : Str} {i : Nat} (h : slot c x = some i) : c.N[i]? = some x := by
  unfold slot at h
  split at h
  · split at h
    · cases h
      assumption
    · cases h
  · cases h
section
variable {cf : Cf} {W : WX} {k : Nat} {X : Cx} {c : Ctx}
theorem loc_of (S : Stat cf W k X c) {x : Str} (h : locB c x = true) : L2.Loc X.env.scope x ∧ (X.fn x = true ∨ X.env.scope.names.lookup x = some .local) := by
  unfold locB at h
  unfold L2.Loc
  rw [S.names]
  split at h
  · exact ⟨.inl (by assumption), .inr (by assumption)⟩
  · exact ⟨.inr (by assumption), .inl (S.fn x h)⟩
  · cases h
theorem vis_of (S : Stat cf W k X c) {x : Str} (h : visB c x = true) : Vis X.env.scope x := by
  unfold visB at h
  unfold Vis
  rw [S.names]
  split at h
  · exact .inl (by assumption)
  · exact .inr (.inl (by assumption))
  · exact .inr (.inr (by assumption))
  · cases h
def tgtNm (c : Ctx) : Expr → Option Nat
  | .Name x _ => if locB c x then slot c x else none
  | _ => none
def tgtNms (c : Ctx) : List Expr → Option (List Nat)
  | [] => some []
  | e :: es => match tgtNm c e, tgtNms c es with
    | some i, some is => some (i :: is)
    | _, _ => none
def cTgt (c : Ctx) : Expr → Option T
  | .Name x p => (tgtNm c (.Name x p)).map .nm
  | .Tuple es _ _ => (tgtNms c es).map .tp
  | _ => none
theorem tgtNm_ok (S : Stat cf W k X c) {e : Expr} {i : Nat} (h : tgtNm c e = some i) : PG X e (gName i) ∧ ∃ x p, e = .Name x p := by
  cases e with
  | Name x p =>
    simp only [tgtNm] at h
    split at h
    · rename_i hl
      obtain ⟨l, f⟩ := loc_of S hl
      exact ⟨pg_name S.nd (by rw [S.N]; exact slot_at h) l f, x, p, rfl⟩
    · cases h
  | _ => cases h
theorem tgtNms_ok (S : Stat cf W k X c) : ∀ {es : List Expr} {is : List Nat}, tgtNms c es = some is → PGs X es (gNs is) ∧ (assignEach es X.env).length = is.length ∧ (assignEach es X.env).findIdx? (·.1) = none
  | [], is, h => by
    cases h
    exact ⟨pgs_nil, rfl, rfl⟩
  | e :: es, is, h => by
    simp only [tgtNms] at h
    split at h
    · rename_i i js h1 h2
      cases h
      obtain ⟨g1, x, p, rfl⟩ := tgtNm_ok S h1
      obtain ⟨g2, l2, f2⟩ := tgtNms_ok S h2
      refine ⟨pgs_cons g1 g2, ?_, ?_⟩
      · show (assignEach es X.env).length + 1 = js.length + 1
        rw [l2]
      · show List.findIdx? (·.1) ((false, assign (.Name x p) X.env) :: assignEach es X.env) = none
        rw [List.findIdx?_cons, f2]
        rfl
    · cases h
theorem cTgt_ok (S : Stat cf W k X c) {e : Expr} {t : T} (h : cTgt c e = some t) : PG X e (gD cf t) := by
  cases e with
  | Name x p =>
    simp only [cTgt, Option.map_eq_some_iff] at h
    obtain ⟨i, h, rfl⟩ := h
    exact gd_name (tgtNm_ok S h).1
  | Tuple es kk p =>
    simp only [cTgt, Option.map_eq_some_iff] at h
    obtain ⟨is, h, rfl⟩ := h
    obtain ⟨g, l, f⟩ := tgtNms_ok S h
    exact gd_tup S.K S.calm g l f
  | _ => cases h
end

/-! ### expressions, the parts given -/
structure Rec where
  e : Ctx → Bool → Expr → Option E
  t : Ctx → Expr → Option E
structure SndR (cf : Cf) (k : Nat) (r : Rec) : Prop where
  e : ∀ (W : WX) (X : Cx) (c : Ctx) (mm : Bool) (x : Expr) (x' : E), Stat cf W k X c → r.e c mm x = some x' → PE X x (TD cf W x')
  t : ∀ (W : WX) (X : Cx) (c : Ctx) (x : Expr) (x' : E), Stat cf W k X c → r.t c x = some x' → PT X x (TT cf W x')
def cArgs (r : Rec) (c : Ctx) (mm : Bool) : List Expr → Option (List E)
  | [] => some []
  | e :: es => if isStar e then none else match r.e c mm e, cArgs r c mm es with
    | some a, some as => some (a :: as)
    | _, _ => none
section
variable {cf : Cf} {W : WX} {k : Nat} {X : Cx} {c : Ctx} {r : Rec}
theorem cArgs_ok (S : Stat cf W k X c) (hr : SndR cf k r) {mm : Bool} : ∀ {es : List Expr} {es' : List E}, cArgs r c mm es = some es' → PA X es (TDs cf W es') ∧ stars es = false
  | [], _, h => by
    cases h
    exact ⟨pa_nilD, rfl⟩
  | e :: es, _, h => by
    simp only [cArgs] at h
    split at h
    · cases h
    · rename_i hs
      split at h
      · rename_i a as h1 h2
        cases h
        obtain ⟨p, s⟩ := cArgs_ok S hr h2
        have hs : isStar e = false := by simpa using hs
        exact ⟨pa_consD (hr.e W X c mm e a S h1) p (starEach_cons hs), by simp [stars, hs, s]⟩
      · cases h
/-- names -/
def cName (c : Ctx) (x : Str) : Option E := if okNm x then (if visB c x then (slot c x).map .v else if c.names.lookup x = some .globalImplicit then (c.gl.lookup x).map .c else none) else none
theorem okNm_of {x : Str} (h : okNm x = true) : (x == ("__debug__" : Str)) = false ∧ (x == ("__classdict__" : Str)) = false ∧ x ≠ "__name__" := by
  unfold okNm at h
  simp only [Bool.and_eq_true, decide_eq_true_eq] at h
  exact ⟨h.1.1, h.1.2, h.2⟩
theorem cName_ok (S : Stat cf W k X c) {x : Str} {p : Pos} {e' : E} (h : cName c x = some e') : PE X (.Name x p) (TD cf W e') := by
  unfold cName at h
  split at h
  · rename_i ok
    obtain ⟨o1, o2, o3⟩ := okNm_of ok
    split at h
    · rename_i hv
      simp only [Option.map_eq_some_iff] at h
      obtain ⟨i, h, rfl⟩ := h
      exact td_v (pe_var (by rw [S.N]; exact slot_at h) (vis_of S hv) o1 o2)
    · split at h
      · rename_i hg
        simp only [Option.map_eq_some_iff] at h
        obtain ⟨d, h, rfl⟩ := h
        obtain ⟨v, u, m, rv, rep⟩ := S.gl x d h
        exact td_c (pe_glob (show X.env.scope.names.lookup x = _ by rw [S.names]; exact hg) m rv o1) rep
      · cases h
  · cases h
theorem gl_of (S : Stat cf W k X c) {x : Str} (h : c.names.lookup x = some .globalImplicit) : Gl X x := by
  show X.env.scope.names.lookup x = _
  rw [S.names]
  exact h
theorem units_of (S : Stat cf W k X c) : X.A.units + 65 < cLine := by
  have := S.room.un
  omega
/-- operators -/
def opPr : Operator → Option Pr
  | .Add => some .add
  | .Sub => some .sub
  | .Mult => some .mul
  | .FloorDiv => some .fdiv
  | .Mod => some .mod
  | .Pow => some .pow
  | _ => none
theorem op_ok (S : Stat cf W k X c) {op : Operator} {p : Pr} (h : opPr op = some p) {a b : Expr} {a' b' : E} {pos : Pos} (ha : PE X a (TD cf W a')) (hb : PE X b (TD cf W b')) : PE X (.BinOp a op b pos) (TD cf W (.pr p [a', b'])) := by
  have go : OpR X (binaryOp op) (rP2 X.K (pr p)) → PE X (.BinOp a op b pos) (TD cf W (.pr p [a', b'])) := fun ho => td_op2 (fun ha hb => by rw [← S.K]; exact pe_op ho ha hb) ha hb
  cases op <;> first | cases h | skip
  · exact go so_add
  · exact go so_sub
  · exact go so_mul
  · exact go so_mod
  · exact go so_pow
  · exact go so_fdiv
def cmpPr : CmpOp → Option Pr
  | .Eq => some .eq
  | .NotEq => some .ne
  | .Lt => some .lt
  | .LtE => some .le
  | .Gt => some .gt
  | .GtE => some .ge
  | .In => some .in_
  | .NotIn => some .notIn
  | _ => none
theorem cmp_bl {op : CmpOp} {p : Pr} (h : cmpPr op = some p) : ∀ M ds d M', pr p M ds = some (d, M') → ∃ b, d = .bl b := by
  intro M ds d M' e
  have ok : ∀ {b : Bool} {M1 : Mem}, okB b M1 = some (d, M') → ∃ b, d = .bl b := fun e => by cases e; exact ⟨_, rfl⟩
  cases op <;> cases h <;> simp only [pr] at e
  all_goals first
    | (simp only [prEq] at e; repeat' split at e) <;> first | exact ok e | cases e
    | (simp only [prNe] at e; repeat' split at e) <;> first | exact ok e | cases e
    | (simp only [prCmp] at e; repeat' split at e) <;> first | exact ok e | cases e
    | (simp only [prIn] at e; repeat' split at e) <;> first | exact ok e | cases e
    | (simp only [prNotIn] at e; repeat' split at e) <;> first | exact ok e | cases e
theorem cmp_op (S : Stat cf W k X c) {op : CmpOp} {p : Pr} (h : cmpPr op = some p) : OpR X (compareOp op) (rP2 cf.K (pr p)) := by
  have hu := units_of S
  rw [← S.K]
  cases op <;> first | cases h | skip
  · exact so_eq (by omega)
  · exact so_ne (by omega)
  · exact so_cmp op_lt
  · exact so_cmp op_le
  · exact so_cmp op_gt
  · exact so_cmp op_ge
  · exact so_in hu
  · exact so_notIn hu
end
end DP

/-! DP.Compile2: calls, methods, comprehensions, the step. -/
namespace DP
open PySem PySem.Spec PyProof.Rows L2
section
variable {cf : Cf} {W : WX} {k : Nat} {X : Cx} {c : Ctx} {r : Rec}
/-! ### calls of own defs -/
theorem td_call0 {x : Str} {p pos : Pos} {f : Nat} {k : Nat} {fa : Addr} {fd : FuncData} {ps : List Str} (F : FnOk X.prog X.w X.K X.mg X.base (L2.CX X.prog X.w) k fa fd ps (spOf cf f)) (hr : Room k X.A) (hg : Gl X x)
    (hm : X.mg x = some (.ref fa)) (hk : PySem.W.keepIn X.K (.ref fa) = true) (hb : Binds X.K fd ps []) (tk : Takes X W) (hdb : (x == ("__debug__" : Str)) = false) : PE X (.Call (.Name x p) [] [] pos) (TD cf W (.call f [])) := by
  refine ⟨fun pins s σ H Q I h => ?_⟩
  refine wpAny_Call_Name_kw (ld_glob I hg hm ?_ hdb)
  refine PySem.W.callWith_K0 I.kIn hk (run_fnSD (us := []) (vs := []) (dvs := []) (E := WE W) F hr hb .nil (passAt tk σ) I .nil ?_)
  obtain ⟨g, env, M, R, RE, q⟩ := h
  rw [ev] at q
  simp only [evs, Res.bind] at q
  refine ⟨g, M, [], R, .nil, ?_⟩
  cases h : cf.call f [] M with
  | bad => rw [h] at q; exact q
  | exc x M2 => rw [h] at q; exact q
  | ok d M2 => rw [h] at q; exact q
/-- built-ins with plain arguments -/
def bltPr (x : Str) (n : Nat) : Option Pr :=
  if x = "len" ∧ n = 1 then some .len else if x = "int" ∧ n = 1 then some .int_ else if x = "str" ∧ n = 1 then some .str_ else if x = "abs" ∧ n = 1 then some .abs else
  if x = "sum" ∧ n = 1 then some .sum else if x = "all" ∧ n = 1 then some .all else if x = "any" ∧ n = 1 then some .any else if x = "tuple" ∧ n = 1 then some .tuple_ else
  if x = "list" ∧ n = 1 then some .list_ else if x = "min" ∧ n = 2 then some .min2 else if x = "max" ∧ n = 2 then some .max2 else none
theorem blt_ok (S : Stat cf W k X c) {x : Str} {p : Pr} {a : Expr} {es : List Expr} {es' : List E} {q pos : Pos} (h : bltPr x (a :: es).length = some p) (hg : Gl X x) (ha : PA X (a :: es) (TDs cf W es')) (hs : stars (a :: es) = false) :
    PE X (.Call (.Name x q) (a :: es) [] pos) (TD cf W (.pr p es')) := by
  simp only [stars, Bool.or_eq_false_iff] at hs
  have he := starEach_cons (env := X.env) (es := es) hs.1
  have hp : ∀ pos, (backTo pos (starEach es X.env)).any (·.1) = false := fun pos => hpl_of hs.2
  have bi : ∀ {id : String}, CallR X (.builtin id) (rP X.K (pr p)) → X.mg x = none → bootBuiltins x = some (.builtin id) → x ≠ "__name__" → (x == ("__debug__" : Str)) = false → PE X (.Call (.Name x q) (a :: es) [] pos) (TD cf W (.pr p es')) := fun hc hm hv hn hd =>
    td_args (es := a :: es) (by rw [← S.K]; exact pe_callB hc hg hm hv ha hn hd he (hp _))
  have ty : ∀ {id : String}, CallR X (.type id) (rP X.K (pr p)) → X.mg x = none → bootBuiltins x = some (.type id) → x ≠ "__name__" → (x == ("__debug__" : Str)) = false → PE X (.Call (.Name x q) (a :: es) [] pos) (TD cf W (.pr p es')) := fun hc hm hv hn hd =>
    td_args (es := a :: es) (by rw [← S.K]; exact pe_callTy hc hg hm hv ha hn hd he (hp _))
  have bt := S.blt
  unfold bltPr at h
  repeat' split at h
  all_goals first | (rename_i e; obtain ⟨rfl, _⟩ := e; cases h) | cases h
  · exact bi so_len (bt _ (by decide +kernel)) (by decide +kernel) (by decide +kernel) (by decide +kernel)
  · exact ty so_int (bt _ (by decide +kernel)) (by decide +kernel) (by decide +kernel) (by decide +kernel)
  · exact ty so_str (bt _ (by decide +kernel)) (by decide +kernel) (by decide +kernel) (by decide +kernel)
  · exact bi so_abs (bt _ (by decide +kernel)) (by decide +kernel) (by decide +kernel) (by decide +kernel)
  · exact bi (so_sum S.calm) (bt _ (by decide +kernel)) (by decide +kernel) (by decide +kernel) (by decide +kernel)
  · exact bi (so_all S.calm) (bt _ (by decide +kernel)) (by decide +kernel) (by decide +kernel) (by decide +kernel)
  · exact bi (so_any S.calm) (bt _ (by decide +kernel)) (by decide +kernel) (by decide +kernel) (by decide +kernel)
  · exact ty so_tuple (bt _ (by decide +kernel)) (by decide +kernel) (by decide +kernel) (by decide +kernel)
  · exact ty so_list (bt _ (by decide +kernel)) (by decide +kernel) (by decide +kernel) (by decide +kernel)
  · exact bi (so_min2 S.calm) (bt _ (by decide +kernel)) (by decide +kernel) (by decide +kernel) (by decide +kernel)
  · exact bi (so_max2 S.calm) (bt _ (by decide +kernel)) (by decide +kernel) (by decide +kernel) (by decide +kernel)
/-- isinstance(x, T) -/
def instTy (x : Str) : Option String :=
  if x = "bool" then some "bool" else if x = "int" then some "int" else if x = "str" then some "str" else if x = "dict" then some "dict" else if x = "tuple" then some "tuple" else if x = "list" then some "list" else none
theorem inst_ok (S : Stat cf W k X c) {t : Str} {u : String} {a : Expr} {a' : E} {p q pos : Pos} (h : instTy t = some u) (hg : Gl X "isinstance") (hgt : Gl X t) (ha : PE X a (TD cf W a')) (hs : isStar a = false) :
    PE X (.Call (.Name "isinstance" p) [a, .Name t q] [] pos) (TD cf W (.pr (.isinst u) [a'])) := by
  have bt := S.blt
  have ht : X.mg t = none ∧ bootBuiltins t = some (.type u) ∧ t ≠ "__name__" ∧ (t == ("__debug__" : Str)) = false := by
    unfold instTy at h
    repeat' split at h
    all_goals first | (rename_i e; subst e; cases h) | cases h
    all_goals exact ⟨bt _ (by decide +kernel), by decide +kernel, by decide +kernel, by decide +kernel⟩
  obtain ⟨t1, t2, t3, t4⟩ := ht
  have pt : PE X (.Name t q) (tC (.ty u)) := pe_bltn hgt t1 t2 rfl t3 t4
  refine pe_weak (pe_callB (so_isinst (t := u)) hg (bt _ (by decide +kernel)) (by decide +kernel) (pa_cons ha (pa_cons pt pa_nil rfl) (starEach_cons hs)) (by decide +kernel) (by decide +kernel) (starEach_cons hs) rfl) fun σ H Q ⟨g, env, M, R, RE, q⟩ => ?_
  rw [ev_pr1] at q
  rw [S.K]
  exact ⟨g, env, M, R, RE, q.bind.imp fun d M1 g1 H1 st1 R1 q1 x rx => ⟨x, rfl, g1, M1, [d], R1, .cons rx .nil, q1.ofP⟩⟩
/-! ### methods -/
def methPr (m : Str) : Option (Pr × String) :=
  if m = "append" then some (.append, "list") else if m = "join" then some (.join, "str") else if m = "split" then some (.split, "str") else
  if m = "removesuffix" then some (.rmsuf, "str") else if m = "removeprefix" then some (.rmpre, "str") else if m = "strip" then some (.strip, "str") else none
theorem meth_ok (S : Stat cf W k X c) {m : Str} {p : Pr} {t : String} (h : methPr m = some (p, t)) {o e : Expr} {es : List Expr} {o' e' : E} {es' : List E} {ap cp : Pos} (ho : PE X o (TD cf W o')) (ha : PA X (e :: es) (TDs cf W (e' :: es')))
    (hb : isCall0 o = false) (hs : stars (e :: es) = false) (hn : (e :: es).length < 30) (hl : (ap.endLine == cp.line) = true) : PE X (.Call (.Attribute o m ap) (e :: es) [] cp) (TD cf W (.meth p t o' (e' :: es'))) := by
  have hs' := hs
  simp only [stars, Bool.or_eq_false_iff] at hs'
  have he := starEach_cons (env := X.env) (es := es) hs'.1
  have go : ∀ {id : String}, PlainAttrs t → Slot t m id → typeOf (.builtin id) = pure (.type "method_descriptor") → MtR X id (rM X.K (pr p)) → t = "str" ∨ t = "list" → PE X (.Call (.Attribute o m ap) (e :: es) [] cp) (TD cf W (.meth p t o' (e' :: es'))) :=
    fun pa sl ty hm ht => td_meth S.K pa sl ty hm ht ho ha (base_of hb) (hfew_of hs hn) hl he (hpl_of hs'.2)
  unfold methPr at h
  repeat' split at h
  all_goals first | (rename_i e; subst e; cases h) | cases h
  · exact go PySem.F.plainAttrs_list PySem.F.slot_list_append PySem.F.type_list_append so_append (.inr rfl)
  · exact go PySem.F.plainAttrs_str PySem.F.slot_str_join PySem.F.type_str_join so_join (.inl rfl)
  · exact go PySem.F.plainAttrs_str PySem.F.slot_str_split PySem.F.type_str_split so_split (.inl rfl)
  · exact go PySem.F.plainAttrs_str PySem.F.slot_str_removesuffix PySem.F.type_str_removesuffix so_rmsuf (.inl rfl)
  · exact go PySem.F.plainAttrs_str PySem.F.slot_str_removeprefix PySem.F.type_str_removeprefix so_rmpre (.inl rfl)
  · exact go PySem.F.plainAttrs_str PySem.F.slot_str_strip PySem.F.type_str_strip so_strip2 (.inl rfl)
/-! ### sources -/
def cSrc (r : Rec) (c : Ctx) (tg it : Expr) : Option (SrcK × List E) := match it with
  | .Call (.Name x p) [a] [] pos => if x = "range" ∧ c.names.lookup x = some .globalImplicit ∧ isStar a = false then (r.e c false a).map fun a' => (.rng1, [a'])
      else if x = "enumerate" ∧ c.names.lookup x = some .globalImplicit ∧ isStar a = false then (match tg with
        | .Tuple _ _ _ => (r.e c false a).map fun a' => (.enum, [a'])
        | _ => none)
      else (r.e c false (.Call (.Name x p) [a] [] pos)).map fun a' => (.seq, [a'])
  | .Call (.Name x p) [a, b] [] pos => if x = "range" ∧ c.names.lookup x = some .globalImplicit ∧ isStar a = false ∧ isStar b = false then (match r.e c false a, r.e c false b with
      | some a', some b' => some (.rng2, [a', b'])
      | _, _ => none)
      else (r.e c false (.Call (.Name x p) [a, b] [] pos)).map fun a' => (.seq, [a'])
  | e => (r.e c false e).map fun a' => (.seq, [a'])
theorem cSrc_ok (S : Stat cf W k X c) (hr : SndR cf k r) {tg it : Expr} {kk : SrcK} {src : List E} (h : cSrc r c tg it = some (kk, src)) : PI X tg it (TSrc cf W kk src) := by
  have bt := S.blt
  have seq : ∀ {e : Expr}, (r.e c false e).map (fun a' => (SrcK.seq, [a'])) = some (kk, src) → PI X tg e (TSrc cf W kk src) := by
    intro e h0
    simp only [Option.map_eq_some_iff] at h0
    obtain ⟨a', h1, e2⟩ := h0
    cases e2
    exact src_seq S.K (hr.e W X c false _ a' S h1)
  unfold cSrc at h
  split at h
  · split at h
    · rename_i q
      obtain ⟨rfl, hg, hs⟩ := q
      simp only [Option.map_eq_some_iff] at h
      obtain ⟨a', h, e⟩ := h
      cases e
      exact src_rng1 (gl_of S hg) (bt _ (by decide +kernel)) (pa_consD (hr.e W X c false _ a' S h) pa_nilD (starEach_cons hs)) (starEach_cons hs)
    · split at h
      · rename_i q
        obtain ⟨rfl, hg, hs⟩ := q
        split at h
        · simp only [Option.map_eq_some_iff] at h
          obtain ⟨a', h, e⟩ := h
          cases e
          exact src_enum S.K (gl_of S hg) (bt _ (by decide +kernel)) (pa_consD (hr.e W X c false _ a' S h) pa_nilD (starEach_cons hs)) (starEach_cons hs)
        · cases h
      · exact seq h
  · split at h
    · rename_i q
      obtain ⟨rfl, hg, hs, hs2⟩ := q
      split at h
      · rename_i a' b' h1 h2
        cases h
        exact src_rng2 (gl_of S hg) (bt _ (by decide +kernel)) (pa_consD (hr.e W X c false _ a' S h1) (pa_consD (hr.e W X c false _ b' S h2) pa_nilD (starEach_cons hs2)) (starEach_cons hs)) (by rw [starEach_cons hs, starEach_cons hs2]; rfl) (starEach_cons hs2)
      · cases h
    · exact seq h
  · exact seq h
/-! ### comprehensions -/
def Ctx.blk (c : Ctx) (scope : Scope) : Ctx := { c with names := scope.names.map (fun (n, k) => if (k == .free && c.names.lookup n == some .cell) then (n, .cell) else (n, k)), fnb := fun x => scope.names.lookup x == some .cell, mutN := [], retM := false, retF := false }
def ownOf (c : Ctx) (scope : Scope) : List (Str × Nat) := scope.names.filterMap fun (n, k) => if k == .local || k == .cell then (slot c n).map fun i => (n, i) else none
def scOf (c : Ctx) : Scope := { kind := .function, names := c.names, isGenerator := false, isCoroutine := false }
theorem blk_stat (S : Stat cf W k X c) {scope : Scope} (hk : scope.kind = .function) (s : Shared) (H : Hp) (C : Addr) (cl : List (Str × Addr)) (fp : List Addr) : Stat cf W0 k (X.blk s H scope (compEnvC scope cl C X.env) fp) (c.blk scope) where
  N := S.N
  nd := S.nd
  names := by
    show (relabel scope X.env).names = _
    unfold relabel Ctx.blk
    simp only [S.kind, PySem.Env.kindOf, S.names]
    congr 1
    funext ⟨n, k⟩
    simp
  kind := hk
  fn := fun x h => h
  K := S.K
  calm := S.calm
  room := S.room
  takes := fun u s' ⟨_, _, _, _, _, _, _, _, _, _, _, _, _, _, _, _, w⟩ => w
  gl := S.gl
  fns := S.fns
  blt := S.blt
def cComp (r : Rec) (c : Ctx) (mm : Bool) (elt tg iter : Expr) (ifs : List Expr) (scope : Scope) : Option E :=
  if blkC c.N (scOf c) scope (ownOf c scope) = true ∧ isSet iter = false then
    match cTgt (c.blk scope) tg, cSrc r c tg iter, r.e (c.blk scope) false elt with
    | some t, some (k, src), some el => if t.slots.all (fun i => ((ownOf c scope).map (·.2)).contains i) = true then (match ifs with
        | [] => some (.comp mm ((ownOf c scope).map (·.2)) t k src none el)
        | [f] => (r.t (c.blk scope) f).map fun f' => .comp mm ((ownOf c scope).map (·.2)) t k src (some f') el
        | _ => none) else none
    | _, _, _ => none
  else none
/-- what a comprehension's rule wants -/
structure CompOk (cf : Cf) (W : WX) (k : Nat) (X : Cx) (elt tg iter : Expr) (ifs : List Expr) (scope : Scope) (own : List (Str × Nat)) (t : T) (kk : SrcK) (src : List E) (cond : Option E) (el : E) : Prop where
  hi : PI X tg iter (TSrc cf W kk src)
  ok : BlkOk X.N X.env.scope scope own
  ho : ∀ i ∈ t.slots, i ∈ own.map (·.2)
  hg : ∀ (s : Shared) (H : Hp) (C : Addr) (cl : List (Str × Addr)) (fp : List Addr), PG (X.blk s H scope (compEnvC scope cl C X.env) fp) tg (gD cf t)
  ht : ∀ (s : Shared) (H : Hp) (C : Addr) (cl : List (Str × Addr)) (fp : List Addr), PTs (X.blk s H scope (compEnvC scope cl C X.env) fp) ifs (tC' cf cond)
  he : ∀ (s : Shared) (H : Hp) (C : Addr) (cl : List (Str × Addr)) (fp : List Addr), PE (X.blk s H scope (compEnvC scope cl C X.env) fp) elt (TD cf W0 el)
  hs : ∀ x, foldedSetIterable iter X.env x = pure x
theorem cComp_ok (S : Stat cf W k X c) (hr : SndR cf k r) {mm : Bool} {elt tg iter : Expr} {ifs : List Expr} {scope : Scope} {e' : E} (h : cComp r c mm elt tg iter ifs scope = some e') :
    ∃ t kk src cond el, e' = .comp mm ((ownOf c scope).map (·.2)) t kk src cond el ∧ CompOk cf W k X elt tg iter ifs scope (ownOf c scope) t kk src cond el := by
  unfold cComp at h
  split at h
  · rename_i q
    obtain ⟨hb, hs⟩ := q
    have b0 := blkOk_by hb
    have hk := b0.kind
    have ok : BlkOk X.N X.env.scope scope (ownOf c scope) := ⟨b0.kind, b0.uniq, by rw [S.N]; exact b0.ix, by rw [S.names]; exact b0.free, by rw [S.N]; exact b0.own⟩
    split at h
    · rename_i t kk src el h1 h2 h3
      split at h
      · rename_i hall
        have ho : ∀ i ∈ t.slots, i ∈ (ownOf c scope).map (·.2) := fun i hi => by simpa using (List.all_eq_true.mp hall i hi)
        have base : ∀ cond, (∀ (s : Shared) (H : Hp) (C : Addr) (cl : List (Str × Addr)) (fp : List Addr), PTs (X.blk s H scope (compEnvC scope cl C X.env) fp) ifs (tC' cf cond)) → CompOk cf W k X elt tg iter ifs scope (ownOf c scope) t kk src cond el := fun cond ht =>
          ⟨cSrc_ok S hr h2, ok, ho, fun s H C cl fp => cTgt_ok (blk_stat S hk s H C cl fp) h1, ht, fun s H C cl fp => hr.e W0 _ _ false elt el (blk_stat S hk s H C cl fp) h3, folded_of hs⟩
        split at h
        · cases h
          exact ⟨t, kk, src, none, el, rfl, base none fun s H C cl fp => pts_nil⟩
        · rename_i f
          simp only [Option.map_eq_some_iff] at h
          obtain ⟨f', h4, e⟩ := h
          cases e
          exact ⟨t, kk, src, some f', el, rfl, base (some f') fun s H C cl fp => pts_one (hr.t W0 _ _ f f' (blk_stat S hk s H C cl fp) h4)⟩
        · cases h
      · cases h
    · cases h
  · cases h
end
end DP

/-! DP.Compile3: the step for expressions and tests, statements, defs. -/
namespace DP
open PySem PySem.Spec PyProof.Rows L2
/-! ### expressions -/
def cBoolE (r : Rec) (c : Ctx) (op : BoolOp) : List Expr → Option E
  | [] => none
  | [a] => r.e c false a
  | a :: b :: rest => match r.e c false a, cBoolE r c op (b :: rest) with
    | some a', some b' => some (match op with
      | .And => .and_ a' b'
      | .Or => .or_ a' b')
    | _, _ => none
def cBoolT (r : Rec) (c : Ctx) (op : BoolOp) : List Expr → Option E
  | [] => none
  | [a] => r.t c a
  | a :: b :: rest => match r.t c a, cBoolT r c op (b :: rest) with
    | some a', some b' => some (match op with
      | .And => .and_ a' b'
      | .Or => .or_ a' b')
    | _, _ => none
/-- the parts of an f-string -/
def cFs (r : Rec) (c : Ctx) : List Expr → Option (List E)
  | [] => some []
  | .Constant (.str s) _ _ :: rest => (cFs r c rest).map (.c (.str s) :: ·)
  | .FormattedValue e v none _ :: rest => if v = -1 then match r.e c false e, cFs r c rest with
      | some e', some l => some (.pr .fmt1 [e'] :: l)
      | _, _ => none
    else none
  | _ => none
/-- a call of a name -/
def cCall (r : Rec) (c : Ctx) (x : Str) (args : List Expr) : Option E :=
  if c.names.lookup x = some .globalImplicit ∧ okNm x = true then
    match c.fns.lookup x with
    | some f => (cArgs r c false args).map fun es => .call f es
    | none => match args with
      | [] => none
      | a :: es => match bltPr x (a :: es).length with
        | some p => (cArgs r c false (a :: es)).map fun es' => .pr p es'
        | none => if x = "isinstance" then (match es with
            | [.Name t _] => if c.names.lookup t = some .globalImplicit ∧ isStar a = false then match instTy t, r.e c false a with
                | some u, some a' => some (.pr (.isinst u) [a'])
                | _, _ => none
              else none
            | _ => none)
          else none
  else none
def cMeth (r : Rec) (c : Ctx) (o : Expr) (m : Str) (args : List Expr) (ap cp : Pos) : Option E :=
  match methPr m with
  | some (p, t) => if isCall0 o = false ∧ args.length < 30 ∧ (ap.endLine == cp.line) = true then
      match r.e c false o, cArgs r c (c.argM && decide (m = "append")) args with
      | some o', some (e' :: es') => some (.meth p t o' (e' :: es'))
      | _, _ => none
    else none
  | none => none
def cSub (r : Rec) (c : Ctx) (a b : Expr) : Option E := match b with
  | .Slice none none none _ => (r.e c false a).map fun a' => .pr (.slice false false) [a']
  | .Slice (some l) none none _ => match r.e c false a, r.e c false l with
    | some a', some l' => some (.pr (.slice true false) [a', l'])
    | _, _ => none
  | .Slice none (some l) none _ => match r.e c false a, r.e c false l with
    | some a', some l' => some (.pr (.slice false true) [a', l'])
    | _, _ => none
  | .Slice (some l) (some u) none _ => match r.e c false a, r.e c false l, r.e c false u with
    | some a', some l', some u' => some (.slc3 a' l' u')
    | _, _, _ => none
  | .Slice _ _ _ _ => none
  | b => match r.e c false a, r.e c false b with
    | some a', some b' => some (.pr .idx [a', b'])
    | _, _ => none
def isNoneC : Expr → Bool
  | .Constant .none _ _ => true
  | _ => false
def stepE (r : Rec) (c : Ctx) (mm : Bool) : Expr → Option E
  | .Constant (.int i) _ _ => some (.c (.int i))
  | .Constant (.str s) _ _ => some (.c (.str s))
  | .Constant (.bool b) _ _ => some (.c (.bl b))
  | .Constant .none _ _ => some (.c .non)
  | .Name x _ => cName c x
  | .BinOp a op b _ => match opPr op, r.e c false a, r.e c false b with
    | some p, some a', some b' => some (.pr p [a', b'])
    | _, _, _ => none
  | .UnaryOp .USub a _ => (r.e c false a).map fun a' => .pr .neg [a']
  | .UnaryOp .Not a _ => (r.e c false a).map fun a' => .pr .not_ [a']
  | .BoolOp op vs _ => cBoolE r c op vs
  | .IfExp t a b _ => match r.t c t, r.e c false a, r.e c false b with
    | some t', some a', some b' => some (.ite t' a' b')
    | _, _, _ => none
  | .Compare a [.Is] [b] _ => if isNoneC b then (r.e c false a).map fun a' => .pr .isN [a'] else none
  | .Compare a [.IsNot] [b] _ => if isNoneC b then (r.e c false a).map fun a' => .pr .notN [a'] else none
  | .Compare a [op] [b] _ => if isSet b then none else match cmpPr op, r.e c false a, r.e c false b with
    | some p, some a', some b' => some (.pr p [a', b'])
    | _, _, _ => none
  | .Call (.Name x _) args [] _ => cCall r c x args
  | .Call (.Attribute o m ap) args [] cp => cMeth r c o m args ap cp
  | .JoinedStr (v1 :: v2 :: rest) _ => (cFs r c (v1 :: v2 :: rest)).map .fstr
  | .Subscript a b _ => cSub r c a b
  | .List es _ => (cArgs r c mm es).map fun es' => if mm then .pr .listM es' else .pr .list es'
  | .Tuple es _ _ => (cArgs r c false es).map (.pr .tup)
  | .ListComp elt [⟨tg, iter, ifs, 0⟩] scope _ => cComp r c mm elt tg iter ifs scope
  | _ => none
def stepT (r : Rec) (c : Ctx) : Expr → Option E
  | .UnaryOp .Not a _ => (r.t c a).map fun a' => .pr .not_ [a']
  | .BoolOp op vs _ => cBoolT r c op vs
  | .IfExp _ _ _ _ => none
  | .Compare a [.Is] [b] _ => if isNoneC b then (r.e c false a).map fun a' => .pr .isN [a'] else none
  | .Compare a [.IsNot] [b] _ => if isNoneC b then (r.e c false a).map fun a' => .pr .notN [a'] else none
  | .Compare a [op] [b] _ => if isSet b then none else match cmpPr op, r.e c false a, r.e c false b with
    | some p, some a', some b' => some (.pr p [a', b'])
    | _, _, _ => none
  | .Compare _ _ _ _ => none
  | e => r.e c false e
/-- what is not carried is never reached -/
def orNever : Option E → Option E
  | some e => some e
  | none => some .never
def recN : Nat → Rec
  | 0 => ⟨fun _ _ _ => none, fun _ _ => none⟩
  | n + 1 => ⟨fun c mm e => orNever (stepE (recN n) c mm e), fun c e => orNever (stepT (recN n) c e)⟩
section
variable {cf : Cf} {W : WX} {k : Nat} {X : Cx} {c : Ctx} {r : Rec}
theorem cBoolE_ok (S : Stat cf W k X c) (hr : SndR cf k r) {op : BoolOp} {pos : Pos} : ∀ {vs : List Expr} {e' : E}, cBoolE r c op vs = some e' → PE X (.BoolOp op vs pos) (TD cf W e')
  | [], _, h => by cases h
  | [a], _, h => td_one (hr.e W X c false a _ S h)
  | a :: b :: rest, _, h => by
    simp only [cBoolE] at h
    split at h
    · rename_i a' b' h1 h2
      cases h
      have pa := hr.e W X c false a a' S h1
      have pb := cBoolE_ok S hr (op := op) (pos := pos) h2
      cases op with
      | And => exact td_and S.K pa pb
      | Or => exact td_or S.K pa pb
    · cases h
theorem cBoolT_ok (S : Stat cf W k X c) (hr : SndR cf k r) {op : BoolOp} {pos : Pos} : ∀ {vs : List Expr} {e' : E}, cBoolT r c op vs = some e' → PW X (.BoolOp op vs pos) (TT cf W e')
  | [], _, h => by cases h
  | [a], _, h => by
    cases op with
    | And => exact tt_and1 (hr.t W X c a _ S h)
    | Or => exact tt_or1 (hr.t W X c a _ S h)
  | a :: b :: rest, _, h => by
    simp only [cBoolT] at h
    split at h
    · rename_i a' b' h1 h2
      cases h
      have pa := hr.t W X c a a' S h1
      have pb := cBoolT_ok S hr (op := op) (pos := pos) h2
      cases op with
      | And => exact tt_and pa pb
      | Or => exact tt_or pa pb
    · cases h
theorem cFs_ok (S : Stat cf W k X c) (hr : SndR cf k r) : ∀ {vs : List Expr} {es' : List E}, cFs r c vs = some es' → PJ X vs (es'.map (TD cf W))
  | [], _, h => by
    cases h
    exact .nil
  | v :: rest, _, h => by
    unfold cFs at h
    split at h
    · rename_i q
      cases q
    · rename_i q
      cases q
      simp only [Option.map_eq_some_iff] at h
      obtain ⟨l, h, rfl⟩ := h
      exact .cons (td_c pe_str fun g => .str _) (cFs_ok S hr h)
    · rename_i q
      cases q
      split at h
      · rename_i hv
        subst hv
        split at h
        · rename_i e' l h1 h2
          cases h
          exact .cons (td_fmt1 (hr.e W X c false _ e' S h1)) (cFs_ok S hr h2)
        · cases h
      · cases h
    · cases h
theorem cCall_ok (S : Stat cf W k X c) (hr : SndR cf k r) {x : Str} {args : List Expr} {e' : E} {p pos : Pos} (h : cCall r c x args = some e') : PE X (.Call (.Name x p) args [] pos) (TD cf W e') := by
  unfold cCall at h
  split at h
  · rename_i q
    obtain ⟨hg, ok⟩ := q
    obtain ⟨o1, _, _⟩ := okNm_of ok
    split at h
    · rename_i f hf
      simp only [Option.map_eq_some_iff] at h
      obtain ⟨es', h, rfl⟩ := h
      obtain ⟨fa, fd, ps, F, hm, hk, hb⟩ := S.fns x f hf
      obtain ⟨pa, st⟩ := cArgs_ok S hr h
      cases args with
      | nil =>
        cases h
        exact td_call0 F S.room (gl_of S hg) hm hk hb S.takes o1
      | cons a es =>
        simp only [stars, Bool.or_eq_false_iff] at st
        exact td_call F S.room (gl_of S hg) hm hk hb S.takes pa o1 (starEach_cons st.1) (hpl_of st.2)
    · split at h
      · cases h
      · rename_i a es
        split at h
        · rename_i pp hp
          simp only [Option.map_eq_some_iff] at h
          obtain ⟨es', h, rfl⟩ := h
          obtain ⟨pa, st⟩ := cArgs_ok S hr h
          exact blt_ok S hp (gl_of S hg) pa st
        · split at h
          · rename_i hx
            subst hx
            split at h
            · rename_i t pt
              split at h
              · rename_i q2
                split at h
                · rename_i u a' h1 h2
                  cases h
                  exact inst_ok S h1 (gl_of S hg) (gl_of S q2.1) (hr.e W X c false a a' S h2) q2.2
                · cases h
              · cases h
            · cases h
          · cases h
  · cases h
theorem cMeth_ok (S : Stat cf W k X c) (hr : SndR cf k r) {o : Expr} {m : Str} {args : List Expr} {ap cp : Pos} {e' : E} (h : cMeth r c o m args ap cp = some e') : PE X (.Call (.Attribute o m ap) args [] cp) (TD cf W e') := by
  unfold cMeth at h
  split at h
  · rename_i p t hm
    split at h
    · rename_i q
      split at h
      · rename_i o' a' es' h1 h2
        cases h
        obtain ⟨pa, st⟩ := cArgs_ok S hr h2
        cases args with
        | nil => cases h2
        | cons a es => exact meth_ok S hm (hr.e W X c false o o' S h1) pa q.1 st q.2.1 q.2.2
      · cases h
    · cases h
  · cases h
theorem cSub_ok (S : Stat cf W k X c) (hr : SndR cf k r) {a b : Expr} {pos : Pos} {e' : E} (h : cSub r c a b = some e') : PE X (.Subscript a b pos) (TD cf W e') := by
  unfold cSub at h
  split at h
  · simp only [Option.map_eq_some_iff] at h
    obtain ⟨a', h, rfl⟩ := h
    exact td_slice0 S.K (hr.e W X c false a a' S h)
  · split at h
    · rename_i a' l' h1 h2
      cases h
      exact td_sliceL S.K (hr.e W X c false a a' S h1) (hr.e W X c false _ l' S h2)
    · cases h
  · split at h
    · rename_i a' l' h1 h2
      cases h
      exact td_sliceH S.K (hr.e W X c false a a' S h1) (hr.e W X c false _ l' S h2)
    · cases h
  · split at h
    · rename_i a' l' u' h1 h2 h3
      cases h
      exact td_sliceLH S.K (hr.e W X c false a a' S h1) (hr.e W X c false _ l' S h2) (hr.e W X c false _ u' S h3)
    · cases h
  · cases h
  · rename_i hns
    split at h
    · rename_i a' b' h1 h2
      cases h
      refine td_idx S.K (plainIx_of ?_) (hr.e W X c false a a' S h1) (hr.e W X c false b b' S h2)
      cases b <;> first | rfl | (exact (hns _ _ _ _ rfl).elim)
    · cases h
theorem stepE_ok (hr : SndR cf k r) (S : Stat cf W k X c) {mm : Bool} {e : Expr} {e' : E} (h : stepE r c mm e = some e') : PE X e (TD cf W e') := by
  unfold stepE at h
  split at h
  · cases h; exact td_c pe_int fun g => .int _
  · cases h; exact td_c pe_str fun g => .str _
  · cases h; exact td_c pe_bl fun g => .bl _
  · cases h; exact td_c pe_non fun g => .non
  · exact cName_ok S h
  · split at h
    · rename_i p a' b' h0 h1 h2
      cases h
      exact op_ok S h0 (hr.e W X c false _ a' S h1) (hr.e W X c false _ b' S h2)
    · cases h
  · simp only [Option.map_eq_some_iff] at h
    obtain ⟨a', h, rfl⟩ := h
    exact td_neg S.K (hr.e W X c false _ a' S h)
  · simp only [Option.map_eq_some_iff] at h
    obtain ⟨a', h, rfl⟩ := h
    exact td_not S.K (hr.e W X c false _ a' S h)
  · exact cBoolE_ok S hr h
  · split at h
    · rename_i t' a' b' h0 h1 h2
      cases h
      exact td_ite (hr.t W X c _ t' S h0) (hr.e W X c false _ a' S h1) (hr.e W X c false _ b' S h2)
    · cases h
  · rename_i a b _
    split at h
    · rename_i hn
      simp only [Option.map_eq_some_iff] at h
      obtain ⟨a', h, rfl⟩ := h
      cases b <;> first | cases hn | skip
      rename_i v _ _
      cases v <;> first | exact td_isN S.K (hr.e W X c false _ a' S h) | cases hn
    · cases h
  · rename_i a b _
    split at h
    · rename_i hn
      simp only [Option.map_eq_some_iff] at h
      obtain ⟨a', h, rfl⟩ := h
      cases b <;> first | cases hn | skip
      rename_i v _ _
      cases v <;> first | exact td_notN S.K (hr.e W X c false _ a' S h) | cases hn
    · cases h
  · split at h
    · cases h
    · rename_i hs
      split at h
      · rename_i p a' b' h0 h1 h2
        cases h
        exact td_op2 (fun ha hb => pe_cmpR (cmp_op S h0) ha hb (behind_of (by simpa using hs))) (hr.e W X c false _ a' S h1) (hr.e W X c false _ b' S h2)
      · cases h
  · exact cCall_ok S hr h
  · exact cMeth_ok S hr h
  · simp only [Option.map_eq_some_iff] at h
    obtain ⟨es', h, rfl⟩ := h
    exact td_fstr (cFs_ok S hr h)
  · exact cSub_ok S hr h
  · simp only [Option.map_eq_some_iff] at h
    obtain ⟨es', h, rfl⟩ := h
    obtain ⟨pa, _⟩ := cArgs_ok S hr h
    cases mm with
    | false => exact td_list pa
    | true => exact td_listM pa
  · simp only [Option.map_eq_some_iff] at h
    obtain ⟨es', h, rfl⟩ := h
    exact td_tup (cArgs_ok S hr h).1
  · obtain ⟨t, kk, src, cond, el, rfl, C⟩ := cComp_ok S hr h
    exact td_comp S.calm S.nd C.hi C.ok C.ho C.hg C.ht C.he C.hs
  · cases h
theorem stepT_ok (hr : SndR cf k r) (S : Stat cf W k X c) {e : Expr} {e' : E} (h : stepT r c e = some e') : PT X e (TT cf W e') := by
  unfold stepT at h
  split at h
  · simp only [Option.map_eq_some_iff] at h
    obtain ⟨a', h, rfl⟩ := h
    exact tt_not (hr.t W X c _ a' S h)
  · exact (cBoolT_ok S hr h).pt
  · cases h
  · rename_i a b _
    split at h
    · rename_i hn
      simp only [Option.map_eq_some_iff] at h
      obtain ⟨a', h, rfl⟩ := h
      cases b <;> first | cases hn | skip
      rename_i v _ _
      cases v <;> first | exact tt_isN S.K (hr.e W X c false _ a' S h) | cases hn
    · cases h
  · rename_i a b _
    split at h
    · rename_i hn
      simp only [Option.map_eq_some_iff] at h
      obtain ⟨a', h, rfl⟩ := h
      cases b <;> first | cases hn | skip
      rename_i v _ _
      cases v <;> first | exact tt_notN S.K (hr.e W X c false _ a' S h) | cases hn
    · cases h
  · split at h
    · cases h
    · rename_i hs
      split at h
      · rename_i p a' b' h0 h1 h2
        cases h
        exact tt_op2 (fun ha hb => pt_cmpR (cmp_op S h0) ha hb (behind_of (by simpa using hs))) (cmp_bl h0) (hr.e W X c false _ a' S h1) (hr.e W X c false _ b' S h2)
      · cases h
  · cases h
  · rename_i h1 h2 h3 _ _ _ h4
    refine tt_plain S.K (hr.e W X c false _ _ S h) (isTrue_of ?_)
    cases e with
    | UnaryOp op a p =>
      cases op with
      | Not => exact (h1 _ _ rfl).elim
      | _ => rfl
    | BoolOp op vs p => exact (h2 _ _ _ rfl).elim
    | IfExp a b d p => exact (h3 _ _ _ _ rfl).elim
    | Compare a b d p => exact (h4 _ _ _ _ rfl).elim
    | _ => rfl
theorem td_never {e : Expr} : PE X e (TD cf W .never) := ⟨fun pins s σ H Q I ⟨g, env, M, R, RE, q⟩ => by
  rw [ev] at q
  exact False.elim q⟩
theorem tt_never {e : Expr} : PT X e (TT cf W .never) := ⟨fun pins s σ H Q I ⟨g, env, M, R, RE, q⟩ => by
  unfold tst at q
  rw [ev] at q
  exact False.elim q⟩
theorem recN_ok : ∀ n, SndR cf k (recN n)
  | 0 => ⟨fun _ _ _ _ _ _ _ h => (by cases h), fun _ _ _ _ _ _ h => (by cases h)⟩
  | n + 1 => by
    refine ⟨fun W X c mm x x' S h => ?_, fun W X c x x' S h => ?_⟩
    · have h : orNever (stepE (recN n) c mm x) = some x' := h
      cases e : stepE (recN n) c mm x with
      | none => rw [e] at h; cases h; exact td_never
      | some y => rw [e] at h; cases h; exact stepE_ok (recN_ok n) S e
    · have h : orNever (stepT (recN n) c x) = some x' := h
      cases e : stepT (recN n) c x with
      | none => rw [e] at h; cases h; exact tt_never
      | some y => rw [e] at h; cases h; exact stepT_ok (recN_ok n) S e
end
end DP

/-! DP.Defs: statements, defs, the table of defs, the law. -/
namespace DP
open PySem PySem.Spec PyProof.Rows L2
/-! ### statements -/
def isTupE : Expr → Bool
  | .Tuple _ _ _ => true
  | _ => false
def swapB (c : Ctx) (y : Str) (py pos : Pos) (scope : Scope) : Bool := decide (c.names.lookup y = some .local) && (py.line == pos.line) && !(scope.names.any fun (n, k) => n == y && (k == .local || k == .cell))
def stepS (r : Rec) (blk : Ctx → List Stmt → Option (List S)) (c : Ctx) : Stmt → Option S
  | .Expr (.Constant (.str _) _ _) _ => some .pass
  | .Expr e _ => if isComp e then none else (r.e c false e).map .ex
  | .Assign [.Name y py] (.ListComp elt [⟨tg, iter, ifs, 0⟩] scope p) _ => if swapB c y py p scope then match slot c y, cComp r c (c.mutN.contains y) elt tg iter ifs scope with
      | some i, some e' => some (.asg (.nm i) e')
      | _, _ => none
    else none
  | .Assign [.Name y py] e _ => if isComp e then none else match cTgt c (.Name y py), r.e c (c.mutN.contains y) e with
      | some t, some e' => some (.asg t e')
      | _, _ => none
  | .Assign [.Tuple es k p] e _ => if isComp e || isTupE e then none else match cTgt c (.Tuple es k p), r.e c false e with
      | some t, some e' => some (.asg t e')
      | _, _ => none
  | .Assign [.Subscript o i _] e _ => if isComp e || isSlice i then none else match r.e c false o, r.e c false i, r.e c false e with
      | some o', some i', some e' => some (.setIx o' i' e')
      | _, _, _ => none
  | .AugAssign (.Name x p) .Add e _ => if locB c x then match slot c x, r.e c false e with
      | some i, some e' => some (.aug i .iadd e')
      | _, _ => none
    else none
  | .AugAssign (.Subscript o i _) .Add e _ => if isSlice i then none else match r.e c false o, r.e c false i, r.e c false e with
      | some o', some i', some e' => some (.augIx o' i' .iadd e')
      | _, _, _ => none
  | .If t a b _ => match r.t c t, blk c a, blk c b with
    | some t', some a', some b' => some (.ife t' a' b')
    | _, _, _ => none
  | .For tg it body [] _ => if isSet it then none else match cTgt c tg, cSrc r c tg it, blk c body with
    | some t, some (k, src), some b' => some (.for_ t k src b')
    | _, _, _ => none
  | .Return (some e) _ => (r.e c c.retM e).map fun e' => .ret (if c.retF then .pr .freeze [e'] else e')
  | .Return none _ => some .retN
  | .Pass _ => some .pass
  | .Break _ => some .brk
  | .Continue _ => some .cont
  | .Raise _ _ _ => some .never
  | _ => none
def blkOf (f : Ctx → Stmt → Option S) (c : Ctx) : List Stmt → Option (List S)
  | [] => some []
  | s :: ss => match f c s, blkOf f c ss with
    | some a, some b => some (a :: b)
    | _, _ => none
def cS (r : Rec) : Nat → Ctx → Stmt → Option S
  | 0, _, _ => none
  | n + 1, c, s => stepS r (blkOf (cS r n)) c s
section
variable {cf : Cf} {W : WX} {k : Nat} {X : Cx} {c : Ctx} {r : Rec}
theorem sole_of {t e : Expr} {l : Nat} (h : isComp e = false) : swapsWithSole [t] e l X.env = pure false := swaps_of h
theorem blkOf_ok {f : Ctx → Stmt → Option S} (hf : ∀ s s', f c s = some s' → PS X s (TSt cf W s')) : ∀ {ss : List Stmt} {ss' : List S}, blkOf f c ss = some ss' → PSs X ss (TSs cf W ss')
  | [], _, h => by
    cases h
    exact tss_nil
  | s :: ss, _, h => by
    simp only [blkOf] at h
    split at h
    · rename_i a b h1 h2
      cases h
      exact tss_cons (hf s a h1) (blkOf_ok hf h2)
    · cases h
theorem stepS_ok (S0 : Stat cf W k X c) (hr : SndR cf k r) (hp : PassesOwn (model X.prog X.w) X.A X.env X.xe) {blk : Ctx → List Stmt → Option (List S)} (hb : ∀ ss ss', blk c ss = some ss' → PSs X ss (TSs cf W ss')) {s : Stmt} {s' : S} (h : stepS r blk c s = some s') : PS X s (TSt cf W s') := by
  unfold stepS at h
  split at h
  · cases h
    exact ts_doc
  · split at h
    · cases h
    · rename_i hc
      simp only [Option.map_eq_some_iff] at h
      obtain ⟨e', h, rfl⟩ := h
      exact ts_expr (hr.e W X c false _ e' S0 h) (swaps_of (by simpa using hc))
  · rename_i y py elt tg iter ifs scope p sp
    split at h
    · rename_i hsw
      split at h
      · rename_i i e' h1 h2
        cases h
        obtain ⟨t, kk, src, cond, el, rfl, C⟩ := cComp_ok S0 hr h2
        unfold swapB at hsw
        simp only [Bool.and_eq_true, decide_eq_true_eq, Bool.not_eq_true'] at hsw
        have hl : X.env.scope.names.lookup y = some .local := by rw [S0.names]; exact hsw.1.1
        exact ts_setLc S0.calm S0.nd (by rw [S0.N]; exact slot_at h1) hl (sw_true S0.kind hl hsw.1.2 hsw.2) C.hi C.ok C.ho C.hg C.ht C.he C.hs
      · cases h
    · cases h
  · rename_i y py e sp _
    split at h
    · cases h
    · rename_i hc
      split at h
      · rename_i t e' h1 h2
        cases h
        exact ts_asg (hr.e W X c _ e e' S0 h2) (cTgt_ok S0 h1) (sole_of (by simpa using hc)) rfl rfl
      · cases h
  · rename_i es kk p e sp
    split at h
    · cases h
    · rename_i hc
      split at h
      · rename_i t e' h1 h2
        cases h
        simp only [Bool.or_eq_true, not_or, Bool.not_eq_true] at hc
        refine ts_asg (hr.e W X c _ e e' S0 h2) (cTgt_ok S0 h1) (sole_of hc.1) ?_ rfl
        unfold swappedStores
        cases e <;> first | rfl | (simp [isTupE] at hc)
      · cases h
  · rename_i o i tp e sp
    split at h
    · cases h
    · rename_i hc
      split at h
      · rename_i o' i' e' h1 h2 h3
        cases h
        simp only [Bool.or_eq_true, not_or, Bool.not_eq_true] at hc
        refine ts_setIx S0.K (hr.e W X c _ o o' S0 h1) (hr.e W X c _ i i' S0 h2) (hr.e W X c _ e e' S0 h3) ?_ (sole_of hc.1) rfl rfl
        intro v
        have hs := hc.2
        cases i <;> first | rfl | (simp [isSlice] at hs)
      · cases h
  · rename_i x p e sp
    split at h
    · rename_i hl
      split at h
      · rename_i i e' h1 h2
        cases h
        obtain ⟨l, f⟩ := loc_of S0 hl
        exact ts_aug S0.K S0.nd (by rw [S0.N]; exact slot_at h1) l (hr.e W X c _ e e' S0 h2) f
      · cases h
    · cases h
  · rename_i o i tp e sp
    split at h
    · cases h
    · rename_i hc
      split at h
      · rename_i o' i' e' h1 h2 h3
        cases h
        refine ts_augIx S0.K (hr.e W X c _ o o' S0 h1) (hr.e W X c _ i i' S0 h2) (hr.e W X c _ e e' S0 h3) ?_
        intro ov iv nw
        cases i <;> first | rfl | (simp [isSlice] at hc)
      · cases h
  · split at h
    · rename_i t' a' b' h1 h2 h3
      cases h
      exact ts_if (hr.t W X c _ t' S0 h1) (hb _ a' h2) (hb _ b' h3)
    · cases h
  · split at h
    · cases h
    · rename_i hs
      split at h
      · rename_i t kk src b' h1 h2 h3
        cases h
        exact ts_for hp S0.calm (cSrc_ok S0 hr h2) (cTgt_ok S0 h1) (hb _ b' h3) (folded_of (by simpa using hs))
      · cases h
  · simp only [Option.map_eq_some_iff] at h
    obtain ⟨e', h, rfl⟩ := h
    have pe := hr.e W X c _ _ e' S0 h
    split
    · exact ts_ret (td_freeze pe)
    · exact ts_ret pe
  · cases h; exact ts_retN
  · cases h; exact ts_pass
  · cases h; exact ts_brk
  · cases h; exact ts_cont
  · cases h; exact ts_never
  · cases h
theorem cS_ok (S0 : Stat cf W k X c) (hr : SndR cf k r) (hp : PassesOwn (model X.prog X.w) X.A X.env X.xe) : ∀ (n : Nat) (s : Stmt) (s' : S), cS r n c s = some s' → PS X s (TSt cf W s')
  | 0, _, _, h => by cases h
  | n + 1, s, s', h => stepS_ok S0 hr hp (fun ss ss' hs => blkOf_ok (fun s s' q => cS_ok S0 hr hp n s s' q) hs) h
end
/-! ### letting cells go -/
section
variable {K : PySem.W.Frag} {g g' : G} {M M1 : Mem} {H H' : Hp}
mutual
theorem Rep.belowR (R : ∀ n, g.a[n]? ≠ none → n < g.a.length) : ∀ {v : V} {d : D}, Rep K g v d → DP.below g.a.length d = true
  | _, _, .non => rfl
  | _, _, .bl _ => rfl
  | _, _, .int _ => rfl
  | _, _, .str _ => rfl
  | _, _, .lst _ r => Reps.belowR R r
  | _, _, .klst _ r => Reps.belowR R r
  | _, _, .tup _ r => Reps.belowR R r
  | _, _, .loc e => by
    have := (List.getElem?_eq_some_iff.mp e).1
    simpa [DP.below] using this
theorem Reps.belowR (R : ∀ n, g.a[n]? ≠ none → n < g.a.length) : ∀ {vs : List V} {ds : List D}, Reps K g vs ds → DP.belows g.a.length ds = true
  | _, _, .nil => rfl
  | _, _, .cons a b => by
    simp only [DP.belows, Rep.belowR R a, Reps.belowR R b, Bool.and_self]
end
mutual
theorem Rep.cut {F : Hp} {a b : List Addr} : ∀ {v : V} {d : D}, Rep K ⟨F, a ++ b⟩ v d → DP.below a.length d = true → Rep K ⟨F, a⟩ v d
  | _, _, .non, _ => .non
  | _, _, .bl _, _ => .bl _
  | _, _, .int _, _ => .int _
  | _, _, .str _, _ => .str _
  | _, _, .lst e r, h => .lst e (Reps.cut' r h)
  | _, _, .klst e r, h => .klst e (Reps.cut' r h)
  | _, _, .tup e r, h => .tup e (Reps.cut' r h)
  | _, _, @Rep.loc _ _ n p e, h => by
    have hn : n < a.length := by simpa [DP.below] using h
    refine .loc ?_
    show a[n]? = _
    have e : (a ++ b)[n]? = some p := e
    rw [List.getElem?_append_left hn] at e
    exact e
theorem Reps.cut' {F : Hp} {a b : List Addr} : ∀ {vs : List V} {ds : List D}, Reps K ⟨F, a ++ b⟩ vs ds → DP.belows a.length ds = true → Reps K ⟨F, a⟩ vs ds
  | _, _, .nil, _ => .nil
  | _, _, .cons x y, h => by
    simp only [DP.belows, Bool.and_eq_true] at h
    exact .cons (Rep.cut x h.1) (Reps.cut' y h.2)
end
theorem trim_ok {d : D} {v : V} (R : RelM K g M H) (st : Stp g H g' H') (R1 : RelM K g' M1 H') (r : Rep K g' v d) : ∃ g'', Stp g H g'' H' ∧ RelM K g'' (trim M d M1) H' ∧ Rep K g'' v d := by
  unfold trim
  by_cases c : CanTrim M d M1
  · rw [if_pos c]
    obtain ⟨F', a'⟩ := g'
    obtain ⟨l, ea⟩ := st.le.a
    have ea : a' = g.a ++ l := ea
    subst ea
    have hl : g.a.length = M.length := R.len
    obtain ⟨c1, c2, c3⟩ := c
    rw [← hl] at c1
    refine ⟨⟨F', g.a⟩, ⟨⟨st.le.F, [], by simp⟩, fun b o e n => ?_⟩, ⟨R1.sub, ?_, R.nd, fun a m => R1.live a (List.mem_append_left _ m), fun n p cl e1 e2 => ?_⟩, r.cut c1⟩
    · obtain ⟨k1, k2, k3⟩ := st.keep b o e n
      exact ⟨k1, n, k3⟩
    · rw [List.length_take, Nat.min_eq_left c2]
      exact hl
    · have hn : n < g.a.length := (List.getElem?_eq_some_iff.mp e1).1
      have e1' : (g.a ++ l)[n]? = some p := by
        rw [List.getElem?_append_left hn]
        exact e1
      have e2' : M1[n]? = some cl := by
        rw [List.getElem?_take_of_lt (by omega)] at e2
        exact e2
      have q := R1.cell n p cl e1' e2'
      cases cl with
      | dead => trivial
      | obj _ _ => exact q
      | lst ds =>
        obtain ⟨q1, vs, q2, q3⟩ := q
        refine ⟨q1, vs, q2, q3.cut' ?_⟩
        rcases c3 n (by omega) with z | ⟨c', z1, z2⟩
        · rw [z] at e2'
          obtain ⟨_, ws, _, rs⟩ := R.cell n p _ e1 e2'
          exact rs.belowR fun n h => by
            have := Option.ne_none_iff_exists.mp h
            obtain ⟨x, hx⟩ := this
            exact (List.getElem?_eq_some_iff.mp hx.symm).1
        · rw [e2'] at z1
          cases z1
          rw [hl]
          exact z2
  · rw [if_neg c]
    exact ⟨g', st, R1, r⟩
end
/-! ### the table of defs -/
structure DI where
  st : Stmt
  name : Str
  qual : Str
  ps : List Str
  N : List Str
  mutN : List Str := []
  retM : Bool := false
  retF : Bool := false
  argM : Bool := false
def scopeB (d : DI) : Bool := (match (defScope d.st).kind with
    | .function => true
    | _ => false) && ((defScope d.st).isCoroutine == false) && ((defScope d.st).isGenerator == false) && decide d.N.Nodup && decide (d.N.take d.ps.length = d.ps) &&
  d.ps.all (fun x => match (defScope d.st).names.lookup x with
    | some .local => true
    | some .cell => true
    | _ => false) && (defScope d.st).names.all fun y => match y.2 with
    | .free => false
    | _ => true
theorem scopeB_ok {d : DI} (h : scopeB d = true) : FnScope d.N d.ps (defScope d.st) := by
  unfold scopeB at h
  simp only [Bool.and_eq_true, decide_eq_true_eq, beq_iff_eq, List.all_eq_true] at h
  obtain ⟨⟨⟨⟨⟨⟨h1, h2⟩, h3⟩, h4⟩, h5⟩, h6⟩, h7⟩ := h
  refine ⟨?_, h2, h3, h4, h5, fun x hx => ?_, fun y hy e => ?_⟩
  · split at h1
    · assumption
    · cases h1
  · have q := h6 x hx
    split at q
    · exact .inl (by assumption)
    · exact .inr (by assumption)
    · cases q
  · have q := h7 y hy
    rw [e] at q
    cases q
def ctxOf (gl : List (Str × D)) (fns : List (Str × Nat)) (d : DI) : Ctx := { N := d.N, names := (defScope d.st).names, fnb := fun _ => true, gl := gl, fns := fns, mutN := d.mutN, retM := d.retM, retF := d.retF, argM := d.argM }
def cDef (gl : List (Str × D)) (fns : List (Str × Nat)) (d : DI) : Option Def := if scopeB d then (blkOf (cS (recN 40) 20) (ctxOf gl fns d) (defBody d.st)).map fun b => ⟨d.ps.length, d.N.length, b⟩ else none
/-- the names of a table's defs -/
def fnsOf : Nat → List DI → List (Str × Nat)
  | _, [] => []
  | n, d :: ds => (d.name, n) :: fnsOf (n + 1) ds
def cTab (gl : List (Str × D)) (fns : List (Str × Nat)) : List DI → Option (List Def)
  | [] => some []
  | d :: ds => match cDef gl fns d, cTab gl fns ds with
    | some a, some as => some (a :: as)
    | _, _ => none
theorem fnsOf_at : ∀ {ds : List DI} {n : Nat} {x : Str} {f : Nat}, (fnsOf n ds).lookup x = some f → ∃ (i : Nat) (d' : DI), ds[i]? = some d' ∧ d'.name = x ∧ f = n + i
  | [], _, _, _, h => by cases h
  | d :: ds, n, x, f, h => by
    simp only [fnsOf, List.lookup_cons] at h
    split at h
    · rename_i e
      cases h
      exact ⟨0, d, rfl, by simpa using (beq_iff_eq.mp e).symm, rfl⟩
    · obtain ⟨i, d', h1, h2, h3⟩ := fnsOf_at h
      exact ⟨i + 1, d', h1, h2, by omega⟩
theorem cTab_at {gl : List (Str × D)} {fns : List (Str × Nat)} : ∀ {ds : List DI} {fs : List Def} {i : Nat} {d : DI}, cTab gl fns ds = some fs → ds[i]? = some d → ∃ a, fs[i]? = some a ∧ cDef gl fns d = some a
  | [], _, _, _, _, h => by simp at h
  | d :: ds, fs, i, d', h, e => by
    simp only [cTab] at h
    split at h
    · rename_i a as h1 h2
      cases h
      cases i with
      | zero => simp at e; subst e; exact ⟨a, rfl, h1⟩
      | succ i =>
        obtain ⟨b, q1, q2⟩ := cTab_at (i := i) h2 (by simpa using e)
        exact ⟨b, by simpa using q1, q2⟩
    · cases h
section
variable {P : Program} {w : World} {K : PySem.W.Frag} {mg : Str → Option Value} {base : Heap}
/-- what the written part must hold of the defs, constants, built-ins -/
structure Txts (K : PySem.W.Frag) (mg : Str → Option Value) (gl : List (Str × D)) (tab : List DI) : Prop where
  defs : ∀ (i : Nat) (d : DI), tab[i]? = some d → ∃ fa fd, Fun K d.name d.qual d.st fa fd ∧ mg d.name = some (.ref fa) ∧ Binds K fd d.ps []
  gl : ∀ x d, gl.lookup x = some d → ∃ v u, mg x = some u ∧ RelV v u ∧ ∀ g, Rep K g v d
  blt : ∀ x ∈ bltNames, mg x = none
theorem env0_ok {g : G} {vs : List V} {ds : List D} {N : List Str} {n : Nat} (rs : Reps K g vs ds) (hn : n = N.length) : RelE K g (ds.map some ++ List.replicate (n - ds.length) none) (L2.start N vs) := by
  subst hn
  refine ⟨by unfold L2.start; simp [rs.len], fun i d h => ?_⟩
  unfold L2.start
  by_cases hi : i < ds.length
  · rw [List.getElem?_append_left (by simpa using hi), List.getElem?_map] at h
    cases e : ds[i]? with
    | none => rw [e] at h; cases h
    | some d' =>
      rw [e] at h
      cases h
      obtain ⟨v, hv, r⟩ := rs.get e
      exact ⟨v, by rw [List.getElem?_append_left (by rw [List.length_map, rs.len]; exact hi), List.getElem?_map, hv]; rfl, r⟩
  · rw [List.getElem?_append_right (by simpa using hi), List.getElem?_replicate] at h
    split at h <;> cases h
theorem tab_ok {gl : List (Str × D)} {tab : List DI} {fs : List Def} {cls : Nat → Option Addr} (T : Txts K mg gl tab) (hc : cTab gl (fnsOf 0 tab) tab = some fs) :
    ∀ (n i : Nat) (d : DI), tab[i]? = some d → ∃ fa fd, Fun K d.name d.qual d.st fa fd ∧ mg d.name = some (.ref fa) ∧ PySem.W.keepIn K (.ref fa) = true ∧ Binds K fd d.ps [] ∧ FnOk P w K mg base (L2.CX P w) n fa fd d.ps (spOf ⟨K, run fs n, cls⟩ i) := by
  intro n
  induction n with
  | zero =>
    intro i d hd
    obtain ⟨fa, fd, F, hm, hb⟩ := T.defs i d hd
    have no : ∀ vs H Q E, ¬ spOf ⟨K, run fs 0, cls⟩ i vs H Q E := fun vs H Q E ⟨g, M, ds, R, rs, q⟩ => q
    exact ⟨fa, fd, F, hm, F.kp, hb, ⟨fun vs H Q E h => (no vs H Q E h).elim, fun A outer s H args us vs Q E hr e0 hb hv h => (no vs H Q E h).elim⟩⟩
  | succ n ih =>
    intro i d hd
    obtain ⟨fa, fd, F, hm, hb⟩ := T.defs i d hd
    refine ⟨fa, fd, F, hm, F.kp, hb, ?_⟩
    obtain ⟨df, hdf, hcd⟩ := cTab_at hc hd
    unfold cDef at hcd
    split at hcd
    · rename_i hsc
      simp only [Option.map_eq_some_iff] at hcd
      obtain ⟨b, hb0, rfl⟩ := hcd
      have Sc := scopeB_ok hsc
      have run_eq : ∀ ds M, run fs (n + 1) i ds M = if ds.length = d.ps.length then (match execs (run fs n) b (ds.map some ++ List.replicate (d.N.length - ds.length) none) M with
        | .done (.rt r) _ M1 => .ok r (trim M r M1)
        | .done .nx _ M1 => .ok .non (trim M .non M1)
        | .done (.ex x) _ M1 => .exc x M1
        | _ => .bad)
        else .bad := fun ds M => by
        simp only [run, hdf]
        try rfl
      refine F.okX Sc (fun vs H Q E h => ?_) (fun cdv A outer s H vs Q E hr h => ?_)
      · obtain ⟨g, M, ds, R, rs, q⟩ := h
        have q : Post ⟨K, run fs (n + 1), cls⟩ _ g H [] (run fs (n + 1) i ds M) _ := q
        rw [run_eq] at q
        by_cases hl : ds.length = d.ps.length
        · rw [rs.len, hl]
        · rw [if_neg hl] at q
          exact False.elim q
      · obtain ⟨g, M, ds, R, rs, q⟩ := h
        have q : Post ⟨K, run fs (n + 1), cls⟩ _ g H [] (run fs (n + 1) i ds M) _ := q
        rw [run_eq] at q
        by_cases hl : ds.length = d.ps.length
        · rw [if_pos hl] at q
          have S0 : Stat ⟨K, run fs n, cls⟩ (fun cls d _ H => E cls d H) n (cxOf (L2.CX P w) P w K mg base d.N d.qual (defScope d.st) fa cdv A outer s H E) (ctxOf gl (fnsOf 0 tab) d) := by
            refine ⟨rfl, Sc.nd, rfl, Sc.kind, fun _ _ => rfl, rfl, rfl, hr, takes_of rfl rfl rfl rfl, T.gl, fun x f hx => ?_, T.blt⟩
            obtain ⟨j, d', h1, h2, h3⟩ := fnsOf_at hx
            rw [Nat.zero_add] at h3
            subst h3 h2
            obtain ⟨fa', fd', _, m', k', b', F'⟩ := ih _ d' h1
            exact ⟨fa', fd', d'.ps, F', m', k', b'⟩
          refine ⟨_, blkOf_ok (fun s s' hs => cS_ok S0 (recN_ok 40) (passes_of rfl) 20 s s' hs) hb0, g, _, M, R, env0_ok rs rfl, ?_⟩
          cases he : execs (run fs n) b (ds.map some ++ List.replicate (d.N.length - ds.length) none) M with
          | bad => rw [he] at q; exact q
          | done f env' M1 =>
            rw [he] at q
            intro g' H' σ' st R' RE'
            cases f with
            | nx =>
              obtain ⟨g2, st2, R2, r2⟩ := trim_ok R st R' (d := .non) (v := .non) .non
              exact q g2 H' st2 R2 .non r2
            | rt r =>
              intro v rv
              obtain ⟨g2, st2, R2, r2⟩ := trim_ok R st R' rv
              exact q g2 H' st2 R2 v r2
            | ex x => exact fun c dx X => q g' H' c dx st R' X
            | bk => exact q
            | ct => exact q
        · rw [if_neg hl] at q
          exact False.elim q
    · cases hcd
/-- the law's promise at its own call -/
theorem law_sp {gl : List (Str × D)} {tab : List DI} {fs : List Def} {cls : Nat → Option Addr} {n i : Nat} (h : ∀ ns : List Int, ns.length ≤ 63 → ∃ M, run fs n i [.klist (ns.map .int)] [] = .ok (.bl true) M) (H : Hp) (a : Addr) (ns : List Int) (hl : ns.length ≤ 63) (hs : SqL K H a (ns.map V.int)) :
    spOf ⟨K, run fs n, cls⟩ i [.ref a] H (fun v _ => v = .bl true) fun _ _ _ => False := by
  obtain ⟨M, e⟩ := h ns hl
  have allI : ∀ l : List Int, Reps K ⟨H, []⟩ (l.map V.int) (l.map D.int) := fun l => by
    induction l with
    | nil => exact .nil
    | cons x l ih => exact .cons (.int x) ih
  refine ⟨⟨H, []⟩, [], [.klist (ns.map .int)], ⟨Same.refl _, rfl, by simp, by simp, fun n a c e => by simp at e⟩, .cons (.klst hs (allI ns)) .nil, ?_⟩
  show Post ⟨K, run fs n, cls⟩ _ _ H [] (run fs n i _ []) _
  rw [e]
  intro g' H' st R v r
  cases r
  rfl
end
end DP

/-! DP.End: what the head tells of the defs and constants. -/
namespace DP
open PySem PySem.Spec PyProof.Rows L2
/-- a def as it stands behind the top -/
structure At (K : PySem.W.Frag) (st : Stmt) (x q : Str) (f : Addr) : Prop where
  n : PySem.W.nsIn K mainGlobals x = some (some (.ref f))
  l : ∃ (oc : Value) (od an : Option Addr) (kV doc pm cdv ct : Value) (sl : Array (Option Value)), K.lookup f = some ⟨oc, od, .func (PySem.W.fnOf x q (defArgs st) (defBody st) (defScope st) .none kV doc pm an cdv ct), sl⟩ ∧ PySem.W.codeIn K cdv q = true
  k : PySem.W.keepIn K (.ref f) = true
theorem At.mk' {K : PySem.W.Frag} {st : Stmt} {x q : Str} {f : Addr} {oc : Value} {od an : Option Addr} {kV doc pm cdv ct : Value} {sl : Array (Option Value)} (n : PySem.W.nsIn K mainGlobals x = some (some (.ref f)))
    (l : K.lookup f = some ⟨oc, od, .func (PySem.W.fnOf x q (defArgs st) (defBody st) (defScope st) .none kV doc pm an cdv ct), sl⟩) (c : PySem.W.codeIn K cdv q = true) (k : PySem.W.keepIn K (.ref f) = true) : ∃ f, At K st x q f := ⟨f, n, ⟨_, _, _, _, _, _, _, _, _, l, c⟩, k⟩
/-- how its arguments bind -/
def BindOk (st : Stmt) (x q : Str) (ps : List Str) : Prop := ∀ (kV doc pm : Value) (an : Option Addr) (cdv ct : Value) (us : List Value), us.length = ps.length → bindArgs (PySem.W.fnOf x q (defArgs st) (defBody st) (defScope st) .none kV doc pm an cdv ct) ⟨us, []⟩ = pure (ps.zip us)
def DefOk (K : PySem.W.Frag) (mg : Str → Option Value) (d : DI) : Prop := ∃ fa fd, Fun K d.name d.qual d.st fa fd ∧ mg d.name = some (.ref fa) ∧ Binds K fd d.ps []
theorem At.ok {K : PySem.W.Frag} {h : Heap} {mg : Str → Option Value} (X : K.In h) (G : h.Ns mainGlobals mg) {d : DI} (a : ∃ f, At K d.st d.name d.qual f) (b : BindOk d.st d.name d.qual d.ps) : DefOk K mg d := by
  obtain ⟨f, n, ⟨oc, od, an, kV, doc, pm, cdv, ct, sl, l, c⟩, k⟩ := a
  have F : Fun K d.name d.qual d.st f _ := fun_mk l c k
  exact ⟨f, _, F, PySem.W.mg_of X G n, F.binds b⟩
/-- a constant -/
def GlOk (K : PySem.W.Frag) (mg : Str → Option Value) (x : Str) (d : D) : Prop := ∃ v u, mg x = some u ∧ RelV v u ∧ ∀ g, Rep K g v d
section
variable {K : PySem.W.Frag} {h : Heap} {mg : Str → Option Value} (X : K.In h) (G : h.Ns mainGlobals mg)
include X G
theorem gl_int {x : Str} {i : Int} {t : Tok} (n : PySem.W.nsIn K mainGlobals x = some (some (.int i t))) : GlOk K mg x (.int i) := ⟨.int i, _, PySem.W.mg_of X G n, ⟨t, rfl⟩, fun _ => .int _⟩
theorem gl_str {x : Str} {i : Str} {t : Tok} (n : PySem.W.nsIn K mainGlobals x = some (some (.str i t))) : GlOk K mg x (.str i) := ⟨.str i, _, PySem.W.mg_of X G n, ⟨t, rfl⟩, fun _ => .str _⟩
theorem gl_tup {x : Str} {a : Addr} {ds : List D} {od : Option Addr} {its : Array Value} {nn : Nat} {sl : Array (Option Value)} {vs : List V} (n : PySem.W.nsIn K mainGlobals x = some (some (.ref a))) (l : K.lookup a = some ⟨.type "tuple", od, .seq its nn, sl⟩) (hz : its.size ≤ sizeLine)
    (hv : Vals vs its.toList) (hr : ∀ g, Reps K g vs ds) : GlOk K mg x (.tup ds) := ⟨.ref a, _, PySem.W.mg_of X G n, rfl, fun g => .tup (.inr ⟨_, its, nn, l, rfl, rfl, hz, hv⟩) (hr g)⟩
end
theorem all_nil {α : Type} {P : α → Prop} : ∀ d ∈ ([] : List α), P d := fun _ h => by cases h
theorem all_cons {α : Type} {P : α → Prop} {a : α} {l : List α} (h : P a) (t : ∀ d ∈ l, P d) : ∀ d ∈ a :: l, P d := fun d m => by
  rcases List.mem_cons.mp m with e | m
  · exact e ▸ h
  · exact t d m
theorem lookup_mem {α : Type} : ∀ {l : List (Str × α)} {x : Str} {d : α}, l.lookup x = some d → (x, d) ∈ l
  | [], _, _, h => by cases h
  | (y, e) :: l, x, d, h => by
    rw [List.lookup_cons] at h
    split at h
    · rename_i q
      cases h
      rw [beq_iff_eq.mp q]
      exact List.mem_cons_self
    · exact List.mem_cons_of_mem _ (lookup_mem h)
theorem txts_mk {K : PySem.W.Frag} {mg : Str → Option Value} {gl : List (Str × D)} {tab : List DI} (h1 : ∀ d ∈ tab, DefOk K mg d) (h2 : ∀ p ∈ gl, GlOk K mg p.1 p.2) (h3 : ∀ x ∈ bltNames, mg x = none) : Txts K mg gl tab :=
  ⟨fun i d e => h1 d (List.mem_of_getElem? e), fun x d e => h2 (x, d) (lookup_mem e), h3⟩
/-- two looks at one def -/
theorem Fun.same {K : PySem.W.Frag} {x q : Str} {st : Stmt} {f : Addr} {fd fd' : FuncData} (a : Fun K x q st f fd) (b : Fun K x q st f fd') : fd = fd' := by
  obtain ⟨_, _, _, _, _, _, _, _, _, _, l, _⟩ := a.ex
  obtain ⟨_, _, _, _, _, _, _, _, _, _, l', _⟩ := b.ex
  rw [l] at l'
  injection l' with e
  injection e with _ _ e _
  injection e
theorem law_fn {P : Program} {w : World} {K : PySem.W.Frag} {mg : Str → Option Value} {fa : Addr} {gl : List (Str × D)} {tab : List DI} {fs : List Def} {n i : Nat} {d : DI} (T : Txts K mg gl tab) (hc : cTab gl (fnsOf 0 tab) tab = some fs) (hd : tab[i]? = some d) (hp : d.ps = (["script"] : List Str)) (hfa : mg d.name = some (.ref fa)) (hb : BindOk d.st d.name d.qual d.ps) :
    ∃ fd : FuncData, (∀ (s : Shared) (v : Value), BindsTo s fd ⟨[v], []⟩ [("script", v)]) ∧ ∀ base : Heap, FnOk P w K mg base (L2.CX P w) n fa fd ["script"] (spOf ⟨K, run fs n, fun _ => none⟩ i) := by
  obtain ⟨fa', fd, F, hm, _⟩ := T.defs i d hd
  have e : fa' = fa := by
    have e := hm.symm.trans hfa
    cases e
    rfl
  subst e
  refine ⟨fd, fun s v => ?_, fun base => ?_⟩
  · obtain ⟨oc, od, kV, doc, pm, an, cdv, ct, osl, e, lk, hcd⟩ := F.ex
    subst e
    have := hb kV doc pm an cdv ct [v] (by rw [hp]; rfl)
    rw [hp] at this
    exact .of_eq this
  · obtain ⟨fb, fd', F2, m2, _, _, G⟩ := tab_ok (P := P) (w := w) (base := base) (cls := fun _ => none) T hc n i d hd
    have e2 : fb = fa' := by
      have e := m2.symm.trans hm
      cases e
      rfl
    subst e2
    rw [DP.Fun.same F F2, ← hp]
    exact G
end DP

namespace K00
open PySem L2 DP
def top (i : Nat) : Stmt := PySem.Challenge.pw_everylater_k00_lines_of_a_text.main.body.getD i (.Pass ⟨0, 0, 0, 0⟩)
def tab : List DI := [
  { st := top 7, name := "text_lines", qual := "text_lines", ps := ["text", "lines", "signs"], N := ["text", "lines", "signs", "found", "line"] },
  { st := top 13, name := "word_like", qual := "word_like", ps := ["text"], N := ["text", "sign"] },
  { st := top 14, name := "number_like", qual := "number_like", ps := ["text"], N := ["text", "figures", "sign"] },
  { st := top 18, name := "parted", qual := "parted", ps := ["words", "sign"], N := ["words", "sign", "found", "word"], mutN := ["found"], retF := true, argM := true },
  { st := top 19, name := "read_condition", qual := "read_condition", ps := ["words"], N := ["words", "sign", "behind", "word", "numbers", "at"] },
  { st := top 20, name := "read_conditions", qual := "read_conditions", ps := ["words", "sign", "least", "most"], N := ["words", "sign", "least", "most", "found", "part"] },
  { st := top 21, name := "read_plain", qual := "read_plain", ps := ["words"], N := ["words", "told"] },
  { st := top 22, name := "read_form", qual := "read_form", ps := ["words"], N := ["words", "first", "found", "parts", "behind"] },
  { st := top 23, name := "condition_text", qual := "condition_text", ps := ["condition"], N := ["condition", "name", "sign", "numbers", "number"] },
  { st := top 24, name := "form_text", qual := "form_text", ps := ["form"], N := ["form", "condition", "ifs", "listed"] },
  { st := top 28, name := "read_lines", qual := "read_lines", ps := ["text"], N := ["text", "found", "at", "line"], mutN := ["found"] },
  { st := top 29, name := "read_line", qual := "read_line", ps := ["line", "number"], N := ["line", "number", "sign", "words", "found"] },
  { st := top 30, name := "words_like", qual := "words_like", ps := ["words"], N := ["words", "word"] },
  { st := top 31, name := "line_of", qual := "line_of", ps := ["words"], N := ["words", "kind", "form"] },
  { st := top 33, name := "line_text", qual := "line_text", ps := ["line"], N := ["line", "kind"] },
  { st := top 34, name := "print_lines", qual := "print_lines", ps := ["lines"], N := ["lines", "line"] },
  { st := top 36, name := "_law_keywords", qual := "_law_keywords", ps := [], N := [] },
  { st := top 37, name := "_law_signs", qual := "_law_signs", ps := ["source", "many"], N := ["source", "many", "letters", "found", "at"] },
  { st := top 38, name := "_law_word", qual := "_law_word", ps := ["source"], N := ["source"] },
  { st := top 39, name := "_law_figure", qual := "_law_figure", ps := ["source"], N := ["source", "found", "at"] },
  { st := top 40, name := "_law_numbers", qual := "_law_numbers", ps := ["source", "many"], N := ["source", "many", "found", "at"], mutN := ["found"] },
  { st := top 41, name := "_law_any_cond", qual := "_law_any_cond", ps := ["source"], N := ["source", "sign", "many"] },
  { st := top 42, name := "_law_any_conds", qual := "_law_any_conds", ps := ["source", "least", "most"], N := ["source", "least", "most", "many", "at"] },
  { st := top 43, name := "_law_any_form", qual := "_law_any_form", ps := ["source"], N := ["source", "kind", "behind"] },
  { st := top 44, name := "_law_any_words", qual := "_law_any_words", ps := ["source"], N := ["source", "at"] },
  { st := top 45, name := "_law_any_line", qual := "_law_any_line", ps := ["source"], N := ["source", "kind", "line"] },
  { st := top 46, name := "_law_any_lines", qual := "_law_any_lines", ps := ["source", "many"], N := ["source", "many", "at"] },
  { st := top 47, name := "_law_source", qual := "_law_source", ps := ["script", "at"], N := ["script", "at", "cell", "one", "size", "small"], retM := true },
  { st := top 48, name := "_law_pick", qual := "_law_pick", ps := ["source", "many"], N := ["source", "many", "found"] },
  { st := top 49, name := "_law_same", qual := "_law_same", ps := ["answer", "due"], N := ["answer", "due", "key", "at"] },
  { st := top 50, name := "_law_copied", qual := "_law_copied", ps := ["thing"], N := ["thing", "one", "key"] },
  { st := top 51, name := "_law_cond_text", qual := "_law_cond_text", ps := ["cond"], N := ["cond", "number"] },
  { st := top 52, name := "_law_form_text", qual := "_law_form_text", ps := ["form"], N := ["form", "one"] },
  { st := top 53, name := "_law_line", qual := "_law_line", ps := ["line"], N := ["line"] },
  { st := top 54, name := "_law_text", qual := "_law_text", ps := ["lines"], N := ["lines", "line"] },
  { st := top 55, name := "law", qual := "law", ps := ["script"], N := ["script", "source", "other", "lines", "more", "text", "again", "told", "kept"] }]
def gl : List (Str × D) := [("LINES", (.int (600))), ("SIGNS", (.int (800))), ("LETTERS", (.str "abcdefghijklmnopqrstuvwxyz")), ("FIGURES", (.str "0123456789")), ("LINE_SIGNS", (.str "abcdefghijklmnopqrstuvwxyz0123456789 :+<>=,-")), ("KEYWORDS", (.tup [(.str "name"), (.str "row"), (.str "must"), (.str "block"), (.str "end"), (.str "use"), (.str "mustuse"), (.str "close"), (.str "either"), (.str "or"), (.str "if"), (.str "and"), (.str "then"), (.str "at"), (.str "most"), (.str "least"), (.str "of"), (.str "in"), (.str "not")])), ("CONDITIONS", (.int (8))), ("CHOICES", (.int (13))), ("LINE_WORDS", (.tup [(.str "name"), (.str "row"), (.str "must"), (.str "use"), (.str "mustuse"), (.str "block"), (.str "end"), (.str "close")])), ("PARAMETERS", (.int (4)))]
end K00

namespace K00
open PySem L2 DP
/-- text_lines: ["text", "lines", "signs", "found", "line"] -/
def b_text_lines : List S := [
    .ife (.pr .eq [(.v 0), (.c (.str ""))]) [.ret (.pr .list [])] [],
    .asg (.nm 3) (.meth .split "str" (.meth .rmsuf "str" (.v 0) [(.c (.str "\n"))]) [(.c (.str "\n"))]),
    .ife (.pr .gt [(.pr .len [(.v 3)]), (.v 1)]) [.never] [],
    .for_ (.nm 4) .seq [(.v 3)] [.ife (.pr .gt [(.pr .len [(.v 4)]), (.v 2)]) [.never] []],
    .ret (.v 3)]
/-- word_like: ["text", "sign"] -/
def b_word_like : List S := [
    .ife (.or_ (.pr .eq [(.v 0), (.c (.str ""))]) (.or_ (.pr .gt [(.pr .len [(.v 0)]), (.c (.int (12)))]) (.or_ (.pr .in_ [(.v 0), (.c (.tup [(.str "name"), (.str "row"), (.str "must"), (.str "block"), (.str "end"), (.str "use"), (.str "mustuse"), (.str "close"), (.str "either"), (.str "or"), (.str "if"), (.str "and"), (.str "then"), (.str "at"), (.str "most"), (.str "least"), (.str "of"), (.str "in"), (.str "not")]))]) (.pr .notIn [(.pr .idx [(.v 0), (.c (.int (0)))]), (.c (.str "abcdefghijklmnopqrstuvwxyz"))])))) [.ret (.c (.bl false))] [],
    .for_ (.nm 1) .seq [(.v 0)] [.ife (.and_ (.pr .notIn [(.v 1), (.c (.str "abcdefghijklmnopqrstuvwxyz"))]) (.pr .notIn [(.v 1), (.c (.str "0123456789"))])) [.ret (.c (.bl false))] []],
    .ret (.c (.bl true))]
/-- number_like: ["text", "figures", "sign"] -/
def b_number_like : List S := [
    .asg (.nm 1) (.meth .rmpre "str" (.v 0) [(.c (.str "-"))]),
    .ife (.or_ (.pr .eq [(.v 1), (.c (.str ""))]) (.pr .gt [(.pr .len [(.v 1)]), (.c (.int (31)))])) [.ret (.c (.bl false))] [],
    .for_ (.nm 2) .seq [(.v 1)] [.ife (.pr .notIn [(.v 2), (.c (.str "0123456789"))]) [.ret (.c (.bl false))] []],
    .ret (.or_ (.pr .ne [(.pr .idx [(.v 1), (.c (.int (0)))]), (.c (.str "0"))]) (.pr .eq [(.v 0), (.c (.str "0"))]))]
/-- parted: ["words", "sign", "found", "word"] -/
def b_parted : List S := [
    .asg (.nm 2) (.pr .listM [(.pr .listM [])]),
    .for_ (.nm 3) .seq [(.v 0)] [.ife (.pr .eq [(.v 3), (.v 1)]) [.ex (.meth .append "list" (.v 2) [(.pr .listM [])])] [.ex (.meth .append "list" (.pr .idx [(.v 2), (.pr .neg [(.c (.int (1)))])]) [(.v 3)])]],
    .ret (.pr .freeze [(.v 2)])]
/-- read_condition: ["words", "sign", "behind", "word", "numbers", "at"] -/
def b_read_condition : List S := [
    .ife (.or_ (.pr .lt [(.pr .len [(.v 0)]), (.c (.int (3)))]) (.pr .not_ [(.call 1 [(.pr .idx [(.v 0), (.c (.int (0)))])])])) [.ret (.c .non)] [],
    .ife (.pr .in_ [(.pr .idx [(.v 0), (.c (.int (1)))]), (.pr .tup [(.c (.str ">=")), (.c (.str "<=")), (.c (.str "="))])]) [.ife (.or_ (.pr .ne [(.pr .len [(.v 0)]), (.c (.int (3)))]) (.pr .not_ [(.call 2 [(.pr .idx [(.v 0), (.c (.int (2)))])])])) [.ret (.c .non)] [], .ret (.pr .tup [(.pr .idx [(.v 0), (.c (.int (0)))]), (.pr .idx [(.v 0), (.c (.int (1)))]), (.pr .tup [(.pr .int_ [(.pr .idx [(.v 0), (.c (.int (2)))])])])])] [],
    .asg (.nm 1) (.c (.str "in")),
    .asg (.nm 2) (.pr (.slice true false) [(.v 0), (.c (.int (2)))]),
    .ife (.and_ (.pr .eq [(.pr .idx [(.v 0), (.c (.int (1)))]), (.c (.str "not"))]) (.pr .eq [(.pr .idx [(.v 0), (.c (.int (2)))]), (.c (.str "in"))])) [.asg (.nm 1) (.c (.str "not in")), .asg (.nm 2) (.pr (.slice true false) [(.v 0), (.c (.int (3)))])] [.ife (.pr .ne [(.pr .idx [(.v 0), (.c (.int (1)))]), (.c (.str "in"))]) [.ret (.c .non)] []],
    .ife (.or_ (.pr .eq [(.v 2), (.pr .list [])]) (.pr .gt [(.pr .len [(.v 2)]), (.c (.int (8)))])) [.ret (.c .non)] [],
    .ife (.pr .not_ [(.pr .all [(.comp false [3] (.nm 3) .seq [(.v 2)] none (.call 2 [(.v 3)]))])]) [.ret (.c .non)] [],
    .asg (.nm 4) (.comp false [3] (.nm 3) .seq [(.v 2)] none (.pr .int_ [(.v 3)])),
    .for_ (.nm 5) .rng2 [(.c (.int (1))), (.pr .len [(.v 4)])] [.ife (.pr .ge [(.pr .idx [(.v 4), (.pr .sub [(.v 5), (.c (.int (1)))])]), (.pr .idx [(.v 4), (.v 5)])]) [.ret (.c .non)] []],
    .ret (.pr .tup [(.pr .idx [(.v 0), (.c (.int (0)))]), (.v 1), (.pr .tuple_ [(.v 4)])])]
/-- read_conditions: ["words", "sign", "least", "most", "found", "part"] -/
def b_read_conditions : List S := [
    .asg (.nm 4) (.comp false [5] (.nm 5) .seq [(.call 3 [(.v 0), (.v 1)])] none (.call 4 [(.v 5)])),
    .ife (.or_ (.pr .lt [(.pr .len [(.v 4)]), (.v 2)]) (.or_ (.pr .gt [(.pr .len [(.v 4)]), (.v 3)]) (.pr .in_ [(.c .non), (.v 4)]))) [.ret (.c .non)] [],
    .ret (.pr .tuple_ [(.v 4)])]
/-- read_plain: ["words", "told"] -/
def b_read_plain : List S := [
    .ife (.and_ (.pr .eq [(.pr .len [(.v 0)]), (.c (.int (5)))]) (.and_ (.pr .eq [(.pr .idx [(.v 0), (.c (.int (1)))]), (.c (.str "+"))]) (.pr .eq [(.pr .idx [(.v 0), (.c (.int (3)))]), (.c (.str "<="))]))) [.ife (.and_ (.call 1 [(.pr .idx [(.v 0), (.c (.int (0)))])]) (.and_ (.call 2 [(.pr .idx [(.v 0), (.c (.int (2)))])]) (.call 1 [(.pr .idx [(.v 0), (.c (.int (4)))])]))) [.ret (.pr .tup [(.c (.str "order")), (.pr .idx [(.v 0), (.c (.int (0)))]), (.pr .int_ [(.pr .idx [(.v 0), (.c (.int (2)))])]), (.pr .idx [(.v 0), (.c (.int (4)))])])] [], .ret (.c .non)] [],
    .asg (.nm 1) (.call 4 [(.v 0)]),
    .ret (.ite (.pr .isN [(.v 1)]) (.c .non) (.pr .tup [(.c (.str "is")), (.v 1)]))]
/-- read_form: ["words", "first", "found", "parts", "behind"] -/
def b_read_form : List S := [
    .asg (.nm 1) (.ite (.pr .ne [(.v 0), (.pr .list [])]) (.pr .idx [(.v 0), (.c (.int (0)))]) (.c (.str ""))),
    .ife (.pr .eq [(.v 1), (.c (.str "either"))]) [.asg (.nm 2) (.call 5 [(.pr (.slice true false) [(.v 0), (.c (.int (1)))]), (.c (.str "or")), (.c (.int (2))), (.c (.int (13)))]), .ret (.ite (.pr .isN [(.v 2)]) (.c .non) (.pr .tup [(.c (.str "either")), (.v 2)]))] [],
    .ife (.pr .eq [(.v 1), (.c (.str "if"))]) [.asg (.nm 3) (.call 3 [(.pr (.slice true false) [(.v 0), (.c (.int (1)))]), (.c (.str "then"))]), .ife (.pr .ne [(.pr .len [(.v 3)]), (.c (.int (2)))]) [.ret (.c .non)] [], .asg (.nm 2) (.call 5 [(.pr .idx [(.v 3), (.c (.int (0)))]), (.c (.str "and")), (.c (.int (1))), (.c (.int (8)))]), .asg (.nm 4) (.call 6 [(.pr .idx [(.v 3), (.c (.int (1)))])]), .ret (.ite (.or_ (.pr .isN [(.v 2)]) (.pr .isN [(.v 4)])) (.c .non) (.pr .tup [(.c (.str "if")), (.v 2), (.v 4)]))] [],
    .ife (.pr .eq [(.v 1), (.c (.str "at"))]) [.ife (.or_ (.pr .lt [(.pr .len [(.v 0)]), (.c (.int (5)))]) (.or_ (.pr .notIn [(.pr .idx [(.v 0), (.c (.int (1)))]), (.pr .tup [(.c (.str "most")), (.c (.str "least"))])]) (.pr .ne [(.pr .idx [(.v 0), (.c (.int (3)))]), (.c (.str "of"))]))) [.ret (.c .non)] [], .asg (.nm 2) (.call 5 [(.pr (.slice true false) [(.v 0), (.c (.int (4)))]), (.c (.str ",")), (.c (.int (1))), (.c (.int (8)))]), .ret (.ite (.or_ (.pr .isN [(.v 2)]) (.pr .not_ [(.call 2 [(.pr .idx [(.v 0), (.c (.int (2)))])])])) (.c .non) (.pr .tup [(.pr .idx [(.v 0), (.c (.int (1)))]), (.pr .int_ [(.pr .idx [(.v 0), (.c (.int (2)))])]), (.v 2)]))] [],
    .ret (.call 6 [(.v 0)])]
/-- condition_text: ["condition", "name", "sign", "numbers", "number"] -/
def b_condition_text : List S := [
    .asg (.tp [1, 2, 3]) (.v 0),
    .ret (.meth .join "str" (.c (.str " ")) [(.pr .add [(.pr .list [(.v 1), (.v 2)]), (.comp false [4] (.nm 4) .seq [(.v 3)] none (.pr .str_ [(.v 4)]))])])]
/-- form_text: ["form", "condition", "ifs", "listed"] -/
def b_form_text : List S := [
    .ife (.pr .eq [(.pr .idx [(.v 0), (.c (.int (0)))]), (.c (.str "is"))]) [.ret (.call 8 [(.pr .idx [(.v 0), (.c (.int (1)))])])] [],
    .ife (.pr .eq [(.pr .idx [(.v 0), (.c (.int (0)))]), (.c (.str "order"))]) [.ret (.fstr [(.pr .fmt1 [(.pr .idx [(.v 0), (.c (.int (1)))])]), (.c (.str " + ")), (.pr .fmt1 [(.pr .idx [(.v 0), (.c (.int (2)))])]), (.c (.str " <= ")), (.pr .fmt1 [(.pr .idx [(.v 0), (.c (.int (3)))])])])] [],
    .ife (.pr .eq [(.pr .idx [(.v 0), (.c (.int (0)))]), (.c (.str "either"))]) [.ret (.pr .add [(.c (.str "either ")), (.meth .join "str" (.c (.str " or ")) [(.comp false [1] (.nm 1) .seq [(.pr .idx [(.v 0), (.c (.int (1)))])] none (.call 8 [(.v 1)]))])])] [],
    .ife (.pr .eq [(.pr .idx [(.v 0), (.c (.int (0)))]), (.c (.str "if"))]) [.asg (.nm 2) (.meth .join "str" (.c (.str " and ")) [(.comp false [1] (.nm 1) .seq [(.pr .idx [(.v 0), (.c (.int (1)))])] none (.call 8 [(.v 1)]))]), .ret (.pr .add [(.pr .add [(.pr .add [(.c (.str "if ")), (.v 2)]), (.c (.str " then "))]), (.call 9 [(.pr .idx [(.v 0), (.c (.int (2)))])])])] [],
    .asg (.nm 3) (.meth .join "str" (.c (.str " , ")) [(.comp false [1] (.nm 1) .seq [(.pr .idx [(.v 0), (.c (.int (2)))])] none (.call 8 [(.v 1)]))]),
    .ret (.fstr [(.c (.str "at ")), (.pr .fmt1 [(.pr .idx [(.v 0), (.c (.int (0)))])]), (.c (.str " ")), (.pr .fmt1 [(.pr .idx [(.v 0), (.c (.int (1)))])]), (.c (.str " of ")), (.pr .fmt1 [(.v 3)])])]
/-- read_lines: ["text", "found", "at", "line"] -/
def b_read_lines : List S := [
    .asg (.nm 1) (.pr .listM []),
    .for_ (.tp [2, 3]) .enum [(.call 0 [(.v 0), (.c (.int (600))), (.c (.int (800)))])] [.ex (.meth .append "list" (.v 1) [(.call 11 [(.v 3), (.pr .add [(.v 2), (.c (.int (1)))])])])],
    .ret (.v 1)]
/-- read_line: ["line", "number", "sign", "words", "found"] -/
def b_read_line : List S := [
    .ife (.pr .eq [(.meth .strip "str" (.v 0) [(.c (.str " "))]), (.c (.str ""))]) [.never] [],
    .ife (.or_ (.pr .not_ [(.pr .all [(.comp false [2] (.nm 2) .seq [(.v 0)] none (.pr .in_ [(.v 2), (.c (.str "abcdefghijklmnopqrstuvwxyz0123456789 :+<>=,-"))]))])]) (.pr .in_ [(.c (.str "  ")), (.v 0)])) [.never] [],
    .ife (.or_ (.pr .eq [(.pr .idx [(.v 0), (.c (.int (0)))]), (.c (.str " "))]) (.pr .eq [(.pr .idx [(.v 0), (.pr .neg [(.c (.int (1)))])]), (.c (.str " "))])) [.never] [],
    .asg (.nm 3) (.meth .split "str" (.v 0) [(.c (.str " "))]),
    .ife (.pr .notIn [(.pr .idx [(.v 3), (.c (.int (0)))]), (.c (.tup [(.str "name"), (.str "row"), (.str "must"), (.str "use"), (.str "mustuse"), (.str "block"), (.str "end"), (.str "close")]))]) [.never] [],
    .asg (.nm 4) (.call 13 [(.v 3)]),
    .ife (.pr .isN [(.v 4)]) [.never] [],
    .ret (.v 4)]
/-- words_like: ["words", "word"] -/
def b_words_like : List S := [
    .ife (.or_ (.pr .eq [(.v 0), (.pr .list [])]) (.pr .gt [(.pr .len [(.v 0)]), (.c (.int (4)))])) [.ret (.c (.bl false))] [],
    .ret (.pr .all [(.comp false [1] (.nm 1) .seq [(.v 0)] none (.call 1 [(.v 1)]))])]
/-- line_of: ["words", "kind", "form"] -/
def b_line_of : List S := [
    .asg (.nm 1) (.pr .idx [(.v 0), (.c (.int (0)))]),
    .ife (.pr .eq [(.v 1), (.c (.str "end"))]) [.ret (.ite (.pr .eq [(.pr .len [(.v 0)]), (.c (.int (1)))]) (.pr .tup [(.c (.str "end"))]) (.c .non))] [],
    .ife (.or_ (.pr .lt [(.pr .len [(.v 0)]), (.c (.int (2)))]) (.pr .not_ [(.call 1 [(.pr .idx [(.v 0), (.c (.int (1)))])])])) [.ret (.c .non)] [],
    .ife (.pr .eq [(.v 1), (.c (.str "close"))]) [.ret (.ite (.pr .eq [(.pr .len [(.v 0)]), (.c (.int (2)))]) (.pr .tup [(.c (.str "close")), (.pr .idx [(.v 0), (.c (.int (1)))])]) (.c .non))] [],
    .ife (.pr .eq [(.v 1), (.c (.str "name"))]) [.ife (.or_ (.pr .ne [(.pr .len [(.v 0)]), (.c (.int (4)))]) (.or_ (.pr .not_ [(.call 2 [(.pr .idx [(.v 0), (.c (.int (2)))])])]) (.pr .not_ [(.call 2 [(.pr .idx [(.v 0), (.c (.int (3)))])])]))) [.ret (.c .non)] [], .ret (.pr .tup [(.c (.str "name")), (.pr .idx [(.v 0), (.c (.int (1)))]), (.pr .int_ [(.pr .idx [(.v 0), (.c (.int (2)))])]), (.pr .int_ [(.pr .idx [(.v 0), (.c (.int (3)))])])])] [],
    .ife (.or_ (.pr .lt [(.pr .len [(.v 0)]), (.c (.int (4)))]) (.pr .ne [(.pr .idx [(.v 0), (.c (.int (2)))]), (.c (.str ":"))])) [.ret (.c .non)] [],
    .ife (.pr .eq [(.v 1), (.c (.str "block"))]) [.ret (.ite (.call 12 [(.pr (.slice true false) [(.v 0), (.c (.int (3)))])]) (.pr .tup [(.c (.str "block")), (.pr .idx [(.v 0), (.c (.int (1)))]), (.pr .tuple_ [(.pr (.slice true false) [(.v 0), (.c (.int (3)))])])]) (.c .non))] [],
    .ife (.pr .in_ [(.v 1), (.pr .tup [(.c (.str "row")), (.c (.str "must"))])]) [.asg (.nm 2) (.call 7 [(.pr (.slice true false) [(.v 0), (.c (.int (3)))])]), .ret (.ite (.pr .isN [(.v 2)]) (.c .non) (.pr .tup [(.v 1), (.pr .idx [(.v 0), (.c (.int (1)))]), (.v 2)]))] [],
    .ife (.or_ (.pr .not_ [(.call 1 [(.pr .idx [(.v 0), (.c (.int (3)))])])]) (.pr .not_ [(.call 12 [(.pr (.slice true false) [(.v 0), (.c (.int (4)))])])])) [.ret (.c .non)] [],
    .ret (.pr .tup [(.v 1), (.pr .idx [(.v 0), (.c (.int (1)))]), (.pr .idx [(.v 0), (.c (.int (3)))]), (.pr .tuple_ [(.pr (.slice true false) [(.v 0), (.c (.int (4)))])])])]
/-- line_text: ["line", "kind"] -/
def b_line_text : List S := [
    .asg (.nm 1) (.pr .idx [(.v 0), (.c (.int (0)))]),
    .ife (.pr .eq [(.v 1), (.c (.str "end"))]) [.ret (.c (.str "end"))] [],
    .ife (.pr .eq [(.v 1), (.c (.str "close"))]) [.ret (.pr .add [(.c (.str "close ")), (.pr .idx [(.v 0), (.c (.int (1)))])])] [],
    .ife (.pr .eq [(.v 1), (.c (.str "name"))]) [.ret (.fstr [(.c (.str "name ")), (.pr .fmt1 [(.pr .idx [(.v 0), (.c (.int (1)))])]), (.c (.str " ")), (.pr .fmt1 [(.pr .idx [(.v 0), (.c (.int (2)))])]), (.c (.str " ")), (.pr .fmt1 [(.pr .idx [(.v 0), (.c (.int (3)))])])])] [],
    .ife (.pr .in_ [(.v 1), (.pr .tup [(.c (.str "row")), (.c (.str "must"))])]) [.ret (.pr .add [(.pr .add [(.pr .add [(.pr .add [(.v 1), (.c (.str " "))]), (.pr .idx [(.v 0), (.c (.int (1)))])]), (.c (.str " : "))]), (.call 9 [(.pr .idx [(.v 0), (.c (.int (2)))])])])] [],
    .ife (.pr .eq [(.v 1), (.c (.str "block"))]) [.ret (.pr .add [(.pr .add [(.pr .add [(.c (.str "block ")), (.pr .idx [(.v 0), (.c (.int (1)))])]), (.c (.str " : "))]), (.meth .join "str" (.c (.str " ")) [(.pr .idx [(.v 0), (.c (.int (2)))])])])] [],
    .ret (.pr .add [(.pr .add [(.pr .add [(.pr .add [(.pr .add [(.pr .add [(.v 1), (.c (.str " "))]), (.pr .idx [(.v 0), (.c (.int (1)))])]), (.c (.str " : "))]), (.pr .idx [(.v 0), (.c (.int (2)))])]), (.c (.str " "))]), (.meth .join "str" (.c (.str " ")) [(.pr .idx [(.v 0), (.c (.int (3)))])])])]
/-- print_lines: ["lines", "line"] -/
def b_print_lines : List S := [
    .ret (.meth .join "str" (.c (.str "\n")) [(.comp false [1] (.nm 1) .seq [(.v 0)] none (.call 14 [(.v 1)]))])]
/-- _law_keywords: [] -/
def b__law_keywords : List S := [
    .ret (.pr .list [(.c (.str "name")), (.c (.str "row")), (.c (.str "must")), (.c (.str "block")), (.c (.str "end")), (.c (.str "use")), (.c (.str "mustuse")), (.c (.str "close")), (.c (.str "either")), (.c (.str "or")), (.c (.str "if")), (.c (.str "and")), (.c (.str "then")), (.c (.str "at")), (.c (.str "most")), (.c (.str "least")), (.c (.str "of")), (.c (.str "in")), (.c (.str "not"))])]
/-- _law_signs: ["source", "many", "letters", "found", "at"] -/
def b__law_signs : List S := [
    .asg (.nm 2) (.c (.str "abcdefghijklmnopqrstuvwxyz0123456789")),
    .asg (.nm 3) (.pr .idx [(.v 2), (.call 28 [(.v 0), (.c (.int (26)))])]),
    .for_ (.nm 4) .rng1 [(.pr .sub [(.v 1), (.c (.int (1)))])] [.asg (.nm 3) (.pr .add [(.v 3), (.pr .idx [(.v 2), (.call 28 [(.v 0), (.c (.int (36)))])])])],
    .ret (.ite (.pr .in_ [(.v 3), (.call 16 [])]) (.pr .add [(.v 3), (.c (.str "0"))]) (.v 3))]
/-- _law_word: ["source"] -/
def b__law_word : List S := [
    .ret (.call 17 [(.v 0), (.pr .add [(.c (.int (1))), (.call 28 [(.v 0), (.ite (.pr .eq [(.call 28 [(.v 0), (.c (.int (4)))]), (.c (.int (0)))]) (.c (.int (12))) (.c (.int (3))))])])])]
/-- _law_figure: ["source", "found", "at"] -/
def b__law_figure : List S := [
    .ife (.pr .gt [(.call 28 [(.v 0), (.c (.int (4)))]), (.c (.int (0)))]) [.ret (.pr .sub [(.call 28 [(.v 0), (.c (.int (12)))]), (.c (.int (4)))])] [],
    .asg (.nm 1) (.c (.int (0))),
    .for_ (.nm 2) .rng1 [(.pr .add [(.c (.int (1))), (.call 28 [(.v 0), (.c (.int (31)))])])] [.asg (.nm 1) (.pr .add [(.pr .mul [(.v 1), (.c (.int (10)))]), (.call 28 [(.v 0), (.c (.int (10)))])])],
    .ret (.pr .mul [(.v 1), (.pr .sub [(.c (.int (1))), (.pr .mul [(.c (.int (2))), (.call 28 [(.v 0), (.c (.int (2)))])])])])]
/-- _law_numbers: ["source", "many", "found", "at"] -/
def b__law_numbers : List S := [
    .asg (.nm 2) (.pr .listM [(.call 19 [(.v 0)])]),
    .ife (.pr .ge [(.pr .abs [(.pr .idx [(.v 2), (.c (.int (0)))])]), (.pr .pow [(.c (.int (10))), (.c (.int (30)))])]) [.asg (.nm 2) (.pr .listM [(.pr .fdiv [(.pr .idx [(.v 2), (.c (.int (0)))]), (.c (.int (1000)))])])] [],
    .for_ (.nm 3) .rng1 [(.pr .sub [(.v 1), (.c (.int (1)))])] [.ex (.meth .append "list" (.v 2) [(.pr .add [(.pr .add [(.pr .idx [(.v 2), (.v 3)]), (.c (.int (1)))]), (.call 28 [(.v 0), (.c (.int (9)))])])])],
    .ret (.pr .tuple_ [(.v 2)])]
/-- _law_any_cond: ["source", "sign", "many"] -/
def b__law_any_cond : List S := [
    .asg (.nm 1) (.pr .idx [(.pr .list [(.c (.str ">=")), (.c (.str "<=")), (.c (.str "=")), (.c (.str "in")), (.c (.str "not in"))]), (.call 28 [(.v 0), (.c (.int (5)))])]),
    .asg (.nm 2) (.ite (.pr .in_ [(.v 1), (.pr .tup [(.c (.str "in")), (.c (.str "not in"))])]) (.pr .add [(.c (.int (1))), (.call 28 [(.v 0), (.ite (.pr .eq [(.call 28 [(.v 0), (.c (.int (4)))]), (.c (.int (0)))]) (.c (.int (8))) (.c (.int (3))))])]) (.c (.int (1)))),
    .ret (.pr .tup [(.call 18 [(.v 0)]), (.v 1), (.call 20 [(.v 0), (.v 2)])])]
/-- _law_any_conds: ["source", "least", "most", "many", "at"] -/
def b__law_any_conds : List S := [
    .asg (.nm 3) (.ite (.pr .eq [(.call 28 [(.v 0), (.c (.int (4)))]), (.c (.int (0)))]) (.pr .add [(.v 1), (.call 28 [(.v 0), (.pr .add [(.pr .sub [(.v 2), (.v 1)]), (.c (.int (1)))])])]) (.pr .add [(.v 1), (.call 28 [(.v 0), (.c (.int (2)))])])),
    .ret (.pr .tuple_ [(.comp false [4] (.nm 4) .rng1 [(.v 3)] none (.call 21 [(.v 0)]))])]
/-- _law_any_form: ["source", "kind", "behind"] -/
def b__law_any_form : List S := [
    .asg (.nm 1) (.call 28 [(.v 0), (.c (.int (7)))]),
    .ife (.pr .eq [(.v 1), (.c (.int (0)))]) [.ret (.pr .tup [(.c (.str "is")), (.call 21 [(.v 0)])])] [],
    .ife (.pr .eq [(.v 1), (.c (.int (1)))]) [.ret (.pr .tup [(.c (.str "order")), (.call 18 [(.v 0)]), (.call 19 [(.v 0)]), (.call 18 [(.v 0)])])] [],
    .ife (.pr .eq [(.v 1), (.c (.int (2)))]) [.ret (.pr .tup [(.c (.str "either")), (.call 22 [(.v 0), (.c (.int (2))), (.c (.int (13)))])])] [],
    .ife (.pr .eq [(.v 1), (.c (.int (3)))]) [.ret (.pr .tup [(.c (.str "if")), (.call 22 [(.v 0), (.c (.int (1))), (.c (.int (8)))]), (.pr .tup [(.c (.str "is")), (.call 21 [(.v 0)])])])] [],
    .ife (.pr .eq [(.v 1), (.c (.int (4)))]) [.asg (.nm 2) (.pr .tup [(.c (.str "order")), (.call 18 [(.v 0)]), (.call 19 [(.v 0)]), (.call 18 [(.v 0)])]), .ret (.pr .tup [(.c (.str "if")), (.call 22 [(.v 0), (.c (.int (1))), (.c (.int (8)))]), (.v 2)])] [],
    .ret (.pr .tup [(.pr .idx [(.pr .list [(.c (.str "most")), (.c (.str "least"))]), (.pr .sub [(.v 1), (.c (.int (5)))])]), (.call 19 [(.v 0)]), (.call 22 [(.v 0), (.c (.int (1))), (.c (.int (8)))])])]
/-- _law_any_words: ["source", "at"] -/
def b__law_any_words : List S := [
    .ret (.pr .tuple_ [(.comp false [1] (.nm 1) .rng1 [(.pr .add [(.c (.int (1))), (.call 28 [(.v 0), (.c (.int (4)))])])] none (.call 18 [(.v 0)]))])]
/-- _law_any_line: ["source", "kind", "line"] -/
def b__law_any_line : List S := [
    .asg (.nm 1) (.call 28 [(.v 0), (.c (.int (9)))]),
    .asg (.nm 2) (.pr .tup [(.c (.str "end"))]),
    .ife (.pr .eq [(.v 1), (.c (.int (0)))]) [.asg (.nm 2) (.pr .tup [(.c (.str "name")), (.call 18 [(.v 0)]), (.call 19 [(.v 0)]), (.call 19 [(.v 0)])])] [.ife (.pr .le [(.v 1), (.c (.int (3)))]) [.asg (.nm 2) (.pr .tup [(.c (.str "row")), (.call 18 [(.v 0)]), (.call 23 [(.v 0)])])] [.ife (.pr .eq [(.v 1), (.c (.int (4)))]) [.asg (.nm 2) (.pr .tup [(.c (.str "must")), (.call 18 [(.v 0)]), (.call 23 [(.v 0)])])] [.ife (.pr .le [(.v 1), (.c (.int (6)))]) [.asg (.nm 2) (.pr .tup [(.pr .idx [(.pr .list [(.c (.str "use")), (.c (.str "mustuse"))]), (.pr .sub [(.v 1), (.c (.int (5)))])]), (.call 18 [(.v 0)]), (.call 18 [(.v 0)]), (.call 24 [(.v 0)])])] [.ife (.pr .eq [(.v 1), (.c (.int (7)))]) [.asg (.nm 2) (.pr .tup [(.c (.str "block")), (.call 18 [(.v 0)]), (.call 24 [(.v 0)])])] [.ife (.pr .eq [(.call 28 [(.v 0), (.c (.int (2)))]), (.c (.int (0)))]) [.asg (.nm 2) (.pr .tup [(.c (.str "close")), (.call 18 [(.v 0)])])] []]]]]],
    .ret (.ite (.pr .le [(.pr .len [(.call 33 [(.v 2)])]), (.c (.int (800)))]) (.v 2) (.pr .tup [(.c (.str "end"))]))]
/-- _law_any_lines: ["source", "many", "at"] -/
def b__law_any_lines : List S := [
    .ret (.comp false [2] (.nm 2) .rng1 [(.v 1)] none (.call 25 [(.v 0)]))]
/-- _law_source: ["script", "at", "cell", "one", "size", "small"] -/
def b__law_source : List S := [
    .asg (.nm 2) (.ite (.pr .lt [(.v 1), (.pr .len [(.v 0)])]) (.pr .int_ [(.pr .idx [(.v 0), (.v 1)])]) (.pr .add [(.pr .mul [(.c (.int (31))), (.pr .sum [(.comp false [3] (.nm 3) .seq [(.pr (.slice false true) [(.v 0), (.c (.int (6)))])] none (.pr .mod [(.pr .int_ [(.v 3)]), (.c (.int (999979)))]))])]), (.c (.int (19)))])),
    .asg (.nm 4) (.pr .mod [(.pr .abs [(.v 2)]), (.pr .mul [(.pr .pow [(.c (.int (10))), (.c (.int (60)))]), (.pr .pow [(.c (.int (10))), (.c (.int (60)))])])]),
    .asg (.nm 5) (.pr .mod [(.pr .int_ [(.pr .add [(.pr .add [(.pr .add [(.pr .mul [(.c (.int (2))), (.v 4)]), (.ite (.pr .lt [(.v 2), (.c (.int (0)))]) (.c (.int (1))) (.c (.int (0))))]), (.pr .mul [(.v 1), (.c (.int (130003)))])]), (.c (.int (70001)))])]), (.c (.int (2147483629)))]),
    .ret (.pr .listM [(.ite (.pr .ge [(.v 4), (.pr .pow [(.c (.int (10))), (.c (.int (18)))])]) (.v 4) (.c (.int (0)))), (.pr .mod [(.pr .int_ [(.pr .mul [(.pr .add [(.v 5), (.c (.int (5113)))]), (.pr .add [(.v 5), (.c (.int (91193)))])])]), (.c (.int (2147483629)))]), (.v 1)])]
/-- _law_pick: ["source", "many", "found"] -/
def b__law_pick : List S := [
    .ife (.pr .gt [(.pr .idx [(.v 0), (.c (.int (0)))]), (.c (.int (0)))]) [.asg (.nm 2) (.pr .mod [(.pr .int_ [(.pr .idx [(.v 0), (.c (.int (0)))])]), (.v 1)]), .setIx (.v 0) (.c (.int (0))) (.pr .fdiv [(.pr .idx [(.v 0), (.c (.int (0)))]), (.v 1)]), .ret (.v 2)] [],
    .augIx (.v 0) (.c (.int (2))) .iadd (.c (.int (1))),
    .setIx (.v 0) (.c (.int (1))) (.pr .mod [(.pr .int_ [(.pr .add [(.pr .mul [(.pr .idx [(.v 0), (.c (.int (1)))]), (.c (.int (48271)))]), (.pr .mul [(.pr .idx [(.v 0), (.c (.int (2)))]), (.c (.int (60013)))])])]), (.c (.int (2147483647)))]),
    .ret (.pr .mod [(.pr .fdiv [(.pr .mod [(.pr .int_ [(.pr .add [(.pr .mul [(.pr .idx [(.v 0), (.c (.int (1)))]), (.c (.int (16807)))]), (.pr .mul [(.pr .idx [(.v 0), (.c (.int (2)))]), (.c (.int (7411)))])])]), (.c (.int (2147483629)))]), (.c (.int (8)))]), (.v 1)])]
/-- _law_same: ["answer", "due", "key", "at"] -/
def b__law_same : List S := [
    .ife (.or_ (.pr .isN [(.v 1)]) (.pr .isN [(.v 0)])) [.ret (.and_ (.pr .isN [(.v 1)]) (.pr .isN [(.v 0)]))] [],
    .ife (.or_ (.pr (.isinst "bool") [(.v 1)]) (.pr (.isinst "bool") [(.v 0)])) [.ret (.and_ (.pr (.isinst "bool") [(.v 1)]) (.and_ (.pr (.isinst "bool") [(.v 0)]) (.pr .eq [(.v 0), (.v 1)])))] [],
    .ife (.pr (.isinst "int") [(.v 1)]) [.ret (.and_ (.pr (.isinst "int") [(.v 0)]) (.pr .eq [(.v 0), (.v 1)]))] [],
    .ife (.pr (.isinst "str") [(.v 1)]) [.ret (.and_ (.pr (.isinst "str") [(.v 0)]) (.pr .eq [(.v 0), (.v 1)]))] [],
    .ife (.pr (.isinst "dict") [(.v 1)]) [.ife (.or_ (.pr .not_ [(.pr (.isinst "dict") [(.v 0)])]) (.pr .not_ [(.call 29 [.never, .never])])) [.ret (.c (.bl false))] [], .ret (.pr .all [(.comp false [2] (.nm 2) .seq [(.v 1)] none (.call 29 [(.pr .idx [(.v 0), (.v 2)]), (.pr .idx [(.v 1), (.v 2)])]))])] [],
    .ife (.and_ (.pr (.isinst "tuple") [(.v 1)]) (.pr .not_ [(.pr (.isinst "tuple") [(.v 0)])])) [.ret (.c (.bl false))] [],
    .ife (.and_ (.pr (.isinst "list") [(.v 1)]) (.pr .not_ [(.pr (.isinst "list") [(.v 0)])])) [.ret (.c (.bl false))] [],
    .ife (.pr .ne [(.pr .len [(.v 0)]), (.pr .len [(.v 1)])]) [.ret (.c (.bl false))] [],
    .ret (.pr .all [(.comp false [3] (.nm 3) .rng1 [(.pr .len [(.v 1)])] none (.call 29 [(.pr .idx [(.v 0), (.v 3)]), (.pr .idx [(.v 1), (.v 3)])]))])]
/-- _law_copied: ["thing", "one", "key"] -/
def b__law_copied : List S := [
    .ife (.pr (.isinst "list") [(.v 0)]) [.ret (.comp false [1] (.nm 1) .seq [(.v 0)] none (.call 30 [(.v 1)]))] [],
    .ife (.pr (.isinst "tuple") [(.v 0)]) [.ret (.pr .tuple_ [(.comp false [1] (.nm 1) .seq [(.v 0)] none (.call 30 [(.v 1)]))])] [],
    .ife (.pr (.isinst "dict") [(.v 0)]) [.ret .never] [],
    .ret (.v 0)]
/-- _law_cond_text: ["cond", "number"] -/
def b__law_cond_text : List S := [
    .ret (.meth .join "str" (.c (.str " ")) [(.pr .add [(.pr .list [(.pr .idx [(.v 0), (.c (.int (0)))]), (.pr .idx [(.v 0), (.c (.int (1)))])]), (.comp false [1] (.nm 1) .seq [(.pr .idx [(.v 0), (.c (.int (2)))])] none (.pr .str_ [(.v 1)]))])])]
/-- _law_form_text: ["form", "one"] -/
def b__law_form_text : List S := [
    .ife (.pr .eq [(.pr .idx [(.v 0), (.c (.int (0)))]), (.c (.str "is"))]) [.ret (.call 31 [(.pr .idx [(.v 0), (.c (.int (1)))])])] [],
    .ife (.pr .eq [(.pr .idx [(.v 0), (.c (.int (0)))]), (.c (.str "order"))]) [.ret (.pr .add [(.pr .add [(.pr .add [(.pr .add [(.pr .idx [(.v 0), (.c (.int (1)))]), (.c (.str " + "))]), (.pr .str_ [(.pr .idx [(.v 0), (.c (.int (2)))])])]), (.c (.str " <= "))]), (.pr .idx [(.v 0), (.c (.int (3)))])])] [],
    .ife (.pr .eq [(.pr .idx [(.v 0), (.c (.int (0)))]), (.c (.str "either"))]) [.ret (.pr .add [(.c (.str "either ")), (.meth .join "str" (.c (.str " or ")) [(.comp false [1] (.nm 1) .seq [(.pr .idx [(.v 0), (.c (.int (1)))])] none (.call 31 [(.v 1)]))])])] [],
    .ife (.pr .eq [(.pr .idx [(.v 0), (.c (.int (0)))]), (.c (.str "if"))]) [.ret (.pr .add [(.pr .add [(.pr .add [(.c (.str "if ")), (.meth .join "str" (.c (.str " and ")) [(.comp false [1] (.nm 1) .seq [(.pr .idx [(.v 0), (.c (.int (1)))])] none (.call 31 [(.v 1)]))])]), (.c (.str " then "))]), (.call 32 [(.pr .idx [(.v 0), (.c (.int (2)))])])])] [],
    .ret (.pr .add [(.pr .add [(.pr .add [(.pr .add [(.pr .add [(.c (.str "at ")), (.pr .idx [(.v 0), (.c (.int (0)))])]), (.c (.str " "))]), (.pr .str_ [(.pr .idx [(.v 0), (.c (.int (1)))])])]), (.c (.str " of "))]), (.meth .join "str" (.c (.str " , ")) [(.comp false [1] (.nm 1) .seq [(.pr .idx [(.v 0), (.c (.int (2)))])] none (.call 31 [(.v 1)]))])])]
/-- _law_line: ["line"] -/
def b__law_line : List S := [
    .ife (.pr .eq [(.pr .idx [(.v 0), (.c (.int (0)))]), (.c (.str "end"))]) [.ret (.c (.str "end"))] [],
    .ife (.pr .eq [(.pr .idx [(.v 0), (.c (.int (0)))]), (.c (.str "name"))]) [.ret (.pr .add [(.pr .add [(.pr .add [(.pr .add [(.pr .add [(.c (.str "name ")), (.pr .idx [(.v 0), (.c (.int (1)))])]), (.c (.str " "))]), (.pr .str_ [(.pr .idx [(.v 0), (.c (.int (2)))])])]), (.c (.str " "))]), (.pr .str_ [(.pr .idx [(.v 0), (.c (.int (3)))])])])] [],
    .ife (.pr .eq [(.pr .idx [(.v 0), (.c (.int (0)))]), (.c (.str "close"))]) [.ret (.pr .add [(.c (.str "close ")), (.pr .idx [(.v 0), (.c (.int (1)))])])] [],
    .ife (.pr .in_ [(.pr .idx [(.v 0), (.c (.int (0)))]), (.pr .tup [(.c (.str "row")), (.c (.str "must"))])]) [.ret (.pr .add [(.pr .add [(.pr .add [(.pr .add [(.pr .idx [(.v 0), (.c (.int (0)))]), (.c (.str " "))]), (.pr .idx [(.v 0), (.c (.int (1)))])]), (.c (.str " : "))]), (.call 32 [(.pr .idx [(.v 0), (.c (.int (2)))])])])] [],
    .ife (.pr .eq [(.pr .idx [(.v 0), (.c (.int (0)))]), (.c (.str "block"))]) [.ret (.pr .add [(.pr .add [(.pr .add [(.c (.str "block ")), (.pr .idx [(.v 0), (.c (.int (1)))])]), (.c (.str " : "))]), (.meth .join "str" (.c (.str " ")) [(.pr .list_ [(.pr .idx [(.v 0), (.c (.int (2)))])])])])] [],
    .ret (.pr .add [(.pr .add [(.pr .add [(.pr .add [(.pr .add [(.pr .add [(.pr .idx [(.v 0), (.c (.int (0)))]), (.c (.str " "))]), (.pr .idx [(.v 0), (.c (.int (1)))])]), (.c (.str " : "))]), (.pr .idx [(.v 0), (.c (.int (2)))])]), (.c (.str " "))]), (.meth .join "str" (.c (.str " ")) [(.pr .list_ [(.pr .idx [(.v 0), (.c (.int (3)))])])])])]
/-- _law_text: ["lines", "line"] -/
def b__law_text : List S := [
    .ret (.meth .join "str" (.c (.str "\n")) [(.comp false [1] (.nm 1) .seq [(.v 0)] none (.call 33 [(.v 1)]))])]
/-- law: ["script", "source", "other", "lines", "more", "text", "again", "told", "kept"] -/
def b_law : List S := [
    .asg (.nm 1) (.call 27 [(.v 0), (.c (.int (0)))]),
    .asg (.nm 2) (.call 27 [(.v 0), (.c (.int (1)))]),
    .asg (.nm 3) (.call 26 [(.v 1), (.pr .add [(.c (.int (1))), (.call 28 [(.v 1), (.c (.int (10)))])])]),
    .ife (.pr .eq [(.call 28 [(.v 1), (.c (.int (8)))]), (.c (.int (0)))]) [.asg (.nm 3) (.pr .mul [(.v 3), (.c (.int (30)))])] [],
    .asg (.nm 4) (.call 26 [(.v 2), (.pr .add [(.c (.int (1))), (.call 28 [(.v 2), (.c (.int (6)))])])]),
    .asg (.nm 5) (.call 34 [(.v 3)]),
    .asg (.nm 6) (.call 34 [(.v 4)]),
    .asg (.nm 7) (.call 10 [(.v 5)]),
    .ife (.pr .not_ [(.call 29 [(.v 7), (.v 3)])]) [.ret (.c (.bl false))] [],
    .ex (.meth .append "list" (.v 7) [(.pr .tup [(.c (.str "end"))])]),
    .setIx (.v 7) (.c (.int (0))) (.pr .tup [(.c (.str "close")), (.c (.str "spoilt"))]),
    .ife (.pr .not_ [(.call 29 [(.call 10 [(.pr .add [(.v 6), (.c (.str "\n"))])]), (.v 4)])]) [.ret (.c (.bl false))] [],
    .ife (.pr .not_ [(.call 29 [(.call 10 [(.pr .add [(.v 5), (.c (.str "\n"))])]), (.v 3)])]) [.ret (.c (.bl false))] [],
    .asg (.nm 8) (.call 30 [(.v 3)]),
    .ife (.or_ (.pr .not_ [(.call 29 [(.call 15 [(.v 3)]), (.v 5)])]) (.pr .not_ [(.call 29 [(.call 15 [(.v 4)]), (.v 6)])])) [.ret (.c (.bl false))] [],
    .ife (.or_ (.pr .not_ [(.call 29 [(.v 3), (.v 8)])]) (.pr .not_ [(.call 29 [(.call 15 [(.v 3)]), (.v 5)])])) [.ret (.c (.bl false))] [],
    .ret (.and_ (.call 29 [(.call 10 [(.c (.str ""))]), (.pr .list [])]) (.call 29 [(.call 15 [(.pr .list [])]), (.c (.str ""))]))]


def fs : List Def := [⟨3, 5, b_text_lines⟩, ⟨1, 2, b_word_like⟩, ⟨1, 3, b_number_like⟩, ⟨2, 4, b_parted⟩, ⟨1, 6, b_read_condition⟩, ⟨4, 6, b_read_conditions⟩, ⟨1, 2, b_read_plain⟩, ⟨1, 5, b_read_form⟩, ⟨1, 5, b_condition_text⟩, ⟨1, 4, b_form_text⟩, ⟨1, 4, b_read_lines⟩, ⟨2, 5, b_read_line⟩, ⟨1, 2, b_words_like⟩, ⟨1, 3, b_line_of⟩, ⟨1, 2, b_line_text⟩, ⟨1, 2, b_print_lines⟩, ⟨0, 0, b__law_keywords⟩, ⟨2, 5, b__law_signs⟩, ⟨1, 1, b__law_word⟩, ⟨1, 3, b__law_figure⟩, ⟨2, 4, b__law_numbers⟩, ⟨1, 3, b__law_any_cond⟩, ⟨3, 5, b__law_any_conds⟩, ⟨1, 3, b__law_any_form⟩, ⟨1, 2, b__law_any_words⟩, ⟨1, 3, b__law_any_line⟩, ⟨2, 3, b__law_any_lines⟩, ⟨2, 6, b__law_source⟩, ⟨2, 3, b__law_pick⟩, ⟨2, 4, b__law_same⟩, ⟨1, 3, b__law_copied⟩, ⟨1, 2, b__law_cond_text⟩, ⟨1, 2, b__law_form_text⟩, ⟨1, 1, b__law_line⟩, ⟨1, 2, b__law_text⟩, ⟨1, 9, b_law⟩]
theorem fs_ok : cTab gl (fnsOf 0 tab) tab = some fs := by kernel_rfl
end K00

namespace K00
open PySem PySem.Spec PyProof.Rows L2 DP
/-- a call's end -/
noncomputable def fin (M : Mem) : SRes → Res D
  | .done (.rt r) _ M1 => .ok r (trim M r M1)
  | .done .nx _ M1 => .ok .non (trim M .non M1)
  | .done (.ex x) _ M1 => .exc x M1
  | _ => .bad
theorem run_at {fs : List Def} {n f : Nat} {ds : List D} {M : Mem} {d : Def} (h : fs[f]? = some d) (hl : ds.length = d.par) :
    DP.run fs (n + 1) f ds M = fin M (execs (DP.run fs n) d.body (ds.map some ++ List.replicate (d.names - ds.length) none) M) := by
  unfold DP.run
  rw [h]
  simp only [hl, if_true]
  unfold fin
  rfl
theorem trim_len {M M' : Mem} {d : D} (h : M'.length = M.length) : trim M d M' = M' := by
  unfold trim
  split
  · rw [← h, List.take_length]
  · rfl
@[simp] theorem trim_self (M : Mem) (d : D) : trim M d M = M := trim_len rfl
theorem trim_app {M M1 X : Mem} {d : D} (h : M1.length = M.length) (hb : below M.length d = true) (hk : ∀ k, k < M.length → M1[k]? = M[k]? ∨ ∃ c, M1[k]? = some c ∧ belowC M.length c = true) : trim M d (M1 ++ X) = M1 := by
  unfold trim
  rw [if_pos]
  · rw [← h, List.take_left']; rfl
  · refine ⟨hb, by simp [h], fun k hk' => ?_⟩
    have e : (M1 ++ X)[k]? = M1[k]? := List.getElem?_append_left (by omega)
    rw [e]
    exact hk k hk'
theorem trim_new {M X : Mem} {d : D} (hb : below M.length d = true) : trim M d (M ++ X) = M := trim_app rfl hb fun _ _ => .inl rfl
@[simp] theorem fin_ret {M M1 : Mem} {r : D} {env : DP.Env} : fin M (.done (.rt r) env M1) = .ok r (trim M r M1) := rfl
/-! ### strings -/
theorem shaped_str {x : Str} (h : PyData.strOk x = true) : SeqAt.shaped (.str x) = true := by
  unfold SeqAt.shaped
  rw [Bool.and_eq_true]
  refine ⟨?_, ?_⟩
  · show PyData.canLay0 (.str x) = true
    rw [PyData.canLay0]; exact h
  · exact decide_eq_true (by rw [PyData.depth]; omega)
theorem shaped_int {x : Int} : SeqAt.shaped (.int x) = true := by
  unfold SeqAt.shaped
  rw [Bool.and_eq_true]
  refine ⟨?_, ?_⟩
  · show PyData.canLay0 (.int x) = true
    rw [PyData.canLay0]
  · exact decide_eq_true (by rw [PyData.depth]; omega)
theorem pr_eq_str {M : Mem} {a b : Str} (ha : PyData.strOk a = true) (hb : PyData.strOk b = true) : pr .eq M [.str a, .str b] = some (.bl (decide (a = b)), M) := by
  show prEq M [.str a, .str b] = _
  unfold prEq pyM py
  simp only [shaped_str ha, shaped_str hb, and_self, if_true, okB, PyData.eqv]
  rfl
theorem pr_ne_str {M : Mem} {a b : Str} (ha : PyData.strOk a = true) (hb : PyData.strOk b = true) : pr .ne M [.str a, .str b] = some (.bl (!decide (a = b)), M) := by
  show prNe M [.str a, .str b] = _
  unfold prNe pyM py
  simp only [shaped_str ha, shaped_str hb, and_self, if_true, okB, PyData.eqv]
  rfl
@[simp] theorem pr_eq_int {M : Mem} {a b : Int} : pr .eq M [.int a, .int b] = some (.bl (decide (a = b)), M) := by
  show prEq M [.int a, .int b] = _
  unfold prEq pyM py
  simp only [shaped_int, and_self, if_true, okB, PyData.eqv]
  rfl
@[simp] theorem pr_ne_int {M : Mem} {a b : Int} : pr .ne M [.int a, .int b] = some (.bl (!decide (a = b)), M) := by
  show prNe M [.int a, .int b] = _
  unfold prNe pyM py
  simp only [shaped_int, and_self, if_true, okB, PyData.eqv]
  rfl
section
variable {M : Mem} {xs : List D} {i j : Int} {a b : Str} {d e : D}
@[simp] theorem pr_lt : pr .lt M [.int i, .int j] = some (.bl (decide (i < j)), M) := rfl
@[simp] theorem pr_le : pr .le M [.int i, .int j] = some (.bl (decide (i ≤ j)), M) := rfl
@[simp] theorem pr_gt : pr .gt M [.int i, .int j] = some (.bl (decide (j < i)), M) := rfl
@[simp] theorem pr_ge : pr .ge M [.int i, .int j] = some (.bl (decide (j ≤ i)), M) := rfl
@[simp] theorem pr_add : pr .add M [.int i, .int j] = some (.int (i + j), M) := rfl
@[simp] theorem pr_sub : pr .sub M [.int i, .int j] = some (.int (i - j), M) := rfl
@[simp] theorem pr_neg : pr .neg M [.int i] = some (.int (-i), M) := rfl
@[simp] theorem pr_isN : pr .isN M [d] = some (.bl d.isN, M) := rfl
@[simp] theorem pr_not {b : Bool} : pr .not_ M [.bl b] = some (.bl (!b), M) := rfl
@[simp] theorem pr_len_list : pr .len M [.list xs] = some (.int xs.length, M) := rfl
@[simp] theorem pr_len_tup : pr .len M [.tup xs] = some (.int xs.length, M) := rfl
theorem pr_len_str (h : a.length ≤ sizeLine) : pr .len M [.str a] = some (.int a.length, M) := by
  exact if_pos h
theorem pr_adds (h : a.length + b.length ≤ sizeLine) : pr .add M [.str a, .str b] = some (.str (a ++ b), M) := by
  exact if_pos h
theorem pr_addl {ys : List D} (h : xs.length + ys.length ≤ sizeLine) : pr .add M [.list xs, .list ys] = some (.list (xs ++ ys), M) := by
  show prAdd M [.list xs, .list ys] = _
  simp [prAdd, asLL, asL, h]
theorem atI_nat {α : Type} {xs : List α} (k : Nat) : atI xs (k : Int) = xs[k]? := by
  unfold atI ixN
  rw [if_pos (by omega)]
  by_cases h : k < xs.length
  · rw [if_pos (by omega)]; rfl
  · rw [if_neg (by omega)]
    simp only [Option.bind_none]
    exact (List.getElem?_eq_none (by omega)).symm
theorem pr_idx_list (h : atI xs i = some d) : pr .idx M [.list xs, .int i] = some (d, M) := by
  show prIdx M [.list xs, .int i] = _
  simp [prIdx, asSeq, asL, h]
theorem pr_idx_tup (h : atI xs i = some d) : pr .idx M [.tup xs, .int i] = some (d, M) := by
  show prIdx M [.tup xs, .int i] = _
  simp [prIdx, asSeq, asL, h]
theorem pr_idx_loc {n : Nat} (hm : M[n]? = some (.lst xs)) (h : atI xs i = some d) : pr .idx M [.loc n, .int i] = some (d, M) := by
  show prIdx M [.loc n, .int i] = _
  simp [prIdx, asSeq, asL, h, hm]
theorem pr_idx_str {c : Nat} (hz : a.length ≤ sizeLine) (h : atI a.cps.toList i = some c) : pr .idx M [.str a, .int i] = some (.str ⟨#[c]⟩, M) := by
  show prIdx M [.str a, .int i] = _
  simp [prIdx, h, hz]
theorem pr_tup (h : xs.length ≤ sizeLine) : pr .tup M xs = some (.tup xs, M) := by
  exact if_pos h
theorem pr_list (h : xs.length ≤ sizeLine) : pr .list M xs = some (.list xs, M) := by
  exact if_pos h
theorem pr_listM (h : xs.length ≤ sizeLine) : pr .listM M xs = some (.loc M.length, M ++ [.lst xs]) := by
  exact if_pos h
@[simp] theorem pr_tuple_list : pr .tuple_ M [.list xs] = some (.tup xs, M) := rfl
theorem pr_tuple_loc {n : Nat} (hm : M[n]? = some (.lst xs)) : pr .tuple_ M [.loc n] = some (.tup xs, M) := by
  show prTuple M [.loc n] = _
  simp [prTuple, asL, hm]
@[simp] theorem pr_list_tup : pr .list_ M [.tup xs] = some (.list xs, M) := rfl
@[simp] theorem pr_int_int : pr .int_ M [.int i] = some (.int i, M) := rfl
theorem pr_str_int (h : i.natAbs.log2 < 1920) : pr .str_ M [.int i] = some (.str (toString i), M) := by
  exact if_pos h
theorem pr_slice_lo {k : Nat} : pr (.slice true false) M [.list xs, .int k] = some (.list (xs.drop k), M) := by
  show slc M (some (k : Int)) none (.list xs) = _
  simp only [slc, asL, DP.cutD, HT.sIx_nat, HT.sIx_none]
  congr 3
  rw [List.take_of_length_le (by rw [List.length_drop]; omega)]
  by_cases h : k ≤ xs.length
  · rw [Nat.min_eq_left h]
  · rw [Nat.min_eq_right (by omega), List.drop_eq_nil_of_le (Nat.le_refl _), List.drop_eq_nil_of_le (by omega)]
theorem boolsOf_map (f : D → Bool) (xs : List D) : boolsOf (xs.map fun x => .bl (f x)) = some (xs.map f) := by
  induction xs with
  | nil => rfl
  | cons x xs ih => simp [boolsOf, ih]
theorem boolsOf_true : ∀ xs : List D, (∀ x ∈ xs, x = .bl true) → ∃ bs, boolsOf xs = some bs ∧ bs.all id = true
  | [], _ => ⟨[], rfl, rfl⟩
  | x :: xs, h => by
    obtain ⟨bs, e, t⟩ := boolsOf_true xs fun y m => h y (List.mem_cons_of_mem _ m)
    rw [h x List.mem_cons_self]
    exact ⟨true :: bs, by simp [boolsOf, e], by simpa using t⟩
theorem pr_all (h : ∀ x ∈ xs, x = .bl true) : pr .all M [.list xs] = some (.bl true, M) := by
  obtain ⟨bs, e, t⟩ := boolsOf_true xs h
  show prAll M [.list xs] = _
  simp only [prAll, asL, e, t, okB]
theorem strsOf_map : ∀ ss : List Str, strsOf (ss.map .str) = some ss
  | [] => rfl
  | s :: ss => by simp [strsOf, strsOf_map ss]
theorem pr_join {s : Str} {ss : List Str} (h : joinSize s ss ≤ 16777216) : pr .join M [.str s, .list (ss.map .str)] = some (.str (Txt.join s ss), M) := by
  show prJoin M [.str s, .list (ss.map .str)] = _
  simp only [prJoin, asSeq, asL, strsOf_map, if_pos h]
theorem pr_join_tup {s : Str} {ss : List Str} (h : joinSize s ss ≤ 16777216) : pr .join M [.str s, .tup (ss.map .str)] = some (.str (Txt.join s ss), M) := by
  show prJoin M [.str s, .tup (ss.map .str)] = _
  simp only [prJoin, asSeq, asL, strsOf_map, if_pos h]
@[simp] theorem pr_in_sign {c : Nat} {t : Str} : pr .in_ M [.str ⟨#[c]⟩, .str t] = some (.bl (decide (c ∈ t.cps.toList)), M) := by
  show prIn M [.str ⟨#[c]⟩, .str t] = _
  simp only [prIn, inB, okB]
@[simp] theorem pr_notIn_sign {c : Nat} {t : Str} : pr .notIn M [.str ⟨#[c]⟩, .str t] = some (.bl (!decide (c ∈ t.cps.toList)), M) := by
  show prNotIn M [.str ⟨#[c]⟩, .str t] = _
  simp only [prNotIn, inB, okB]
theorem pys_strs : ∀ ss : List Str, pys M 0 (ss.map .str) = some (ss.map .str)
  | [] => rfl
  | s :: ss => by simp [pys, py, pys_strs ss]
theorem canLayAll_strs : ∀ ss : List Str, (∀ s ∈ ss, PyData.strOk s = true) → PyData.canLayAll0 (ss.map .str) = true
  | [], _ => by simp [PyData.canLayAll0]
  | s :: ss, h => by
    simp only [List.map_cons, PyData.canLayAll0, Bool.and_eq_true]
    exact ⟨by simpa [PyData.canLay0] using h s List.mem_cons_self, canLayAll_strs ss fun y m => h y (List.mem_cons_of_mem _ m)⟩
end
end K00

namespace K00
open PySem PySem.Spec PyProof.Rows L2 DP
section
variable {call : Nat → List D → Mem → Res D} {env : DP.Env} {M : Mem} {a b c e : E} {es : List E} {d : D} {p : Pr} {s : S} {ss : List S}
@[simp] theorem ev_c : ev call (.c d) env M = .ok d M := by rw [ev]; try rfl
@[simp] theorem ev_v {i : Nat} : ev call (.v i) env M = (match env[i]? with | some (some d) => .ok d M | _ => .bad) := by rw [ev]; try rfl
@[simp] theorem ev_pr : ev call (.pr p es) env M = (evs call es env M).bind fun ds M1 => ofP (pr p M1 ds) := by rw [ev]; try rfl
@[simp] theorem ev_and : ev call (.and_ a b) env M = (ev call a env M).bind fun d M1 => match truth M1 d with
    | some true => ev call b env M1
    | some false => .ok d M1
    | none => .bad := by rw [ev]; try rfl
@[simp] theorem ev_or : ev call (.or_ a b) env M = (ev call a env M).bind fun d M1 => match truth M1 d with
    | some false => ev call b env M1
    | some true => .ok d M1
    | none => .bad := by rw [ev]; try rfl
@[simp] theorem ev_ite : ev call (.ite c a b) env M = (ev call c env M).bind fun d M1 => match truth M1 d with
    | some true => ev call a env M1
    | some false => ev call b env M1
    | none => .bad := by rw [ev]; try rfl
@[simp] theorem ev_call {f : Nat} : ev call (.call f es) env M = (evs call es env M).bind fun ds M1 => call f ds M1 := by rw [ev]; try rfl
@[simp] theorem ev_meth {t : String} : ev call (.meth p t e es) env M = (ev call e env M).bind fun d M1 => if d.ty M1 = some t then (evs call es env M1).bind fun ds M2 => ofP (pr p M2 (d :: ds)) else .bad := by rw [ev]; try rfl
@[simp] theorem ev_fstr : ev call (.fstr es) env M = match evs call es env M with
    | .ok ds M1 => ofP (prFmt M1 ds)
    | _ => .bad := by rw [ev]; try rfl
@[simp] theorem evs_nil : evs call [] env M = .ok [] M := by rw [evs]
@[simp] theorem evs_cons : evs call (e :: es) env M = (ev call e env M).bind fun d M1 => (evs call es env M1).bind fun ds M2 => .ok (d :: ds) M2 := by rw [evs]
/-- a comprehension without a condition whose list does not change later -/
noncomputable def compF (call : Nat → List D → Mem → Res D) (own : List Nat) (t : T) (elt : E) (env : DP.Env) (x : D) (M2 : Mem) : Res (Option D) := match store (wipeE env own) x t with
        | none => .bad
        | some env2 => (match ev call elt env2 M2 with
            | .ok d M4 => .ok (some d) M4
            | _ => .bad)
@[simp] theorem ev_comp {own : List Nat} {t : T} {k : SrcK} {src : List E} {elt : E} : ev call (.comp false own t k src none elt) env M = (evs call src env M).bind fun ds M1 => match walk M1 k ds with
    | none => .bad
    | some w => match compLoop w (compF call own t elt env) w.xs M1 with
      | .ok ys M5 => if ys.length ≤ sizeLine then .ok (.list ys) M5 else .bad
      | _ => .bad := by
  rw [ev]
  try rfl
@[simp] theorem ex_asg {t : T} : DP.exec call (.asg t e) env M = (ev call e env M).sb env fun d M1 => match store env d t with
    | some env1 => .done .nx env1 M1
    | none => .bad := by rw [DP.exec]; try rfl
@[simp] theorem ex_ret : DP.exec call (.ret e) env M = (ev call e env M).sb env fun d M1 => .done (.rt d) env M1 := by rw [DP.exec]; try rfl
@[simp] theorem ex_ex : DP.exec call (.ex e) env M = (ev call e env M).sb env fun _ M1 => .done .nx env M1 := by rw [DP.exec]; try rfl
@[simp] theorem ex_ife {a b : List S} : DP.exec call (.ife c a b) env M = (ev call c env M).sb env fun d M1 => match truth M1 d with
    | some true => execs call a env M1
    | some false => execs call b env M1
    | none => .bad := by rw [DP.exec]; try rfl
theorem ex_for {t : T} {k : SrcK} {src : List E} {body : List S} : DP.exec call (.for_ t k src body) env M = (evs call src env M).sb env fun ds M1 => match walk M1 k ds with
    | none => .bad
    | some w => forLoop w (fun x env2 M2 => match store env2 x t with
        | none => .bad
        | some env3 => execs call body env3 M2) w.xs env M1 := by rw [DP.exec]; try rfl
@[simp] theorem ex_setIx {o i e : E} : DP.exec call (.setIx o i e) env M = (ev call e env M).sb env fun d M1 => (ev call o env M1).sb env fun od M2 => (ev call i env M2).sb env fun id M3 => match prSetIdx M3 [od, id, d] with
    | some (_, M4) => .done .nx env M4
    | none => .bad := by rw [DP.exec]; try rfl
@[simp] theorem ex_augIx {o i e : E} : DP.exec call (.augIx o i p e) env M = (ev call o env M).sb env fun od M1 => (ev call i env M1).sb env fun id M2 => match prIdxL M2 [od, id] with
    | none => .bad
    | some (old, M3) => (ev call e env M3).sb env fun d2 M4 => match pr p M4 [old, d2] with
      | none => .bad
      | some (nw, M5) => match prSetIdx M5 [od, id, nw] with
        | some (_, M6) => .done .nx env M6
        | none => .bad := by rw [DP.exec]; try rfl
@[simp] theorem exs_nil : execs call [] env M = .done .nx env M := by rw [DP.execs]
@[simp] theorem exs_cons : execs call (s :: ss) env M = match DP.exec call s env M with
    | .done .nx env1 M1 => execs call ss env1 M1
    | r => r := by rw [DP.execs]; try rfl
@[simp] theorem store_nm {i : Nat} : store env d (.nm i) = some (env.set i (some d)) := rfl
@[simp] theorem store_tp {is : List Nat} {xs : List D} : store env (.tup xs) (.tp is) = setAll env is xs := rfl
@[simp] theorem setAll_nil : setAll env [] [] = some env := rfl
@[simp] theorem setAll_cons {i : Nat} {is : List Nat} {xs : List D} : setAll env (i :: is) (d :: xs) = setAll (env.set i (some d)) is xs := rfl
@[simp] theorem wipe_nil : wipeE env [] = env := rfl
@[simp] theorem wipe_cons {i : Nat} {is : List Nat} : wipeE env (i :: is) = (wipeE env is).set i none := rfl
@[simp] theorem truth_bl {b : Bool} : truth M (.bl b) = some b := rfl
@[simp] theorem ty_str {x : Str} : (D.str x).ty M = some "str" := rfl
@[simp] theorem ty_list {x : List D} : (D.list x).ty M = some "list" := rfl
@[simp] theorem ty_loc {n : Nat} {xs : List D} (h : M[n]? = some (.lst xs)) : (D.loc n).ty M = some "list" := by simp [D.ty, h]
@[simp] theorem walk_str {x : Str} : walk M .seq [.str x] = some (.items (x.cps.toList.map fun c => .str ⟨#[c]⟩)) := by rw [walk]
@[simp] theorem walk_list {xs : List D} : walk M .seq [.list xs] = some (.items xs) := rfl
@[simp] theorem walk_tup {xs : List D} : walk M .seq [.tup xs] = some (.items xs) := rfl
@[simp] theorem walk_enum {xs : List D} : walk M .enum [.list xs] = some (.items (enumD 0 xs)) := rfl
theorem walk_rng1 {j : Int} (h : -(2 ^ 62) ≤ j ∧ j < 2 ^ 62) : walk M .rng1 [.int j] = some (.items (rngD 0 j.toNat)) := if_pos h
theorem walk_rng2 {i j : Int} (h : -(2 ^ 62) ≤ i ∧ i < 2 ^ 62 ∧ -(2 ^ 62) ≤ j ∧ j < 2 ^ 62) : walk M .rng2 [.int i, .int j] = some (.items (rngD i (j - i).toNat)) := if_pos h
@[simp] theorem walk_xs {xs : List D} : (Walk.items xs).xs = xs := rfl
theorem compLoop_map {ys : List D} {f : D → Mem → Res (Option D)} {g : D → D} : ∀ (xs : List D), (∀ x ∈ xs, f x M = .ok (some (g x)) M) → compLoop (.items ys) f xs M = .ok (xs.map g) M
  | [], _ => by simp [compLoop, Walk.Ok]
  | x :: xs, h => by
    rw [compLoop, if_pos (by trivial), h x List.mem_cons_self]
    simp only [compLoop_map xs fun y m => h y (List.mem_cons_of_mem _ m), List.map_cons]
/-- .. over things read in another form -/
theorem compLoop_on {α : Type} {ys : List D} {f : D → Mem → Res (Option D)} (i : α → D) (g : α → D) : ∀ (xs : List α), (∀ x ∈ xs, f (i x) M = .ok (some (g x)) M) → compLoop (.items ys) f (xs.map i) M = .ok (xs.map g) M
  | [], _ => by simp [compLoop, Walk.Ok]
  | x :: xs, h => by
    rw [List.map_cons, compLoop, if_pos (by trivial), h x List.mem_cons_self]
    simp only [compLoop_on i g xs fun y m => h y (List.mem_cons_of_mem _ m), List.map_cons]
theorem forLoop_nx {ys : List D} {f : D → DP.Env → Mem → SRes} (P : DP.Env → Prop) : ∀ (xs : List D) (env : DP.Env), P env → (∀ x ∈ xs, ∀ env, P env → ∃ env', f x env M = .done .nx env' M ∧ P env') → ∃ env', forLoop (.items ys) f xs env M = .done .nx env' M ∧ P env'
  | [], env, h, _ => ⟨env, by simp [forLoop, Walk.Ok], h⟩
  | x :: xs, env, h, k => by
    obtain ⟨env1, e1, h1⟩ := k x List.mem_cons_self env h
    obtain ⟨env2, e2, h2⟩ := forLoop_nx P xs env1 h1 fun y m => k y (List.mem_cons_of_mem _ m)
    refine ⟨env2, ?_, h2⟩
    rw [forLoop, if_pos (by trivial), e1]
    exact e2
theorem for_nx {t : T} {k : SrcK} {src : List E} {body : List S} {xs : List D} (P : DP.Env → Prop) (he : P env) (hs : ((evs call src env M).bind fun ds M1 => match walk M1 k ds with | some (.items ys) => .ok ys M1 | _ => .bad) = .ok xs M)
    (hk : ∀ x ∈ xs, ∀ env, P env → ∃ env1 env2, store env x t = some env1 ∧ DP.execs call body env1 M = .done .nx env2 M ∧ P env2) : ∃ env', DP.exec call (.for_ t k src body) env M = .done .nx env' M ∧ P env' := by
  rw [ex_for]
  cases hq : evs call src env M with
  | bad => rw [hq] at hs; cases hs
  | exc => rw [hq] at hs; cases hs
  | ok ds M1 =>
    rw [hq] at hs
    simp only [Res.bind] at hs
    cases hw : walk M1 k ds with
    | none => rw [hw] at hs; cases hs
    | some w =>
      rw [hw] at hs
      cases w with
      | cell => cases hs
      | items ys =>
        cases hs
        simp only [Res.sb, hw]
        refine forLoop_nx P xs env he fun x hx env h => ?_
        obtain ⟨e1, e2, h1, h2, h3⟩ := hk x hx env h
        exact ⟨e2, by rw [h1]; exact h2, h3⟩
theorem for_nx2 {t : T} {k : SrcK} {src : List E} {body : List S} {xs ds : List D} (P : DP.Env → Prop) (he : P env) (h1 : evs call src env M = .ok ds M) (h2 : walk M k ds = some (.items xs))
    (hk : ∀ x ∈ xs, ∀ env, P env → ∃ env1 env2, store env x t = some env1 ∧ DP.execs call body env1 M = .done .nx env2 M ∧ P env2) : ∃ env', DP.exec call (.for_ t k src body) env M = .done .nx env' M ∧ P env' :=
  for_nx P he (by rw [h1]; show (match walk M k ds with | some (.items ys) => Res.ok ys M | _ => .bad) = _; rw [h2]) hk
@[simp] theorem pr_idxl {xs : List D} {i : Int} : pr .idx M [.list xs, .int i] = (match atI xs i with | some d => some (d, M) | none => none) := rfl
@[simp] theorem pr_idxt {xs : List D} {i : Int} : pr .idx M [.tup xs, .int i] = (match atI xs i with | some d => some (d, M) | none => none) := rfl
@[simp] theorem atI_0 {α : Type} {xs : List α} : atI xs 0 = xs[0]? := atI_nat 0
@[simp] theorem atI_1 {α : Type} {xs : List α} : atI xs 1 = xs[1]? := atI_nat 1
@[simp] theorem atI_2 {α : Type} {xs : List α} : atI xs 2 = xs[2]? := atI_nat 2
@[simp] theorem atI_3 {α : Type} {xs : List α} : atI xs 3 = xs[3]? := atI_nat 3
@[simp] theorem atI_4 {α : Type} {xs : List α} : atI xs 4 = xs[4]? := atI_nat 4
@[simp] theorem slice_1 {xs : List D} : pr (.slice true false) M [.list xs, .int 1] = some (.list (xs.drop 1), M) := pr_slice_lo (k := 1)
@[simp] theorem slice_2 {xs : List D} : pr (.slice true false) M [.list xs, .int 2] = some (.list (xs.drop 2), M) := pr_slice_lo (k := 2)
@[simp] theorem slice_3 {xs : List D} : pr (.slice true false) M [.list xs, .int 3] = some (.list (xs.drop 3), M) := pr_slice_lo (k := 3)
@[simp] theorem slice_4 {xs : List D} : pr (.slice true false) M [.list xs, .int 4] = some (.list (xs.drop 4), M) := pr_slice_lo (k := 4)
end
/-! ### words -/
def kws : List Str := ["name", "row", "must", "block", "end", "use", "mustuse", "close", "either", "or", "if", "and", "then", "at", "most", "least", "of", "in", "not"]
def letters : List Nat := (List.range 26).map (· + 97)
def figures : List Nat := (List.range 10).map (· + 48)
structure IsW (w : Str) : Prop where
  hd : ∃ c cs, TL.tl w = c :: cs ∧ 97 ≤ c ∧ c ≤ 122
  al : ∀ c ∈ TL.tl w, (97 ≤ c ∧ c ≤ 122) ∨ (48 ≤ c ∧ c ≤ 57)
  ln : w.length ≤ 12
  kw : w ∉ kws
theorem letters_in {c : Nat} : c ∈ ("abcdefghijklmnopqrstuvwxyz" : Str).cps.toList ↔ 97 ≤ c ∧ c ≤ 122 := by
  have e : ("abcdefghijklmnopqrstuvwxyz" : Str).cps.toList = (List.range 26).map (· + 97) := by decide
  rw [e]
  simp only [List.mem_map, List.mem_range]
  constructor
  · rintro ⟨k, h, rfl⟩; omega
  · intro h; exact ⟨c - 97, by omega, by omega⟩
theorem figures_in {c : Nat} : c ∈ ("0123456789" : Str).cps.toList ↔ 48 ≤ c ∧ c ≤ 57 := by
  have e : ("0123456789" : Str).cps.toList = (List.range 10).map (· + 48) := by decide
  rw [e]
  simp only [List.mem_map, List.mem_range]
  constructor
  · rintro ⟨k, h, rfl⟩; omega
  · intro h; exact ⟨c - 48, by omega, by omega⟩
theorem strOk_of {x : Str} (h : ∀ c ∈ TL.tl x, c < 1000) : PyData.strOk x = true := by
  unfold PyData.strOk
  rw [← Array.all_toList, List.all_eq_true]
  intro c hc
  have := h c hc
  exact decide_eq_true (by omega)
theorem ofString_eq {a b : String} : (Str.ofString a = Str.ofString b) ↔ a = b := by
  constructor
  · intro h
    have := congrArg TL.tl h
    rw [TL.tl_ofString, TL.tl_ofString] at this
    have inj : ∀ {l m : List Char}, l.map Char.toNat = m.map Char.toNat → l = m := by
      intro l
      induction l with
      | nil => intro m h; cases m with
        | nil => rfl
        | cons => cases h
      | cons x xs ih => intro m h; cases m with
        | nil => cases h
        | cons y ys =>
          simp only [List.map_cons, List.cons.injEq] at h
          rw [ih h.2, Char.toNat_inj.mp h.1]
    exact String.toList_inj.mp (inj this)
  · intro h; rw [h]
theorem strOk_lit {a : String} (h : (a.toList.all fun c => decide (c.toNat < 1000)) = true) : PyData.strOk (Str.ofString a) = true := strOk_of fun c hc => by
  rw [TL.tl_ofString] at hc
  obtain ⟨x, hx, rfl⟩ := List.mem_map.mp hc
  exact of_decide_eq_true (List.all_eq_true.mp h x hx)
theorem eq_lit {M : Mem} {a b : String} (ha : (a.toList.all fun c => decide (c.toNat < 1000)) = true) (hb : (b.toList.all fun c => decide (c.toNat < 1000)) = true) : pr .eq M [.str (Str.ofString a), .str (Str.ofString b)] = some (.bl (decide (a = b)), M) := by
  rw [pr_eq_str (strOk_lit ha) (strOk_lit hb)]
  simp only [ofString_eq]
theorem eq_empty {M : Mem} {w : Str} (h : PyData.strOk w = true) : pr .eq M [.str w, .str ""] = some (.bl (decide (TL.tl w = [])), M) := by
  rw [pr_eq_str h (strOk_lit (a := "") rfl)]
  have : (w = Str.ofString "") ↔ TL.tl w = [] := ⟨fun e => by rw [e]; rfl, fun e => TL.ext_tl (by rw [e]; rfl)⟩
  simp only [this]
theorem IsW.ok {w : Str} (h : IsW w) : PyData.strOk w = true := strOk_of fun c hc => by
  rcases h.al c hc with h | h <;> omega
theorem depth_strs (ss : List Str) : (PyData.list (ss.map .str)).depth ≤ 64 := by
  have h : ∀ ss : List Str, PyData.depthAll (ss.map .str) ≤ 1 := by
    intro ss
    induction ss with
    | nil => simp [PyData.depthAll]
    | cons s ss ih => simp [PyData.depthAll, PyData.depth]; omega
  have := h ss
  simp [PyData.depth]; omega
theorem shaped_strs {ss : List Str} (h : ∀ s ∈ ss, PyData.strOk s = true) : SeqAt.shaped (.list (ss.map .str)) = true := by
  unfold SeqAt.shaped
  rw [Bool.and_eq_true]
  exact ⟨by show PyData.canLay0 (.list _) = true; rw [PyData.canLay0]; exact canLayAll_strs ss h, decide_eq_true (depth_strs ss)⟩
theorem inB_strs {M : Mem} {w : Str} {ss : List Str} (hw : PyData.strOk w = true) (h : ∀ s ∈ ss, PyData.strOk s = true) : inB M [.str w, .tup (ss.map .str)] = some (decide (w ∈ ss)) := by
  have e : inB M [.str w, .tup (ss.map .str)] = (match pys M 0 (ss.map .str) with
      | some zs => if SeqAt.shaped (.str w) = true ∧ SeqAt.shaped (.list zs) = true then some (zs.any fun z => PyData.eqv z (.str w)) else none
      | none => none) := rfl
  rw [e, pys_strs]
  simp only [shaped_str hw, shaped_strs h, and_self, if_true, Option.some.injEq]
  rw [Bool.eq_iff_iff, List.any_eq_true, decide_eq_true_iff]
  constructor
  · rintro ⟨x, hx, e⟩
    obtain ⟨s, hs, rfl⟩ := List.mem_map.mp hx
    simp only [PyData.eqv, beq_iff_eq] at e
    exact e ▸ hs
  · intro hs
    exact ⟨.str w, List.mem_map.mpr ⟨w, hs, rfl⟩, by simp [PyData.eqv]⟩
theorem in_strs {M : Mem} {w : Str} {ss : List Str} (hw : PyData.strOk w = true) (h : ∀ s ∈ ss, PyData.strOk s = true) : pr .in_ M [.str w, .tup (ss.map .str)] = some (.bl (decide (w ∈ ss)), M) := by
  show prIn M [.str w, .tup (ss.map .str)] = _
  unfold prIn
  rw [inB_strs hw h]; rfl
theorem notIn_strs {M : Mem} {w : Str} {ss : List Str} (hw : PyData.strOk w = true) (h : ∀ s ∈ ss, PyData.strOk s = true) : pr .notIn M [.str w, .tup (ss.map .str)] = some (.bl (!decide (w ∈ ss)), M) := by
  show prNotIn M [.str w, .tup (ss.map .str)] = _
  unfold prNotIn
  rw [inB_strs hw h]; rfl
theorem kws_ok : ∀ s ∈ kws, PyData.strOk s = true := by
  intro s hs
  simp only [kws, List.mem_cons, List.not_mem_nil, or_false] at hs
  rcases hs with h | h | h | h | h | h | h | h | h | h | h | h | h | h | h | h | h | h | h <;> (rw [h]; exact strOk_lit rfl)
theorem run_word {n : Nat} {w : Str} {M : Mem} (h : IsW w) : DP.run fs (n + 1) 1 [.str w] M = .ok (.bl true) M := by
  obtain ⟨c, cs, e, hc⟩ := h.hd
  have hl : w.length ≤ sizeLine := by have := h.ln; simp [sizeLine]; omega
  have h12 : ¬ (12 : Int) < w.length := by have := h.ln; omega
  have hidx : pr .idx M [.str w, .int 0] = some (.str ⟨#[c]⟩, M) := pr_idx_str hl (by
    rw [atI_0]; show (TL.tl w)[0]? = _; rw [e]; rfl)
  have hin : pr .in_ M [.str w, .tup [(.str "name"), (.str "row"), (.str "must"), (.str "block"), (.str "end"), (.str "use"), (.str "mustuse"), (.str "close"), (.str "either"), (.str "or"), (.str "if"), (.str "and"), (.str "then"), (.str "at"), (.str "most"), (.str "least"), (.str "of"), (.str "in"), (.str "not")]] = some (.bl false, M) := by
    rw [show [D.str "name", .str "row", .str "must", .str "block", .str "end", .str "use", .str "mustuse", .str "close", .str "either", .str "or", .str "if", .str "and", .str "then", .str "at", .str "most", .str "least", .str "of", .str "in", .str "not"] = kws.map .str from rfl, in_strs h.ok kws_ok]
    simp only [h.kw, decide_false]
  rw [run_at (d := ⟨1, 2, b_word_like⟩) rfl rfl]
  have hL := @letters_in c
  obtain ⟨env', hf, _⟩ := for_nx (call := DP.run fs n) (M := M) (t := .nm 1) (k := .seq) (src := [.v 0]) (env := [some (.str w), none]) (xs := w.cps.toList.map fun c => .str ⟨#[c]⟩)
    (body := [.ife (.and_ (.pr .notIn [(.v 1), (.c (.str "abcdefghijklmnopqrstuvwxyz"))]) (.pr .notIn [(.v 1), (.c (.str "0123456789"))])) [.ret (.c (.bl false))] []]) (fun env => env.length = 2) rfl (by simp) (by
      intro x hx env he
      obtain ⟨a, b, rfl⟩ : ∃ a b, env = [a, b] := by
        match env, he with
        | [a, b], _ => exact ⟨a, b, rfl⟩
      obtain ⟨c, hc, rfl⟩ := List.mem_map.mp hx
      refine ⟨_, [a, some (.str ⟨#[c]⟩)], rfl, ?_, rfl⟩
      have hL := @letters_in c
      have hF := @figures_in c
      rcases h.al c hc with q | q
      · simp [hL, q]
      · by_cases q2 : 97 ≤ c ∧ c ≤ 122
        · simp [hL, q2]
        · simp [hL, hF, q2, q])
  simp [b_word_like, eq_empty h.ok, e, pr_len_str hl, h12, hin, hidx, hL, hc, hf]
end K00

namespace K00
open PySem PySem.Spec PyProof.Rows L2 DP
/-- the signs of a whole number -/
def intL (i : Int) : List Nat := if i < 0 then 45 :: TL.numL i.natAbs else TL.numL i.natAbs
theorem tl_int (i : Int) : TL.tl (Str.ofString (toString i)) = intL i := by
  cases i with
  | ofNat n =>
    have := TL.tl_num n
    rw [show intL (Int.ofNat n) = TL.numL n from if_neg (Int.not_lt.mpr (Int.natCast_nonneg n))]
    exact this
  | negSucc m =>
    have e : toString (Int.negSucc m) = "-" ++ toString (((m + 1 : Nat)) : Int) := rfl
    have q := TL.tl_num (m + 1)
    rw [TL.tl_ofString] at q
    rw [e, TL.tl_ofString, String.toList_append, List.map_append, q]
    rw [show intL (Int.negSucc m) = 45 :: TL.numL (m + 1) from if_pos (Int.negSucc_lt_zero m)]
    rfl
structure NumOk (i : Int) : Prop where
  h : i.natAbs < 10 ^ 31
theorem NumOk.len {i : Int} (h : NumOk i) : (TL.numL i.natAbs).length ≤ 31 := TL.numL_len (by decide) h.h
theorem intL_len {i : Int} (h : NumOk i) : (intL i).length ≤ 32 := by
  have := h.len
  unfold intL
  split <;> simp <;> omega
theorem intL_in {i : Int} {c : Nat} (h : c ∈ intL i) : c = 45 ∨ (48 ≤ c ∧ c ≤ 57) := by
  have q : ∀ n, c ∈ TL.numL n → 48 ≤ c ∧ c ≤ 57 := fun n h => TL.numL_digits n c h
  unfold intL at h
  split at h
  · rcases List.mem_cons.mp h with h | h
    · exact .inl h
    · exact .inr (q _ h)
  · exact .inr (q _ h)
theorem intL_ne (i : Int) : intL i ≠ [] := by
  unfold intL
  split
  · simp
  · exact TL.numL_ne _
theorem numS_ok (i : Int) : PyData.strOk (Str.ofString (toString i)) = true := strOk_of fun c h => by
  rw [tl_int] at h
  rcases intL_in h with h | h <;> omega
theorem NumOk.log {i : Int} (h : NumOk i) : i.natAbs.log2 < 1920 := by
  have h2 : i.natAbs < 2 ^ 1920 := Nat.lt_of_lt_of_le h.h (Nat.le_trans (show 10 ^ 31 ≤ 2 ^ 256 by decide) (Nat.pow_le_pow_right (by decide) (by decide)))
  by_cases h0 : i.natAbs = 0
  · rw [h0]; decide
  · exact (Nat.log2_lt h0).mpr h2
theorem NumOk.int {i : Int} (h : NumOk i) : PySem.intText? (Str.ofString (toString i)) = some i := by
  have hl : (Str.ofString (toString i)).length ≤ 4300 := by
    rw [TL.len_tl, tl_int]; have := intL_len h; omega
  have e : (Str.ofString (toString i)).cps.toList = intL i := tl_int i
  by_cases hi : i < 0
  · have e2 : intL i = 45 :: TL.numL i.natAbs := if_pos hi
    rw [intText_neg (e.trans e2) (TL.numL_digits _) (TL.numL_ne _) hl, TL.numL_val]
    congr 1; omega
  · have e2 : intL i = TL.numL i.natAbs := if_neg hi
    rw [intText_digits (by rw [e, e2]; exact TL.numL_digits _) (by rw [e, e2]; exact TL.numL_ne _) hl, e, e2, TL.numL_val]
    congr 1; omega
theorem pr_int_num {M : Mem} {i : Int} (h : NumOk i) : pr .int_ M [.str (Str.ofString (toString i))] = some (.int i, M) := by
  have hl : (Str.ofString (toString i)).length ≤ 640 := by
    rw [TL.len_tl, tl_int]; have := intL_len h; omega
  show prInt M [.str (Str.ofString (toString i))] = _
  simp only [prInt, if_pos hl, h.int]
theorem numL_head {n : Nat} : ∃ c cs, TL.numL n = c :: cs ∧ (c = 48 → n = 0) := by
  have : ∀ k n, n < k → ∃ c cs, TL.numL n = c :: cs ∧ (c = 48 → n = 0) := by
    intro k
    induction k with
    | zero => intro n h; omega
    | succ k ih =>
      intro n h
      by_cases h10 : n < 10
      · exact ⟨48 + n, [], TL.numL_lt h10, by omega⟩
      · obtain ⟨c, cs, e, hc⟩ := ih (n / 10) (by omega)
        exact ⟨c, cs ++ [48 + n % 10], by rw [TL.numL_step (by omega), e]; rfl, fun h => by have := hc h; omega⟩
  exact this (n + 1) n (by omega)
/-- removeprefix "-" -/
theorem rmpre_num (i : Int) : TL.tl (Txt.removeprefix (Str.ofString (toString i)) "-") = TL.numL i.natAbs := by
  have e : (Str.ofString (toString i)).cps.toList = intL i := tl_int i
  have el : (Str.ofString (toString i)).length = (intL i).length := by rw [TL.len_tl, tl_int]
  rw [StrLaws.removeprefix_eq, StrLaws.subAt_eq, e, el]
  have e1 : ("-" : Str).length = 1 := rfl
  have e2 : ("-" : Str).cps.toList = [45] := rfl
  rw [e1, e2]
  by_cases hi : i < 0
  · rw [show intL i = 45 :: TL.numL i.natAbs from if_pos hi]
    rw [if_pos (by simp)]
    rw [TL.tl_mk]
    simp
  · have q : intL i = TL.numL i.natAbs := if_neg hi
    rw [if_neg]
    · rw [tl_int, q]
    · rw [q]
      obtain ⟨c, cs, h, _⟩ := numL_head (n := i.natAbs)
      have := TL.numL_digits i.natAbs c (by rw [h]; exact List.mem_cons_self)
      rw [h]
      simp
      omega
theorem run_num {n : Nat} {i : Int} {M : Mem} (h : NumOk i) : DP.run fs (n + 1) 2 [.str (Str.ofString (toString i))] M = .ok (.bl true) M := by
  have e := rmpre_num i
  have hok := numS_ok i
  have htl := tl_int i
  have hlen := intL_len h
  have hll : (Str.ofString (toString i)).length ≤ sizeLine := by
    rw [TL.len_tl, htl]; simp [sizeLine]; omega
  generalize hw : Txt.removeprefix (Str.ofString (toString i)) "-" = w at e
  have hrm : pr .rmpre M [.str (Str.ofString (toString i)), .str "-"] = some (.str w, M) := by
    rw [← hw]; exact if_pos hll
  generalize Str.ofString (toString i) = u at *
  have hwl : w.length ≤ 31 := by rw [TL.len_tl, e]; exact h.len
  have hwl2 : w.length ≤ sizeLine := by simp [sizeLine]; omega
  have h12 : ¬ (31 : Int) < w.length := by omega
  have hd : ∀ c ∈ TL.tl w, 48 ≤ c ∧ c ≤ 57 := by rw [e]; exact TL.numL_digits _
  have wok : PyData.strOk w = true := strOk_of fun c hc => by have := hd c hc; omega
  obtain ⟨c, cs, hc, h0⟩ := numL_head (n := i.natAbs)
  have ec : TL.tl w = c :: cs := e.trans hc
  have hidx : pr .idx M [.str w, .int 0] = some (.str ⟨#[c]⟩, M) := pr_idx_str hwl2 (by
    rw [atI_0]; show (TL.tl w)[0]? = _; rw [ec]; rfl)
  rw [run_at (d := ⟨1, 3, b_number_like⟩) rfl rfl]
  obtain ⟨env', hf, p0, p1⟩ := for_nx (call := DP.run fs n) (M := M) (t := .nm 2) (k := .seq) (src := [.v 1]) (env := [some (.str u), some (.str w), none]) (xs := w.cps.toList.map fun c => .str ⟨#[c]⟩)
    (body := [.ife (.pr .notIn [(.v 2), (.c (.str "0123456789"))]) [.ret (.c (.bl false))] []]) (fun env => ∃ b, env = [some (.str u), some (.str w), b]) ⟨_, rfl⟩ (by simp) (by
      rintro x hx env ⟨b, rfl⟩
      obtain ⟨c, hc, rfl⟩ := List.mem_map.mp hx
      refine ⟨_, [some (.str u), some (.str w), some (.str ⟨#[c]⟩)], rfl, ?_, _, rfl⟩
      have hF := @figures_in c
      simp [hF, hd c hc])
  subst p1
  have hz : PyData.strOk ⟨#[c]⟩ = true := strOk_of fun x hx => by
    have := hd c (by rw [ec]; exact List.mem_cons_self)
    rw [show TL.tl ⟨#[c]⟩ = [c] from rfl] at hx
    rw [List.mem_singleton.mp hx]; omega
  have hne := @pr_ne_str M ⟨#[c]⟩ "0" hz (strOk_lit rfl)
  have heq := @pr_eq_str M u "0" hok (strOk_lit rfl)
  have key : decide ((⟨#[c]⟩ : Str) = "0") = true → decide (u = "0") = true := by
    intro q
    have q := of_decide_eq_true q
    have : c = 48 := by
      have := congrArg TL.tl q
      rw [TL.tl_ofString] at this
      injection this
    have hi : i.natAbs = 0 := h0 this
    have hi : i = 0 := by omega
    subst hi
    exact decide_eq_true (TL.ext_tl (htl.trans rfl))
  simp [b_number_like, hrm, eq_empty wok, ec, pr_len_str hwl2, h12, hf, hidx, hne, heq]
  by_cases q : (⟨#[c]⟩ : Str) = Str.ofString "0"
  · have := key (decide_eq_true q)
    have := of_decide_eq_true this
    simp [q, this]
  · simp [q]
end K00

namespace K00
open PySem PySem.Spec PyProof.Rows L2 DP
/-- one word more -/
def pstep (sg : Str) (G : List (List Str)) (w : Str) : List (List Str) := if w = sg then G ++ [[]] else G.dropLast ++ [(G.getLast?.getD []) ++ [w]]
def groups (sg : Str) (ws : List Str) : List (List Str) := ws.foldl (pstep sg) [[]]
def weave (sg : Str) : List (List Str) → List Str
  | [] => []
  | [g] => g
  | g :: gs => g ++ sg :: weave sg gs
theorem pstep_free {sg : Str} : ∀ (g : List Str) (A : List (List Str)) (c : List Str), sg ∉ g → g.foldl (pstep sg) (A ++ [c]) = A ++ [c ++ g]
  | [], A, c, _ => by simp
  | w :: g, A, c, h => by
    have h1 : w ≠ sg := fun e => h (by rw [e]; exact List.mem_cons_self)
    have h2 : sg ∉ g := fun e => h (List.mem_cons_of_mem _ e)
    have e : pstep sg (A ++ [c]) w = A ++ [c ++ [w]] := by
      unfold pstep
      rw [if_neg h1]
      simp
    rw [List.foldl_cons, e, pstep_free g A (c ++ [w]) h2]
    simp
theorem groups_weave {sg : Str} : ∀ (gs : List (List Str)) (A : List (List Str)), gs ≠ [] → (∀ g ∈ gs, sg ∉ g) → (weave sg gs).foldl (pstep sg) (A ++ [[]]) = A ++ gs
  | [], _, h, _ => absurd rfl h
  | [g], A, _, h => by
    rw [weave, pstep_free g A [] (h g List.mem_cons_self)]
    simp
  | g :: g2 :: gs, A, _, h => by
    rw [weave]
    · rw [List.foldl_append, pstep_free g A [] (h g List.mem_cons_self), List.foldl_cons]
      rw [show pstep sg (A ++ [[] ++ g]) sg = (A ++ [g]) ++ [[]] by unfold pstep; rw [if_pos rfl]; simp]
      rw [groups_weave (g2 :: gs) (A ++ [g]) (by simp) fun g m => h g (List.mem_cons_of_mem _ m)]
      simp
    · simp
theorem groups_of {sg : Str} {gs : List (List Str)} (h : gs ≠ []) (hf : ∀ g ∈ gs, sg ∉ g) : groups sg (weave sg gs) = gs := groups_weave gs [] h hf

inductive Held (M : Mem) : List Nat → List (List Str) → Prop where
  | nil : Held M [] []
  | cons {a : Nat} {g : List Str} {as : List Nat} {gs : List (List Str)} (h : M[a]? = some (.lst (g.map .str))) (t : Held M as gs) : Held M (a :: as) (g :: gs)
theorem Held.mono {M M' : Mem} {as : List Nat} {gs : List (List Str)} (h : Held M as gs) (hm : ∀ a ∈ as, M'[a]? = M[a]?) : Held M' as gs := by
  induction h with
  | nil => exact .nil
  | cons h t ih => exact .cons ((hm _ List.mem_cons_self).trans h) (ih fun a m => hm a (List.mem_cons_of_mem _ m))
theorem Held.snoc {M : Mem} {as : List Nat} {gs : List (List Str)} (h : Held M as gs) {a : Nat} {g : List Str} (ha : M[a]? = some (.lst (g.map .str))) : Held M (as ++ [a]) (gs ++ [g]) := by
  induction h with
  | nil => exact .cons ha .nil
  | cons h t ih => exact .cons h ih
theorem Held.unsnoc {M : Mem} {as : List Nat} {a : Nat} {gs : List (List Str)} (h : Held M (as ++ [a]) gs) : ∃ gs' g, gs = gs' ++ [g] ∧ Held M as gs' ∧ M[a]? = some (.lst (g.map .str)) := by
  induction as generalizing gs with
  | nil =>
    cases h with
    | cons h t => cases t; exact ⟨[], _, rfl, .nil, h⟩
  | cons b as ih =>
    cases h with
    | cons h t =>
      obtain ⟨gs', g, e, h1, h2⟩ := ih t
      subst e
      exact ⟨_ :: gs', g, rfl, .cons h h1, h2⟩
structure PInv (M : Mem) (k : Nat) (M' : Mem) (as : List Nat) (G : List (List Str)) : Prop where
  pre : ∀ j, j < M.length → M'[j]? = M[j]?
  ln : M.length + 2 ≤ M'.length
  fnd : M'[M.length + 1]? = some (.lst (as.map .loc))
  held : Held M' as G
  nd : as.Nodup
  rng : ∀ a ∈ as, M.length ≤ a ∧ a < M'.length ∧ a ≠ M.length + 1
  ne : as ≠ []
  cnt : as.length ≤ k + 1
  each : ∀ g ∈ G, g.length ≤ k
theorem append_loc {M : Mem} {n : Nat} {xs : List D} {d : D} (h : M[n]? = some (.lst xs)) (hl : xs.length < sizeLine) : pr .append M [.loc n, d] = some (.non, M.set n (.lst (xs ++ [d]))) := by
  show prAppend M [.loc n, d] = _
  simp only [prAppend, h, if_pos hl]
theorem atI_last {α : Type} {xs : List α} {a : α} : atI (xs ++ [a]) (-1) = some a := by
  unfold atI ixN
  rw [if_neg (by omega), if_pos (by simp; omega)]
  have e : ((-1 : Int) + ((xs ++ [a]).length : Int)).toNat = xs.length := by simp; omega
  rw [Option.bind_some, e]
  simp
abbrev pbody (n : Nat) : List S := [.ife (.pr .eq [(.v 3), (.v 1)]) [.ex (.meth .append "list" (.v 2) [(.pr .listM [])])] [.ex (.meth .append "list" (.pr .idx [(.v 2), (.pr .neg [(.c (.int (1)))])]) [(.v 3)])]]
theorem pstep_inv {M M' : Mem} {k : Nat} {as : List Nat} {G : List (List Str)} {sg w : Str} {call : Nat → List D → Mem → Res D} {x : D} (I : PInv M k M' as G) (hk : k < 10000) (hw : PyData.strOk w = true) (hs : PyData.strOk sg = true) :
    ∃ M'' as', DP.execs call (pbody 0) [some x, some (.str sg), some (.loc (M.length + 1)), some (.str w)] M' = .done .nx [some x, some (.str sg), some (.loc (M.length + 1)), some (.str w)] M'' ∧ PInv M (k + 1) M'' as' (pstep sg G w) := by
  have hkk : k + 1 < sizeLine := by simp [sizeLine]; omega
  have hcnt := I.cnt
  have h2 := I.ln
  by_cases e : w = sg
  · have hf2 : (M' ++ [Cell.lst []])[M.length + 1]? = some (.lst (as.map .loc)) := by
      rw [List.getElem?_append_left (by omega)]; exact I.fnd
    refine ⟨(M' ++ [Cell.lst []]).set (M.length + 1) (.lst (as.map .loc ++ [.loc M'.length])), as ++ [M'.length], ?_, ?_⟩
    · have hq : pr .eq M' [.str w, .str sg] = some (.bl true, M') := by rw [pr_eq_str hw hs]; simp [e]
      have hty : (D.loc (M.length + 1)).ty M' = some "list" := ty_loc I.fnd
      have hap := append_loc (d := .loc M'.length) hf2 (show (as.map D.loc).length < sizeLine by simp; omega)
      simp [hq, hty, pr_listM, hap]
    · have hp : pstep sg G w = G ++ [[]] := if_pos e
      rw [hp]
      have hl : ∀ a, a ≠ M.length + 1 → ((M' ++ [Cell.lst []]).set (M.length + 1) (.lst (as.map .loc ++ [.loc M'.length])))[a]? = (M' ++ [Cell.lst []])[a]? := fun a h => List.getElem?_set_ne (Ne.symm h)
      refine ⟨fun j hj => ?_, by simp; omega, ?_, ?_, ?_, ?_, by simp, by simp; omega, ?_⟩
      · rw [hl j (by omega), List.getElem?_append_left (by omega)]; exact I.pre j hj
      · rw [List.getElem?_set_self (by simp; omega)]; simp
      · refine Held.snoc (I.held.mono fun a m => ?_) ?_
        · obtain ⟨_, r2, r3⟩ := I.rng a m
          rw [hl a r3, List.getElem?_append_left r2]
        · rw [hl _ (by omega), List.getElem?_append_right (Nat.le_refl _)]; simp
      · rw [List.nodup_append]
        refine ⟨I.nd, by simp, fun a ha b hb => ?_⟩
        have := (I.rng a ha).2.1
        rw [List.mem_singleton.mp hb]; omega
      · intro a ha
        rcases List.mem_append.mp ha with ha | ha
        · obtain ⟨r1, r2, r3⟩ := I.rng a ha
          exact ⟨r1, by simp; omega, r3⟩
        · rw [List.mem_singleton.mp ha]; exact ⟨by omega, by simp, by omega⟩
      · intro g hg
        rcases List.mem_append.mp hg with hg | hg
        · have := I.each g hg; omega
        · rw [List.mem_singleton.mp hg]; simp
  · obtain ⟨as0, a, rfl⟩ : ∃ as0 a, as = as0 ++ [a] := ⟨as.dropLast, as.getLast I.ne, (List.dropLast_concat_getLast I.ne).symm⟩
    obtain ⟨gs, g, rfl, H1, H2⟩ := I.held.unsnoc
    have hg := I.each g (by simp)
    have hat : atI (as0.map D.loc ++ [D.loc a]) (-1) = some (.loc a) := atI_last
    obtain ⟨r1, r2, r3⟩ := I.rng a (by simp)
    have hfn := I.fnd
    rw [List.map_append, List.map_cons, List.map_nil] at hfn
    have hix : pr .idx M' [.loc (M.length + 1), .int (-1)] = some (.loc a, M') := pr_idx_loc hfn hat
    refine ⟨M'.set a (.lst (g.map .str ++ [.str w])), as0 ++ [a], ?_, ?_⟩
    · have hq : pr .eq M' [.str w, .str sg] = some (.bl false, M') := by rw [pr_eq_str hw hs]; simp [e]
      have hty : (D.loc a).ty M' = some "list" := ty_loc H2
      have hap := append_loc (d := .str w) H2 (show (g.map D.str).length < sizeLine by simp; omega)
      simp [hq, hty, hix, hap]
    · have hp : pstep sg (gs ++ [g]) w = gs ++ [g ++ [w]] := by unfold pstep; rw [if_neg e]; simp
      rw [hp]
      have hl : ∀ b, b ≠ a → (M'.set a (.lst (g.map .str ++ [.str w])))[b]? = M'[b]? := fun b h => List.getElem?_set_ne (Ne.symm h)
      have hnd := I.nd
      rw [List.nodup_append] at hnd
      refine ⟨fun j hj => ?_, by simp; omega, ?_, ?_, I.nd, ?_, by simp, by omega, ?_⟩
      · rw [hl j (by omega)]; exact I.pre j hj
      · rw [hl _ (by omega)]; exact I.fnd
      · refine Held.snoc (H1.mono fun b m => hl b ?_) ?_
        · exact hnd.2.2 b m a List.mem_cons_self
        · rw [List.getElem?_set_self r2]; simp
      · intro b hb
        obtain ⟨q1, q2, q3⟩ := I.rng b hb
        exact ⟨q1, by simp; omega, q3⟩
      · intro x hx
        rcases List.mem_append.mp hx with hx | hx
        · have := I.each x (by simp [hx]); omega
        · rw [List.mem_singleton.mp hx]; simp; omega
theorem ploop {M : Mem} {sg : Str} {call : Nat → List D → Mem → Res D} {x : D} {ys : List D} (hs : PyData.strOk sg = true) : ∀ (ws : List Str) (b : Option D) (M' : Mem) (k : Nat) (as : List Nat) (G : List (List Str)), PInv M k M' as G → k + ws.length ≤ 10000 → (∀ w ∈ ws, PyData.strOk w = true) →
    ∃ b' M'' as', forLoop (.items ys) (fun x env2 M2 => match store env2 x (.nm 3) with
        | none => .bad
        | some env3 => DP.execs call (pbody 0) env3 M2) (ws.map .str) [some x, some (.str sg), some (.loc (M.length + 1)), b] M' = .done .nx [some x, some (.str sg), some (.loc (M.length + 1)), b'] M'' ∧ PInv M (k + ws.length) M'' as' (ws.foldl (pstep sg) G)
  | [], b, M', k, as, G, I, _, _ => ⟨b, M', as, by simp [forLoop, Walk.Ok], I⟩
  | w :: ws, b, M', k, as, G, I, hk, hw => by
    rw [List.length_cons] at hk
    obtain ⟨M1, as1, e1, I1⟩ := pstep_inv (call := call) (x := x) I (by omega) (hw w List.mem_cons_self) hs
    obtain ⟨b2, M2, as2, e2, I2⟩ := ploop (call := call) (x := x) (ys := ys) hs ws (some (.str w)) M1 (k + 1) as1 _ I1 (by omega) fun y m => hw y (List.mem_cons_of_mem _ m)
    refine ⟨b2, M2, as2, ?_, by rw [List.length_cons, show k + (ws.length + 1) = k + 1 + ws.length by omega]; exact I2⟩
    rw [List.map_cons, forLoop, if_pos (by trivial), store_nm]
    simp only [List.set_cons_succ, List.set_cons_zero, e1]
    exact e2
abbrev fzF (k : Nat) : Option (List D × Mem) → D → Option (List D × Mem) := fun r x => match r with
        | some (acc, M1) => match fz k M1 x with
          | some (y, M2) => some (acc ++ [y], M2)
          | none => none
        | none => none
theorem fz_strs {k : Nat} {M : Mem} : ∀ (ss : List Str) (acc : List D), (ss.map D.str).foldl (fzF k) (some (acc, M)) = some (acc ++ ss.map .str, M)
  | [], acc => by simp
  | s :: ss, acc => by
    have e : fzF k (some (acc, M)) (.str s) = some (acc ++ [.str s], M) := by
      cases k <;> rfl
    rw [List.map_cons, List.foldl_cons, e, fz_strs ss]
    simp
theorem fz_groups {M : Mem} : ∀ (as : List Nat) (G : List (List Str)) (M' : Mem) (acc : List D), Held M' as G → as.Nodup → (∀ a ∈ as, M.length ≤ a) → M.length ≤ M'.length → (∀ j, j < M.length → M'[j]? = M[j]?) →
    ∃ M'', (as.map D.loc).foldl (fzF 3) (some (acc, M')) = some (acc ++ G.map (fun g => .list (g.map .str)), M'') ∧ M.length ≤ M''.length ∧ ∀ j, j < M.length → M''[j]? = M[j]?
  | [], _, M', acc, .nil, _, _, hl, hp => ⟨M', by simp, hl, hp⟩
  | a :: as, _, M', acc, .cons (g := g) (gs := gs) h t, hn, hr, hl, hp => by
    rw [List.nodup_cons] at hn
    have ha := hr a List.mem_cons_self
    have e : fzF 3 (some (acc, M')) (.loc a) = some (acc ++ [.list (g.map .str)], M'.set a .dead) := by
      have e0 : fz 3 M' (.loc a) = some (.list (g.map .str), M'.set a .dead) := by
        have : fz 3 M' (.loc a) = (match M'[a]? with
          | some (.lst xs) => (xs.foldl (fzF 2) (some ([], M'.set a .dead))).map fun p => (D.list p.1, p.2)
          | _ => none) := rfl
        rw [this, h]
        simp only [fz_strs, Option.map_some, List.nil_append]
      simp only [fzF, e0]
    obtain ⟨M2, e2, h2, h3⟩ := fz_groups (M := M) as gs (M'.set a .dead) (acc ++ [.list (g.map .str)]) (t.mono fun b m => List.getElem?_set_ne (fun q => hn.1 (by rw [q]; exact m))) hn.2 (fun b m => hr b (List.mem_cons_of_mem _ m)) (by simpa using hl)
      (fun j hj => by rw [List.getElem?_set_ne (by omega)]; exact hp j hj)
    refine ⟨M2, ?_, h2, h3⟩
    rw [List.map_cons, List.foldl_cons, e, e2]
    simp
theorem trim_pre {M M' : Mem} {d : D} (hl : M.length ≤ M'.length) (hb : below M.length d = true) (h : ∀ j, j < M.length → M'[j]? = M[j]?) : trim M d M' = M := by
  unfold trim
  rw [if_pos ⟨hb, hl, fun k hk => .inl (h k hk)⟩]
  apply List.ext_getElem?
  intro j
  by_cases hj : j < M.length
  · rw [List.getElem?_take_of_lt hj]; exact h j hj
  · rw [List.getElem?_eq_none (by simp; omega), List.getElem?_eq_none (by omega)]
theorem belows_strs {n : Nat} : ∀ ss : List Str, belows n (ss.map .str) = true
  | [] => rfl
  | s :: ss => by simp [belows, below, belows_strs ss]
theorem belows_groups {n : Nat} : ∀ G : List (List Str), belows n (G.map fun g => .list (g.map .str)) = true
  | [] => rfl
  | s :: ss => by simp [belows, below, belows_strs, belows_groups ss]
theorem run_parted {n : Nat} {ws : List Str} {sg : Str} {M : Mem} (hs : PyData.strOk sg = true) (hl : ws.length ≤ 10000) (hw : ∀ w ∈ ws, PyData.strOk w = true) :
    DP.run fs (n + 1) 3 [.list (ws.map .str), .str sg] M = .ok (.list ((groups sg ws).map fun g => .list (g.map .str))) M := by
  rw [run_at (d := ⟨2, 4, b_parted⟩) rfl rfl]
  have I : PInv M 0 (M ++ [.lst [], .lst [.loc M.length]]) [M.length] [[]] := by
    refine ⟨fun j hj => List.getElem?_append_left hj, by simp, ?_, ?_, by simp, ?_, by simp, by simp, by simp⟩
    · rw [List.getElem?_append_right (by omega)]; simp
    · refine .cons ?_ .nil
      rw [List.getElem?_append_right (by omega)]; simp
    · intro a ha; rw [List.mem_singleton.mp ha]; simp
  obtain ⟨b, M', as, e, J⟩ := ploop (call := DP.run fs n) (x := .list (ws.map .str)) (ys := ws.map .str) hs ws none _ 0 [M.length] [[]] I (by omega) hw
  obtain ⟨M2, e2, h2, h3⟩ := fz_groups (M := M) as _ (M'.set (M.length + 1) .dead) [] (J.held.mono fun a m => List.getElem?_set_ne (Ne.symm (J.rng a m).2.2)) J.nd (fun a m => (J.rng a m).1) (by have := J.ln; simp; omega)
    (fun j hj => by rw [List.getElem?_set_ne (by omega)]; exact J.pre j hj)
  have ef : fz 4 M' (.loc (M.length + 1)) = some (.list ((groups sg ws).map fun g => .list (g.map .str)), M2) := by
    have : fz 4 M' (.loc (M.length + 1)) = (match M'[M.length + 1]? with
          | some (.lst xs) => (xs.foldl (fzF 3) (some ([], M'.set (M.length + 1) .dead))).map fun p => (D.list p.1, p.2)
          | _ => none) := rfl
    rw [this, J.fnd]
    simp only [e2, Option.map_some, List.nil_append]
    rfl
  have ep : pr .freeze M' [.loc (M.length + 1)] = some (.list ((groups sg ws).map fun g => .list (g.map .str)), M2) := ef
  have ex : DP.exec (DP.run fs n) (.for_ (.nm 3) .seq [(.v 0)] (pbody 0)) [some (.list (ws.map .str)), some (.str sg), some (.loc (M.length + 1)), none] (M ++ [.lst [], .lst [.loc M.length]]) = .done .nx [some (.list (ws.map .str)), some (.str sg), some (.loc (M.length + 1)), b] M' := by
    rw [ex_for]
    simp only [evs_cons, ev_v, evs_nil, List.getElem?_cons_zero, Res.bind, Res.sb, walk_list, walk_xs]
    exact e
  have hm1 : pr .listM M [] = some (.loc M.length, M ++ [.lst []]) := pr_listM (by simp [sizeLine])
  have hm2 : pr .listM (M ++ [.lst []]) [.loc M.length] = some (.loc (M.length + 1), M ++ [.lst [], .lst [.loc M.length]]) := by
    rw [pr_listM (by simp [sizeLine])]; simp
  simp only [pbody] at ex
  simp [b_parted, hm1, hm2, ex, ep]
  rw [trim_pre h2 (by simp only [below]; exact belows_groups _) h3]
end K00

namespace K00
open PySem PySem.Spec PyProof.Rows L2 DP
abbrev numS (i : Int) : Str := Str.ofString (toString i)
inductive Sg where
  | ge | le | eq | in_ | nin
def Sg.s : Sg → Str
  | .ge => ">=" | .le => "<=" | .eq => "=" | .in_ => "in" | .nin => "not in"
def Sg.ws : Sg → List Str
  | .ge => [">="] | .le => ["<="] | .eq => ["="] | .in_ => ["in"] | .nin => ["not", "in"]
def Sg.many : Sg → Bool
  | .in_ => true | .nin => true | _ => false
structure Cnd where
  w : Str
  g : Sg
  ns : List Int
structure Cnd.Ok (c : Cnd) : Prop where
  w : IsW c.w
  n : ∀ i ∈ c.ns, NumOk i
  lo : 1 ≤ c.ns.length
  hi : c.ns.length ≤ 8
  one : c.g.many = false → c.ns.length = 1
  inc : ∀ k, (h : k + 1 < c.ns.length) → c.ns[k] < c.ns[k + 1]
def Cnd.ws (c : Cnd) : List Str := c.w :: (c.g.ws ++ c.ns.map numS)
def Cnd.d (c : Cnd) : D := .tup [.str c.w, .str c.g.s, .tup (c.ns.map .int)]
theorem eq_nil {M : Mem} {ss : List Str} (h : ∀ s ∈ ss, PyData.strOk s = true) : pr .eq M [.list (ss.map .str), .list []] = some (.bl ss.isEmpty, M) := by
  show prEq M [.list (ss.map .str), .list []] = _
  have e : py M 0 (.list (ss.map .str)) = some (.list (ss.map .str)) := by
    show (pys M 0 (ss.map .str)).map PyData.list = _
    rw [pys_strs]; rfl
  have e2 : SeqAt.shaped (.list []) = true := shaped_strs (ss := []) (by simp)
  unfold prEq pyM
  simp only [e, shaped_strs h, show py M 0 (.list []) = some (.list []) from rfl, e2, and_self, if_true, okB, PyData.eqv]
  cases ss <;> simp [PyData.eqvAll]
theorem ne_nil {M : Mem} {ss : List Str} (h : ∀ s ∈ ss, PyData.strOk s = true) : pr .ne M [.list (ss.map .str), .list []] = some (.bl (!ss.isEmpty), M) := by
  show prNe M [.list (ss.map .str), .list []] = _
  have e : py M 0 (.list (ss.map .str)) = some (.list (ss.map .str)) := by
    show (pys M 0 (ss.map .str)).map PyData.list = _
    rw [pys_strs]; rfl
  have e2 : SeqAt.shaped (.list []) = true := shaped_strs (ss := []) (by simp)
  unfold prNe pyM
  simp only [e, shaped_strs h, show py M 0 (.list []) = some (.list []) from rfl, e2, and_self, if_true, okB, PyData.eqv]
  cases ss <;> simp [PyData.eqvAll]
theorem lit_in {M : Mem} (a : String) (L : List String) (ha : (a.toList.all fun c => decide (c.toNat < 1000)) = true) (hL : ∀ b ∈ L, (b.toList.all fun c => decide (c.toNat < 1000)) = true) :
    pr .in_ M [.str (Str.ofString a), .tup (L.map fun b => .str (Str.ofString b))] = some (.bl (decide (a ∈ L)), M) := by
  rw [show (L.map fun b => D.str (Str.ofString b)) = (L.map Str.ofString).map .str by simp, in_strs (strOk_lit ha)]
  · have : Str.ofString a ∈ L.map Str.ofString ↔ a ∈ L := by
      rw [List.mem_map]
      exact ⟨fun ⟨b, hb, e⟩ => ofString_eq.mp e ▸ hb, fun h => ⟨a, h, rfl⟩⟩
    simp only [this]
  · intro s hs
    obtain ⟨b, hb, rfl⟩ := List.mem_map.mp hs
    exact strOk_lit (hL b hb)
theorem lit_notIn {M : Mem} (a : String) (L : List String) (ha : (a.toList.all fun c => decide (c.toNat < 1000)) = true) (hL : ∀ b ∈ L, (b.toList.all fun c => decide (c.toNat < 1000)) = true) :
    pr .notIn M [.str (Str.ofString a), .tup (L.map fun b => .str (Str.ofString b))] = some (.bl (!decide (a ∈ L)), M) := by
  have := lit_in (M := M) a L ha hL
  have e1 : prIn M [.str (Str.ofString a), .tup (L.map fun b => .str (Str.ofString b))] = some (.bl (decide (a ∈ L)), M) := this
  show prNotIn M [.str (Str.ofString a), .tup (L.map fun b => .str (Str.ofString b))] = _
  unfold prIn at e1
  unfold prNotIn
  cases h : inB M [.str (Str.ofString a), .tup (L.map fun b => .str (Str.ofString b))] with
  | none => rw [h] at e1; cases e1
  | some b => rw [h] at e1; simp only [okB, Option.some.injEq, Prod.mk.injEq, D.bl.injEq, and_true] at e1; rw [← e1]; rfl
@[simp] theorem pr_tup1 {M : Mem} {a : D} : pr .tup M [a] = some (.tup [a], M) := pr_tup (by simp [sizeLine])
@[simp] theorem pr_tup2 {M : Mem} {a b : D} : pr .tup M [a, b] = some (.tup [a, b], M) := pr_tup (by simp [sizeLine])
@[simp] theorem pr_tup3 {M : Mem} {a b c : D} : pr .tup M [a, b, c] = some (.tup [a, b, c], M) := pr_tup (by simp [sizeLine])
@[simp] theorem pr_tup4 {M : Mem} {a b c d : D} : pr .tup M [a, b, c, d] = some (.tup [a, b, c, d], M) := pr_tup (by simp [sizeLine])
@[simp] theorem pr_list0 {M : Mem} : pr .list M [] = some (.list [], M) := pr_list (by simp [sizeLine])
@[simp] theorem isN_tup {xs : List D} : (D.tup xs).isN = false := rfl
@[simp] theorem isN_non : D.non.isN = true := rfl
theorem run_cond_one {n : Nat} {w : Str} {g : Sg} {i : Int} {M : Mem} (hw : IsW w) (hi : NumOk i) (hg : g.many = false) : DP.run fs (n + 2) 4 [.list [.str w, .str g.s, .str (numS i)]] M = .ok (.tup [.str w, .str g.s, .tup [.int i]]) M := by
  have hin : pr .in_ M [.str g.s, .tup [(.str ">="), (.str "<="), (.str "=")]] = some (.bl true, M) := by
    cases g <;> first | exact lit_in _ [">=", "<=", "="] rfl (by simp) | exact absurd hg (by simp [Sg.many])
  have h1 := run_word (n := n) (M := M) hw
  have h2 := run_num (n := n) (M := M) hi
  have h3 := pr_int_num (M := M) hi
  rw [run_at (d := ⟨1, 6, b_read_condition⟩) rfl rfl]
  simp [b_read_condition, h1, h2, h3, hin]
theorem nums_ok (ns : List Int) : ∀ s ∈ ns.map numS, PyData.strOk s = true := by
  intro s hs
  obtain ⟨i, _, rfl⟩ := List.mem_map.mp hs
  exact numS_ok i
theorem six {env : DP.Env} (he : env.length = 6) : ∃ a b c d e f, env = [a, b, c, d, e, f] := by
  match env, he with
  | [a, b, c, d, e, f], _ => exact ⟨_, _, _, _, _, _, rfl⟩
theorem cond_c1 {n : Nat} {ns : List Int} {M : Mem} (hn : ∀ i ∈ ns, NumOk i) (env : DP.Env) (he : env.length = 6) : compLoop (.items (ns.map (D.str ∘ numS))) (compF (DP.run fs (n + 1)) [3] (.nm 3) (.call 2 [(.v 3)]) env) (ns.map (D.str ∘ numS)) M = .ok (ns.map fun _ => .bl true) M := by
    refine compLoop_on (D.str ∘ numS) (fun _ => .bl true) ns fun x hx => ?_
    obtain ⟨a, b, c, d, e, f, rfl⟩ := six he
    have h2 := run_num (n := n) (M := M) (hn x hx)
    simp [compF, h2]
theorem cond_c2 {call : Nat → List D → Mem → Res D} {ns : List Int} {M : Mem} (hn : ∀ i ∈ ns, NumOk i) (env : DP.Env) (he : env.length = 6) : compLoop (.items (ns.map (D.str ∘ numS))) (compF call [3] (.nm 3) (.pr .int_ [(.v 3)]) env) (ns.map (D.str ∘ numS)) M = .ok (ns.map .int) M := by
    refine compLoop_on (D.str ∘ numS) .int ns fun x hx => ?_
    obtain ⟨a, b, c, d, e, f, rfl⟩ := six he
    have h2 := pr_int_num (M := M) (hn x hx)
    simp [compF, h2]
abbrev lpB : List S := [.ife (.pr .ge [(.pr .idx [(.v 4), (.pr .sub [(.v 5), (.c (.int (1)))])]), (.pr .idx [(.v 4), (.v 5)])]) [.ret (.c .non)] []]
theorem cond_lp2 {call : Nat → List D → Mem → Res D} {ns : List Int} {M : Mem} {a b c d : Option D} {k : Nat} (inc : ∀ k, (h : k + 1 < ns.length) → ns[k] < ns[k + 1]) (hk2 : k + 1 < ns.length) : DP.execs call lpB [a, b, c, d, some (.list (ns.map .int)), some (.int (1 + k))] M = .done .nx [a, b, c, d, some (.list (ns.map .int)), some (.int (1 + k))] M := by
      have hA : atI (ns.map D.int) (1 + (k : Int) - 1) = some (.int ns[k]) := by
        rw [show (1 + (k : Int) - 1) = (k : Int) by omega, atI_nat]
        simp [show k < ns.length by omega]
      have hB : atI (ns.map D.int) (1 + (k : Int)) = some (.int ns[k + 1]) := by
        rw [show (1 + (k : Int)) = ((k + 1 : Nat) : Int) by omega, atI_nat]
        simp [hk2]
      have := inc k hk2
      have h3 : ¬ ns[k + 1] ≤ ns[k] := by omega
      simp [hA, hB, h3]
theorem cond_lp3 {n : Nat} {x : D} (hx : x ∈ rngD 1 ((n : Int) - 1).toNat) : ∃ k : Nat, k + 1 < n ∧ x = .int (1 + k) := by
  obtain ⟨k, hk, rfl⟩ := List.mem_map.mp hx
  rw [List.mem_range] at hk
  exact ⟨k, by omega, rfl⟩
theorem cond_lp {call : Nat → List D → Mem → Res D} {ns : List Int} {M : Mem} (h8 : ns.length ≤ 8) (inc : ∀ k, (h : k + 1 < ns.length) → ns[k] < ns[k + 1]) (a b c d : Option D) : ∃ e, DP.exec call (.for_ (.nm 5) .rng2 [(.c (.int (1))), (.pr .len [(.v 4)])] lpB)
      [a, b, c, d, some (.list (ns.map .int)), none] M = .done .nx [a, b, c, d, some (.list (ns.map .int)), e] M := by
    obtain ⟨env', hf, ⟨e, rfl⟩⟩ := for_nx2 (call := call) (M := M) (t := .nm 5) (k := .rng2) (src := [(.c (.int (1))), (.pr .len [(.v 4)])]) (env := [a, b, c, d, some (.list (ns.map .int)), none])
      (body := lpB) (ds := [.int 1, .int ns.length]) (fun env => ∃ e, env = [a, b, c, d, some (.list (ns.map .int)), e]) ⟨_, rfl⟩
      (by simp) (walk_rng2 (by omega)) (by
      rintro x hx env ⟨e, rfl⟩
      obtain ⟨k, hk, rfl⟩ := cond_lp3 hx
      exact ⟨_, [a, b, c, d, some (.list (ns.map .int)), some (.int (1 + k))], rfl, cond_lp2 inc hk, _, rfl⟩)
    exact ⟨e, hf⟩
theorem run_cond_in0 {n : Nat} {w : Str} {ns : List Int} {M : Mem} (hw : IsW w) (hn : ∀ i ∈ ns, NumOk i) (h1 : 1 ≤ ns.length) (h8 : ns.length ≤ 8) (inc : ∀ k, (h : k + 1 < ns.length) → ns[k] < ns[k + 1]) :
    DP.run fs (n + 2) 4 [.list (.str w :: .str "in" :: ns.map (D.str ∘ numS))] M = .ok (.tup [.str w, .str "in", .tup (ns.map .int)]) M := by
  have hw1 := run_word (n := n) (M := M) hw
  have hen := eq_nil (M := M) (nums_ok ns)
  have he : (ns.map numS).isEmpty = false := by cases ns with
    | nil => simp at h1
    | cons => rfl
  rw [he, List.map_map] at hen
  have hno : ∀ (a : String), a ∉ [">=", "<=", "="] → (a.toList.all fun c => decide (c.toNat < 1000)) = true → pr .in_ M [.str a, .tup [(.str ">="), (.str "<="), (.str "=")]] = some (.bl false, M) := fun a h q => by
    have := lit_in (M := M) a [">=", "<=", "="] q (by simp)
    rw [decide_eq_false h] at this
    exact this
  have hno1 := hno "in" (by simp) rfl
  have hno2 := hno "not" (by simp) rfl
  have c1 := cond_c1 (n := n) (M := M) hn
  have c2 := cond_c2 (call := DP.run fs (n + 1)) (M := M) hn
  have hsz : ns.length ≤ sizeLine := by simp [sizeLine]; omega
  have hall : pr .all M [.list (ns.map fun _ => .bl true)] = some (.bl true, M) := pr_all (by simp)
  have h8' : ¬ (8 : Int) < ns.length := by omega
  have hc3 : ¬ ((ns.length : Int) + 1 + 1 + 1 < 3) := by omega
  have hc2 : ¬ ((ns.length : Int) + 1 + 1 < 3) := by omega
  rw [run_at (d := ⟨1, 6, b_read_condition⟩) rfl rfl]
  have e1 := eq_lit (M := M) (a := "not") (b := "not") rfl rfl
  have e2 := eq_lit (M := M) (a := "in") (b := "in") rfl rfl
  have e3 := eq_lit (M := M) (a := "in") (b := "not") rfl rfl
  have e4 := pr_ne_str (M := M) (a := "in") (b := "in") (strOk_lit rfl) (strOk_lit rfl)
  obtain ⟨e, lp⟩ := cond_lp (call := DP.run fs (n + 1)) (M := M) h8 inc (some (.list (.str w :: .str "in" :: ns.map (D.str ∘ numS)))) (some (.str "in")) (some (.list (ns.map (D.str ∘ numS)))) none
  simp only [lpB] at lp
  simp [b_read_condition, hw1, hno1, hno2, hen, c1, c2, hsz, hall, h8', hc2, hc3, e1, e2, e3, e4, lp]
theorem run_cond_in1 {n : Nat} {w : Str} {ns : List Int} {M : Mem} (hw : IsW w) (hn : ∀ i ∈ ns, NumOk i) (h1 : 1 ≤ ns.length) (h8 : ns.length ≤ 8) (inc : ∀ k, (h : k + 1 < ns.length) → ns[k] < ns[k + 1]) :
    DP.run fs (n + 2) 4 [.list (.str w :: .str "not" :: .str "in" :: ns.map (D.str ∘ numS))] M = .ok (.tup [.str w, .str "not in", .tup (ns.map .int)]) M := by
  have hw1 := run_word (n := n) (M := M) hw
  have hen := eq_nil (M := M) (nums_ok ns)
  have he : (ns.map numS).isEmpty = false := by cases ns with
    | nil => simp at h1
    | cons => rfl
  rw [he, List.map_map] at hen
  have hno : ∀ (a : String), a ∉ [">=", "<=", "="] → (a.toList.all fun c => decide (c.toNat < 1000)) = true → pr .in_ M [.str a, .tup [(.str ">="), (.str "<="), (.str "=")]] = some (.bl false, M) := fun a h q => by
    have := lit_in (M := M) a [">=", "<=", "="] q (by simp)
    rw [decide_eq_false h] at this
    exact this
  have hno1 := hno "in" (by simp) rfl
  have hno2 := hno "not" (by simp) rfl
  have c1 := cond_c1 (n := n) (M := M) hn
  have c2 := cond_c2 (call := DP.run fs (n + 1)) (M := M) hn
  have hsz : ns.length ≤ sizeLine := by simp [sizeLine]; omega
  have hall : pr .all M [.list (ns.map fun _ => .bl true)] = some (.bl true, M) := pr_all (by simp)
  have h8' : ¬ (8 : Int) < ns.length := by omega
  have hc3 : ¬ ((ns.length : Int) + 1 + 1 + 1 < 3) := by omega
  have hc2 : ¬ ((ns.length : Int) + 1 + 1 < 3) := by omega
  rw [run_at (d := ⟨1, 6, b_read_condition⟩) rfl rfl]
  have e1 := eq_lit (M := M) (a := "not") (b := "not") rfl rfl
  have e2 := eq_lit (M := M) (a := "in") (b := "in") rfl rfl
  have e3 := eq_lit (M := M) (a := "in") (b := "not") rfl rfl
  have e4 := pr_ne_str (M := M) (a := "in") (b := "in") (strOk_lit rfl) (strOk_lit rfl)
  obtain ⟨e, lp⟩ := cond_lp (call := DP.run fs (n + 1)) (M := M) h8 inc (some (.list (.str w :: .str "not" :: .str "in" :: ns.map (D.str ∘ numS)))) (some (.str "not in")) (some (.list (ns.map (D.str ∘ numS)))) none
  simp only [lpB] at lp
  simp [b_read_condition, hw1, hno1, hno2, hen, c1, c2, hsz, hall, h8', hc2, hc3, e1, e2, e3, e4, lp]
theorem run_cond {n : Nat} {c : Cnd} {M : Mem} (h : c.Ok) : DP.run fs (n + 2) 4 [.list (c.ws.map .str)] M = .ok c.d M := by
  obtain ⟨w, g, ns⟩ := c
  have one : ∀ hg : g.many = false, ∃ i, ns = [i] := fun hg => by
    have := h.one hg
    match ns, this with
    | [i], _ => exact ⟨i, rfl⟩
  have em : ∀ l : List Str, (⟨w, .in_, ns⟩ : Cnd).ws.map D.str = .str w :: .str "in" :: ns.map (D.str ∘ numS) := fun _ => by simp [Cnd.ws, Sg.ws]
  have em2 : (⟨w, .nin, ns⟩ : Cnd).ws.map D.str = .str w :: .str "not" :: .str "in" :: ns.map (D.str ∘ numS) := by simp [Cnd.ws, Sg.ws]
  cases g with
  | ge => obtain ⟨i, rfl⟩ := one rfl; exact run_cond_one (g := .ge) h.w (h.n i List.mem_cons_self) rfl
  | le => obtain ⟨i, rfl⟩ := one rfl; exact run_cond_one (g := .le) h.w (h.n i List.mem_cons_self) rfl
  | eq => obtain ⟨i, rfl⟩ := one rfl; exact run_cond_one (g := .eq) h.w (h.n i List.mem_cons_self) rfl
  | in_ => rw [em []]; exact run_cond_in0 h.w h.n h.lo h.hi h.inc
  | nin => rw [em2]; exact run_cond_in1 h.w h.n h.lo h.hi h.inc
end K00

namespace K00
open PySem PySem.Spec PyProof.Rows L2 DP
def seps : List Str := ["or", "and", ",", "then"]
theorem sep_ok {sg : Str} (h : sg ∈ seps) : PyData.strOk sg = true := by
  simp only [seps, List.mem_cons, List.not_mem_nil, or_false] at h
  rcases h with h | h | h | h <;> (rw [h]; exact strOk_lit rfl)
theorem IsW.sep {w sg : Str} (h : IsW w) (hs : sg ∈ seps) : w ≠ sg := by
  simp only [seps, List.mem_cons, List.not_mem_nil, or_false] at hs
  have hk := h.kw
  rcases hs with e | e | e | e
  · rintro rfl; exact hk (by rw [e]; simp [kws])
  · rintro rfl; exact hk (by rw [e]; simp [kws])
  · rintro rfl
    have := h.al 44 (by rw [e]; exact List.mem_cons_self)
    omega
  · rintro rfl; exact hk (by rw [e]; simp [kws])
theorem num_sep {i : Int} {sg : Str} (hs : sg ∈ seps) : numS i ≠ sg := by
  simp only [seps, List.mem_cons, List.not_mem_nil, or_false] at hs
  have q : ∀ c ∈ TL.tl (numS i), c = 45 ∨ (48 ≤ c ∧ c ≤ 57) := fun c hc => intL_in (tl_int i ▸ hc)
  rcases hs with e | e | e | e <;> (intro h; rw [h, e] at q)
  · have := q 111 (by exact List.mem_cons_self); omega
  · have := q 97 (by exact List.mem_cons_self); omega
  · have := q 44 (by exact List.mem_cons_self); omega
  · have := q 116 (by exact List.mem_cons_self); omega
theorem Cnd.Ok.sep {c : Cnd} (h : c.Ok) {sg : Str} (hs : sg ∈ seps) : sg ∉ c.ws := by
  unfold Cnd.ws
  intro hm
  rcases List.mem_cons.mp hm with e | hm
  · exact h.w.sep hs e.symm
  · rcases List.mem_append.mp hm with hm | hm
    · simp only [seps, List.mem_cons, List.not_mem_nil, or_false] at hs
      cases hg : c.g <;> rw [hg] at hm <;> simp only [Sg.ws, List.mem_cons, List.not_mem_nil, or_false] at hm <;>
        (rcases hs with e | e | e | e <;> rw [e] at hm <;> simp [ofString_eq] at hm)
    · obtain ⟨i, _, e⟩ := List.mem_map.mp hm
      exact num_sep hs e
theorem Sg.ok (g : Sg) : ∀ s ∈ g.ws, PyData.strOk s = true := by
  intro s hs
  cases g <;> simp only [Sg.ws, List.mem_cons, List.not_mem_nil, or_false] at hs
  · rw [hs]; exact strOk_lit rfl
  · rw [hs]; exact strOk_lit rfl
  · rw [hs]; exact strOk_lit rfl
  · rw [hs]; exact strOk_lit rfl
  · rcases hs with h | h <;> (rw [h]; exact strOk_lit rfl)
theorem Sg.sok (g : Sg) : PyData.strOk g.s = true := by
  cases g <;> exact strOk_lit rfl
theorem Cnd.Ok.ok {c : Cnd} (h : c.Ok) : ∀ s ∈ c.ws, PyData.strOk s = true := by
  intro s hs
  rcases List.mem_cons.mp hs with e | hs
  · rw [e]; exact h.w.ok
  · rcases List.mem_append.mp hs with hs | hs
    · exact c.g.ok s hs
    · exact nums_ok _ s hs
theorem Cnd.Ok.len {c : Cnd} (h : c.Ok) : c.ws.length ≤ 11 := by
  have := h.hi
  unfold Cnd.ws
  cases c.g <;> simp [Sg.ws] <;> omega
theorem weave_ok {sg : Str} (hs : PyData.strOk sg = true) : ∀ {G : List (List Str)}, (∀ g ∈ G, ∀ s ∈ g, PyData.strOk s = true) → ∀ s ∈ weave sg G, PyData.strOk s = true
  | [], _, s, h => by simp [weave] at h
  | [g], hG, s, h => by rw [weave] at h; exact hG g List.mem_cons_self s h
  | g :: g2 :: gs, hG, s, h => by
    rw [weave] at h
    · rcases List.mem_append.mp h with h | h
      · exact hG g List.mem_cons_self s h
      · rcases List.mem_cons.mp h with h | h
        · rw [h]; exact hs
        · exact weave_ok hs (fun x m => hG x (List.mem_cons_of_mem _ m)) s h
    · simp
theorem weave_len {sg : Str} {k : Nat} : ∀ {G : List (List Str)}, (∀ g ∈ G, g.length ≤ k) → (weave sg G).length ≤ G.length * (k + 1)
  | [], _ => by simp [weave]
  | [g], hG => by have := hG g List.mem_cons_self; simp [weave]; omega
  | g :: g2 :: gs, hG => by
    have h1 := hG g List.mem_cons_self
    have h2 := weave_len (sg := sg) (k := k) (G := g2 :: gs) fun x m => hG x (List.mem_cons_of_mem _ m)
    rw [weave]
    · rw [List.length_append, List.length_cons, List.length_cons, Nat.add_mul]; omega
    · simp
theorem weave_free {sg x : Str} (hx : x ≠ sg) : ∀ {G : List (List Str)}, (∀ g ∈ G, x ∉ g) → x ∉ weave sg G
  | [], _ => by simp [weave]
  | [g], hG => by rw [weave]; exact hG g List.mem_cons_self
  | g :: g2 :: gs, hG => by
    rw [weave]
    · intro h
      rcases List.mem_append.mp h with h | h
      · exact hG g List.mem_cons_self h
      · rcases List.mem_cons.mp h with h | h
        · exact hx h
        · exact weave_free hx (fun y m => hG y (List.mem_cons_of_mem _ m)) h
    · simp
/-! ### a list of conditions -/
def Cnd.py (c : Cnd) : PyData := .tuple [.str c.w, .str c.g.s, .tuple (c.ns.map .int)]
theorem pys_ints {M : Mem} : ∀ ns : List Int, pys M 0 (ns.map .int) = some (ns.map .int)
  | [] => rfl
  | s :: ss => by simp [pys, DP.py, pys_ints ss]
theorem pys_cnds {M : Mem} : ∀ cs : List Cnd, pys M 0 (cs.map Cnd.d) = some (cs.map Cnd.py)
  | [] => rfl
  | c :: cs => by simp [pys, DP.py, pys_cnds cs, Cnd.d, Cnd.py, pys_ints]
theorem lay_ints : ∀ ns : List Int, PyData.canLayAll0 (ns.map .int) = true
  | [] => by simp [PyData.canLayAll0]
  | i :: ns => by simp [PyData.canLayAll0, PyData.canLay0, lay_ints ns]
theorem lay_cnds : ∀ cs : List Cnd, (∀ c ∈ cs, c.Ok) → PyData.canLayAll0 (cs.map Cnd.py) = true
  | [], _ => by simp [PyData.canLayAll0]
  | c :: cs, h => by
    have h1 := (h c List.mem_cons_self).w.ok
    simp [PyData.canLayAll0, PyData.canLay0, Cnd.py, lay_ints, lay_cnds cs fun x m => h x (List.mem_cons_of_mem _ m), h1, Sg.sok]
theorem dep_ints : ∀ ns : List Int, PyData.depthAll (ns.map .int) ≤ 1
  | [] => by simp [PyData.depthAll]
  | i :: ns => by have := dep_ints ns; simp [PyData.depthAll, PyData.depth]; omega
theorem dep_cnds : ∀ cs : List Cnd, PyData.depthAll (cs.map Cnd.py) ≤ 5
  | [] => by simp [PyData.depthAll]
  | c :: cs => by have := dep_cnds cs; have := dep_ints c.ns; simp [PyData.depthAll, PyData.depth, Cnd.py]; omega
theorem non_in {M : Mem} {cs : List Cnd} (h : ∀ c ∈ cs, c.Ok) : pr .in_ M [.non, .list (cs.map Cnd.d)] = some (.bl false, M) := by
  have sh : SeqAt.shaped (.list (cs.map Cnd.py)) = true := by
    unfold SeqAt.shaped
    rw [Bool.and_eq_true]
    refine ⟨by show PyData.canLay0 (.list _) = true; rw [PyData.canLay0]; exact lay_cnds cs h, decide_eq_true ?_⟩
    have := dep_cnds cs
    simp [PyData.depth]; omega
  have sn : SeqAt.shaped .none = true := by
    unfold SeqAt.shaped
    rw [Bool.and_eq_true]
    exact ⟨by show PyData.canLay0 .none = true; rw [PyData.canLay0], decide_eq_true (by rw [PyData.depth]; omega)⟩
  have e : inB M [.non, .list (cs.map Cnd.d)] = (match pys M 0 (cs.map Cnd.d) with
      | some zs => if SeqAt.shaped .none = true ∧ SeqAt.shaped (.list zs) = true then some (zs.any fun z => PyData.eqv z .none) else none
      | none => none) := rfl
  rw [pys_cnds] at e
  simp only [sh, sn, and_self, if_true] at e
  have e2 : ((cs.map Cnd.py).any fun z => PyData.eqv z .none) = false := by
    rw [List.any_eq_false]
    intro x hx
    obtain ⟨c, _, rfl⟩ := List.mem_map.mp hx
    simp [Cnd.py, PyData.eqv]
  rw [e2] at e
  show prIn M [.non, .list (cs.map Cnd.d)] = _
  unfold prIn
  rw [e]; rfl
theorem run_conds {n : Nat} {M : Mem} {sg : Str} {cs : List Cnd} {lo hi : Int} (hs : sg ∈ seps) (hc : ∀ c ∈ cs, c.Ok) (h0 : cs ≠ []) (hlo : lo ≤ cs.length) (hhi : cs.length ≤ hi) (h13 : cs.length ≤ 13) :
    DP.run fs (n + 3) 5 [.list ((weave sg (cs.map Cnd.ws)).map .str), .str sg, .int lo, .int hi] M = .ok (.tup (cs.map Cnd.d)) M := by
  have hG1 : ∀ g ∈ cs.map Cnd.ws, ∀ s ∈ g, PyData.strOk s = true := by
    intro g hg
    obtain ⟨c, hm, rfl⟩ := List.mem_map.mp hg
    exact (hc c hm).ok
  have hG2 : ∀ g ∈ cs.map Cnd.ws, g.length ≤ 11 := by
    intro g hg
    obtain ⟨c, hm, rfl⟩ := List.mem_map.mp hg
    exact (hc c hm).len
  have hl := weave_len (sg := sg) hG2
  rw [List.length_map] at hl
  have hp := run_parted (n := n + 1) (M := M) (sep_ok hs) (ws := weave sg (cs.map Cnd.ws)) (by omega) (weave_ok (sep_ok hs) hG1)
  rw [groups_of (by simpa using h0) (fun g hg => by
    obtain ⟨c, hm, rfl⟩ := List.mem_map.mp hg
    exact (hc c hm).sep hs)] at hp
  rw [List.map_map] at hp
  have hn := non_in (M := M) hc
  have h1 : ¬ ((cs.length : Int) < lo) := by omega
  have h2 : ¬ (hi < (cs.length : Int)) := by omega
  have hsz : cs.length ≤ sizeLine := by simp [sizeLine]; omega
  rw [run_at (d := ⟨4, 6, b_read_conditions⟩) rfl rfl]
  have c1 : compLoop (.items (cs.map ((fun g => D.list (g.map .str)) ∘ Cnd.ws))) (compF (DP.run fs (n + 2)) [5] (.nm 5) (.call 4 [(.v 5)]) [some (.list ((weave sg (cs.map Cnd.ws)).map .str)), some (.str sg), some (.int lo), some (.int hi), none, none]) (cs.map ((fun g => D.list (g.map .str)) ∘ Cnd.ws)) M = .ok (cs.map Cnd.d) M := by
    refine compLoop_on _ Cnd.d cs fun c hx => ?_
    have h2 := run_cond (n := n) (M := M) (hc c hx)
    simp [compF, h2]
  simp [b_read_conditions, hp, c1, hsz, h1, h2, hn]
end K00

namespace K00
open PySem PySem.Spec PyProof.Rows L2 DP
inductive Bas where
  | is (c : Cnd) | order (a : Str) (i : Int) (b : Str)
def Bas.Ok : Bas → Prop
  | .is c => c.Ok
  | .order a i b => IsW a ∧ NumOk i ∧ IsW b
def Bas.ws : Bas → List Str
  | .is c => c.ws
  | .order a i b => [a, "+", numS i, "<=", b]
def Bas.d : Bas → D
  | .is c => .tup [.str "is", c.d]
  | .order a i b => .tup [.str "order", .str a, .int i, .str b]
inductive Frm where
  | bas (b : Bas) | either (cs : List Cnd) | ifs (cs : List Cnd) (b : Bas) | at_ (m : Bool) (i : Int) (cs : List Cnd)
structure CsOk (cs : List Cnd) (lo hi : Nat) : Prop where
  c : ∀ c ∈ cs, c.Ok
  lo : lo ≤ cs.length
  hi : cs.length ≤ hi
def Frm.Ok : Frm → Prop
  | .bas b => b.Ok
  | .either cs => CsOk cs 2 13
  | .ifs cs b => CsOk cs 1 8 ∧ b.Ok
  | .at_ _ i cs => NumOk i ∧ CsOk cs 1 8
abbrev wv (sg : Str) (cs : List Cnd) : List Str := weave sg (cs.map Cnd.ws)
def mostS (m : Bool) : Str := if m then "most" else "least"
def Frm.ws : Frm → List Str
  | .bas b => b.ws
  | .either cs => ("either" : Str) :: wv "or" cs
  | .ifs cs b => ("if" : Str) :: (wv "and" cs ++ ("then" : Str) :: b.ws)
  | .at_ m i cs => ("at" : Str) :: mostS m :: numS i :: ("of" : Str) :: wv "," cs
def Frm.d : Frm → D
  | .bas b => b.d
  | .either cs => .tup [.str "either", .tup (cs.map Cnd.d)]
  | .ifs cs b => .tup [.str "if", .tup (cs.map Cnd.d), b.d]
  | .at_ m i cs => .tup [.str (mostS m), .int i, .tup (cs.map Cnd.d)]
@[simp] theorem pr_len_strs {M : Mem} {ss : List Str} : pr .len M [.list (ss.map .str)] = some (.int ss.length, M) := by
  rw [pr_len_list]; simp
theorem run_plain_is {n : Nat} {M : Mem} {c : Cnd} (h : c.Ok) : DP.run fs (n + 3) 6 [.list (c.ws.map .str)] M = .ok (.tup [.str "is", c.d]) M := by
  have h1 := run_cond (n := n) (M := M) h
  have hd : c.d.isN = false := rfl
  rw [run_at (d := ⟨1, 2, b_read_plain⟩) rfl rfl]
  by_cases hl : (c.ws.length : Int) = 5
  · have hx : ∃ x r, c.ws = c.w :: x :: r ∧ PyData.strOk x = true ∧ x ≠ ("+" : Str) := by
      unfold Cnd.ws
      cases hg : c.g
      · exact ⟨_, _, rfl, strOk_lit rfl, by rw [Ne, ofString_eq]; decide⟩
      · exact ⟨_, _, rfl, strOk_lit rfl, by rw [Ne, ofString_eq]; decide⟩
      · exact ⟨_, _, rfl, strOk_lit rfl, by rw [Ne, ofString_eq]; decide⟩
      · exact ⟨_, _, rfl, strOk_lit rfl, by rw [Ne, ofString_eq]; decide⟩
      · exact ⟨_, _, rfl, strOk_lit rfl, by rw [Ne, ofString_eq]; decide⟩
    obtain ⟨x, r, e, hx, hne⟩ := hx
    have he := pr_eq_str (M := M) hx (strOk_lit (a := "+") rfl)
    rw [e] at hl h1 ⊢
    have hat : ((D.str c.w :: D.str x :: r.map D.str))[1]? = some (.str x) := rfl
    simp at hl
    simp [b_read_plain, he, hne] at h1 ⊢
    by_cases hl2 : (r.length : Int) + 1 + 1 = 5
    · simp [hl2, h1, hd]
    · simp [hl2, h1, hd]
  · simp [b_read_plain, hl, h1, hd]
theorem run_plain {n : Nat} {M : Mem} {b : Bas} (h : b.Ok) : DP.run fs (n + 3) 6 [.list (b.ws.map .str)] M = .ok b.d M := by
  cases b with
  | is c => exact run_plain_is h
  | order a i b =>
    obtain ⟨ha, hi, hb⟩ := h
    have h1 := run_word (n := n + 1) (M := M) ha
    have h2 := run_word (n := n + 1) (M := M) hb
    have h3 := run_num (n := n + 1) (M := M) hi
    have h4 := pr_int_num (M := M) hi
    have e1 := eq_lit (M := M) (a := "+") (b := "+") rfl rfl
    have e2 := eq_lit (M := M) (a := "<=") (b := "<=") rfl rfl
    rw [run_at (d := ⟨1, 2, b_read_plain⟩) rfl rfl]
    simp [b_read_plain, Bas.ws, Bas.d, h1, h2, h3, h4, e1, e2]
theorem Bas.Ok.ok {b : Bas} (h : b.Ok) : ∀ s ∈ b.ws, PyData.strOk s = true := by
  cases b with
  | is c => exact Cnd.Ok.ok h
  | order a i b =>
    obtain ⟨ha, hi, hb⟩ := h
    intro s hs
    simp only [Bas.ws, List.mem_cons, List.not_mem_nil, or_false] at hs
    rcases hs with e | e | e | e | e <;> rw [e]
    · exact ha.ok
    · exact strOk_lit rfl
    · exact numS_ok i
    · exact strOk_lit rfl
    · exact hb.ok
theorem Bas.Ok.sep {b : Bas} (h : b.Ok) {sg : Str} (hs : sg ∈ seps) : sg ∉ b.ws := by
  cases b with
  | is c => exact Cnd.Ok.sep h hs
  | order a i b =>
    obtain ⟨ha, hi, hb⟩ := h
    intro hm
    simp only [Bas.ws, List.mem_cons, List.not_mem_nil, or_false] at hm
    have q : ∀ s ∈ ([("+" : Str), "<="]), sg ≠ s := by
      intro s hs' e
      simp only [seps, List.mem_cons, List.not_mem_nil, or_false] at hs hs'
      rcases hs' with h' | h' <;> rcases hs with h | h | h | h <;> (rw [h, h'] at e; simp [ofString_eq] at e)
    rcases hm with e | e | e | e | e
    · exact ha.sep hs e.symm
    · exact q _ (by simp) e
    · exact num_sep hs e.symm
    · exact q _ (by simp) e
    · exact hb.sep hs e.symm
theorem Bas.Ok.len {b : Bas} (h : b.Ok) : b.ws.length ≤ 11 := by
  cases b with
  | is c => exact Cnd.Ok.len h
  | order a i b => simp [Bas.ws]
theorem Bas.Ok.hd {b : Bas} (h : b.Ok) : ∃ w r, b.ws = w :: r ∧ IsW w := by
  cases b with
  | is c => exact ⟨_, _, rfl, h.w⟩
  | order a i b => exact ⟨_, _, rfl, h.1⟩
theorem wv_ok {cs : List Cnd} (h : ∀ c ∈ cs, c.Ok) {sg : Str} (hs : sg ∈ seps) : ∀ s ∈ wv sg cs, PyData.strOk s = true :=
  weave_ok (sep_ok hs) fun g hg => by obtain ⟨c, hm, rfl⟩ := List.mem_map.mp hg; exact (h c hm).ok
theorem wv_len {cs : List Cnd} (h : ∀ c ∈ cs, c.Ok) (hl : cs.length ≤ 13) {sg : Str} : (wv sg cs).length ≤ 156 := by
  have := weave_len (sg := sg) (k := 11) (G := cs.map Cnd.ws) fun g hg => by obtain ⟨c, hm, rfl⟩ := List.mem_map.mp hg; exact (h c hm).len
  rw [List.length_map] at this
  show (weave sg (cs.map Cnd.ws)).length ≤ 156
  omega
theorem kw_ne {w : Str} (h : IsW w) {a : Str} (ha : a ∈ kws) : w ≠ a := fun e => h.kw (e ▸ ha)
theorem run_form_bas {n : Nat} {M : Mem} {b : Bas} (h : b.Ok) : DP.run fs (n + 4) 7 [.list (b.ws.map .str)] M = .ok b.d M := by
  obtain ⟨w, r, e, hw⟩ := h.hd
  have h1 := run_plain (n := n) (M := M) h
  have hne := ne_nil (M := M) h.ok
  have q : ∀ a : String, Str.ofString a ∈ kws → (a.toList.all fun c => decide (c.toNat < 1000)) = true → pr .eq M [.str w, .str a] = some (.bl false, M) := fun a ha hq => by
    rw [pr_eq_str hw.ok (strOk_lit hq), decide_eq_false (kw_ne hw ha)]
  have q1 := q "either" (by simp [kws]) rfl
  have q2 := q "if" (by simp [kws]) rfl
  have q3 := q "at" (by simp [kws]) rfl
  rw [run_at (d := ⟨1, 5, b_read_form⟩) rfl rfl]
  rw [e] at h1 hne ⊢
  simp at h1 hne
  simp [b_read_form, h1, hne, q1, q2, q3]
theorem cnd_isN {cs : List Cnd} : (D.tup (cs.map Cnd.d)).isN = false := rfl
theorem bas_isN {b : Bas} : b.d.isN = false := by cases b <;> rfl
theorem run_form_either {n : Nat} {M : Mem} {cs : List Cnd} (h : CsOk cs 2 13) : DP.run fs (n + 4) 7 [.list ((Frm.either cs).ws.map .str)] M = .ok (Frm.either cs).d M := by
  have h0 := h.lo
  have h13 := h.hi
  have h1 := run_conds (n := n) (M := M) (sg := "or") (lo := 2) (hi := 13) (by simp [seps]) h.c (by rintro rfl; simp at h0) (by omega) (by omega) h13
  have hok : ∀ s ∈ (Frm.either cs).ws, PyData.strOk s = true := by
    intro s hs
    rcases List.mem_cons.mp hs with e | hs
    · rw [e]; exact strOk_lit rfl
    · exact wv_ok h.c (by simp [seps]) s hs
  have hne := ne_nil (M := M) hok
  have e1 := eq_lit (M := M) (a := "either") (b := "either") rfl rfl
  rw [run_at (d := ⟨1, 5, b_read_form⟩) rfl rfl]
  simp [Frm.ws, -List.map_map] at hne ⊢
  simp [b_read_form, h1, hne, e1, Frm.d, -List.map_map]
theorem run_form_if {n : Nat} {M : Mem} {cs : List Cnd} {b : Bas} (h : CsOk cs 1 8) (hb : b.Ok) : DP.run fs (n + 4) 7 [.list ((Frm.ifs cs b).ws.map .str)] M = .ok (Frm.ifs cs b).d M := by
  have h0 := h.lo
  have h8 := h.hi
  have h1 := run_conds (n := n) (M := M) (sg := "and") (lo := 1) (hi := 8) (by simp [seps]) h.c (by rintro rfl; simp at h0) (by omega) (by omega) (by omega)
  have h2 := run_plain (n := n) (M := M) hb
  have hthen : PyData.strOk ("then" : Str) = true := strOk_lit rfl
  have hok2 : ∀ s ∈ wv "and" cs ++ ("then" : Str) :: b.ws, PyData.strOk s = true := by
    intro s hs
    rcases List.mem_append.mp hs with hs | hs
    · exact wv_ok h.c (by simp [seps]) s hs
    · rcases List.mem_cons.mp hs with e | hs
      · rw [e]; exact strOk_lit rfl
      · exact hb.ok s hs
  have hok : ∀ s ∈ (Frm.ifs cs b).ws, PyData.strOk s = true := by
    intro s hs
    rcases List.mem_cons.mp hs with e | hs
    · rw [e]; exact strOk_lit rfl
    · exact hok2 s hs
  have hl := wv_len h.c (by omega) (sg := "and")
  have hl2 := hb.len
  have hp := run_parted (n := n + 2) (M := M) hthen (ws := wv "and" cs ++ ("then" : Str) :: b.ws) (by rw [List.length_append, List.length_cons]; omega) hok2
  rw [show wv "and" cs ++ ("then" : Str) :: b.ws = weave "then" [wv "and" cs, b.ws] from rfl, groups_of (by simp) (by
    intro g hg
    simp only [List.mem_cons, List.not_mem_nil, or_false] at hg
    rcases hg with e | e <;> rw [e]
    · refine weave_free (by rw [Ne, ofString_eq]; decide) fun g hg => ?_
      obtain ⟨c, hm, rfl⟩ := List.mem_map.mp hg
      exact (h.c c hm).sep (by simp [seps])
    · exact hb.sep (by simp [seps]))] at hp
  have hne := ne_nil (M := M) hok
  have e1 := eq_lit (M := M) (a := "if") (b := "either") rfl rfl
  have e2 := eq_lit (M := M) (a := "if") (b := "if") rfl rfl
  have hw : (Frm.ifs cs b).ws = ("if" : Str) :: weave "then" [wv "and" cs, b.ws] := rfl
  rw [run_at (d := ⟨1, 5, b_read_form⟩) rfl rfl]
  rw [hw] at hne ⊢
  generalize weave "then" [wv "and" cs, b.ws] = W at *
  simp at hne hp
  simp [b_read_form, h1, h2, hp, hne, e1, e2, Frm.d, cnd_isN, bas_isN]
theorem run_form_at {n : Nat} {M : Mem} {m : Bool} {i : Int} {cs : List Cnd} (hi : NumOk i) (h : CsOk cs 1 8) : DP.run fs (n + 4) 7 [.list ((Frm.at_ m i cs).ws.map .str)] M = .ok (Frm.at_ m i cs).d M := by
  have h0 := h.lo
  have h8 := h.hi
  have h1 := run_conds (n := n) (M := M) (sg := ",") (lo := 1) (hi := 8) (by simp [seps]) h.c (by rintro rfl; simp at h0) (by omega) (by omega) (by omega)
  have h2 := run_num (n := n + 2) (M := M) hi
  have h3 := pr_int_num (M := M) hi
  have hm : pr .notIn M [.str (mostS m), .tup [(.str "most"), (.str "least")]] = some (.bl false, M) := by
    cases m
    · exact lit_notIn "least" ["most", "least"] rfl (by simp)
    · exact lit_notIn "most" ["most", "least"] rfl (by simp)
  have hmo : PyData.strOk (mostS m) = true := by cases m <;> exact strOk_lit rfl
  have hok : ∀ s ∈ (Frm.at_ m i cs).ws, PyData.strOk s = true := by
    intro s hs
    simp only [Frm.ws, List.mem_cons] at hs
    rcases hs with e | e | e | e | hs
    · rw [e]; exact strOk_lit rfl
    · rw [e]; exact hmo
    · rw [e]; exact numS_ok i
    · rw [e]; exact strOk_lit rfl
    · exact wv_ok h.c (by simp [seps]) s hs
  have hne := ne_nil (M := M) hok
  have e1 := eq_lit (M := M) (a := "at") (b := "either") rfl rfl
  have e2 := eq_lit (M := M) (a := "at") (b := "if") rfl rfl
  have e3 := eq_lit (M := M) (a := "at") (b := "at") rfl rfl
  have e4 := pr_ne_str (M := M) (a := "of") (b := "of") (strOk_lit rfl) (strOk_lit rfl)
  have hlen : 1 ≤ (wv "," cs).length := by
    match cs, h0 with
    | [c], _ => show 1 ≤ c.ws.length; simp [Cnd.ws]
    | c :: c2 :: cs, _ =>
      show 1 ≤ (c.ws ++ _ :: _).length
      simp; omega
  have hw : (Frm.at_ m i cs).ws = ("at" : Str) :: mostS m :: numS i :: ("of" : Str) :: wv "," cs := rfl
  have hd : (Frm.at_ m i cs).d = .tup [.str (mostS m), .int i, .tup (cs.map Cnd.d)] := rfl
  rw [run_at (d := ⟨1, 5, b_read_form⟩) rfl rfl]
  rw [hw] at hne ⊢
  rw [hd]
  simp only [wv] at *
  generalize weave "," (cs.map Cnd.ws) = W at *
  generalize mostS m = u at *
  have hq : ¬ ((W.length : Int) + 1 + 1 + 1 + 1 < 5) := by omega
  simp at hne h1
  simp [b_read_form, h1, h2, h3, hm, hne, e1, e2, e3, e4, cnd_isN, hq]
theorem run_form {n : Nat} {M : Mem} {f : Frm} (h : f.Ok) : DP.run fs (n + 4) 7 [.list (f.ws.map .str)] M = .ok f.d M := by
  cases f with
  | bas b => exact run_form_bas h
  | either cs => exact run_form_either h
  | ifs cs b => exact run_form_if h.1 h.2
  | at_ m i cs => exact run_form_at h.1 h.2
end K00

namespace K00
open PySem PySem.Spec PyProof.Rows L2 DP
inductive Lin where
  | fin_ | close (w : Str) | name (w : Str) (a b : Int) | frm (m : Bool) (w : Str) (f : Frm) | use (m : Bool) (w v : Str) (ws : List Str) | block (w : Str) (ws : List Str)
structure WsOk (ws : List Str) : Prop where
  w : ∀ w ∈ ws, IsW w
  lo : 1 ≤ ws.length
  hi : ws.length ≤ 4
def Lin.Ok : Lin → Prop
  | .fin_ => True
  | .close w => IsW w
  | .name w a b => IsW w ∧ NumOk a ∧ NumOk b
  | .frm _ w f => IsW w ∧ f.Ok
  | .use _ w v ws => IsW w ∧ IsW v ∧ WsOk ws
  | .block w ws => IsW w ∧ WsOk ws
def rowS (m : Bool) : Str := if m then "must" else "row"
def useS (m : Bool) : Str := if m then "mustuse" else "use"
def Lin.ws : Lin → List Str
  | .fin_ => ["end"]
  | .close w => [("close" : Str), w]
  | .name w a b => [("name" : Str), w, numS a, numS b]
  | .frm m w f => rowS m :: w :: (":" : Str) :: f.ws
  | .use m w v ws => useS m :: w :: (":" : Str) :: v :: ws
  | .block w ws => ("block" : Str) :: w :: (":" : Str) :: ws
def Lin.d : Lin → D
  | .fin_ => .tup [.str "end"]
  | .close w => .tup [.str "close", .str w]
  | .name w a b => .tup [.str "name", .str w, .int a, .int b]
  | .frm m w f => .tup [.str (rowS m), .str w, f.d]
  | .use m w v ws => .tup [.str (useS m), .str w, .str v, .tup (ws.map .str)]
  | .block w ws => .tup [.str "block", .str w, .tup (ws.map .str)]
theorem frm_isN {f : Frm} : f.d.isN = false := by
  cases f with
  | bas b => exact bas_isN
  | _ => rfl
theorem lin_isN {f : Lin} : f.d.isN = false := by cases f <;> rfl
theorem WsOk.ok {ws : List Str} (h : WsOk ws) : ∀ s ∈ ws, PyData.strOk s = true := fun s hs => (h.w s hs).ok
theorem run_words_like {n : Nat} {M : Mem} {ws : List Str} (h : WsOk ws) : DP.run fs (n + 2) 12 [.list (ws.map .str)] M = .ok (.bl true) M := by
  have he := eq_nil (M := M) h.ok
  have h1 := h.lo
  have h4 := h.hi
  have hq : ws.isEmpty = false := by cases ws with
    | nil => simp at h1
    | cons => rfl
  rw [hq] at he
  have hl : ¬ (4 : Int) < ws.length := by omega
  have hsz : ws.length ≤ sizeLine := by simp [sizeLine]; omega
  rw [run_at (d := ⟨1, 2, b_words_like⟩) rfl rfl]
  have c1 : compLoop (.items (ws.map .str)) (compF (DP.run fs (n + 1)) [1] (.nm 1) (.call 1 [(.v 1)]) [some (.list (ws.map .str)), none]) (ws.map .str) M = .ok (ws.map fun _ => .bl true) M := by
    refine compLoop_on D.str (fun _ => .bl true) ws fun w hw => ?_
    have := run_word (n := n) (M := M) (h.w w hw)
    simp [compF, this]
  have hall : pr .all M [.list (ws.map fun _ => .bl true)] = some (.bl true, M) := pr_all (by simp)
  simp [b_words_like, he, hl, c1, hsz, hall]
theorem run_line_of_small {n : Nat} {M : Mem} {l : Lin} (h : l.Ok) (hl : (∃ w, l = .close w) ∨ l = .fin_ ∨ ∃ w a b, l = .name w a b) : DP.run fs (n + 5) 13 [.list (l.ws.map .str)] M = .ok l.d M := by
  have a1 := eq_lit (M := M) (a := "end") (b := "end") rfl rfl
  have b1 := eq_lit (M := M) (a := "close") (b := "end") rfl rfl
  have b2 := eq_lit (M := M) (a := "close") (b := "close") rfl rfl
  have c1 := eq_lit (M := M) (a := "name") (b := "end") rfl rfl
  have c2 := eq_lit (M := M) (a := "name") (b := "close") rfl rfl
  have c3 := eq_lit (M := M) (a := "name") (b := "name") rfl rfl
  rw [run_at (d := ⟨1, 3, b_line_of⟩) rfl rfl]
  rcases hl with ⟨w, rfl⟩ | rfl | ⟨w, a, b, rfl⟩
  · have h1 := run_word (n := n + 3) (M := M) h
    simp [b_line_of, Lin.ws, Lin.d, b1, b2, h1]
  · simp [b_line_of, Lin.ws, Lin.d, a1]
  · have h1 := run_word (n := n + 3) (M := M) h.1
    have h2 := run_num (n := n + 3) (M := M) h.2.1
    have h3 := run_num (n := n + 3) (M := M) h.2.2
    have h4 := pr_int_num (M := M) h.2.1
    have h5 := pr_int_num (M := M) h.2.2
    simp [b_line_of, Lin.ws, Lin.d, c1, c2, c3, h1, h2, h3, h4, h5]
theorem Frm.ws_len (f : Frm) (h : f.Ok) : 1 ≤ f.ws.length := by
  cases f with
  | bas b => obtain ⟨w, r, e, _⟩ := Bas.Ok.hd h; show 1 ≤ b.ws.length; rw [e]; simp
  | either cs => show 1 ≤ (_ :: _).length; simp
  | ifs cs b => show 1 ≤ (_ :: _).length; simp
  | at_ m i cs => show 1 ≤ (_ :: _).length; simp
theorem run_line_of_frm {n : Nat} {M : Mem} {m : Bool} {w : Str} {f : Frm} (h : (Lin.frm m w f).Ok) : DP.run fs (n + 5) 13 [.list ((Lin.frm m w f).ws.map .str)] M = .ok (Lin.frm m w f).d M := by
  have a1 : pr .eq M [.str (rowS m), .str "end"] = some (.bl false, M) := by cases m <;> exact eq_lit rfl rfl
  have a2 : pr .eq M [.str (rowS m), .str "close"] = some (.bl false, M) := by cases m <;> exact eq_lit rfl rfl
  have a3 : pr .eq M [.str (rowS m), .str "name"] = some (.bl false, M) := by cases m <;> exact eq_lit rfl rfl
  have a4 : pr .eq M [.str (rowS m), .str "block"] = some (.bl false, M) := by cases m <;> exact eq_lit rfl rfl
  have a5 : pr .in_ M [.str (rowS m), .tup [(.str "row"), (.str "must")]] = some (.bl true, M) := by
    cases m
    · exact lit_in "row" ["row", "must"] rfl (by simp)
    · exact lit_in "must" ["row", "must"] rfl (by simp)
  have a6 := pr_ne_str (M := M) (a := ":") (b := ":") (strOk_lit rfl) (strOk_lit rfl)
  have h1 := run_word (n := n + 3) (M := M) h.1
  have h2 := run_form (n := n) (M := M) h.2
  have h3 := f.ws_len h.2
  have h4 : ¬ ((f.ws.length : Int) + 1 + 1 + 1 < 4) := by omega
  have h5 : ¬ ((f.ws.length : Int) + 1 + 1 + 1 < 2) := by omega
  rw [run_at (d := ⟨1, 3, b_line_of⟩) rfl rfl]
  simp [b_line_of, Lin.ws, Lin.d, a1, a2, a3, a4, a5, a6, h1, h2, h4, h5, frm_isN]
theorem run_line_of_use {n : Nat} {M : Mem} {m : Bool} {w v : Str} {ws : List Str} (h : (Lin.use m w v ws).Ok) : DP.run fs (n + 5) 13 [.list ((Lin.use m w v ws).ws.map .str)] M = .ok (Lin.use m w v ws).d M := by
  have a1 : pr .eq M [.str (useS m), .str "end"] = some (.bl false, M) := by cases m <;> exact eq_lit rfl rfl
  have a2 : pr .eq M [.str (useS m), .str "close"] = some (.bl false, M) := by cases m <;> exact eq_lit rfl rfl
  have a3 : pr .eq M [.str (useS m), .str "name"] = some (.bl false, M) := by cases m <;> exact eq_lit rfl rfl
  have a4 : pr .eq M [.str (useS m), .str "block"] = some (.bl false, M) := by cases m <;> exact eq_lit rfl rfl
  have a5 : pr .in_ M [.str (useS m), .tup [(.str "row"), (.str "must")]] = some (.bl false, M) := by
    cases m
    · exact lit_in "use" ["row", "must"] rfl (by simp)
    · exact lit_in "mustuse" ["row", "must"] rfl (by simp)
  have a6 := pr_ne_str (M := M) (a := ":") (b := ":") (strOk_lit rfl) (strOk_lit rfl)
  have h1 := run_word (n := n + 3) (M := M) h.1
  have h2 := run_word (n := n + 3) (M := M) h.2.1
  have h3 := run_words_like (n := n + 2) (M := M) h.2.2
  have h4 : ¬ ((ws.length : Int) + 1 + 1 + 1 + 1 < 4) := by omega
  have h5 : ¬ ((ws.length : Int) + 1 + 1 + 1 + 1 < 2) := by omega
  rw [run_at (d := ⟨1, 3, b_line_of⟩) rfl rfl]
  simp [b_line_of, Lin.ws, Lin.d, a1, a2, a3, a4, a5, a6, h1, h2, h3, h4, h5]
theorem run_line_of_block {n : Nat} {M : Mem} {w : Str} {ws : List Str} (h : (Lin.block w ws).Ok) : DP.run fs (n + 5) 13 [.list ((Lin.block w ws).ws.map .str)] M = .ok (Lin.block w ws).d M := by
  have a1 := eq_lit (M := M) (a := "block") (b := "end") rfl rfl
  have a2 := eq_lit (M := M) (a := "block") (b := "close") rfl rfl
  have a3 := eq_lit (M := M) (a := "block") (b := "name") rfl rfl
  have a4 := eq_lit (M := M) (a := "block") (b := "block") rfl rfl
  have a6 := pr_ne_str (M := M) (a := ":") (b := ":") (strOk_lit rfl) (strOk_lit rfl)
  have h1 := run_word (n := n + 3) (M := M) h.1
  have h3 := run_words_like (n := n + 2) (M := M) h.2
  have hl := h.2.lo
  have h4 : ¬ ((ws.length : Int) + 1 + 1 + 1 < 4) := by omega
  have h5 : ¬ ((ws.length : Int) + 1 + 1 + 1 < 2) := by omega
  rw [run_at (d := ⟨1, 3, b_line_of⟩) rfl rfl]
  simp [b_line_of, Lin.ws, Lin.d, a1, a2, a3, a4, a6, h1, h3, h4, h5]
theorem run_line_of {n : Nat} {M : Mem} {l : Lin} (h : l.Ok) : DP.run fs (n + 5) 13 [.list (l.ws.map .str)] M = .ok l.d M := by
  cases l with
  | fin_ => exact run_line_of_small h (.inr (.inl rfl))
  | close w => exact run_line_of_small h (.inl ⟨_, rfl⟩)
  | name w a b => exact run_line_of_small h (.inr (.inr ⟨_, _, _, rfl⟩))
  | frm m w f => exact run_line_of_frm h
  | use m w v ws => exact run_line_of_use h
  | block w ws => exact run_line_of_block h
end K00

namespace K00
open PySem PySem.Spec PyProof.Rows L2 DP
def Sig (c : Nat) : Prop := (97 ≤ c ∧ c ≤ 122) ∨ (48 ≤ c ∧ c ≤ 57) ∨ c = 58 ∨ c = 43 ∨ c = 60 ∨ c = 62 ∨ c = 61 ∨ c = 44 ∨ c = 45
structure PW (s : Str) : Prop where
  ne : TL.tl s ≠ []
  al : ∀ c ∈ TL.tl s, Sig c
theorem IsW.pw {w : Str} (h : IsW w) : PW w := by
  obtain ⟨c, cs, e, _⟩ := h.hd
  refine ⟨by rw [e]; simp, fun c hc => ?_⟩
  rcases h.al c hc with q | q
  · exact .inl q
  · exact .inr (.inl q)
theorem num_pw (i : Int) : PW (numS i) := by
  refine ⟨by rw [tl_int]; exact intL_ne i, fun c hc => ?_⟩
  rcases intL_in (tl_int i ▸ hc) with q | q
  · exact .inr (.inr (by omega))
  · exact .inr (.inl q)
instance (c : Nat) : Decidable (Sig c) := by unfold Sig; infer_instance
theorem lit_pw {a : String} (h1 : a.toList ≠ []) (h2 : (a.toList.all fun c => decide (Sig c.toNat)) = true) : PW (Str.ofString a) := by
  refine ⟨by rw [TL.tl_ofString]; simpa using h1, fun c hc => ?_⟩
  rw [TL.tl_ofString] at hc
  obtain ⟨x, hx, rfl⟩ := List.mem_map.mp hc
  exact of_decide_eq_true (List.all_eq_true.mp h2 x hx)
theorem cnd_pw {c : Cnd} (h : c.Ok) : ∀ s ∈ c.ws, PW s := by
  intro s hs
  rcases List.mem_cons.mp hs with e | hs
  · rw [e]; exact h.w.pw
  · rcases List.mem_append.mp hs with hs | hs
    · cases hg : c.g <;> rw [hg] at hs <;> simp only [Sg.ws, List.mem_cons, List.not_mem_nil, or_false] at hs
      · rw [hs]; exact lit_pw (by decide) (by decide)
      · rw [hs]; exact lit_pw (by decide) (by decide)
      · rw [hs]; exact lit_pw (by decide) (by decide)
      · rw [hs]; exact lit_pw (by decide) (by decide)
      · rcases hs with e | e <;> rw [e] <;> exact lit_pw (by decide) (by decide)
    · obtain ⟨i, _, rfl⟩ := List.mem_map.mp hs
      exact num_pw i
theorem weave_pw {sg : Str} (hs : PW sg) : ∀ {G : List (List Str)}, (∀ g ∈ G, ∀ s ∈ g, PW s) → ∀ s ∈ weave sg G, PW s
  | [], _, s, h => by simp [weave] at h
  | [g], hG, s, h => by rw [weave] at h; exact hG g List.mem_cons_self s h
  | g :: g2 :: gs, hG, s, h => by
    rw [weave] at h
    · rcases List.mem_append.mp h with h | h
      · exact hG g List.mem_cons_self s h
      · rcases List.mem_cons.mp h with h | h
        · rw [h]; exact hs
        · exact weave_pw hs (fun x m => hG x (List.mem_cons_of_mem _ m)) s h
    · simp
theorem wv_pw {sg : Str} (hs : PW sg) {cs : List Cnd} (h : ∀ c ∈ cs, c.Ok) : ∀ s ∈ wv sg cs, PW s :=
  weave_pw hs fun g hg => by obtain ⟨c, hm, rfl⟩ := List.mem_map.mp hg; exact cnd_pw (h c hm)
theorem bas_pw {b : Bas} (h : b.Ok) : ∀ s ∈ b.ws, PW s := by
  cases b with
  | is c => exact cnd_pw h
  | order a i b =>
    intro s hs
    simp only [Bas.ws, List.mem_cons, List.not_mem_nil, or_false] at hs
    rcases hs with e | e | e | e | e <;> rw [e]
    · exact h.1.pw
    · exact lit_pw (by decide) (by decide)
    · exact num_pw i
    · exact lit_pw (by decide) (by decide)
    · exact h.2.2.pw
theorem frm_pw {f : Frm} (h : f.Ok) : ∀ s ∈ f.ws, PW s := by
  cases f with
  | bas b => exact bas_pw h
  | either cs =>
    intro s hs
    rcases List.mem_cons.mp hs with e | hs
    · rw [e]; exact lit_pw (by decide) (by decide)
    · exact wv_pw (lit_pw (by decide) (by decide)) h.c s hs
  | ifs cs b =>
    intro s hs
    rcases List.mem_cons.mp hs with e | hs
    · rw [e]; exact lit_pw (by decide) (by decide)
    · rcases List.mem_append.mp hs with hs | hs
      · exact wv_pw (lit_pw (by decide) (by decide)) h.1.c s hs
      · rcases List.mem_cons.mp hs with e | hs
        · rw [e]; exact lit_pw (by decide) (by decide)
        · exact bas_pw h.2 s hs
  | at_ m i cs =>
    intro s hs
    simp only [Frm.ws, List.mem_cons] at hs
    rcases hs with e | e | e | e | hs
    · rw [e]; exact lit_pw (by decide) (by decide)
    · rw [e]; cases m <;> exact lit_pw (by decide) (by decide)
    · rw [e]; exact num_pw i
    · rw [e]; exact lit_pw (by decide) (by decide)
    · exact wv_pw (lit_pw (by decide) (by decide)) h.2.c s hs
theorem lin_pw {l : Lin} (h : l.Ok) : ∀ s ∈ l.ws, PW s := by
  intro s hs
  cases l with
  | fin_ => simp only [Lin.ws, List.mem_cons, List.not_mem_nil, or_false] at hs; rw [hs]; exact lit_pw (by decide) (by decide)
  | close w =>
    simp only [Lin.ws, List.mem_cons, List.not_mem_nil, or_false] at hs
    rcases hs with e | e <;> rw [e]
    · exact lit_pw (by decide) (by decide)
    · exact IsW.pw h
  | name w a b =>
    simp only [Lin.ws, List.mem_cons, List.not_mem_nil, or_false] at hs
    rcases hs with e | e | e | e <;> rw [e]
    · exact lit_pw (by decide) (by decide)
    · exact h.1.pw
    · exact num_pw a
    · exact num_pw b
  | frm m w f =>
    simp only [Lin.ws, List.mem_cons] at hs
    rcases hs with e | e | e | hs
    · rw [e]; cases m <;> exact lit_pw (by decide) (by decide)
    · rw [e]; exact h.1.pw
    · rw [e]; exact lit_pw (by decide) (by decide)
    · exact frm_pw h.2 s hs
  | use m w v ws =>
    simp only [Lin.ws, List.mem_cons] at hs
    rcases hs with e | e | e | e | hs
    · rw [e]; cases m <;> exact lit_pw (by decide) (by decide)
    · rw [e]; exact h.1.pw
    · rw [e]; exact lit_pw (by decide) (by decide)
    · rw [e]; exact h.2.1.pw
    · exact (h.2.2.w s hs).pw
  | block w ws =>
    simp only [Lin.ws, List.mem_cons] at hs
    rcases hs with e | e | e | hs
    · rw [e]; exact lit_pw (by decide) (by decide)
    · rw [e]; exact h.1.pw
    · rw [e]; exact lit_pw (by decide) (by decide)
    · exact (h.2.w s hs).pw
/-! ### words with blanks between -/
theorem sig_ne {c : Nat} (h : Sig c) : c ≠ 32 ∧ c ≠ 10 := by unfold Sig at h; omega
structure Txt1 (L : List Nat) : Prop where
  hd : ∃ c r, L = c :: r ∧ Sig c
  la : ∃ c r, L = r ++ [c] ∧ Sig c
  al : ∀ c ∈ L, Sig c ∨ c = 32
  nd : ∀ i, (L.drop i).take 2 ≠ [32, 32]
theorem nd_app {p q : List Nat} (hp : ∀ c ∈ p, c ≠ 32) (hq : ∀ i, (q.drop i).take 2 ≠ [32, 32]) (hh : ∃ c r, q = c :: r ∧ c ≠ 32) : ∀ i, ((p ++ 32 :: q).drop i).take 2 ≠ [32, 32] := by
  induction p with
  | nil =>
    intro i
    cases i with
    | zero =>
      obtain ⟨c, r, rfl, hc⟩ := hh
      simp [hc]
    | succ i => simpa using hq i
  | cons a p ih =>
    intro i
    cases i with
    | zero =>
      have := hp a List.mem_cons_self
      cases p <;> simp [this]
    | succ i => simpa using ih (fun c m => hp c (List.mem_cons_of_mem _ m)) i
theorem nd_free {p : List Nat} (hp : ∀ c ∈ p, c ≠ 32) : ∀ i, (p.drop i).take 2 ≠ [32, 32] := fun i h => by
  have : 32 ∈ (p.drop i).take 2 := by rw [h]; simp
  exact hp 32 (List.mem_of_mem_drop (List.mem_of_mem_take this)) rfl
theorem txt1 : ∀ {ss : List Str}, ss ≠ [] → (∀ s ∈ ss, PW s) → Txt1 (TL.joinL [32] (ss.map TL.tl))
  | [], h, _ => absurd rfl h
  | [s], _, h => by
    have hs := h s List.mem_cons_self
    have e : TL.joinL [32] (([s] : List Str).map TL.tl) = TL.tl s := rfl
    rw [e]
    have ne := hs.ne
    refine ⟨?_, ?_, fun c m => .inl (hs.al c m), nd_free fun c m => (sig_ne (hs.al c m)).1⟩
    · cases q : TL.tl s with
      | nil => exact absurd q ne
      | cons c r => exact ⟨c, r, rfl, hs.al c (by rw [q]; exact List.mem_cons_self)⟩
    · exact ⟨(TL.tl s).getLast ne, (TL.tl s).dropLast, (List.dropLast_concat_getLast ne).symm, hs.al _ (List.getLast_mem ne)⟩
  | s :: s2 :: ss, _, h => by
    have hs := h s List.mem_cons_self
    have ih := txt1 (ss := s2 :: ss) (by simp) fun x m => h x (List.mem_cons_of_mem _ m)
    have e : TL.joinL [32] ((s :: s2 :: ss).map TL.tl) = TL.tl s ++ 32 :: TL.joinL [32] ((s2 :: ss).map TL.tl) := by
      simp [TL.joinL]
    rw [e]
    have ne := hs.ne
    refine ⟨?_, ?_, ?_, nd_app (fun c m => (sig_ne (hs.al c m)).1) ih.nd ?_⟩
    · cases q : TL.tl s with
      | nil => exact absurd q ne
      | cons c r => exact ⟨c, _, rfl, hs.al c (by rw [q]; exact List.mem_cons_self)⟩
    · obtain ⟨c, r, e, hc⟩ := ih.la
      exact ⟨c, TL.tl s ++ 32 :: r, by rw [e]; simp, hc⟩
    · intro c hc
      rcases List.mem_append.mp hc with hc | hc
      · exact .inl (hs.al c hc)
      · rcases List.mem_cons.mp hc with hc | hc
        · exact .inr hc
        · exact ih.al c hc
    · obtain ⟨c, r, e, hc⟩ := ih.hd
      exact ⟨c, r, e, (sig_ne hc).1⟩
def Lin.t (l : Lin) : Str := Str.join " " l.ws
theorem lin_ne (l : Lin) : l.ws ≠ [] := by cases l <;> simp [Lin.ws]
theorem lin_txt {l : Lin} (h : l.Ok) : Txt1 (TL.tl l.t) := by
  have := txt1 (lin_ne l) (lin_pw h)
  unfold Lin.t
  rw [TL.tl_join]
  exact this
theorem strip_same {x : Str} (h : Txt1 (TL.tl x)) : Txt.stripChars x " " = x := by
  obtain ⟨c, r, e, hc⟩ := h.hd
  obtain ⟨c2, r2, e2, hc2⟩ := h.la
  have g : ∀ c, Sig c → ((" " : Str).cps.contains c) = false := fun c h => by
    have := (sig_ne h).1
    show (Array.contains #[32] c) = false
    simp [Array.contains, Array.elem]
    omega
  have e' : x.cps.toList = c :: r := e
  have e2' : x.cps.toList = r2 ++ [c2] := e2
  have l0 : stripLo (" " : Str).cps.contains true x = 0 := by
    simp only [stripLo, if_true, e', List.takeWhile_cons, g c hc]
    rfl
  unfold Txt.stripChars Txt.stripBy
  rw [if_pos]
  unfold stripSame
  rw [l0]
  have h0 : stripHi (" " : Str).cps.contains true x 0 = x.length := by
    simp only [stripHi, if_true, List.drop_zero, e2', List.reverse_append, List.reverse_cons, List.reverse_nil, List.nil_append, List.singleton_append, List.takeWhile_cons, g c2 hc2]
    rfl
  rw [h0]
  simp
theorem no_dbl {x : Str} (h : Txt1 (TL.tl x)) {M : Mem} : pr .in_ M [.str "  ", .str x] = some (.bl false, M) := by
  have e : inB M [.str "  ", .str x] = some (!(Builtin.Str.occurrences x "  " 0 x.length 1).isEmpty) := rfl
  have o : Builtin.Str.occurrences x "  " 0 x.length 1 = [] := by
    refine PySem.W.occ_nil_of_no _ _ 1 fun i _ => ?_
    rw [StrLaws.subAt_eq]
    have := h.nd i
    rw [beq_eq_false_iff_ne]
    exact this
  rw [o] at e
  show prIn M [.str "  ", .str x] = _
  unfold prIn
  rw [e]; rfl
theorem line_sign {c : Nat} (h : Sig c ∨ c = 32) : c ∈ ("abcdefghijklmnopqrstuvwxyz0123456789 :+<>=,-" : Str).cps.toList := by
  have e : ("abcdefghijklmnopqrstuvwxyz0123456789 :+<>=,-" : Str).cps.toList = (List.range 26).map (· + 97) ++ (List.range 10).map (· + 48) ++ [32, 58, 43, 60, 62, 61, 44, 45] := by decide
  rw [e]
  simp only [List.mem_append, List.mem_map, List.mem_range, List.mem_cons, List.not_mem_nil, or_false]
  unfold Sig at h
  rcases h with (h | h | h) | h
  · exact .inl (.inl ⟨c - 97, by omega, by omega⟩)
  · exact .inl (.inr ⟨c - 48, by omega, by omega⟩)
  · right; omega
  · right; omega
theorem lt256_sp : (" " : Str).cps.all (· < 256) = true := by
  rw [← Array.all_toList]
  rfl
theorem run_read_line {n : Nat} {M : Mem} {l : Lin} {k : Int} (h : l.Ok) (hl : l.t.length ≤ 800) : DP.run fs (n + 6) 11 [.str l.t, .int k] M = .ok l.d M := by
  have T := lin_txt h
  have hsz : l.t.length ≤ sizeLine := by simp [sizeLine]; omega
  have h1 : pr .strip M [.str l.t, .str " "] = some (.str l.t, M) := by
    have : pr .strip M [.str l.t, .str " "] = some (.str (Txt.stripChars l.t " "), M) := if_pos hsz
    rw [this, strip_same T]
  obtain ⟨c, r, e, hc⟩ := T.hd
  obtain ⟨c2, r2, e2, hc2⟩ := T.la
  have hok : PyData.strOk l.t = true := strOk_of fun c m => by
    rcases T.al c m with q | q
    · unfold Sig at q; omega
    · omega
  have h2 : pr .eq M [.str l.t, .str ""] = some (.bl false, M) := by rw [eq_empty hok, e]; simp
  have h3 := no_dbl T (M := M)
  have h4 : pr .idx M [.str l.t, .int 0] = some (.str ⟨#[c]⟩, M) := pr_idx_str hsz (by
    rw [atI_0]; show (TL.tl l.t)[0]? = _; rw [e]; rfl)
  have h5 : pr .idx M [.str l.t, .int (-1)] = some (.str ⟨#[c2]⟩, M) := pr_idx_str hsz (by
    show atI (TL.tl l.t) (-1) = _; rw [e2]; exact atI_last)
  have sp : ∀ c, Sig c → pr .eq M [.str ⟨#[c]⟩, .str " "] = some (.bl false, M) := fun c h => by
    rw [pr_eq_str (strOk_of fun x hx => by
      rw [show TL.tl ⟨#[c]⟩ = [c] from rfl] at hx
      rw [List.mem_singleton.mp hx]; unfold Sig at h; omega) (strOk_lit rfl), decide_eq_false]
    intro q
    have := congrArg TL.tl q
    rw [TL.tl_ofString] at this
    have : c = 32 := by injection this
    exact (sig_ne h).1 this
  have h6 := sp c hc
  have h7 := sp c2 hc2
  have h8 : pr .split M [.str l.t, .str " "] = some (.list (l.ws.map .str), M) := by
    have : pr .split M [.str l.t, .str " "] = some (.list ((Txt.split l.t " ").map .str), M) := if_pos ⟨rfl, by simp [sizeLine]; omega⟩
    rw [this]
    have := TL.split_join (y := " ") (s := 32) (S := []) rfl lt256_sp (lin_ne l) (fun p hp hm => (sig_ne ((lin_pw h p hp).al _ hm)).1 rfl)
    rw [TL.join_eq] at this
    rw [show Txt.split l.t " " = l.ws from this]
  have h9 := run_line_of (n := n) (M := M) h
  have h10 : ∃ a, l.ws[0]? = some a ∧ pr .notIn M [.str a, .tup [(.str "name"), (.str "row"), (.str "must"), (.str "use"), (.str "mustuse"), (.str "block"), (.str "end"), (.str "close")]] = some (.bl false, M) := by
    have q : ∀ a, a ∈ ["name", "row", "must", "use", "mustuse", "block", "end", "close"] → (a.toList.all fun c => decide (c.toNat < 1000)) = true → pr .notIn M [.str a, .tup [(.str "name"), (.str "row"), (.str "must"), (.str "use"), (.str "mustuse"), (.str "block"), (.str "end"), (.str "close")]] = some (.bl false, M) := fun a h hq => by
      have := lit_notIn (M := M) a ["name", "row", "must", "use", "mustuse", "block", "end", "close"] hq (by simp)
      rw [decide_eq_true h] at this
      exact this
    cases l with
    | fin_ => exact ⟨_, rfl, q "end" (by simp) rfl⟩
    | close w => exact ⟨_, rfl, q "close" (by simp) rfl⟩
    | name w a b => exact ⟨_, rfl, q "name" (by simp) rfl⟩
    | frm m w f => exact ⟨_, rfl, by cases m; exact q "row" (by simp) rfl; exact q "must" (by simp) rfl⟩
    | use m w v ws => exact ⟨_, rfl, by cases m; exact q "use" (by simp) rfl; exact q "mustuse" (by simp) rfl⟩
    | block w ws => exact ⟨_, rfl, q "block" (by simp) rfl⟩
  obtain ⟨a, ha, h10⟩ := h10
  rw [run_at (d := ⟨2, 5, b_read_line⟩) rfl rfl]
  have c1 : compLoop (.items (l.t.cps.toList.map fun c => .str ⟨#[c]⟩)) (compF (DP.run fs (n + 5)) [2] (.nm 2) (.pr .in_ [(.v 2), (.c (.str "abcdefghijklmnopqrstuvwxyz0123456789 :+<>=,-"))]) [some (.str l.t), some (.int k), none, none, none]) (l.t.cps.toList.map fun c => .str ⟨#[c]⟩) M = .ok (l.t.cps.toList.map fun _ => .bl true) M := by
    refine compLoop_on (fun c => D.str ⟨#[c]⟩) (fun _ => .bl true) _ fun c m => ?_
    have := line_sign (T.al c m)
    simp [compF, this]
  have hall : pr .all M [.list (l.t.cps.toList.map fun _ => .bl true)] = some (.bl true, M) := pr_all (by simp)
  have hsz2 : l.t.cps.size ≤ sizeLine := hsz
  simp [b_read_line, h1, h2, h3, h4, h5, h6, h7, h8, h9, ha, h10, c1, hall, hsz2, lin_isN]
end K00

namespace K00
open PySem PySem.Spec PyProof.Rows L2 DP
structure LsOk (ls : List Lin) : Prop where
  l : ∀ l ∈ ls, l.Ok
  t : ∀ l ∈ ls, l.t.length ≤ 800
  lo : 1 ≤ ls.length
  hi : ls.length ≤ 600
def textOf (ls : List Lin) : Str := Str.join "\n" (ls.map Lin.t)
theorem joinL_len {k : Nat} : ∀ {ps : List (List Nat)}, (∀ p ∈ ps, p.length ≤ k) → (TL.joinL [10] ps).length ≤ ps.length * (k + 1)
  | [], _ => by simp [TL.joinL]
  | [p], h => by have := h p List.mem_cons_self; simp [TL.joinL]; omega
  | p :: q :: r, h => by
    have h1 := h p List.mem_cons_self
    have h2 := joinL_len (ps := q :: r) fun x m => h x (List.mem_cons_of_mem _ m)
    simp only [TL.joinL, List.length_append, List.length_cons, List.length_nil, Nat.add_mul] at h2 ⊢
    omega
theorem text_len {ls : List Lin} (h : LsOk ls) : (textOf ls).length ≤ 480600 := by
  unfold textOf
  rw [TL.len_tl, TL.tl_join]
  have := joinL_len (k := 800) (ps := (ls.map Lin.t).map TL.tl) (by
    intro p hp
    obtain ⟨s, hs, rfl⟩ := List.mem_map.mp hp
    obtain ⟨l, hl, rfl⟩ := List.mem_map.mp hs
    rw [← TL.len_tl]; exact h.t l hl)
  have e : TL.tl ("\n" : Str) = [10] := rfl
  rw [e]
  have hi := h.hi
  simp only [List.length_map] at this
  omega
theorem join_last : ∀ {ss : List Str}, ss ≠ [] → (∀ s ∈ ss, Txt1 (TL.tl s)) → (∃ c r, TL.joinL [10] (ss.map TL.tl) = r ++ [c] ∧ c ≠ 10)
  | [], h, _ => absurd rfl h
  | [s], _, h => by
    obtain ⟨c, r, e, hc⟩ := (h s List.mem_cons_self).la
    exact ⟨c, r, e, (sig_ne hc).2⟩
  | s :: s2 :: ss, _, h => by
    obtain ⟨c, r, e, hc⟩ := join_last (ss := s2 :: ss) (by simp) fun x m => h x (List.mem_cons_of_mem _ m)
    have q : TL.joinL [10] ((s :: s2 :: ss).map TL.tl) = TL.tl s ++ ([10] ++ TL.joinL [10] ((s2 :: ss).map TL.tl)) := rfl
    exact ⟨c, TL.tl s ++ ([10] ++ r), by rw [q, e]; simp, hc⟩
theorem text_last {ls : List Lin} (h : LsOk ls) : ∃ c r, TL.tl (textOf ls) = r ++ [c] ∧ c ≠ 10 := by
  unfold textOf
  rw [TL.tl_join]
  refine join_last (by
    have := h.lo
    cases ls with
    | nil => simp at this
    | cons => simp) fun s hs => ?_
  obtain ⟨l, hl, rfl⟩ := List.mem_map.mp hs
  exact lin_txt (h.l l hl)
theorem rmsuf_no {x : Str} (h : ∃ c r, TL.tl x = r ++ [c] ∧ c ≠ 10) : Txt.removesuffix x "\n" = x := by
  obtain ⟨c, r, e, hc⟩ := h
  have e' : x.cps.toList = r ++ [c] := e
  have el : x.length = r.length + 1 := by rw [TL.len_tl, e]; simp
  rw [StrLaws.removesuffix_eq, StrLaws.subAt_eq, e', el]
  have e1 : ("\n" : Str).length = 1 := rfl
  have e2 : ("\n" : Str).cps.toList = [10] := rfl
  rw [e1, e2, if_neg]
  simp [hc]
theorem rmsuf_yes {x : Str} : Txt.removesuffix (x ++ "\n") "\n" = x := by
  have e : (x ++ ("\n" : Str)).cps.toList = TL.tl x ++ [10] := TL.tl_append x "\n"
  have el : (x ++ ("\n" : Str)).length = (TL.tl x).length + 1 := by rw [TL.len_tl]; rw [show TL.tl (x ++ ("\n" : Str)) = TL.tl x ++ [10] from e]; simp
  rw [StrLaws.removesuffix_eq, StrLaws.subAt_eq, e, el]
  have e1 : ("\n" : Str).length = 1 := rfl
  have e2 : ("\n" : Str).cps.toList = [10] := rfl
  rw [e1, e2, if_pos]
  · apply TL.ext_tl
    rw [TL.tl_mk]
    simp
  · simp
theorem lt256_nl : ("\n" : Str).cps.all (· < 256) = true := by
  rw [← Array.all_toList]
  rfl
theorem split_text {ls : List Lin} (h : LsOk ls) : Txt.split (textOf ls) "\n" = ls.map Lin.t := by
  have := TL.split_join (y := "\n") (s := 10) (S := []) rfl lt256_nl (parts := ls.map Lin.t) (by
    have := h.lo
    cases ls with
    | nil => simp at this
    | cons => simp) (fun p hp hm => by
      obtain ⟨l, hl, rfl⟩ := List.mem_map.mp hp
      rcases (lin_txt (h.l l hl)).al _ hm with q | q
      · exact (sig_ne q).2 rfl
      · omega)
  rw [TL.join_eq] at this
  exact this
theorem text_ok {ls : List Lin} (h : LsOk ls) : PyData.strOk (textOf ls) = true := strOk_of fun c hc => by
  have q : ∀ {ss : List Str}, (∀ s ∈ ss, ∀ c ∈ TL.tl s, c < 1000) → ∀ c ∈ TL.joinL [10] (ss.map TL.tl), c < 1000 := by
    intro ss
    induction ss with
    | nil => intro _ c hc; simp [TL.joinL] at hc
    | cons s ss ih =>
      intro h c hc
      cases ss with
      | nil => exact h s List.mem_cons_self c hc
      | cons s2 ss =>
        have e : TL.joinL [10] ((s :: s2 :: ss).map TL.tl) = TL.tl s ++ ([10] ++ TL.joinL [10] ((s2 :: ss).map TL.tl)) := rfl
        rw [e] at hc
        rcases List.mem_append.mp hc with hc | hc
        · exact h s List.mem_cons_self c hc
        · rcases List.mem_append.mp hc with hc | hc
          · rw [List.mem_singleton.mp hc]; omega
          · exact ih (fun x m => h x (List.mem_cons_of_mem _ m)) c hc
  unfold textOf at hc
  rw [TL.tl_join] at hc
  refine q (ss := ls.map Lin.t) ?_ c hc
  intro s hs c hc
  obtain ⟨l, hl, rfl⟩ := List.mem_map.mp hs
  rcases (lin_txt (h.l l hl)).al _ hc with q | q
  · unfold Sig at q; omega
  · omega
theorem run_text_lines {n : Nat} {M : Mem} {ls : List Lin} {x : Str} (h : LsOk ls) (hx : Txt.removesuffix x "\n" = textOf ls) (hl : x.length ≤ 480601) (h0 : TL.tl x ≠ []) (hok : PyData.strOk x = true) :
    DP.run fs (n + 1) 0 [.str x, .int 600, .int 800] M = .ok (.list ((ls.map Lin.t).map .str)) M := by
  have hl2 := text_len h
  have h1 : pr .rmsuf M [.str x, .str "\n"] = some (.str (textOf ls), M) := by
    rw [← hx]; exact if_pos (by simp [sizeLine]; omega)
  have h2 : pr .split M [.str (textOf ls), .str "\n"] = some (.list ((ls.map Lin.t).map .str), M) := by
    rw [← split_text h]; exact if_pos ⟨rfl, by simp [sizeLine]; omega⟩
  have h3 : pr .eq M [.str x, .str ""] = some (.bl false, M) := by rw [eq_empty hok, decide_eq_false h0]
  have h4 : ¬ (600 : Int) < ls.length := by have := h.hi; omega
  rw [run_at (d := ⟨3, 5, b_text_lines⟩) rfl rfl]
  obtain ⟨env', hf, ⟨e, rfl⟩⟩ := for_nx2 (call := DP.run fs n) (M := M) (t := .nm 4) (k := .seq) (src := [(.v 3)]) (env := [some (.str x), some (.int 600), some (.int 800), some (.list ((ls.map Lin.t).map .str)), none])
      (body := [.ife (.pr .gt [(.pr .len [(.v 4)]), (.v 2)]) [.never] []]) (ds := [.list ((ls.map Lin.t).map .str)]) (fun env => ∃ e, env = [some (.str x), some (.int 600), some (.int 800), some (.list ((ls.map Lin.t).map .str)), e]) ⟨_, rfl⟩
      (by simp) walk_list (by
      rintro y hy env ⟨e, rfl⟩
      obtain ⟨s, hs, rfl⟩ := List.mem_map.mp hy
      obtain ⟨l, hl, rfl⟩ := List.mem_map.mp hs
      have h5 := h.t l hl
      have h6 : pr .len M [.str l.t] = some (.int l.t.length, M) := pr_len_str (by simp [sizeLine]; omega)
      have h7 : ¬ (800 : Int) < l.t.length := by omega
      refine ⟨_, [some (.str x), some (.int 600), some (.int 800), some (.list ((ls.map Lin.t).map .str)), some (.str l.t)], rfl, ?_, _, rfl⟩
      simp [h6, h7])
  simp at h2 hf
  simp [b_text_lines, h1, h2, h3, h4, hf]
theorem run_text_lines0 {n : Nat} {M : Mem} : DP.run fs (n + 1) 0 [.str "", .int 600, .int 800] M = .ok (.list []) M := by
  have h3 := eq_lit (M := M) (a := "") (b := "") rfl rfl
  rw [run_at (d := ⟨3, 5, b_text_lines⟩) rfl rfl]
  simp [b_text_lines, h3]
theorem trim_loc {M M' : Mem} : trim M (.loc M.length) M' = M' := by
  unfold trim
  rw [if_neg]
  rintro ⟨h, _⟩
  simp [below] at h
abbrev rlB : List S := [.ex (.meth .append "list" (.v 1) [(.call 11 [(.v 3), (.pr .add [(.v 2), (.c (.int (1)))])])])]
theorem rl_step {n : Nat} {M : Mem} {a : Option D} {acc : List D} {k : Int} {l : Lin} (h : l.Ok) (hl : l.t.length ≤ 800) (hacc : acc.length < sizeLine) :
    DP.execs (DP.run fs (n + 6)) rlB [a, some (.loc M.length), some (.int k), some (.str l.t)] (M ++ [.lst acc]) = .done .nx [a, some (.loc M.length), some (.int k), some (.str l.t)] (M ++ [.lst (acc ++ [l.d])]) := by
  have hm : (M ++ [Cell.lst acc])[M.length]? = some (.lst acc) := by rw [List.getElem?_append_right (Nat.le_refl _)]; simp
  have h1 := run_read_line (n := n) (M := M ++ [.lst acc]) (k := k + 1) h hl
  have hty : (D.loc M.length).ty (M ++ [.lst acc]) = some "list" := ty_loc hm
  have h2 := append_loc (d := l.d) hm hacc
  simp [rlB, h1, hty, h2]
theorem rl_loop {n : Nat} {M : Mem} {a : Option D} {ys : List D} : ∀ (ls : List Lin) (k : Nat) (acc : List D) (b c : Option D), (∀ l ∈ ls, l.Ok) → (∀ l ∈ ls, l.t.length ≤ 800) → acc.length + ls.length ≤ 1000 →
    ∃ b' c', forLoop (.items ys) (fun x env2 M2 => match store env2 x (.tp [2, 3]) with
        | none => .bad
        | some env3 => DP.execs (DP.run fs (n + 6)) rlB env3 M2) (enumD k (ls.map (D.str ∘ Lin.t))) [a, some (.loc M.length), b, c] (M ++ [.lst acc]) = .done .nx [a, some (.loc M.length), b', c'] (M ++ [.lst (acc ++ ls.map Lin.d)])
  | [], k, acc, b, c, _, _, _ => ⟨b, c, by simp [enumD, forLoop, Walk.Ok]⟩
  | l :: ls, k, acc, b, c, h1, h2, h3 => by
    rw [List.length_cons] at h3
    obtain ⟨b', c', e⟩ := rl_loop (n := n) (M := M) (a := a) (ys := ys) ls (k + 1) (acc ++ [l.d]) (some (.int k)) (some (.str l.t)) (fun x m => h1 x (List.mem_cons_of_mem _ m)) (fun x m => h2 x (List.mem_cons_of_mem _ m)) (by simp; omega)
    refine ⟨b', c', ?_⟩
    have s := rl_step (n := n) (M := M) (a := a) (k := (k : Int)) (h1 l List.mem_cons_self) (h2 l List.mem_cons_self) (show acc.length < sizeLine by simp [sizeLine]; omega)
    rw [List.map_cons, enumD, forLoop, if_pos (by trivial)]
    have st : store [a, some (.loc M.length), b, c] (.tup [.int (k : Int), (D.str ∘ Lin.t) l]) (.tp [2, 3]) = some [a, some (.loc M.length), some (.int k), some (.str l.t)] := rfl
    simp only [st, s]
    rw [e]
    simp
theorem run_read_lines {n : Nat} {M : Mem} {ls : List Lin} {x : Str} (ht : ∀ M, DP.run fs (n + 6) 0 [.str x, .int 600, .int 800] M = .ok (.list ((ls.map Lin.t).map .str)) M) (h1 : ∀ l ∈ ls, l.Ok) (h2 : ∀ l ∈ ls, l.t.length ≤ 800) (h3 : ls.length ≤ 600) :
    DP.run fs (n + 7) 10 [.str x] M = .ok (.loc M.length) (M ++ [.lst (ls.map Lin.d)]) := by
  obtain ⟨b, c, e⟩ := rl_loop (n := n) (M := M) (a := some (.str x)) (ys := enumD 0 (ls.map (D.str ∘ Lin.t))) ls 0 [] none none h1 h2 (by simp; omega)
  rw [run_at (d := ⟨1, 4, b_read_lines⟩) rfl rfl]
  have hf : DP.exec (DP.run fs (n + 6)) (.for_ (.tp [2, 3]) .enum [(.call 0 [(.v 0), (.c (.int (600))), (.c (.int (800)))])] rlB) [some (.str x), some (.loc M.length), none, none] (M ++ [.lst []]) = .done .nx [some (.str x), some (.loc M.length), b, c] (M ++ [.lst (ls.map Lin.d)]) := by
    rw [ex_for]
    have hs : evs (DP.run fs (n + 6)) [(.call 0 [(.v 0), (.c (.int (600))), (.c (.int (800)))])] [some (.str x), some (.loc M.length), none, none] (M ++ [.lst []]) = .ok [.list (ls.map (D.str ∘ Lin.t))] (M ++ [.lst []]) := by
      simp [ht]
    rw [hs]
    simp only [Res.sb, walk_enum, walk_xs]
    rw [List.nil_append] at e
    exact e
  have hm : pr .listM M [] = some (.loc M.length, M ++ [.lst []]) := pr_listM (by simp [sizeLine])
  simp only [rlB] at hf
  simp [b_read_lines, hm, hf, trim_loc]
end K00

namespace K00
open PySem PySem.Spec PyProof.Rows L2 DP
abbrev JL (ss : List Str) : List Nat := TL.joinL [32] (ss.map TL.tl)
theorem J_cons {s : Str} {ss : List Str} (h : ss ≠ []) : JL (s :: ss) = TL.tl s ++ 32 :: JL ss := by
  cases ss with
  | nil => exact absurd rfl h
  | cons => simp [JL, TL.joinL]
theorem J_app : ∀ {a b : List Str}, a ≠ [] → b ≠ [] → JL (a ++ b) = JL a ++ 32 :: JL b
  | [], _, h, _ => absurd rfl h
  | [s], b, _, h => by rw [List.singleton_append, J_cons h]; rfl
  | s :: s2 :: ss, b, _, h => by
    rw [List.cons_append, J_cons (by simp), J_app (a := s2 :: ss) (by simp) h, J_cons (s := s) (ss := s2 :: ss) (by simp), List.append_assoc]
    rfl
theorem weave_ne {sg : Str} : ∀ {G : List (List Str)}, G ≠ [] → (∀ g ∈ G, g ≠ []) → weave sg G ≠ []
  | [], h, _ => absurd rfl h
  | [g], _, h => h g List.mem_cons_self
  | g :: g2 :: gs, _, _ => by rw [weave] <;> simp
theorem J_weave {sg : Str} : ∀ {G : List (List Str)}, G ≠ [] → (∀ g ∈ G, g ≠ []) → JL (weave sg G) = TL.joinL (32 :: (TL.tl sg ++ [32])) (G.map JL)
  | [], h, _ => absurd rfl h
  | [g], _, _ => rfl
  | g :: g2 :: gs, _, h => by
    have hg := fun x m => h x (List.mem_cons_of_mem g m)
    rw [weave, J_app (h g List.mem_cons_self) (by simp), J_cons (weave_ne (by simp) hg), J_weave (by simp) hg]
    · simp [TL.joinL]
    · simp
def cT (c : Cnd) : Str := Str.join " " c.ws
def Bas.t (b : Bas) : Str := Str.join " " b.ws
def Frm.t (f : Frm) : Str := Str.join " " f.ws
def wT (sep : Str) (cs : List Cnd) : Str := Str.join sep (cs.map cT)
theorem tl_lit (a : String) : TL.tl (Str.ofString a) = a.toList.map Char.toNat := TL.tl_ofString a
theorem cT_eq {c : Cnd} (h : c.Ok) : Txt.join " " (c.w :: c.g.s :: c.ns.map numS) = cT c := by
  rw [TL.join_eq]
  apply TL.ext_tl
  unfold cT
  rw [TL.tl_join, TL.tl_join]
  show JL _ = JL _
  have hn : c.ns.map numS ≠ [] := by
    have := h.lo
    cases q : c.ns with
    | nil => rw [q] at this; simp at this
    | cons => simp
  unfold Cnd.ws
  cases c.g
  · rfl
  · rfl
  · rfl
  · rfl
  · show JL (c.w :: ("not in" : Str) :: c.ns.map numS) = JL (c.w :: ("not" : Str) :: ("in" : Str) :: c.ns.map numS)
    rw [J_cons (by simp), J_cons hn, J_cons (by simp), J_cons (by simp), J_cons hn]
    simp [tl_lit]
theorem wv_J {sg : Str} {cs : List Cnd} (h : cs ≠ []) : JL (wv sg cs) = TL.tl (wT (" " ++ sg ++ " ") cs) := by
  unfold wv wT
  rw [J_weave (by simpa using h) (by
    intro g hg
    obtain ⟨c, _, rfl⟩ := List.mem_map.mp hg
    simp [Cnd.ws]), TL.tl_join, TL.tl_append, TL.tl_append]
  have e : TL.tl (" " : Str) = [32] := rfl
  rw [e, List.map_map, List.map_map]
  have e2 : (JL ∘ Cnd.ws) = (TL.tl ∘ cT) := by
    funext c
    show JL c.ws = TL.tl (cT c)
    unfold cT
    rw [TL.tl_join]; rfl
  rw [e2]
  simp
theorem wv_ne {sg : Str} {cs : List Cnd} (h : cs ≠ []) : wv sg cs ≠ [] := weave_ne (by simpa using h) (by
    intro g hg
    obtain ⟨c, _, rfl⟩ := List.mem_map.mp hg
    simp [Cnd.ws])
theorem tl_t {ss : List Str} : TL.tl (Str.join " " ss) = JL ss := TL.tl_join " " ss
theorem t_order {a b : Str} {i : Int} : (Bas.order a i b).t = a ++ " + " ++ numS i ++ " <= " ++ b := by
  apply TL.ext_tl
  show TL.tl (Str.join " " [a, "+", numS i, "<=", b]) = _
  rw [tl_t, J_cons (by simp), J_cons (by simp), J_cons (by simp), J_cons (by simp)]
  simp only [TL.tl_append]
  simp [tl_lit, JL, TL.joinL]
theorem t_either {cs : List Cnd} (h : cs ≠ []) : (Frm.either cs).t = "either " ++ wT " or " cs := by
  apply TL.ext_tl
  show TL.tl (Str.join " " (("either" : Str) :: wv "or" cs)) = _
  have e : (" " : Str) ++ "or" ++ " " = " or " := rfl
  rw [tl_t, J_cons (wv_ne h), wv_J h, e, TL.tl_append]
  simp [tl_lit]
theorem bas_ne (b : Bas) : b.ws ≠ [] := by cases b <;> simp [Bas.ws, Cnd.ws]
theorem t_if {cs : List Cnd} {b : Bas} (h : cs ≠ []) : (Frm.ifs cs b).t = "if " ++ wT " and " cs ++ " then " ++ b.t := by
  apply TL.ext_tl
  show TL.tl (Str.join " " (("if" : Str) :: (wv "and" cs ++ ("then" : Str) :: b.ws))) = _
  have e : (" " : Str) ++ "and" ++ " " = " and " := rfl
  rw [tl_t, J_cons (by simp), J_app (wv_ne h) (by simp), J_cons (bas_ne b), wv_J h, e]
  simp only [TL.tl_append]
  unfold Bas.t
  rw [tl_t]
  simp [tl_lit]
theorem t_at {m : Bool} {i : Int} {cs : List Cnd} (h : cs ≠ []) : (Frm.at_ m i cs).t = "at " ++ mostS m ++ " " ++ numS i ++ " of " ++ wT " , " cs := by
  apply TL.ext_tl
  show TL.tl (Str.join " " (("at" : Str) :: mostS m :: numS i :: ("of" : Str) :: wv "," cs)) = _
  have e : (" " : Str) ++ "," ++ " " = " , " := rfl
  rw [tl_t, J_cons (by simp), J_cons (by simp), J_cons (by simp), J_cons (wv_ne h), wv_J h, e]
  simp only [TL.tl_append]
  simp [tl_lit]
theorem frm_ne {f : Frm} : f.ws ≠ [] := by
  cases f with
  | bas b => exact bas_ne b
  | _ => simp [Frm.ws]
theorem l_frm {m : Bool} {w : Str} {f : Frm} : (Lin.frm m w f).t = rowS m ++ " " ++ w ++ " : " ++ f.t := by
  apply TL.ext_tl
  show TL.tl (Str.join " " (rowS m :: w :: (":" : Str) :: f.ws)) = _
  rw [tl_t, J_cons (by simp), J_cons (by simp), J_cons frm_ne]
  simp only [TL.tl_append]
  unfold Frm.t
  rw [tl_t]
  simp [tl_lit]
theorem l_close {w : Str} : (Lin.close w).t = "close " ++ w := by
  apply TL.ext_tl
  show TL.tl (Str.join " " [("close" : Str), w]) = _
  rw [tl_t, J_cons (by simp), TL.tl_append]
  simp [tl_lit, JL, TL.joinL]
theorem l_name {w : Str} {a b : Int} : (Lin.name w a b).t = "name " ++ w ++ " " ++ numS a ++ " " ++ numS b := by
  apply TL.ext_tl
  show TL.tl (Str.join " " [("name" : Str), w, numS a, numS b]) = _
  rw [tl_t, J_cons (by simp), J_cons (by simp), J_cons (by simp)]
  simp only [TL.tl_append]
  simp [tl_lit, JL, TL.joinL]
theorem l_use {m : Bool} {w v : Str} {ws : List Str} (h : ws ≠ []) : (Lin.use m w v ws).t = useS m ++ " " ++ w ++ " : " ++ v ++ " " ++ Str.join " " ws := by
  apply TL.ext_tl
  show TL.tl (Str.join " " (useS m :: w :: (":" : Str) :: v :: ws)) = _
  rw [tl_t, J_cons (by simp), J_cons (by simp), J_cons (by simp), J_cons h]
  simp only [TL.tl_append, tl_t]
  simp [tl_lit]
theorem l_block {w : Str} {ws : List Str} (h : ws ≠ []) : (Lin.block w ws).t = "block " ++ w ++ " : " ++ Str.join " " ws := by
  apply TL.ext_tl
  show TL.tl (Str.join " " (("block" : Str) :: w :: (":" : Str) :: ws)) = _
  rw [tl_t, J_cons (by simp), J_cons (by simp), J_cons h]
  simp only [TL.tl_append, tl_t]
  simp [tl_lit]
/-! ### sizes -/
theorem len_app (a b : Str) : (a ++ b).length = a.length + b.length := by rw [TL.len_tl, TL.tl_append, List.length_append, ← TL.len_tl, ← TL.len_tl]
theorem join_len {k j : Nat} {sep : Str} (hs : sep.length ≤ j) : ∀ {ss : List Str}, (∀ s ∈ ss, s.length ≤ k) → (Str.join sep ss).length ≤ ss.length * (k + j)
  | [], _ => by simp [Str.join, Str.empty, Str.length]
  | [s], h => by have := h s List.mem_cons_self; show s.length ≤ _; simp; omega
  | s :: s2 :: ss, h => by
    have h1 := h s List.mem_cons_self
    have h2 := join_len hs (ss := s2 :: ss) fun x m => h x (List.mem_cons_of_mem _ m)
    show (s ++ sep ++ Str.join sep (s2 :: ss)).length ≤ _
    rw [len_app, len_app]
    simp only [List.length_cons, Nat.add_mul] at h2 ⊢
    omega
theorem num_len {i : Int} (h : NumOk i) : (numS i).length ≤ 32 := by rw [TL.len_tl, tl_int]; exact intL_len h
theorem cT_len {c : Cnd} (h : c.Ok) : (cT c).length ≤ 400 := by
  have := join_len (k := 32) (j := 1) (sep := " ") (Nat.le_refl 1) (ss := c.ws) (by
    intro s hs
    rcases List.mem_cons.mp hs with e | hs
    · rw [e]; have := h.w.ln; omega
    · rcases List.mem_append.mp hs with hs | hs
      · cases hg : c.g <;> rw [hg] at hs <;> simp only [Sg.ws, List.mem_cons, List.not_mem_nil, or_false] at hs
        · rw [hs]; decide
        · rw [hs]; decide
        · rw [hs]; decide
        · rw [hs]; decide
        · rcases hs with e | e <;> rw [e] <;> decide
      · obtain ⟨i, hi, rfl⟩ := List.mem_map.mp hs
        exact num_len (h.n i hi))
  have hl := h.len
  unfold cT
  omega
theorem wT_len {sep : Str} {cs : List Cnd} (hs : sep.length ≤ 5) (h : ∀ c ∈ cs, c.Ok) (hl : cs.length ≤ 13) : (wT sep cs).length ≤ 5265 := by
  have := join_len (k := 400) hs (ss := cs.map cT) (by
    intro s hs
    obtain ⟨c, hc, rfl⟩ := List.mem_map.mp hs
    exact cT_len (h c hc))
  rw [List.length_map] at this
  unfold wT
  omega
theorem bT_len {b : Bas} (h : b.Ok) : b.t.length ≤ 400 := by
  cases b with
  | is c => exact cT_len h
  | order a i b =>
    rw [t_order]
    have h1 := h.1.ln
    have h2 := num_len h.2.1
    have h3 := h.2.2.ln
    have e1 : (" + " : Str).length = 3 := rfl
    have e2 : (" <= " : Str).length = 4 := rfl
    simp only [len_app]
    omega
theorem cs_ne {cs : List Cnd} {lo hi : Nat} (h : CsOk cs lo hi) (h0 : 1 ≤ lo) : cs ≠ [] := by
  have := h.lo
  rintro rfl
  simp at this
  omega
theorem mostS_len (m : Bool) : (mostS m).length ≤ 5 := by cases m <;> decide
theorem rowS_len (m : Bool) : (rowS m).length ≤ 5 := by cases m <;> decide
theorem useS_len (m : Bool) : (useS m).length ≤ 7 := by cases m <;> decide
theorem fT_len {f : Frm} (h : f.Ok) : f.t.length ≤ 6000 := by
  cases f with
  | bas b => have := bT_len h; show b.t.length ≤ 6000; omega
  | either cs =>
    rw [t_either (cs_ne h (by omega)), len_app]
    have := wT_len (sep := " or ") (by decide) h.c h.hi
    have e : ("either " : Str).length = 7 := rfl
    omega
  | ifs cs b =>
    rw [t_if (cs_ne h.1 (by omega))]
    have h8 := h.1.hi
    have := wT_len (sep := " and ") (by decide) h.1.c (by omega)
    have := bT_len h.2
    have e : ("if " : Str).length = 3 := rfl
    have e : (" then " : Str).length = 6 := rfl
    simp only [len_app]
    omega
  | at_ m i cs =>
    rw [t_at (cs_ne h.2 (by omega))]
    have h8 := h.2.hi
    have := wT_len (sep := " , ") (by decide) h.2.c (by omega)
    have := num_len h.1
    have := mostS_len m
    have e : ("at " : Str).length = 3 := rfl
    have e : (" " : Str).length = 1 := rfl
    have e : (" of " : Str).length = 4 := rfl
    simp only [len_app]
    omega
theorem ws_len {ws : List Str} (h : WsOk ws) : (Str.join " " ws).length ≤ 52 := by
  have := join_len (k := 12) (j := 1) (sep := " ") (Nat.le_refl 1) (ss := ws) (fun s hs => (h.w s hs).ln)
  have := h.hi
  omega
end K00

namespace K00
open PySem PySem.Spec PyProof.Rows L2 DP
theorem sl_eq : sizeLine = 16777216 := rfl
theorem joinSize_le {s : Str} {k : Nat} : ∀ {ys : List Str}, (∀ y ∈ ys, y.length ≤ k) → joinSize s ys ≤ ys.length * (k + s.length)
  | [], _ => by simp [joinSize]
  | y :: ys, h => by
    have h1 := h y List.mem_cons_self
    have h2 := joinSize_le (s := s) (ys := ys) fun x m => h x (List.mem_cons_of_mem _ m)
    simp only [joinSize, List.map_cons, List.sum_cons, List.length_cons, Nat.add_mul, Nat.one_mul] at h2 ⊢
    omega
theorem cond_join {c : Cnd} (h : c.Ok) {M : Mem} : pr .join M [.str " ", .list (.str c.w :: .str c.g.s :: c.ns.map (D.str ∘ numS))] = some (.str (cT c), M) := by
  have e : (.str c.w :: .str c.g.s :: c.ns.map (D.str ∘ numS)) = (c.w :: c.g.s :: c.ns.map numS).map D.str := by simp
  have := joinSize_le (s := " ") (k := 32) (ys := c.w :: c.g.s :: c.ns.map numS) (by
    intro s hs
    simp only [List.mem_cons, List.mem_map] at hs
    rcases hs with e | e | ⟨i, hi, rfl⟩
    · rw [e]; have := h.w.ln; omega
    · rw [e]; cases c.g <;> decide
    · exact num_len (h.n i hi))
  have h8 := h.hi
  have e1 : (" " : Str).length = 1 := rfl
  simp only [List.length_cons, List.length_map, e1] at this
  rw [e, pr_join (by omega), cT_eq h]
theorem cs_join {cs : List Cnd} {sep : Str} (h : ∀ c ∈ cs, c.Ok) (hl : cs.length ≤ 13) (hs : sep.length ≤ 5) {M : Mem} : pr .join M [.str sep, .list (cs.map (fun c => .str (cT c)))] = some (.str (wT sep cs), M) := by
  have e : cs.map (fun c => D.str (cT c)) = (cs.map cT).map D.str := by simp
  have := joinSize_le (s := sep) (k := 400) (ys := cs.map cT) (by
    intro s hs
    obtain ⟨c, hc, rfl⟩ := List.mem_map.mp hs
    exact cT_len (h c hc))
  rw [List.length_map] at this
  have : cs.length * (400 + sep.length) ≤ 13 * 405 := Nat.mul_le_mul hl (by omega)
  rw [e, pr_join (by omega), TL.join_eq]
  rfl
theorem pr_str_num {M : Mem} {i : Int} (h : NumOk i) : pr .str_ M [.int i] = some (.str (numS i), M) := pr_str_int h.log
theorem str_comp {call : Nat → List D → Mem → Res D} {M : Mem} {ns : List Int} {i : Nat} {env : DP.Env} (hn : ∀ i ∈ ns, NumOk i) (hi : i < env.length) : compLoop (.items (ns.map .int)) (compF call [i] (.nm i) (.pr .str_ [(.v i)]) env) (ns.map .int) M = .ok (ns.map (D.str ∘ numS)) M := by
  refine compLoop_on D.int (D.str ∘ numS) ns fun x hx => ?_
  have h := pr_str_num (M := M) (hn x hx)
  unfold compF
  simp [hi, h]
theorem call_comp {call : Nat → List D → Mem → Res D} {M : Mem} {cs : List Cnd} {i f : Nat} {env : DP.Env} (hn : ∀ c ∈ cs, call f [c.d] M = .ok (.str (cT c)) M) (hi : i < env.length) : compLoop (.items (cs.map Cnd.d)) (compF call [i] (.nm i) (.call f [(.v i)]) env) (cs.map Cnd.d) M = .ok (cs.map fun c => .str (cT c)) M := by
  refine compLoop_on Cnd.d (fun c => .str (cT c)) cs fun x hx => ?_
  have h := hn x hx
  unfold compF
  simp [hi, h]
theorem pr_list2 {M : Mem} {a b : D} : pr .list M [a, b] = some (.list [a, b], M) := pr_list (by simp [sizeLine])
theorem run_ctext {n : Nat} {M : Mem} {c : Cnd} (h : c.Ok) : DP.run fs (n + 1) 8 [c.d] M = .ok (.str (cT c)) M := by
  have h8 := h.hi
  have hc := cond_join h (M := M)
  have hsz : c.ns.length ≤ sizeLine := by rw [sl_eq]; omega
  have ha := pr_addl (M := M) (xs := [.str c.w, .str c.g.s]) (ys := c.ns.map (D.str ∘ numS)) (by simp [sl_eq]; omega)
  have hs := fun env hi => str_comp (call := DP.run fs n) (M := M) (ns := c.ns) (i := 4) (env := env) h.n hi
  rw [run_at (d := ⟨1, 5, b_condition_text⟩) rfl rfl]
  simp [b_condition_text, Cnd.d, hs, hsz, pr_list2, ha, hc]
theorem run_lctext {n : Nat} {M : Mem} {c : Cnd} (h : c.Ok) : DP.run fs (n + 1) 31 [c.d] M = .ok (.str (cT c)) M := by
  have h8 := h.hi
  have hc := cond_join h (M := M)
  have hsz : c.ns.length ≤ sizeLine := by rw [sl_eq]; omega
  have ha := pr_addl (M := M) (xs := [.str c.w, .str c.g.s]) (ys := c.ns.map (D.str ∘ numS)) (by simp [sl_eq]; omega)
  have hs := fun env hi => str_comp (call := DP.run fs n) (M := M) (ns := c.ns) (i := 1) (env := env) h.n hi
  rw [run_at (d := ⟨1, 2, b__law_cond_text⟩) rfl rfl]
  simp [b__law_cond_text, Cnd.d, hs, hsz, pr_list2, ha, hc]
/-! ### forms -/
theorem pr_fmt_str {M : Mem} {s : Str} (h : s.length ≤ sizeLine) : pr .fmt1 M [.str s] = some (.str s, M) := if_pos h
theorem pr_fmt_int {M : Mem} {i : Int} (h : NumOk i) : pr .fmt1 M [.int i] = some (.str (numS i), M) := if_pos h.log
theorem fmtAll_ok : ∀ (ss : List Str) (acc : Str), (ss.foldl (· ++ ·) acc).length ≤ sizeLine → fmtAll acc (ss.map .str) = some (ss.foldl (· ++ ·) acc)
  | [], acc, _ => rfl
  | s :: ss, acc, h => by
    have q : ∀ (ss : List Str) (acc : Str), acc.length ≤ (ss.foldl (· ++ ·) acc).length := by
      intro ss
      induction ss with
      | nil => intro acc; exact Nat.le_refl _
      | cons s ss ih => intro acc; have := ih (acc ++ s); rw [len_app] at this; exact Nat.le_trans (Nat.le_add_right _ _) this
    have h2 := q ss (acc ++ s)
    rw [List.foldl_cons] at h
    rw [List.map_cons, fmtAll, if_pos (by omega), fmtAll_ok ss _ h, List.foldl_cons]
theorem prFmt_ok {M : Mem} {ss : List Str} {r : Str} (e : ss.foldl (· ++ ·) Str.empty = r) (h : r.length ≤ sizeLine) : prFmt M (ss.map .str) = some (.str r, M) := by
  subst e
  unfold prFmt
  rw [fmtAll_ok ss _ h]
theorem empty_app (s : Str) : Str.empty ++ s = s := TL.ext_tl (by rw [TL.tl_append]; rfl)
/-- additions from the left -/
theorem adds {M : Mem} {a b : Str} (h : (a ++ b).length ≤ 100000) : pr .add M [.str a, .str b] = some (.str (a ++ b), M) := pr_adds (by rw [len_app] at h; rw [sl_eq]; omega)
theorem run_btext {n : Nat} {M : Mem} {b : Bas} (h : b.Ok) : DP.run fs (n + 2) 9 [b.d] M = .ok (.str b.t) M := by
  cases b with
  | is c =>
    have h1 := run_ctext (n := n) (M := M) h
    have e1 := eq_lit (M := M) (a := "is") (b := "is") rfl rfl
    rw [run_at (d := ⟨1, 4, b_form_text⟩) rfl rfl]
    simp [b_form_text, Bas.d, e1, h1]
    rfl
  | order a i b =>
    have e1 := eq_lit (M := M) (a := "order") (b := "is") rfl rfl
    have e2 := eq_lit (M := M) (a := "order") (b := "order") rfl rfl
    have l1 := h.1.ln
    have l2 := h.2.2.ln
    have f1 : pr .fmt1 M [.str a] = some (.str a, M) := pr_fmt_str (by rw [sl_eq]; omega)
    have f2 := pr_fmt_int (M := M) h.2.1
    have f3 : pr .fmt1 M [.str b] = some (.str b, M) := pr_fmt_str (by rw [sl_eq]; omega)
    have hl := bT_len h
    have hf := prFmt_ok (M := M) (ss := [a, " + ", numS i, " <= ", b]) (r := (Bas.order a i b).t) (by rw [t_order]; simp [empty_app]) (by rw [sl_eq]; omega)
    rw [run_at (d := ⟨1, 4, b_form_text⟩) rfl rfl]
    simp at hf
    simp [b_form_text, Bas.d, e1, e2, f1, f2, f3, hf]
theorem run_ftext {n : Nat} {M : Mem} {f : Frm} (h : f.Ok) : DP.run fs (n + 3) 9 [f.d] M = .ok (.str f.t) M := by
  cases f with
  | bas b => exact run_btext h
  | either cs =>
    have e1 := eq_lit (M := M) (a := "either") (b := "is") rfl rfl
    have e2 := eq_lit (M := M) (a := "either") (b := "order") rfl rfl
    have e3 := eq_lit (M := M) (a := "either") (b := "either") rfl rfl
    have hj := cs_join (sep := " or ") h.c h.hi (by decide) (M := M)
    have hc := fun env hi => call_comp (call := DP.run fs (n + 2)) (M := M) (i := 1) (f := 8) (env := env) (cs := cs) (fun c hc => run_ctext (h.c c hc)) hi
    have hl := fT_len h
    have ht := t_either (cs_ne h (by omega))
    have ha := adds (M := M) (a := "either ") (b := wT " or " cs) (by rw [← ht]; omega)
    have hsz : cs.length ≤ sizeLine := by have := h.hi; rw [sl_eq]; omega
    rw [run_at (d := ⟨1, 4, b_form_text⟩) rfl rfl]
    simp [b_form_text, Frm.d, e1, e2, e3, hc, hj, ha, ht, hsz]
  | ifs cs b =>
    have e1 := eq_lit (M := M) (a := "if") (b := "is") rfl rfl
    have e2 := eq_lit (M := M) (a := "if") (b := "order") rfl rfl
    have e3 := eq_lit (M := M) (a := "if") (b := "either") rfl rfl
    have e4 := eq_lit (M := M) (a := "if") (b := "if") rfl rfl
    have h8 := h.1.hi
    have hj := cs_join (sep := " and ") h.1.c (by omega) (by decide) (M := M)
    have hc := fun env hi => call_comp (call := DP.run fs (n + 2)) (M := M) (i := 1) (f := 8) (env := env) (cs := cs) (fun c hc => run_ctext (h.1.c c hc)) hi
    have hb := run_btext (n := n) (M := M) h.2
    have hl := fT_len h
    have ht := t_if (b := b) (cs_ne h.1 (by omega))
    have hl := hl
    rw [ht] at hl
    simp only [len_app] at hl
    have ha := adds (M := M) (a := "if ") (b := wT " and " cs) (by simp only [len_app]; omega)
    have ha2 := adds (M := M) (a := "if " ++ wT " and " cs) (b := " then ") (by simp only [len_app]; omega)
    have ha3 := adds (M := M) (a := "if " ++ wT " and " cs ++ " then ") (b := b.t) (by simp only [len_app]; omega)
    have hsz : cs.length ≤ sizeLine := by rw [sl_eq]; omega
    rw [run_at (d := ⟨1, 4, b_form_text⟩) rfl rfl]
    simp [b_form_text, Frm.d, e1, e2, e3, e4, hc, hj, hb, ha, ha2, ha3, ht, hsz]
  | at_ m i cs =>
    have q : ∀ a : String, a ≠ "most" → a ≠ "least" → (a.toList.all fun c => decide (c.toNat < 1000)) = true → pr .eq M [.str (mostS m), .str a] = some (.bl false, M) := fun a n1 n2 ha => by
      cases m
      · exact (eq_lit rfl ha).trans (by rw [decide_eq_false (Ne.symm n2)])
      · exact (eq_lit rfl ha).trans (by rw [decide_eq_false (Ne.symm n1)])
    have e1 := q "is" (by decide) (by decide) rfl
    have e2 := q "order" (by decide) (by decide) rfl
    have e3 := q "either" (by decide) (by decide) rfl
    have e4 := q "if" (by decide) (by decide) rfl
    have h8 := h.2.hi
    have hj := cs_join (sep := " , ") h.2.c (by omega) (by decide) (M := M)
    have hc := fun env hi => call_comp (call := DP.run fs (n + 2)) (M := M) (i := 1) (f := 8) (env := env) (cs := cs) (fun c hc => run_ctext (h.2.c c hc)) hi
    have hl := fT_len h
    have ht := t_at (m := m) (i := i) (cs_ne h.2 (by omega))
    have f1 : pr .fmt1 M [.str (mostS m)] = some (.str (mostS m), M) := pr_fmt_str (by have := mostS_len m; rw [sl_eq]; omega)
    have f2 := pr_fmt_int (M := M) h.1
    have f3 : pr .fmt1 M [.str (wT " , " cs)] = some (.str (wT " , " cs), M) := pr_fmt_str (by have := wT_len (sep := " , ") (by decide) h.2.c (by omega); rw [sl_eq]; omega)
    have hf := prFmt_ok (M := M) (ss := ["at ", mostS m, " ", numS i, " of ", wT " , " cs]) (r := (Frm.at_ m i cs).t) (by rw [ht]; simp [empty_app]) (by rw [sl_eq]; omega)
    have hsz : cs.length ≤ sizeLine := by rw [sl_eq]; omega
    rw [run_at (d := ⟨1, 4, b_form_text⟩) rfl rfl]
    simp at hf
    simp [b_form_text, Frm.d, e1, e2, e3, e4, hc, hj, f1, f2, f3, hf, hsz]
theorem run_lbtext {n : Nat} {M : Mem} {b : Bas} (h : b.Ok) : DP.run fs (n + 2) 32 [b.d] M = .ok (.str b.t) M := by
  cases b with
  | is c =>
    have h1 := run_lctext (n := n) (M := M) h
    have e1 := eq_lit (M := M) (a := "is") (b := "is") rfl rfl
    rw [run_at (d := ⟨1, 2, b__law_form_text⟩) rfl rfl]
    simp [b__law_form_text, Bas.d, e1, h1]
    rfl
  | order a i b =>
    have e1 := eq_lit (M := M) (a := "order") (b := "is") rfl rfl
    have e2 := eq_lit (M := M) (a := "order") (b := "order") rfl rfl
    have hs := pr_str_num (M := M) h.2.1
    have hl := bT_len h
    rw [t_order] at hl
    simp only [len_app] at hl
    have a1 := adds (M := M) (a := a) (b := " + ") (by simp only [len_app]; omega)
    have a2 := adds (M := M) (a := a ++ " + ") (b := numS i) (by simp only [len_app]; omega)
    have a3 := adds (M := M) (a := a ++ " + " ++ numS i) (b := " <= ") (by simp only [len_app]; omega)
    have a4 := adds (M := M) (a := a ++ " + " ++ numS i ++ " <= ") (b := b) (by simp only [len_app]; omega)
    rw [run_at (d := ⟨1, 2, b__law_form_text⟩) rfl rfl]
    simp [b__law_form_text, Bas.d, e1, e2, hs, a1, a2, a3, a4, t_order]
theorem run_lftext {n : Nat} {M : Mem} {f : Frm} (h : f.Ok) : DP.run fs (n + 3) 32 [f.d] M = .ok (.str f.t) M := by
  cases f with
  | bas b => exact run_lbtext h
  | either cs =>
    have e1 := eq_lit (M := M) (a := "either") (b := "is") rfl rfl
    have e2 := eq_lit (M := M) (a := "either") (b := "order") rfl rfl
    have e3 := eq_lit (M := M) (a := "either") (b := "either") rfl rfl
    have hj := cs_join (sep := " or ") h.c h.hi (by decide) (M := M)
    have hc := fun env hi => call_comp (call := DP.run fs (n + 2)) (M := M) (i := 1) (f := 31) (env := env) (cs := cs) (fun c hc => run_lctext (h.c c hc)) hi
    have hl := fT_len h
    have ht := t_either (cs_ne h (by omega))
    have ha := adds (M := M) (a := "either ") (b := wT " or " cs) (by rw [← ht]; omega)
    have hsz : cs.length ≤ sizeLine := by have := h.hi; rw [sl_eq]; omega
    rw [run_at (d := ⟨1, 2, b__law_form_text⟩) rfl rfl]
    simp [b__law_form_text, Frm.d, e1, e2, e3, hc, hj, ha, ht, hsz]
  | ifs cs b =>
    have e1 := eq_lit (M := M) (a := "if") (b := "is") rfl rfl
    have e2 := eq_lit (M := M) (a := "if") (b := "order") rfl rfl
    have e3 := eq_lit (M := M) (a := "if") (b := "either") rfl rfl
    have e4 := eq_lit (M := M) (a := "if") (b := "if") rfl rfl
    have h8 := h.1.hi
    have hj := cs_join (sep := " and ") h.1.c (by omega) (by decide) (M := M)
    have hc := fun env hi => call_comp (call := DP.run fs (n + 2)) (M := M) (i := 1) (f := 31) (env := env) (cs := cs) (fun c hc => run_lctext (h.1.c c hc)) hi
    have hb := run_lbtext (n := n) (M := M) h.2
    have hl := fT_len h
    have ht := t_if (b := b) (cs_ne h.1 (by omega))
    rw [ht] at hl
    simp only [len_app] at hl
    have ha := adds (M := M) (a := "if ") (b := wT " and " cs) (by simp only [len_app]; omega)
    have ha2 := adds (M := M) (a := "if " ++ wT " and " cs) (b := " then ") (by simp only [len_app]; omega)
    have ha3 := adds (M := M) (a := "if " ++ wT " and " cs ++ " then ") (b := b.t) (by simp only [len_app]; omega)
    have hsz : cs.length ≤ sizeLine := by rw [sl_eq]; omega
    rw [run_at (d := ⟨1, 2, b__law_form_text⟩) rfl rfl]
    simp [b__law_form_text, Frm.d, e1, e2, e3, e4, hc, hj, hb, ha, ha2, ha3, ht, hsz]
  | at_ m i cs =>
    have q : ∀ a : String, a ≠ "most" → a ≠ "least" → (a.toList.all fun c => decide (c.toNat < 1000)) = true → pr .eq M [.str (mostS m), .str a] = some (.bl false, M) := fun a n1 n2 ha => by
      cases m
      · exact (eq_lit rfl ha).trans (by rw [decide_eq_false (Ne.symm n2)])
      · exact (eq_lit rfl ha).trans (by rw [decide_eq_false (Ne.symm n1)])
    have e1 := q "is" (by decide) (by decide) rfl
    have e2 := q "order" (by decide) (by decide) rfl
    have e3 := q "either" (by decide) (by decide) rfl
    have e4 := q "if" (by decide) (by decide) rfl
    have h8 := h.2.hi
    have hj := cs_join (sep := " , ") h.2.c (by omega) (by decide) (M := M)
    have hc := fun env hi => call_comp (call := DP.run fs (n + 2)) (M := M) (i := 1) (f := 31) (env := env) (cs := cs) (fun c hc => run_lctext (h.2.c c hc)) hi
    have hl := fT_len h
    have ht := t_at (m := m) (i := i) (cs_ne h.2 (by omega))
    have hs := pr_str_num (M := M) h.1
    rw [ht] at hl
    simp only [len_app] at hl
    have a1 := adds (M := M) (a := "at ") (b := mostS m) (by simp only [len_app]; omega)
    have a2 := adds (M := M) (a := "at " ++ mostS m) (b := " ") (by simp only [len_app]; omega)
    have a3 := adds (M := M) (a := "at " ++ mostS m ++ " ") (b := numS i) (by simp only [len_app]; omega)
    have a4 := adds (M := M) (a := "at " ++ mostS m ++ " " ++ numS i) (b := " of ") (by simp only [len_app]; omega)
    have a5 := adds (M := M) (a := "at " ++ mostS m ++ " " ++ numS i ++ " of ") (b := wT " , " cs) (by simp only [len_app]; omega)
    have hsz : cs.length ≤ sizeLine := by rw [sl_eq]; omega
    rw [run_at (d := ⟨1, 2, b__law_form_text⟩) rfl rfl]
    simp [b__law_form_text, Frm.d, e1, e2, e3, e4, hc, hj, hs, a1, a2, a3, a4, a5, ht, hsz]
end K00

namespace K00
open PySem PySem.Spec PyProof.Rows L2 DP
theorem wsok_ne {ws : List Str} (h : WsOk ws) : ws ≠ [] := by
  have := h.lo
  rintro rfl
  simp at this
theorem lT_len {l : Lin} (h : l.Ok) : l.t.length ≤ 6100 := by
  cases l with
  | fin_ => decide
  | close w => rw [l_close, len_app]; have := IsW.ln h; have e : ("close " : Str).length = 6 := rfl; omega
  | name w a b =>
    rw [l_name]; have := h.1.ln; have := num_len h.2.1; have := num_len h.2.2
    have e : ("name " : Str).length = 5 := rfl
    have e : (" " : Str).length = 1 := rfl
    simp only [len_app]; omega
  | frm m w f =>
    rw [l_frm]; have := h.1.ln; have := rowS_len m; have := fT_len h.2
    have e : (" : " : Str).length = 3 := rfl
    have e : (" " : Str).length = 1 := rfl
    simp only [len_app]; omega
  | use m w v ws =>
    rw [l_use (wsok_ne h.2.2)]; have := h.1.ln; have := h.2.1.ln; have := useS_len m; have := ws_len h.2.2
    have e : (" : " : Str).length = 3 := rfl
    have e : (" " : Str).length = 1 := rfl
    simp only [len_app]; omega
  | block w ws =>
    rw [l_block (wsok_ne h.2)]; have := h.1.ln; have := ws_len h.2
    have e : (" : " : Str).length = 3 := rfl
    have e : ("block " : Str).length = 6 := rfl
    simp only [len_app]; omega
theorem ws_join {ws : List Str} (h : WsOk ws) {M : Mem} : pr .join M [.str " ", .tup (ws.map .str)] = some (.str (Str.join " " ws), M) := by
  have e : (" " : Str).length = 1 := rfl
  have := joinSize_le (s := " ") (k := 12) (ys := ws) fun s hs => (h.w s hs).ln
  rw [e] at this
  have := h.hi
  rw [pr_join_tup (by omega), TL.join_eq]
theorem ws_join2 {ws : List Str} (h : WsOk ws) {M : Mem} : pr .join M [.str " ", .list (ws.map .str)] = some (.str (Str.join " " ws), M) := by
  have e : (" " : Str).length = 1 := rfl
  have := joinSize_le (s := " ") (k := 12) (ys := ws) fun s hs => (h.w s hs).ln
  rw [e] at this
  have := h.hi
  rw [pr_join (by omega), TL.join_eq]
theorem lits {M : Mem} {s : Str} {L : List String} (a : String) (hs : ∃ x ∈ L, s = Str.ofString x) (hL : (L.all fun x => x.toList.all fun c => decide (c.toNat < 1000)) = true) (ha : (a.toList.all fun c => decide (c.toNat < 1000)) = true) (hn : a ∉ L) :
    pr .eq M [.str s, .str (Str.ofString a)] = some (.bl false, M) := by
  obtain ⟨x, hx, rfl⟩ := hs
  rw [eq_lit (List.all_eq_true.mp hL x hx) ha, decide_eq_false]
  rintro rfl
  exact hn hx
theorem rowS_in (m : Bool) : ∃ x ∈ ["row", "must"], rowS m = Str.ofString x := by
  cases m
  · exact ⟨"row", by simp, rfl⟩
  · exact ⟨"must", by simp, rfl⟩
theorem useS_in (m : Bool) : ∃ x ∈ ["use", "mustuse"], useS m = Str.ofString x := by
  cases m
  · exact ⟨"use", by simp, rfl⟩
  · exact ⟨"mustuse", by simp, rfl⟩
theorem row_in {M : Mem} {a : String} (h : (a.toList.all fun c => decide (c.toNat < 1000)) = true) : pr .in_ M [.str a, .tup [(.str "row"), (.str "must")]] = some (.bl (decide (a ∈ ["row", "must"])), M) := lit_in a ["row", "must"] h (by simp)
theorem rowS_inn {M : Mem} (m : Bool) : pr .in_ M [.str (rowS m), .tup [(.str "row"), (.str "must")]] = some (.bl true, M) := by
  cases m
  · exact (row_in (a := "row") rfl).trans (by simp)
  · exact (row_in (a := "must") rfl).trans (by simp)
theorem useS_inn {M : Mem} (m : Bool) : pr .in_ M [.str (useS m), .tup [(.str "row"), (.str "must")]] = some (.bl false, M) := by
  cases m
  · exact (row_in (a := "use") rfl).trans (by simp)
  · exact (row_in (a := "mustuse") rfl).trans (by simp)
section
variable {n : Nat} {M : Mem}
theorem run_line {l : Lin} (h : l.Ok) : DP.run fs (n + 4) 33 [l.d] M = .ok (.str l.t) M := by
  rw [run_at (d := ⟨1, 1, b__law_line⟩) rfl rfl]
  have hl := lT_len h
  cases l with
  | fin_ =>
    have e1 := eq_lit (M := M) (a := "end") (b := "end") rfl rfl
    simp [b__law_line, Lin.d, e1]
    rfl
  | close w =>
    have e1 := eq_lit (M := M) (a := "close") (b := "end") rfl rfl
    have e2 := eq_lit (M := M) (a := "close") (b := "name") rfl rfl
    have e3 := eq_lit (M := M) (a := "close") (b := "close") rfl rfl
    have a1 := adds (M := M) (a := "close ") (b := w) (by rw [← l_close]; omega)
    simp [b__law_line, Lin.d, e1, e2, e3, a1, l_close]
  | name w a b =>
    have e1 := eq_lit (M := M) (a := "name") (b := "end") rfl rfl
    have e2 := eq_lit (M := M) (a := "name") (b := "name") rfl rfl
    rw [l_name] at hl
    simp only [len_app] at hl
    have s1 := pr_str_num (M := M) h.2.1
    have s2 := pr_str_num (M := M) h.2.2
    have a1 := adds (M := M) (a := "name ") (b := w) (by simp only [len_app]; omega)
    have a2 := adds (M := M) (a := "name " ++ w) (b := " ") (by simp only [len_app]; omega)
    have a3 := adds (M := M) (a := "name " ++ w ++ " ") (b := numS a) (by simp only [len_app]; omega)
    have a4 := adds (M := M) (a := "name " ++ w ++ " " ++ numS a) (b := " ") (by simp only [len_app]; omega)
    have a5 := adds (M := M) (a := "name " ++ w ++ " " ++ numS a ++ " ") (b := numS b) (by simp only [len_app]; omega)
    simp [b__law_line, Lin.d, e1, e2, s1, s2, a1, a2, a3, a4, a5, l_name]
  | frm m w f =>
    have e1 := lits (M := M) "end" (rowS_in m) rfl rfl (by simp)
    have e2 := lits (M := M) "name" (rowS_in m) rfl rfl (by simp)
    have e3 := lits (M := M) "close" (rowS_in m) rfl rfl (by simp)
    have e4 := rowS_inn (M := M) m
    have hf := run_lftext (n := n) (M := M) h.2
    rw [l_frm] at hl
    simp only [len_app] at hl
    have a1 := adds (M := M) (a := rowS m) (b := " ") (by simp only [len_app]; omega)
    have a2 := adds (M := M) (a := rowS m ++ " ") (b := w) (by simp only [len_app]; omega)
    have a3 := adds (M := M) (a := rowS m ++ " " ++ w) (b := " : ") (by simp only [len_app]; omega)
    have a4 := adds (M := M) (a := rowS m ++ " " ++ w ++ " : ") (b := f.t) (by simp only [len_app]; omega)
    simp [b__law_line, Lin.d, e1, e2, e3, e4, hf, a1, a2, a3, a4, l_frm]
  | use m w v ws =>
    have e1 := lits (M := M) "end" (useS_in m) rfl rfl (by simp)
    have e2 := lits (M := M) "name" (useS_in m) rfl rfl (by simp)
    have e3 := lits (M := M) "close" (useS_in m) rfl rfl (by simp)
    have e5 := lits (M := M) "block" (useS_in m) rfl rfl (by simp)
    have e4 := useS_inn (M := M) m
    have hj := ws_join2 (M := M) h.2.2
    have ht := l_use (m := m) (w := w) (v := v) (wsok_ne h.2.2)
    rw [ht] at hl
    simp only [len_app] at hl
    have a1 := adds (M := M) (a := useS m) (b := " ") (by simp only [len_app]; omega)
    have a2 := adds (M := M) (a := useS m ++ " ") (b := w) (by simp only [len_app]; omega)
    have a3 := adds (M := M) (a := useS m ++ " " ++ w) (b := " : ") (by simp only [len_app]; omega)
    have a4 := adds (M := M) (a := useS m ++ " " ++ w ++ " : ") (b := v) (by simp only [len_app]; omega)
    have a5 := adds (M := M) (a := useS m ++ " " ++ w ++ " : " ++ v) (b := " ") (by simp only [len_app]; omega)
    have a6 := adds (M := M) (a := useS m ++ " " ++ w ++ " : " ++ v ++ " ") (b := Str.join " " ws) (by simp only [len_app]; omega)
    simp [b__law_line, Lin.d, e1, e2, e3, e4, e5, hj, a1, a2, a3, a4, a5, a6, ht]
  | block w ws =>
    have e1 := eq_lit (M := M) (a := "block") (b := "end") rfl rfl
    have e2 := eq_lit (M := M) (a := "block") (b := "name") rfl rfl
    have e3 := eq_lit (M := M) (a := "block") (b := "close") rfl rfl
    have e5 := eq_lit (M := M) (a := "block") (b := "block") rfl rfl
    have e4 := row_in (M := M) (a := "block") rfl
    have hj := ws_join2 (M := M) h.2
    have ht := l_block (w := w) (wsok_ne h.2)
    rw [ht] at hl
    simp only [len_app] at hl
    have a1 := adds (M := M) (a := "block ") (b := w) (by simp only [len_app]; omega)
    have a2 := adds (M := M) (a := "block " ++ w) (b := " : ") (by simp only [len_app]; omega)
    have a3 := adds (M := M) (a := "block " ++ w ++ " : ") (b := Str.join " " ws) (by simp only [len_app]; omega)
    simp [b__law_line, Lin.d, e1, e2, e3, e4, e5, hj, a1, a2, a3, ht]
theorem run_line_text {l : Lin} (h : l.Ok) : DP.run fs (n + 4) 14 [l.d] M = .ok (.str l.t) M := by
  rw [run_at (d := ⟨1, 2, b_line_text⟩) rfl rfl]
  have hl := lT_len h
  cases l with
  | fin_ =>
    have e1 := eq_lit (M := M) (a := "end") (b := "end") rfl rfl
    simp [b_line_text, Lin.d, e1]
    rfl
  | close w =>
    have e1 := eq_lit (M := M) (a := "close") (b := "end") rfl rfl
    have e3 := eq_lit (M := M) (a := "close") (b := "close") rfl rfl
    have a1 := adds (M := M) (a := "close ") (b := w) (by rw [← l_close]; omega)
    simp [b_line_text, Lin.d, e1, e3, a1, l_close]
  | name w a b =>
    have e1 := eq_lit (M := M) (a := "name") (b := "end") rfl rfl
    have e2 := eq_lit (M := M) (a := "name") (b := "close") rfl rfl
    have e3 := eq_lit (M := M) (a := "name") (b := "name") rfl rfl
    have lw := h.1.ln
    have f1 : pr .fmt1 M [.str w] = some (.str w, M) := pr_fmt_str (by rw [sl_eq]; omega)
    have f2 := pr_fmt_int (M := M) h.2.1
    have f3 := pr_fmt_int (M := M) h.2.2
    have hf := prFmt_ok (M := M) (ss := ["name ", w, " ", numS a, " ", numS b]) (r := (Lin.name w a b).t) (by rw [l_name]; simp [empty_app]) (by rw [sl_eq]; omega)
    simp at hf
    simp [b_line_text, Lin.d, e1, e2, e3, f1, f2, f3, hf]
  | frm m w f =>
    have e1 := lits (M := M) "end" (rowS_in m) rfl rfl (by simp)
    have e2 := lits (M := M) "name" (rowS_in m) rfl rfl (by simp)
    have e3 := lits (M := M) "close" (rowS_in m) rfl rfl (by simp)
    have e4 := rowS_inn (M := M) m
    have hf := run_ftext (n := n) (M := M) h.2
    rw [l_frm] at hl
    simp only [len_app] at hl
    have a1 := adds (M := M) (a := rowS m) (b := " ") (by simp only [len_app]; omega)
    have a2 := adds (M := M) (a := rowS m ++ " ") (b := w) (by simp only [len_app]; omega)
    have a3 := adds (M := M) (a := rowS m ++ " " ++ w) (b := " : ") (by simp only [len_app]; omega)
    have a4 := adds (M := M) (a := rowS m ++ " " ++ w ++ " : ") (b := f.t) (by simp only [len_app]; omega)
    simp [b_line_text, Lin.d, e1, e2, e3, e4, hf, a1, a2, a3, a4, l_frm]
  | use m w v ws =>
    have e1 := lits (M := M) "end" (useS_in m) rfl rfl (by simp)
    have e2 := lits (M := M) "name" (useS_in m) rfl rfl (by simp)
    have e3 := lits (M := M) "close" (useS_in m) rfl rfl (by simp)
    have e5 := lits (M := M) "block" (useS_in m) rfl rfl (by simp)
    have e4 := useS_inn (M := M) m
    have hj := ws_join (M := M) h.2.2
    have ht := l_use (m := m) (w := w) (v := v) (wsok_ne h.2.2)
    rw [ht] at hl
    simp only [len_app] at hl
    have a1 := adds (M := M) (a := useS m) (b := " ") (by simp only [len_app]; omega)
    have a2 := adds (M := M) (a := useS m ++ " ") (b := w) (by simp only [len_app]; omega)
    have a3 := adds (M := M) (a := useS m ++ " " ++ w) (b := " : ") (by simp only [len_app]; omega)
    have a4 := adds (M := M) (a := useS m ++ " " ++ w ++ " : ") (b := v) (by simp only [len_app]; omega)
    have a5 := adds (M := M) (a := useS m ++ " " ++ w ++ " : " ++ v) (b := " ") (by simp only [len_app]; omega)
    have a6 := adds (M := M) (a := useS m ++ " " ++ w ++ " : " ++ v ++ " ") (b := Str.join " " ws) (by simp only [len_app]; omega)
    simp [b_line_text, Lin.d, e1, e2, e3, e4, e5, hj, a1, a2, a3, a4, a5, a6, ht]
  | block w ws =>
    have e1 := eq_lit (M := M) (a := "block") (b := "end") rfl rfl
    have e2 := eq_lit (M := M) (a := "block") (b := "name") rfl rfl
    have e3 := eq_lit (M := M) (a := "block") (b := "close") rfl rfl
    have e5 := eq_lit (M := M) (a := "block") (b := "block") rfl rfl
    have e4 := row_in (M := M) (a := "block") rfl
    have hj := ws_join (M := M) h.2
    have ht := l_block (w := w) (wsok_ne h.2)
    rw [ht] at hl
    simp only [len_app] at hl
    have a1 := adds (M := M) (a := "block ") (b := w) (by simp only [len_app]; omega)
    have a2 := adds (M := M) (a := "block " ++ w) (b := " : ") (by simp only [len_app]; omega)
    have a3 := adds (M := M) (a := "block " ++ w ++ " : ") (b := Str.join " " ws) (by simp only [len_app]; omega)
    simp [b_line_text, Lin.d, e1, e2, e3, e4, e5, hj, a1, a2, a3, ht]
theorem text_join {ls : List Lin} (ht : ∀ l ∈ ls, l.t.length ≤ 800) (hl : ls.length ≤ 600) : pr .join M [.str "\n", .list (ls.map fun l => .str l.t)] = some (.str (textOf ls), M) := by
  have e : ls.map (fun l => D.str l.t) = (ls.map Lin.t).map D.str := by simp
  have := joinSize_le (s := "\n") (k := 800) (ys := ls.map Lin.t) (by
    intro s hs
    obtain ⟨l, hl, rfl⟩ := List.mem_map.mp hs
    exact ht l hl)
  have e1 : ("\n" : Str).length = 1 := rfl
  rw [List.length_map, e1] at this
  rw [e, pr_join (by omega), TL.join_eq]
  rfl
theorem lines_comp {call : Nat → List D → Mem → Res D} {ls : List Lin} {f : Nat} {env : DP.Env} (hn : ∀ l ∈ ls, call f [l.d] M = .ok (.str l.t) M) (hi : 1 < env.length) : compLoop (.items (ls.map Lin.d)) (compF call [1] (.nm 1) (.call f [(.v 1)]) env) (ls.map Lin.d) M = .ok (ls.map fun l => .str l.t) M := by
  refine compLoop_on Lin.d (fun l => .str l.t) ls fun x hx => ?_
  have h := hn x hx
  unfold compF
  simp [hi, h]
theorem run_law_text {ls : List Lin} (h : ∀ l ∈ ls, l.Ok) (ht : ∀ l ∈ ls, l.t.length ≤ 800) (hl : ls.length ≤ 600) : DP.run fs (n + 5) 34 [.list (ls.map Lin.d)] M = .ok (.str (textOf ls)) M := by
  have hc := fun env hi => lines_comp (call := DP.run fs (n + 4)) (M := M) (env := env) (f := 33) (ls := ls) (fun l m => run_line (h l m)) hi
  have hj := text_join (M := M) ht hl
  have hsz : ls.length ≤ sizeLine := by rw [sl_eq]; omega
  rw [run_at (d := ⟨1, 2, b__law_text⟩) rfl rfl]
  simp [b__law_text, hc, hj, hsz]
theorem run_print_lines {ls : List Lin} (h : ∀ l ∈ ls, l.Ok) (ht : ∀ l ∈ ls, l.t.length ≤ 800) (hl : ls.length ≤ 600) : DP.run fs (n + 5) 15 [.list (ls.map Lin.d)] M = .ok (.str (textOf ls)) M := by
  have hc := fun env hi => lines_comp (call := DP.run fs (n + 4)) (M := M) (env := env) (f := 14) (ls := ls) (fun l m => run_line_text (h l m)) hi
  have hj := text_join (M := M) ht hl
  have hsz : ls.length ≤ sizeLine := by rw [sl_eq]; omega
  rw [run_at (d := ⟨1, 2, b_print_lines⟩) rfl rfl]
  simp [b_print_lines, hc, hj, hsz]
end
end K00

namespace K00
open PySem PySem.Spec PyProof.Rows L2 DP
theorem pr_isinst {M : Mem} {a : D} {t u : String} {b : Bool} (h : a.ty M = some u) (hk : L2.kitB u t = some b) : pr (.isinst t) M [a] = some (.bl b, M) := by
  show prIsInst t M [a] = _
  simp only [prIsInst, h, hk, okB]
theorem kit_list : L2.kitB "list" "bool" = some false ∧ L2.kitB "list" "int" = some false ∧ L2.kitB "list" "str" = some false ∧ L2.kitB "list" "dict" = some false ∧ L2.kitB "list" "tuple" = some false ∧ L2.kitB "list" "list" = some true := by decide
theorem kit_tuple : L2.kitB "tuple" "bool" = some false ∧ L2.kitB "tuple" "int" = some false ∧ L2.kitB "tuple" "str" = some false ∧ L2.kitB "tuple" "dict" = some false ∧ L2.kitB "tuple" "tuple" = some true ∧ L2.kitB "tuple" "list" = some false := by decide
theorem kit_int : L2.kitB "int" "bool" = some false ∧ L2.kitB "int" "int" = some true ∧ L2.kitB "int" "list" = some false ∧ L2.kitB "int" "tuple" = some false ∧ L2.kitB "int" "dict" = some false := by decide
theorem kit_str : L2.kitB "str" "bool" = some false ∧ L2.kitB "str" "int" = some false ∧ L2.kitB "str" "str" = some true ∧ L2.kitB "str" "list" = some false ∧ L2.kitB "str" "tuple" = some false ∧ L2.kitB "str" "dict" = some false := by decide
section
variable {M : Mem} {n : Nat}
theorem same_int {i : Int} : DP.run fs (n + 1) 29 [.int i, .int i] M = .ok (.bl true) M := by
  have t : (D.int i).ty M = some "int" := rfl
  have k1 := pr_isinst t kit_int.1
  have k2 := pr_isinst t kit_int.2.1
  have i1 : (D.int i).isN = false := rfl
  rw [run_at (d := ⟨2, 4, b__law_same⟩) rfl rfl]
  simp [b__law_same, k1, k2, i1]
theorem same_str {x : Str} (h : PyData.strOk x = true) : DP.run fs (n + 1) 29 [.str x, .str x] M = .ok (.bl true) M := by
  have t : (D.str x).ty M = some "str" := rfl
  have k1 := pr_isinst t kit_str.1
  have k2 := pr_isinst t kit_str.2.1
  have k3 := pr_isinst t kit_str.2.2.1
  have i1 : (D.str x).isN = false := rfl
  have e := pr_eq_str (M := M) h h
  rw [run_at (d := ⟨2, 4, b__law_same⟩) rfl rfl]
  simp [b__law_same, k1, k2, k3, i1, e]
theorem walk_r1 {j : Int} (h1 : -4611686018427387904 ≤ j) (h2 : j < 4611686018427387904) : walk M .rng1 [.int j] = some (.items (rngD 0 j.toNat)) := walk_rng1 ⟨h1, h2⟩
theorem comp_ok {call : Nat → List D → Mem → Res D} {env : DP.Env} {M M1 M2 : Mem} {own : List Nat} {t : T} {k : SrcK} {src : List E} {elt : E} {ds ys : List D} {w : Walk} (h1 : evs call src env M = .ok ds M1) (h2 : walk M1 k ds = some w) (h3 : compLoop w (compF call own t elt env) w.xs M1 = .ok ys M2) (h4 : ys.length ≤ sizeLine) :
    ev call (.comp false own t k src none elt) env M = .ok (.list ys) M2 := by
  rw [ev_comp, h1]
  simp only [Res.bind, h2, h3, if_pos h4]
theorem same_seq {a b : D} {xs : List D} {t : String} (ht : t = "list" ∨ t = "tuple") (ta : a.ty M = some t) (tb : b.ty M = some t) (la : pr .len M [a] = some (.int xs.length, M)) (lb : pr .len M [b] = some (.int xs.length, M))
    (ia : ∀ k (h : k < xs.length), pr .idx M [a, .int k] = some (xs[k], M)) (ib : ∀ k (h : k < xs.length), pr .idx M [b, .int k] = some (xs[k], M))
    (hx : ∀ k (h : k < xs.length), DP.run fs n 29 [xs[k], xs[k]] M = .ok (.bl true) M) (na : a.isN = false) (nb : b.isN = false) (hl : xs.length ≤ 10000) : DP.run fs (n + 1) 29 [a, b] M = .ok (.bl true) M := by
  have w := walk_r1 (M := M) (j := xs.length) (by omega) (by omega)
  have er : rngD 0 ((xs.length : Int)).toNat = (List.range xs.length).map fun k => .int k := by
    simp [rngD]
  rw [er] at w
  have c : compLoop (.items ((List.range xs.length).map fun (k : Nat) => .int k)) (compF (DP.run fs n) [3] (.nm 3) (.call 29 [(.pr .idx [(.v 0), (.v 3)]), (.pr .idx [(.v 1), (.v 3)])]) [some a, some b, none, none]) ((List.range xs.length).map fun (k : Nat) => .int k) M = .ok ((List.range xs.length).map fun _ => .bl true) M := by
    refine compLoop_on (fun (k : Nat) => D.int k) (fun _ => .bl true) _ fun k hk => ?_
    rw [List.mem_range] at hk
    have q1 := ia k hk
    have q2 := ib k hk
    have q3 := hx k hk
    unfold compF
    simp [q1, q2, q3]
  have hsz : xs.length ≤ sizeLine := by rw [sl_eq]; omega
  have hall : pr .all M [.list ((List.range xs.length).map fun _ => .bl true)] = some (.bl true, M) := pr_all (by simp)
  have hev := comp_ok (call := DP.run fs n) (env := [some a, some b, none, none]) (M := M) (own := [3]) (t := .nm 3) (k := .rng1) (src := [(.pr .len [(.v 1)])]) (ds := [.int xs.length]) (by simp [lb]) w c (by simpa using hsz)
  rw [run_at (d := ⟨2, 4, b__law_same⟩) rfl rfl]
  rcases ht with rfl | rfl
  · obtain ⟨k1, k2, k3, k4, k5, k6⟩ := kit_list
    have a1 := pr_isinst ta k1
    have b1 := pr_isinst tb k1
    have b2 := pr_isinst tb k2
    have b3 := pr_isinst tb k3
    have b4 := pr_isinst tb k4
    have b5 := pr_isinst tb k5
    have b6 := pr_isinst tb k6
    have a6 := pr_isinst ta k6
    simp [b__law_same, na, nb, a1, b1, b2, b3, b4, b5, b6, a6, la, lb, hev, hall, -ev_comp]
  · obtain ⟨k1, k2, k3, k4, k5, k6⟩ := kit_tuple
    have a1 := pr_isinst ta k1
    have b1 := pr_isinst tb k1
    have b2 := pr_isinst tb k2
    have b3 := pr_isinst tb k3
    have b4 := pr_isinst tb k4
    have b5 := pr_isinst tb k5
    have b6 := pr_isinst tb k6
    have a5 := pr_isinst ta k5
    simp [b__law_same, na, nb, a1, b1, b2, b3, b4, b5, b6, a5, la, lb, hev, hall, -ev_comp]
inductive Sm : Nat → D → Prop where
  | int (k : Nat) (i : Int) : Sm k (.int i)
  | str (k : Nat) (s : Str) (h : PyData.strOk s = true) : Sm k (.str s)
  | tup (k : Nat) (xs : List D) (h : ∀ x ∈ xs, Sm k x) (hl : xs.length ≤ 10000) : Sm (k + 1) (.tup xs)
theorem same_sm : ∀ (k : Nat) {d : D}, Sm k d → ∀ n, DP.run fs (n + k + 1) 29 [d, d] M = .ok (.bl true) M
  | _, _, .int k i, n => same_int
  | _, _, .str k s h, n => same_str h
  | _, _, .tup k xs h hl, n => by
    have := @same_seq M (n + k + 1) (.tup xs) (.tup xs) xs "tuple" (.inr rfl) rfl rfl pr_len_tup pr_len_tup
      (fun j hj => pr_idx_tup (by rw [atI_nat]; simp [hj])) (fun j hj => pr_idx_tup (by rw [atI_nat]; simp [hj]))
      (fun j hj => same_sm k (h _ (List.getElem_mem hj)) n) rfl rfl hl
    exact this
theorem same_list {k : Nat} {xs : List D} (h : ∀ x ∈ xs, Sm k x) (hl : xs.length ≤ 10000) : DP.run fs (n + k + 2) 29 [.list xs, .list xs] M = .ok (.bl true) M :=
  @same_seq M (n + k + 1) (.list xs) (.list xs) xs "list" (.inl rfl) rfl rfl pr_len_list pr_len_list
      (fun j hj => pr_idx_list (by rw [atI_nat]; simp [hj])) (fun j hj => pr_idx_list (by rw [atI_nat]; simp [hj]))
      (fun j hj => same_sm k (h _ (List.getElem_mem hj)) n) rfl rfl hl
theorem same_loc {k j : Nat} {xs : List D} (hm : M[j]? = some (.lst xs)) (h : ∀ x ∈ xs, Sm k x) (hl : xs.length ≤ 10000) : DP.run fs (n + k + 2) 29 [.loc j, .list xs] M = .ok (.bl true) M :=
  @same_seq M (n + k + 1) (.loc j) (.list xs) xs "list" (.inl rfl) (ty_loc hm) rfl
      (by show prLen M [.loc j] = _; simp [prLen, asSeq, asL, hm]) pr_len_list
      (fun j hj => pr_idx_loc hm (by rw [atI_nat]; simp [hj])) (fun j hj => pr_idx_list (by rw [atI_nat]; simp [hj]))
      (fun j hj => same_sm k (h _ (List.getElem_mem hj)) n) rfl rfl hl
/-! ### copies -/
theorem copy_comp {xs : List D} {env : DP.Env} (hx : ∀ x ∈ xs, DP.run fs n 30 [x] M = .ok x M) (hi : 1 < env.length) : compLoop (.items xs) (compF (DP.run fs n) [1] (.nm 1) (.call 30 [(.v 1)]) env) xs M = .ok xs M := by
  have := compLoop_map (M := M) (ys := xs) (f := compF (DP.run fs n) [1] (.nm 1) (.call 30 [(.v 1)]) env) (g := id) xs fun x m => by
    have h := hx x m
    unfold compF
    simp [hi, h]
  rw [List.map_id] at this
  exact this
theorem copy_list {xs : List D} (hx : ∀ x ∈ xs, DP.run fs n 30 [x] M = .ok x M) (hl : xs.length ≤ 10000) : DP.run fs (n + 1) 30 [.list xs] M = .ok (.list xs) M := by
  obtain ⟨k1, k2, k3, k4, k5, k6⟩ := kit_list
  have t : (D.list xs).ty M = some "list" := rfl
  have a6 := pr_isinst t k6
  have hc := fun env hi => copy_comp (env := env) hx hi
  have hsz : xs.length ≤ sizeLine := by rw [sl_eq]; omega
  rw [run_at (d := ⟨1, 3, b__law_copied⟩) rfl rfl]
  simp [b__law_copied, a6, hc, hsz]
theorem copy_tup {xs : List D} (hx : ∀ x ∈ xs, DP.run fs n 30 [x] M = .ok x M) (hl : xs.length ≤ 10000) : DP.run fs (n + 1) 30 [.tup xs] M = .ok (.tup xs) M := by
  obtain ⟨k1, k2, k3, k4, k5, k6⟩ := kit_tuple
  have t : (D.tup xs).ty M = some "tuple" := rfl
  have a6 := pr_isinst t k6
  have a5 := pr_isinst t k5
  have hc := fun env hi => copy_comp (env := env) hx hi
  have hsz : xs.length ≤ sizeLine := by rw [sl_eq]; omega
  rw [run_at (d := ⟨1, 3, b__law_copied⟩) rfl rfl]
  simp [b__law_copied, a5, a6, hc, hsz]
theorem copy_sm : ∀ (k : Nat) {d : D}, Sm k d → ∀ n, DP.run fs (n + k + 1) 30 [d] M = .ok d M
  | _, _, .int k i, n => by
    have t : (D.int i).ty M = some "int" := rfl
    have a1 := pr_isinst t kit_int.2.2.1
    have a2 := pr_isinst t kit_int.2.2.2.1
    have a3 := pr_isinst t kit_int.2.2.2.2
    rw [run_at (d := ⟨1, 3, b__law_copied⟩) rfl rfl]
    simp [b__law_copied, a1, a2, a3]
  | _, _, .str k s h, n => by
    have t : (D.str s).ty M = some "str" := rfl
    have a1 := pr_isinst t kit_str.2.2.2.1
    have a2 := pr_isinst t kit_str.2.2.2.2.1
    have a3 := pr_isinst t kit_str.2.2.2.2.2
    rw [run_at (d := ⟨1, 3, b__law_copied⟩) rfl rfl]
    simp [b__law_copied, a1, a2, a3]
  | _, _, .tup k xs h hl, n => copy_tup (fun x m => copy_sm k (h x m) n) hl
theorem Sm.mono {k : Nat} {d : D} (h : Sm k d) : Sm (k + 1) d := by
  induction h with
  | int k i => exact .int _ _
  | str k s h => exact .str _ _ h
  | tup k xs h hl ih => exact .tup _ _ ih hl
end
theorem cnd_sm {c : Cnd} (h : c.Ok) : Sm 2 c.d := by
  have h8 := h.hi
  refine .tup 1 _ (fun x hx => ?_) (by simp)
  simp only [List.mem_cons, List.not_mem_nil, or_false] at hx
  rcases hx with e | e | e <;> rw [e]
  · exact .str _ _ h.w.ok
  · exact .str _ _ c.g.sok
  · refine .tup 0 _ (fun x hx => ?_) (by simp; omega)
    obtain ⟨i, _, rfl⟩ := List.mem_map.mp hx
    exact .int _ _
theorem cs_sm {cs : List Cnd} (h : ∀ c ∈ cs, c.Ok) (hl : cs.length ≤ 13) : Sm 3 (.tup (cs.map Cnd.d)) := by
  refine .tup 2 _ (fun x hx => ?_) (by simp; omega)
  obtain ⟨c, hc, rfl⟩ := List.mem_map.mp hx
  exact cnd_sm (h c hc)
theorem bas_sm {b : Bas} (h : b.Ok) : Sm 3 b.d := by
  cases b with
  | is c =>
    refine .tup 2 _ (fun x hx => ?_) (by simp)
    simp only [List.mem_cons, List.not_mem_nil, or_false] at hx
    rcases hx with e | e <;> rw [e]
    · exact .str _ _ (strOk_lit rfl)
    · exact cnd_sm h
  | order a i b =>
    refine .tup 2 _ (fun x hx => ?_) (by simp)
    simp only [List.mem_cons, List.not_mem_nil, or_false] at hx
    rcases hx with e | e | e | e <;> rw [e]
    · exact .str _ _ (strOk_lit rfl)
    · exact .str _ _ h.1.ok
    · exact .int _ _
    · exact .str _ _ h.2.2.ok
theorem mostS_ok (m : Bool) : PyData.strOk (mostS m) = true := by cases m <;> exact strOk_lit rfl
theorem rowS_ok (m : Bool) : PyData.strOk (rowS m) = true := by cases m <;> exact strOk_lit rfl
theorem useS_ok (m : Bool) : PyData.strOk (useS m) = true := by cases m <;> exact strOk_lit rfl
theorem frm_sm {f : Frm} (h : f.Ok) : Sm 4 f.d := by
  cases f with
  | bas b => exact (bas_sm h).mono
  | either cs =>
    refine .tup 3 _ (fun x hx => ?_) (by simp)
    simp only [List.mem_cons, List.not_mem_nil, or_false] at hx
    rcases hx with e | e <;> rw [e]
    · exact .str _ _ (strOk_lit rfl)
    · exact cs_sm h.c h.hi
  | ifs cs b =>
    refine .tup 3 _ (fun x hx => ?_) (by simp)
    simp only [List.mem_cons, List.not_mem_nil, or_false] at hx
    rcases hx with e | e | e <;> rw [e]
    · exact .str _ _ (strOk_lit rfl)
    · exact cs_sm h.1.c (by have := h.1.hi; omega)
    · exact bas_sm h.2
  | at_ m i cs =>
    refine .tup 3 _ (fun x hx => ?_) (by simp)
    simp only [List.mem_cons, List.not_mem_nil, or_false] at hx
    rcases hx with e | e | e <;> rw [e]
    · exact .str _ _ (mostS_ok m)
    · exact .int _ _
    · exact cs_sm h.2.c (by have := h.2.hi; omega)
theorem ws_sm {ws : List Str} (h : WsOk ws) : Sm 4 (.tup (ws.map .str)) := by
  refine .tup 3 _ (fun x hx => ?_) (by have := h.hi; simp; omega)
  obtain ⟨w, hw, rfl⟩ := List.mem_map.mp hx
  exact .str _ _ (h.ok w hw)
theorem lin_sm {l : Lin} (h : l.Ok) : Sm 5 l.d := by
  cases l with
  | fin_ =>
    refine .tup 4 _ (fun x hx => ?_) (by simp)
    rw [List.mem_singleton.mp hx]; exact .str _ _ (strOk_lit rfl)
  | close w =>
    refine .tup 4 _ (fun x hx => ?_) (by simp)
    simp only [List.mem_cons, List.not_mem_nil, or_false] at hx
    rcases hx with e | e <;> rw [e]
    · exact .str _ _ (strOk_lit rfl)
    · exact .str _ _ (IsW.ok h)
  | name w a b =>
    refine .tup 4 _ (fun x hx => ?_) (by simp)
    simp only [List.mem_cons, List.not_mem_nil, or_false] at hx
    rcases hx with e | e | e | e <;> rw [e]
    · exact .str _ _ (strOk_lit rfl)
    · exact .str _ _ h.1.ok
    · exact .int _ _
    · exact .int _ _
  | frm m w f =>
    refine .tup 4 _ (fun x hx => ?_) (by simp)
    simp only [List.mem_cons, List.not_mem_nil, or_false] at hx
    rcases hx with e | e | e <;> rw [e]
    · exact .str _ _ (rowS_ok m)
    · exact .str _ _ h.1.ok
    · exact frm_sm h.2
  | use m w v ws =>
    refine .tup 4 _ (fun x hx => ?_) (by simp)
    simp only [List.mem_cons, List.not_mem_nil, or_false] at hx
    rcases hx with e | e | e | e <;> rw [e]
    · exact .str _ _ (useS_ok m)
    · exact .str _ _ h.1.ok
    · exact .str _ _ h.2.1.ok
    · exact ws_sm h.2.2
  | block w ws =>
    refine .tup 4 _ (fun x hx => ?_) (by simp)
    simp only [List.mem_cons, List.not_mem_nil, or_false] at hx
    rcases hx with e | e | e <;> rw [e]
    · exact .str _ _ (strOk_lit rfl)
    · exact .str _ _ h.1.ok
    · exact ws_sm h.2
end K00

namespace K00
open PySem PySem.Spec PyProof.Rows L2 DP
section
variable {M : Mem} {k : Nat} {i j : Int} {a b c d : D}
theorem pr_mod (h : 0 < j) : pr .mod M [.int i, .int j] = some (.int (i % j), M) := if_pos h
theorem log_small {x : Int} (h : x.natAbs < 4611686018427387904) : x.natAbs.log2 < 62 := by
  by_cases h0 : x.natAbs = 0
  · rw [h0]; decide
  · exact (Nat.log2_lt h0).mpr h
theorem pr_fdiv (h : 0 < j) (h2 : j.natAbs < 4611686018427387904) : pr .fdiv M [.int i, .int j] = some (.int (i / j), M) := by
  show prFdiv M [.int i, .int j] = _
  unfold prFdiv
  have := log_small h2
  exact if_pos ⟨h, by omega⟩
theorem pr_mul (h1 : i.natAbs < 4611686018427387904) (h2 : j.natAbs < 4611686018427387904) : pr .mul M [.int i, .int j] = some (.int (i * j), M) := by
  show prMul M [.int i, .int j] = _
  unfold prMul
  have a := log_small h1
  have b := log_small h2
  exact if_pos (by unfold mulFits; omega)
theorem ix3 {xs : List D} (hm : M[k]? = some (.lst xs)) (n : Nat) (hn : xs[n]? = some d) : pr .idx M [.loc k, .int n] = some (d, M) := pr_idx_loc hm (by rw [atI_nat]; exact hn)
theorem ixN_nat {n j : Nat} (h : j < n) : ixN n (j : Int) = some j := by
  unfold ixN
  rw [if_pos (by omega), if_pos (by omega)]
  rfl
theorem set_loc {xs : List D} (hm : M[k]? = some (.lst xs)) (n : Nat) (hn : n < xs.length) : prSetIdx M [.loc k, .int n, d] = some (.non, M.set k (.lst (xs.set n d))) := by
  simp only [prSetIdx, hm, ixN_nat hn]
end
/-- a source of draws -/
def Src (k b : Nat) (M : Mem) : Prop := ∃ s0 s1 s2 : Int, M[k]? = some (.lst [.int s0, .int s1, .int s2]) ∧ 0 ≤ s1 ∧ s1 < 4294967296 ∧ 0 ≤ s2 ∧ s2 ≤ b
structure Keep (k : Nat) (M M' : Mem) : Prop where
  ln : M'.length = M.length
  ot : ∀ j, j ≠ k → M'[j]? = M[j]?
theorem Keep.trans {k : Nat} {M M1 M2 : Mem} (a : Keep k M M1) (b : Keep k M1 M2) : Keep k M M2 := ⟨b.ln.trans a.ln, fun j h => (b.ot j h).trans (a.ot j h)⟩
theorem Keep.rfl' {k : Nat} {M : Mem} : Keep k M M := ⟨rfl, fun _ _ => rfl⟩
theorem Keep.set {k : Nat} {M : Mem} {c : Cell} : Keep k M (M.set k c) := ⟨by simp, fun j h => List.getElem?_set_ne (Ne.symm h)⟩
theorem Src.mono {k b c : Nat} {M : Mem} (h : Src k b M) (hb : b ≤ c) : Src k c M := by
  obtain ⟨s0, s1, s2, h1, h2, h3, h4, h5⟩ := h
  exact ⟨s0, s1, s2, h1, h2, h3, h4, by omega⟩
/-- what a draw gives -/
def Draw (k b : Nat) (M : Mem) (r : Res D) (P : D → Prop) : Prop := ∃ d M', r = .ok d M' ∧ P d ∧ Src k b M' ∧ Keep k M M'
theorem pick {n k b : Nat} {M : Mem} {m : Int} (h : Src k b M) (hb : b < 1000000000) (h0 : 0 < m) (h1 : m < 1000000) : ∃ (r : Int) (M' : Mem), DP.run fs (n + 1) 28 [.loc k, .int m] M = .ok (.int r) M' ∧ 0 ≤ r ∧ r < m ∧ Src k (b + 1) M' ∧ Keep k M M' := by
  obtain ⟨s0, s1, s2, hm, p1, q1, p2, q2⟩ := h
  have hk : k < M.length := by
    rw [List.getElem?_eq_some_iff] at hm
    exact hm.1
  have i0 : pr .idx M [.loc k, .int 0] = some (.int s0, M) := ix3 hm 0 rfl
  rw [run_at (d := ⟨2, 3, b__law_pick⟩) rfl rfl]
  by_cases hs : 0 < s0
  · refine ⟨s0 % m, M.set k (.lst [.int (s0 / m), .int s1, .int s2]), ?_, Int.emod_nonneg _ (by omega), Int.emod_lt_of_pos _ h0, ⟨s0 / m, s1, s2, List.getElem?_set_self hk, p1, q1, p2, by omega⟩, Keep.set⟩
    have e1 := pr_mod (M := M) (i := s0) h0
    have e2 := pr_fdiv (M := M) (i := s0) h0 (by omega)
    have e3 : prSetIdx M [.loc k, .int 0, .int (s0 / m)] = some (.non, M.set k (.lst [.int (s0 / m), .int s1, .int s2])) := set_loc (d := .int (s0 / m)) hm 0 (by simp)
    have tr : trim M (.int (s0 % m)) (M.set k (.lst [.int (s0 / m), .int s1, .int s2])) = M.set k (.lst [.int (s0 / m), .int s1, .int s2]) := trim_len (by simp)
    simp [b__law_pick, i0, hs, e1, e2, e3, tr]
  · have g1 : prIdxL M [.loc k, .int 2] = some (.int s2, M) := by
      simp [prIdxL, asL, hm]
    have g2 : pr .iadd M [.int s2, .int 1] = some (.int (s2 + 1), M) := rfl
    have g3 : prSetIdx M [.loc k, .int 2, .int (s2 + 1)] = some (.non, M.set k (.lst [.int s0, .int s1, .int (s2 + 1)])) := set_loc (d := .int (s2 + 1)) hm 2 (by simp)
    generalize hM1 : M.set k (.lst [.int s0, .int s1, .int (s2 + 1)]) = M1 at g3
    have hm1 : M1[k]? = some (.lst [.int s0, .int s1, .int (s2 + 1)]) := by rw [← hM1]; exact List.getElem?_set_self hk
    have l1 : M1.length = M.length := by rw [← hM1]; simp
    have i1 : pr .idx M1 [.loc k, .int 1] = some (.int s1, M1) := ix3 hm1 1 rfl
    have i2 : pr .idx M1 [.loc k, .int 2] = some (.int (s2 + 1), M1) := ix3 hm1 2 rfl
    have m1 := pr_mul (M := M1) (i := s1) (j := 48271) (by omega) (by omega)
    have m2 := pr_mul (M := M1) (i := s2 + 1) (j := 60013) (by omega) (by omega)
    have m3 := pr_mod (M := M1) (i := s1 * 48271 + (s2 + 1) * 60013) (j := 2147483647) (by omega)
    have bn := Int.emod_nonneg (s1 * 48271 + (s2 + 1) * 60013) (b := 2147483647) (by omega)
    have bl := Int.emod_lt_of_pos (s1 * 48271 + (s2 + 1) * 60013) (b := 2147483647) (by omega)
    generalize (s1 * 48271 + (s2 + 1) * 60013) % 2147483647 = t at m3 bn bl
    have g4 : prSetIdx M1 [.loc k, .int 1, .int t] = some (.non, M1.set k (.lst [.int s0, .int t, .int (s2 + 1)])) := set_loc (d := .int t) hm1 1 (by simp)
    generalize hM2 : M1.set k (.lst [.int s0, .int t, .int (s2 + 1)]) = M2 at g4
    have hm2 : M2[k]? = some (.lst [.int s0, .int t, .int (s2 + 1)]) := by rw [← hM2]; exact List.getElem?_set_self (by omega)
    have j1 : pr .idx M2 [.loc k, .int 1] = some (.int t, M2) := ix3 hm2 1 rfl
    have j2 : pr .idx M2 [.loc k, .int 2] = some (.int (s2 + 1), M2) := ix3 hm2 2 rfl
    have n1 := pr_mul (M := M2) (i := t) (j := 16807) (by omega) (by omega)
    have n2 := pr_mul (M := M2) (i := s2 + 1) (j := 7411) (by omega) (by omega)
    have n3 := pr_mod (M := M2) (i := t * 16807 + (s2 + 1) * 7411) (j := 2147483629) (by omega)
    generalize (t * 16807 + (s2 + 1) * 7411) % 2147483629 = u at n3
    have n4 := pr_fdiv (M := M2) (i := u) (j := 8) (by omega) (by omega)
    generalize u / 8 = v at n4
    have n5 := pr_mod (M := M2) (i := v) h0
    have l2 : M2.length = M.length := by rw [← hM2, ← l1]; simp
    have tr : trim M (.int (v % m)) M2 = M2 := trim_len l2
    refine ⟨v % m, M2, ?_, Int.emod_nonneg _ (by omega), Int.emod_lt_of_pos _ h0, ⟨s0, t, s2 + 1, hm2, bn, by omega, by omega, by omega⟩, ?_⟩
    · simp [b__law_pick, i0, hs, g1, g2, g3, i1, i2, m1, m2, m3, g4, j1, j2, n1, n2, n3, n4, n5, tr]
    · rw [← hM2, ← hM1]
      exact Keep.trans Keep.set Keep.set
end K00

namespace K00
open PySem PySem.Spec PyProof.Rows L2 DP
/-! ### loops that draw -/
theorem rng_loop0 {ys : List D} {f : D → DP.Env → Mem → SRes} (P : Nat → DP.Env → Mem → Prop) (m0 : Nat) (hs : ∀ t, t < m0 → ∀ env M, P t env M → ∃ env' M', f (.int t) env M = .done .nx env' M' ∧ P (t + 1) env' M') :
    ∀ (m t : Nat) (env : DP.Env) (M : Mem), t + m = m0 → P t env M → ∃ env' M', forLoop (.items ys) f ((List.range' t m).map fun (i : Nat) => .int i) env M = .done .nx env' M' ∧ P m0 env' M'
  | 0, t, env, M, e, h => ⟨env, M, by simp [forLoop, Walk.Ok], by rw [← e]; exact h⟩
  | m + 1, t, env, M, e, h => by
    obtain ⟨env1, M1, e1, h1⟩ := hs t (by omega) env M h
    obtain ⟨env2, M2, e2, h2⟩ := rng_loop0 P m0 hs m (t + 1) env1 M1 (by omega) h1
    refine ⟨env2, M2, ?_, h2⟩
    rw [List.range'_succ, List.map_cons, forLoop, if_pos (by trivial), e1]
    exact e2
theorem rngD_eq (m : Nat) : rngD 0 m = (List.range' 0 m).map fun (i : Nat) => .int i := by
  rw [rngD, List.range_eq_range']
  simp
theorem for_w {call : Nat → List D → Mem → Res D} {env : DP.Env} {M M1 : Mem} {t : T} {k : SrcK} {src : List E} {body : List S} {ds : List D} {w : Walk} {r : SRes} (h1 : evs call src env M = .ok ds M1) (h2 : walk M1 k ds = some w)
    (h3 : forLoop w (fun x env2 M2 => match store env2 x t with
        | none => .bad
        | some env3 => DP.execs call body env3 M2) w.xs env M1 = r) : DP.exec call (.for_ t k src body) env M = r := by
  rw [ex_for, h1]
  simp only [Res.sb, h2]
  exact h3
theorem for_rng {call : Nat → List D → Mem → Res D} {env : DP.Env} {M M1 : Mem} {i : Nat} {src : List E} {body : List S} {m : Nat} (P : Nat → DP.Env → Mem → Prop) (h1 : evs call src env M = .ok [.int m] M1) (hm : m < 1000) (h0 : P 0 env M1)
    (hs : ∀ t, t < m → ∀ env M, P t env M → ∃ env' M', DP.execs call body (env.set i (some (.int t))) M = .done .nx env' M' ∧ P (t + 1) env' M') : ∃ env' M', DP.exec call (.for_ (.nm i) .rng1 src body) env M = .done .nx env' M' ∧ P m env' M' := by
  have w := walk_r1 (M := M1) (j := m) (by omega) (by omega)
  rw [Int.toNat_natCast, rngD_eq] at w
  obtain ⟨e', M', he, hp⟩ := rng_loop0 (ys := (List.range' 0 m).map fun (i : Nat) => .int i) (f := fun x env2 M2 => match store env2 x (.nm i) with
        | none => .bad
        | some env3 => DP.execs call body env3 M2) P m (fun t ht env M h => by
      obtain ⟨e1, M1, q1, q2⟩ := hs t ht env M h
      exact ⟨e1, M1, q1, q2⟩) m 0 env M1 (by omega) h0
  refine ⟨e', M', ?_, hp⟩
  exact for_w h1 w he
theorem rng_comp0 {ys : List D} {f : D → Mem → Res (Option D)} {Q : D → Prop} (P : Nat → Mem → Prop) (m0 : Nat) (hs : ∀ t, t < m0 → ∀ M, P t M → ∃ d M', f (.int t) M = .ok (some d) M' ∧ Q d ∧ P (t + 1) M') :
    ∀ (m t : Nat) (M : Mem), t + m = m0 → P t M → ∃ ds M', compLoop (.items ys) f ((List.range' t m).map fun (i : Nat) => .int i) M = .ok ds M' ∧ ds.length = m ∧ (∀ d ∈ ds, Q d) ∧ P m0 M'
  | 0, t, M, e, h => ⟨[], M, by simp [compLoop, Walk.Ok], rfl, by simp, by rw [← e]; exact h⟩
  | m + 1, t, M, e, h => by
    obtain ⟨d, M1, e1, hq, h1⟩ := hs t (by omega) M h
    obtain ⟨ds, M2, e2, hl, ha, h2⟩ := rng_comp0 (ys := ys) P m0 hs m (t + 1) M1 (by omega) h1
    refine ⟨d :: ds, M2, ?_, by simp [hl], ?_, h2⟩
    · rw [List.range'_succ, List.map_cons, compLoop, if_pos (by trivial), e1]
      simp only [e2]
    · intro x hx
      rcases List.mem_cons.mp hx with e | hx
      · rw [e]; exact hq
      · exact ha x hx
theorem comp_rng {call : Nat → List D → Mem → Res D} {env : DP.Env} {M M1 : Mem} {own : List Nat} {i : Nat} {src : List E} {elt : E} {m : Nat} {Q : D → Prop} (P : Nat → Mem → Prop) (h1 : evs call src env M = .ok [.int m] M1) (hm : m < 1000) (h0 : P 0 M1)
    (hs : ∀ t, t < m → ∀ M, P t M → ∃ d M', ev call elt ((wipeE env own).set i (some (.int t))) M = .ok d M' ∧ Q d ∧ P (t + 1) M') : ∃ ds M', ev call (.comp false own (.nm i) .rng1 src none elt) env M = .ok (.list ds) M' ∧ ds.length = m ∧ (∀ d ∈ ds, Q d) ∧ P m M' := by
  have w := walk_r1 (M := M1) (j := m) (by omega) (by omega)
  rw [Int.toNat_natCast, rngD_eq] at w
  obtain ⟨ds, M', he, hl, ha, hp⟩ := rng_comp0 (ys := (List.range' 0 m).map fun (i : Nat) => .int i) (f := compF call own (.nm i) elt env) (Q := Q) P m (fun t ht M h => by
      obtain ⟨d, M1, q1, q2, q3⟩ := hs t ht M h
      refine ⟨d, M1, ?_, q2, q3⟩
      unfold compF
      simp only [store_nm, q1]) m 0 M1 (by omega) h0
  exact ⟨ds, M', comp_ok h1 w he (by rw [hl, sl_eq]; omega), hl, ha, hp⟩
theorem lift_map {α : Type} {g : α → D} {Q : α → Prop} : ∀ {ds : List D}, (∀ d ∈ ds, ∃ c, d = g c ∧ Q c) → ∃ cs : List α, ds = cs.map g ∧ ∀ c ∈ cs, Q c
  | [], _ => ⟨[], rfl, by simp⟩
  | d :: ds, h => by
    obtain ⟨c, rfl, hc⟩ := h d List.mem_cons_self
    obtain ⟨cs, rfl, hcs⟩ := lift_map fun x m => h x (List.mem_cons_of_mem _ m)
    exact ⟨c :: cs, rfl, fun x m => by
      rcases List.mem_cons.mp m with e | m
      · rw [e]; exact hc
      · exact hcs x m⟩
/-! ### words -/
def L36 : List Nat := (List.range 26).map (· + 97) ++ (List.range 10).map (· + 48)
theorem l36 : ("abcdefghijklmnopqrstuvwxyz0123456789" : Str).cps.toList = L36 := by decide
theorem l36_26 : ∀ j, j < 26 → ∃ c, L36[j]? = some c ∧ 97 ≤ c ∧ c ≤ 122 := fun j h => ⟨j + 97, by unfold L36; rw [List.getElem?_append_left (by simpa using h), List.getElem?_map, List.getElem?_range h]; rfl, by omega, by omega⟩
theorem l36_36 : ∀ j, j < 36 → ∃ c, L36[j]? = some c ∧ ((97 ≤ c ∧ c ≤ 122) ∨ (48 ≤ c ∧ c ≤ 57)) := fun j h => by
  by_cases h2 : j < 26
  · obtain ⟨c, e, q⟩ := l36_26 j h2
    exact ⟨c, e, .inl q⟩
  · refine ⟨j - 26 + 48, ?_, .inr (by omega)⟩
    unfold L36
    rw [List.getElem?_append_right (by simp; omega), List.getElem?_map, List.getElem?_range (by simp; omega)]
    simp
theorem sign_of {M : Mem} {r : Int} {c : Nat} (h0 : 0 ≤ r) (h : L36[r.toNat]? = some c) : pr .idx M [.str "abcdefghijklmnopqrstuvwxyz0123456789", .int r] = some (.str ⟨#[c]⟩, M) :=
  pr_idx_str (by rw [sl_eq]; decide) (by
    rw [l36]
    have e : r = ((r.toNat : Nat) : Int) := by omega
    rw [e, atI_nat]
    exact h)
theorem inB_list {M : Mem} {w : Str} {ss : List Str} (hw : PyData.strOk w = true) (h : ∀ s ∈ ss, PyData.strOk s = true) : pr .in_ M [.str w, .list (ss.map .str)] = some (.bl (decide (w ∈ ss)), M) := by
  have e : inB M [.str w, .list (ss.map .str)] = inB M [.str w, .tup (ss.map .str)] := rfl
  show prIn M [.str w, .list (ss.map .str)] = _
  unfold prIn
  rw [e, inB_strs hw h]; rfl
theorem run_kws {n : Nat} {M : Mem} : DP.run fs (n + 1) 16 [] M = .ok (.list (kws.map .str)) M := by
  rw [run_at (d := ⟨0, 0, b__law_keywords⟩) rfl rfl]
  have := pr_list (M := M) (xs := kws.map .str) (by simp [kws, sl_eq])
  simp only [kws, List.map_cons, List.map_nil] at this
  simp [b__law_keywords, this, kws]
structure Pre (s : Str) : Prop where
  hd : ∃ c cs, TL.tl s = c :: cs ∧ 97 ≤ c ∧ c ≤ 122
  al : ∀ c ∈ TL.tl s, (97 ≤ c ∧ c ≤ 122) ∨ (48 ≤ c ∧ c ≤ 57)
theorem Pre.app {s : Str} {c : Nat} (h : Pre s) (hc : (97 ≤ c ∧ c ≤ 122) ∨ (48 ≤ c ∧ c ≤ 57)) : Pre (s ++ ⟨#[c]⟩) := by
  obtain ⟨a, as, e, ha⟩ := h.hd
  have q : TL.tl (s ++ ⟨#[c]⟩) = TL.tl s ++ [c] := TL.tl_append s ⟨#[c]⟩
  refine ⟨⟨a, as ++ [c], by rw [q, e]; rfl, ha⟩, fun x hx => ?_⟩
  rw [q] at hx
  rcases List.mem_append.mp hx with hx | hx
  · exact h.al x hx
  · rw [List.mem_singleton.mp hx]; exact hc
theorem kws_len {s : Str} (h : s ∈ kws) : s.length ≤ 7 := by
  simp only [kws, List.mem_cons, List.not_mem_nil, or_false] at h
  rcases h with h | h | h | h | h | h | h | h | h | h | h | h | h | h | h | h | h | h | h <;> (rw [h]; decide)
theorem kws_no0 {s : Str} (h : s ∈ kws) : 48 ∉ TL.tl s := by
  simp only [kws, List.mem_cons, List.not_mem_nil, or_false] at h
  rcases h with h | h | h | h | h | h | h | h | h | h | h | h | h | h | h | h | h | h | h <;> (rw [h]; decide)
theorem one_len {c : Nat} : (⟨#[c]⟩ : Str).length = 1 := rfl
theorem Pre.ok {s : Str} (h : Pre s) : PyData.strOk s = true := strOk_of fun c hc => by rcases h.al c hc with q | q <;> omega
theorem run_signs {n k b m : Nat} {M : Mem} (h : Src k b M) (hb : b < 900000000) (h1 : 1 ≤ m) (h2 : m ≤ 12) : ∃ w M', DP.run fs (n + 2) 17 [.loc k, .int m] M = .ok (.str w) M' ∧ IsW w ∧ Src k (b + 12) M' ∧ Keep k M M' := by
  obtain ⟨r, M1, e1, r0, r1, s1, k1⟩ := pick (n := n) (m := 26) h (by omega) (by omega) (by omega)
  obtain ⟨c, ec, hc⟩ := l36_26 r.toNat (by omega)
  have x1 := sign_of (M := M1) r0 ec
  obtain ⟨env', M2, hf, s, x, he, hp, hl, s2, k2⟩ := for_rng (call := DP.run fs (n + 1)) (M := M1) (i := 4) (m := m - 1) (src := [(.pr .sub [(.v 1), (.c (.int (1)))])]) (env := [some (.loc k), some (.int m), some (.str "abcdefghijklmnopqrstuvwxyz0123456789"), some (.str ⟨#[c]⟩), none])
    (body := [.asg (.nm 3) (.pr .add [(.v 3), (.pr .idx [(.v 2), (.call 28 [(.v 0), (.c (.int (36)))])])])])
    (fun t env M' => ∃ (s : Str) (x : Option D), env = [some (.loc k), some (.int m), some (.str "abcdefghijklmnopqrstuvwxyz0123456789"), some (.str s), x] ∧ Pre s ∧ s.length = t + 1 ∧ Src k (b + 1 + t) M' ∧ Keep k M M')
    (by simp; omega) (by omega) ⟨_, _, rfl, ⟨⟨c, [], rfl, hc⟩, fun x hx => by rw [show TL.tl ⟨#[c]⟩ = [c] from rfl] at hx; rw [List.mem_singleton.mp hx]; exact .inl hc⟩, rfl, s1, k1⟩ (by
      rintro t ht env M' ⟨s, x, rfl, hp, hl, sr, kp⟩
      obtain ⟨r, M2, e2, r0, r1, s2, k2⟩ := pick (n := n) (m := 36) sr (by omega) (by omega) (by omega)
      obtain ⟨c, ec, hc⟩ := l36_36 r.toNat (by omega)
      have x2 := sign_of (M := M2) r0 ec
      have x3 := pr_adds (M := M2) (a := s) (b := ⟨#[c]⟩) (by rw [hl, one_len, sl_eq]; omega)
      refine ⟨_, M2, ?_, s ++ ⟨#[c]⟩, some (.int t), rfl, hp.app hc, by rw [len_app, hl, one_len], s2, kp.trans k2⟩
      simp [e2, x2, x3])
  subst he
  have hin := inB_list (M := M2) hp.ok kws_ok
  have hk := run_kws (n := n) (M := M2)
  rw [run_at (d := ⟨2, 5, b__law_signs⟩) rfl rfl]
  have tr : ∀ d, trim M d M2 = M2 := fun d => trim_len k2.ln
  by_cases q : s ∈ kws
  · have x4 := pr_adds (M := M2) (a := s) (b := "0") (by rw [hl, show ("0" : Str).length = 1 from rfl, sl_eq]; omega)
    refine ⟨s ++ "0", M2, ?_, ⟨(hp.app (c := 48) (.inr (by omega))).hd, (hp.app (c := 48) (.inr (by omega))).al, ?_, ?_⟩, s2.mono (by omega), k2⟩
    · simp [b__law_signs, e1, x1, hf, hk, hin, q, x4, tr]
    · rw [len_app]; have := kws_len q; have e : ("0" : Str).length = 1 := rfl; omega
    · intro hm
      have := kws_no0 hm
      rw [TL.tl_append] at this
      exact this (List.mem_append.mpr (.inr (by decide)))
  · refine ⟨s, M2, ?_, ⟨hp.hd, hp.al, by omega, q⟩, s2.mono (by omega), k2⟩
    simp [b__law_signs, e1, x1, hf, hk, hin, q, tr]
theorem run_dword {n k b : Nat} {M : Mem} (h : Src k b M) (hb : b < 900000000 - 20) : ∃ w M', DP.run fs (n + 3) 18 [.loc k] M = .ok (.str w) M' ∧ IsW w ∧ Src k (b + 14) M' ∧ Keep k M M' := by
  obtain ⟨r, M1, e1, r0, r1, s1, k1⟩ := pick (n := n + 1) (m := 4) h (by omega) (by omega) (by omega)
  rw [run_at (d := ⟨1, 1, b__law_word⟩) rfl rfl]
  by_cases q : r = 0
  · obtain ⟨r2, M2, e2, r20, r21, s2, k2⟩ := pick (n := n + 1) (m := 12) s1 (by omega) (by omega) (by omega)
    obtain ⟨w, M3, e3, hw, s3, k3⟩ := run_signs (n := n) (m := (1 + r2).toNat) s2 (by omega) (by omega) (by omega)
    rw [show (((1 + r2).toNat : Nat) : Int) = 1 + r2 by omega] at e3
    have kk := (k1.trans k2).trans k3
    have tr : ∀ d, trim M d M3 = M3 := fun d => trim_len kk.ln
    refine ⟨w, M3, ?_, hw, s3.mono (by omega), kk⟩
    simp [b__law_word, e1, q, e2, e3, tr]
  · obtain ⟨r2, M2, e2, r20, r21, s2, k2⟩ := pick (n := n + 1) (m := 3) s1 (by omega) (by omega) (by omega)
    obtain ⟨w, M3, e3, hw, s3, k3⟩ := run_signs (n := n) (m := (1 + r2).toNat) s2 (by omega) (by omega) (by omega)
    rw [show (((1 + r2).toNat : Nat) : Int) = 1 + r2 by omega] at e3
    have kk := (k1.trans k2).trans k3
    have tr : ∀ d, trim M d M3 = M3 := fun d => trim_len kk.ln
    refine ⟨w, M3, ?_, hw, s3.mono (by omega), kk⟩
    simp [b__law_word, e1, q, e2, e3, tr]
end K00

namespace K00
open PySem PySem.Spec PyProof.Rows L2 DP
theorem log_mid {x : Int} (h : x.natAbs < 10 ^ 40) : x.natAbs.log2 < 200 := by
  by_cases h0 : x.natAbs = 0
  · rw [h0]; decide
  · exact (Nat.log2_lt h0).mpr (Nat.lt_trans h (by decide))
theorem pr_mulB {M : Mem} {i j : Int} (h1 : i.natAbs < 10 ^ 40) (h2 : j.natAbs < 10 ^ 40) : pr .mul M [.int i, .int j] = some (.int (i * j), M) := by
  show prMul M [.int i, .int j] = _
  unfold prMul
  have a := log_mid h1
  have b := log_mid h2
  exact if_pos (by unfold mulFits; omega)
theorem pow_le {t : Nat} (h : t ≤ 31) : 10 ^ t ≤ 10 ^ 31 := Nat.pow_le_pow_right (by decide) h
theorem run_figure {n k b : Nat} {M : Mem} (h : Src k b M) (hb : b < 900000000 - 40) : ∃ i M', DP.run fs (n + 2) 19 [.loc k] M = .ok (.int i) M' ∧ NumOk i ∧ Src k (b + 40) M' ∧ Keep k M M' := by
  obtain ⟨r, M1, e1, r0, r1, s1, k1⟩ := pick (n := n) (m := 4) h (by omega) (by omega) (by omega)
  rw [run_at (d := ⟨1, 3, b__law_figure⟩) rfl rfl]
  by_cases q : 0 < r
  · obtain ⟨r2, M2, e2, r20, r21, s2, k2⟩ := pick (n := n) (m := 12) s1 (by omega) (by omega) (by omega)
    have kk := k1.trans k2
    have tr : ∀ d, trim M d M2 = M2 := fun d => trim_len kk.ln
    refine ⟨r2 - 4, M2, ?_, ⟨by omega⟩, s2.mono (by omega), kk⟩
    simp [b__law_figure, e1, q, e2, tr]
  · obtain ⟨r2, M2, e2, r20, r21, s2, k2⟩ := pick (n := n) (m := 31) s1 (by omega) (by omega) (by omega)
    obtain ⟨m, hm⟩ : ∃ m : Nat, (1 + r2) = (m : Int) := ⟨(1 + r2).toNat, by omega⟩
    obtain ⟨env', M3, hf, v, x, he, hv, s3, k3⟩ := for_rng (call := DP.run fs (n + 1)) (M := M1) (M1 := M2) (i := 2) (m := m) (src := [(.pr .add [(.c (.int (1))), (.call 28 [(.v 0), (.c (.int (31)))])])]) (env := [some (.loc k), some (.int 0), none])
      (body := [.asg (.nm 1) (.pr .add [(.pr .mul [(.v 1), (.c (.int (10)))]), (.call 28 [(.v 0), (.c (.int (10)))])])])
      (fun t env M' => ∃ (v : Nat) (x : Option D), env = [some (.loc k), some (.int v), x] ∧ v < 10 ^ t ∧ Src k (b + 2 + t) M' ∧ Keep k M M')
      (by simp [e2, hm]) (by omega) ⟨0, _, rfl, by simp, s2, k1.trans k2⟩ (by
        rintro t ht env M' ⟨v, x, rfl, hv, sr, kp⟩
        obtain ⟨r, M4, e4, r40, r41, s4, k4⟩ := pick (n := n) (m := 10) sr (by omega) (by omega) (by omega)
        have hb31 : v < 10 ^ 31 := Nat.lt_of_lt_of_le hv (pow_le (by omega))
        have x1 := pr_mulB (M := M') (i := v) (j := 10) (by simp; exact Nat.lt_trans hb31 (by decide)) (by decide)
        refine ⟨_, M4, ?_, v * 10 + r.toNat, some (.int t), rfl, ?_, s4, kp.trans k4⟩
        · have e : ((v * 10 + r.toNat : Nat) : Int) = (v : Int) * 10 + r := by omega
          rw [e]
          simp [x1, e4]
        · rw [Nat.pow_succ]; omega)
    subst he
    obtain ⟨r5, M5, e5, r50, r51, s5, k5⟩ := pick (n := n) (m := 2) s3 (by omega) (by omega) (by omega)
    have hb31 : v < 10 ^ 31 := Nat.lt_of_lt_of_le hv (pow_le (by omega))
    have x2 := pr_mul (M := M5) (i := 2) (j := r5) (by omega) (by omega)
    have x1 := pr_mulB (M := M5) (i := v) (j := 1 - 2 * r5) (by simp; exact Nat.lt_trans hb31 (by decide)) (by
      have : (1 - 2 * r5).natAbs ≤ 1 := by omega
      exact Nat.lt_of_le_of_lt this (by decide))
    have kk := k3.trans k5
    have tr : ∀ d, trim M d M5 = M5 := fun d => trim_len kk.ln
    refine ⟨(v : Int) * (1 - 2 * r5), M5, ?_, ⟨?_⟩, s5.mono (by omega), kk⟩
    · simp [b__law_figure, e1, q, hf, x1, x2, e5, tr]
    · rw [Int.natAbs_mul]
      have : (1 - 2 * r5).natAbs = 1 := by omega
      rw [this]
      simpa using hb31
end K00

namespace K00
open PySem PySem.Spec PyProof.Rows L2 DP
def Inc (ns : List Int) : Prop := ∀ k, (h : k + 1 < ns.length) → ns[k] < ns[k + 1]
theorem Inc.snoc {ns : List Int} {v : Int} (h : Inc ns) (hv : ∀ k, (h : k + 1 = ns.length) → ns[k] < v) : Inc (ns ++ [v]) := by
  intro k hk
  simp at hk
  by_cases q : k + 1 < ns.length
  · rw [List.getElem_append_left (by omega), List.getElem_append_left q]
    exact h k q
  · have e : k + 1 = ns.length := by omega
    rw [List.getElem_append_left (by omega), List.getElem_append_right (by omega)]
    simp
    exact hv k e
structure Above (k : Nat) (M M' : Mem) : Prop where
  ln : M.length ≤ M'.length
  ot : ∀ j, j < M.length → j ≠ k → M'[j]? = M[j]?
theorem Keep.above {k : Nat} {M M' X : Mem} (h : Keep k M M') : Above k M (M' ++ X) := ⟨by have := h.ln; simp; omega, fun j hj hk => by rw [List.getElem?_append_left (by have := h.ln; omega)]; exact h.ot j hk⟩
theorem Above.keep {k : Nat} {M M' M'' : Mem} (h : Above k M M') (q : Keep k M' M'') : Above k M M'' := ⟨by have := h.ln; have := q.ln; omega, fun j hj hk => (q.ot j hk).trans (h.ot j hj hk)⟩
theorem Above.set {k j : Nat} {c : Cell} {M M' : Mem} (h : Above k M M') (hj : M.length ≤ j) : Above k M (M'.set j c) := ⟨by have := h.ln; simp; omega, fun i hi hk => by rw [List.getElem?_set_ne (by omega)]; exact h.ot i hi hk⟩
theorem Src.lt {k b : Nat} {M : Mem} (h : Src k b M) : k < M.length := by
  obtain ⟨s0, s1, s2, hm, _⟩ := h
  rw [List.getElem?_eq_some_iff] at hm
  exact hm.1
theorem Src.set {k b j : Nat} {c : Cell} {M : Mem} (h : Src k b M) (hj : j ≠ k) : Src k b (M.set j c) := by
  obtain ⟨s0, s1, s2, hm, r⟩ := h
  exact ⟨s0, s1, s2, by rw [List.getElem?_set_ne hj]; exact hm, r⟩
theorem Src.app {k b : Nat} {M X : Mem} (h : Src k b M) : Src k b (M ++ X) := by
  have := h.lt
  obtain ⟨s0, s1, s2, hm, r⟩ := h
  exact ⟨s0, s1, s2, by rw [List.getElem?_append_left this]; exact hm, r⟩
theorem Src.take {k b n : Nat} {M : Mem} (h : Src k b M) (hk : k < n) : Src k b (M.take n) := by
  obtain ⟨s0, s1, s2, hm, r⟩ := h
  exact ⟨s0, s1, s2, by rw [List.getElem?_take_of_lt hk]; exact hm, r⟩
theorem Above.take {k : Nat} {M M' : Mem} (h : Above k M M') : Keep k M (M'.take M.length) := by
  refine ⟨by have := h.ln; simp; omega, fun j hk => ?_⟩
  by_cases hj : j < M.length
  · rw [List.getElem?_take_of_lt hj]; exact h.ot j hj hk
  · rw [List.getElem?_eq_none (by simp; omega), List.getElem?_eq_none (by omega)]
theorem trim_above {k b : Nat} {M M' : Mem} {d : D} (h : Above k M M') (s : Src k b M') (hb : below M.length d = true) : trim M d M' = M'.take M.length := by
  unfold trim
  rw [if_pos]
  refine ⟨hb, h.ln, fun j hj => ?_⟩
  by_cases e : j = k
  · obtain ⟨s0, s1, s2, hm, r⟩ := s
    exact .inr ⟨_, by rw [e]; exact hm, rfl⟩
  · exact .inl (h.ot j hj e)
theorem belows_ints {n : Nat} : ∀ ns : List Int, belows n (ns.map .int) = true
  | [] => rfl
  | i :: ns => by simp [belows, below, belows_ints ns]
abbrev nB : List S := [.ex (.meth .append "list" (.v 2) [(.pr .add [(.pr .add [(.pr .idx [(.v 2), (.v 3)]), (.c (.int (1)))]), (.call 28 [(.v 0), (.c (.int (9)))])])])]
theorem num_loop {n k b j m : Nat} {M Mx : Mem} {f : Int} (hm : Mx[j]? = some (.lst [.int f])) (hj : M.length ≤ j) (hk : k < M.length) (s : Src k b Mx) (a : Above k M Mx) (hb : b < 900000000) (hf : f.natAbs < 10 ^ 30) (h1 : 1 ≤ m) (h8 : m ≤ 8) (x : Option D) :
    ∃ (ns : List Int) (x : Option D) (M' : Mem), DP.exec (DP.run fs (n + 1)) (.for_ (.nm 3) .rng1 [(.pr .sub [(.v 1), (.c (.int (1)))])] nB) [some (.loc k), some (.int m), some (.loc j), none] Mx = .done .nx [some (.loc k), some (.int m), some (.loc j), x] M' ∧ ns.length = m ∧ (∀ i ∈ ns, NumOk i) ∧ Inc ns ∧ M'[j]? = some (.lst (ns.map .int)) ∧ Src k (b + 8) M' ∧ Above k M M' := by
  have sub : (m : Int) - 1 = ((m - 1 : Nat) : Int) := by omega
  obtain ⟨env', M', hF, ns, x, he, hl, hn, hi, hc, hs, ha⟩ := for_rng (call := DP.run fs (n + 1)) (M := Mx) (M1 := Mx) (i := 3) (m := m - 1) (src := [(.pr .sub [(.v 1), (.c (.int (1)))])]) (env := [some (.loc k), some (.int m), some (.loc j), none]) (body := nB)
    (fun t env M' => ∃ (ns : List Int) (x : Option D), env = [some (.loc k), some (.int m), some (.loc j), x] ∧ ns.length = t + 1 ∧ (∀ i ∈ ns, i.natAbs < 10 ^ 30 + 10 * t + 1) ∧ Inc ns ∧ M'[j]? = some (.lst (ns.map .int)) ∧ Src k (b + t) M' ∧ Above k M M')
    (by simp [sub]) (by omega) ⟨[f], none, rfl, rfl, fun i hi => by rw [List.mem_singleton.mp hi]; omega, fun k h => by simp at h, hm, s, a⟩ (by
      rintro t ht env M' ⟨ns, x, rfl, hl, hn, hi, hc, hs, ha⟩
      obtain ⟨r, M2, e2, r0, r1, s2, k2⟩ := pick (n := n) (m := 9) hs (by omega) (by omega) (by omega)
      have hty : (D.loc j).ty M' = some "list" := ty_loc hc
      have hix : pr .idx M' [.loc j, .int t] = some (.int ns[t], M') := pr_idx_loc hc (by rw [atI_nat]; simp [show t < ns.length by omega])
      have hc2 : M2[j]? = some (.lst (ns.map .int)) := by rw [k2.ot j (by omega)]; exact hc
      have hap := append_loc (d := .int (ns[t] + 1 + r)) hc2 (by rw [List.length_map, sl_eq]; omega)
      have hjl : j < M2.length := by
        rw [List.getElem?_eq_some_iff] at hc2
        exact hc2.1
      refine ⟨_, M2.set j (.lst (ns.map .int ++ [.int (ns[t] + 1 + r)])), ?_, ns ++ [ns[t] + 1 + r], some (.int t), rfl, by simp [hl], ?_, ?_, ?_, s2.set (by omega), (ha.keep k2).set hj⟩
      · simp [hty, hix, e2, hap]
      · intro i hi'
        rcases List.mem_append.mp hi' with hi' | hi'
        · have := hn i hi'; omega
        · rw [List.mem_singleton.mp hi']
          have := hn ns[t] (List.getElem_mem _)
          omega
      · refine hi.snoc fun k hk => ?_
        have : k = t := by omega
        subst this
        omega
      · rw [List.getElem?_set_self hjl]; simp)
  subst he
  exact ⟨ns, x, M', hF, by omega, fun i hi => ⟨by have := hn i hi; omega⟩, hi, hc, hs.mono (by omega), ha⟩
theorem run_numbers {n k b m : Nat} {M : Mem} (h : Src k b M) (hb : b < 900000000 - 100) (h1 : 1 ≤ m) (h8 : m ≤ 8) : ∃ (ns : List Int) (M' : Mem), DP.run fs (n + 3) 20 [.loc k, .int m] M = .ok (.tup (ns.map .int)) M' ∧ ns.length = m ∧ (∀ i ∈ ns, NumOk i) ∧ Inc ns ∧ Src k (b + 50) M' ∧ Keep k M M' := by
  obtain ⟨f, M1, e1, hf, s1, k1⟩ := run_figure (n := n) h (by omega)
  have hk := h.lt
  have l1 := k1.ln
  rw [run_at (d := ⟨2, 4, b__law_numbers⟩) rfl rfl]
  have hm1 : pr .listM M1 [.int f] = some (.loc M1.length, M1 ++ [.lst [.int f]]) := pr_listM (by simp [sl_eq])
  have hc1 : (M1 ++ [Cell.lst [.int f]])[M1.length]? = some (.lst [.int f]) := by rw [List.getElem?_append_right (Nat.le_refl _)]; simp
  have hix : pr .idx (M1 ++ [Cell.lst [.int f]]) [.loc M1.length, .int 0] = some (.int f, M1 ++ [Cell.lst [.int f]]) := pr_idx_loc hc1 (by rw [atI_0]; rfl)
  obtain ⟨A, hA⟩ : ∃ A : Int, A = (f.natAbs : Int) := ⟨_, rfl⟩
  obtain ⟨B, hB⟩ : ∃ B : Int, B = 10 ^ 30 := ⟨_, rfl⟩
  have hab : ∀ Mx, pr .abs Mx [.int f] = some (.int A, Mx) := fun Mx => by
    rw [hA]
    have : pr .abs Mx [.int f] = some (.int (if f < 0 then -f else f), Mx) := rfl
    rw [this]
    congr 3
    split <;> omega
  have hpw : ∀ Mx, pr .pow Mx [.int 10, .int 30] = some (.int B, Mx) := fun Mx => by
    rw [hB]
    show prPow Mx [.int 10, .int 30] = _
    rw [prPow, if_pos (by decide)]
    rfl
  by_cases q : B ≤ A
  · have hfd : ∀ Mx, pr .fdiv Mx [.int f, .int 1000] = some (.int (f / 1000), Mx) := fun Mx => pr_fdiv (by omega) (by omega)
    have hm2 : pr .listM (M1 ++ [Cell.lst [.int f]]) [.int (f / 1000)] = some (.loc (M1.length + 1), M1 ++ [Cell.lst [.int f], Cell.lst [.int (f / 1000)]]) := by
      rw [pr_listM (by simp [sl_eq])]; simp
    have hc2 : (M1 ++ [Cell.lst [.int f], Cell.lst [.int (f / 1000)]])[M1.length + 1]? = some (.lst [.int (f / 1000)]) := by rw [List.getElem?_append_right (by omega)]; simp
    obtain ⟨ns, x, M', hF, hl, hn, hi, hc, hs, ha⟩ := num_loop (n := n + 1) (M := M) (m := m) hc2 (by omega) hk s1.app k1.above (by omega) (by have := hf.h; omega) h1 h8 none
    have tr := trim_above (d := .tup (ns.map .int)) ha hs (by simp only [below]; exact belows_ints ns)
    refine ⟨ns, M'.take M.length, ?_, hl, hn, hi, (hs.take hk).mono (by omega), ha.take⟩
    have ht := pr_tuple_loc hc
    simp only [nB] at hF
    simp [b__law_numbers, e1, hm1, hix, hab, hpw, q, hfd, hm2, hF, ht, tr]
  · obtain ⟨ns, x, M', hF, hl, hn, hi, hc, hs, ha⟩ := num_loop (n := n + 1) (M := M) (m := m) hc1 (by omega) hk s1.app k1.above (by omega) (by omega) h1 h8 none
    have tr := trim_above (d := .tup (ns.map .int)) ha hs (by simp only [below]; exact belows_ints ns)
    refine ⟨ns, M'.take M.length, ?_, hl, hn, hi, (hs.take hk).mono (by omega), ha.take⟩
    have ht := pr_tuple_loc hc
    simp only [nB] at hF
    simp [b__law_numbers, e1, hm1, hix, hab, hpw, q, hF, ht, tr]
end K00

namespace K00
open PySem PySem.Spec PyProof.Rows L2 DP
theorem sg_at {r : Int} (h0 : 0 ≤ r) (h5 : r < 5) : ∃ g : Sg, atI [D.str ">=", .str "<=", .str "=", .str "in", .str "not in"] r = some (.str g.s) := by
  have : r = 0 ∨ r = 1 ∨ r = 2 ∨ r = 3 ∨ r = 4 := by omega
  rcases this with h | h | h | h | h <;> subst h
  · exact ⟨.ge, rfl⟩
  · exact ⟨.le, rfl⟩
  · exact ⟨.eq, rfl⟩
  · exact ⟨.in_, rfl⟩
  · exact ⟨.nin, rfl⟩
theorem sg_in {M : Mem} (g : Sg) : pr .in_ M [.str g.s, .tup [(.str "in"), (.str "not in")]] = some (.bl g.many, M) := by
  cases g <;> exact lit_in _ ["in", "not in"] rfl (by simp)
theorem run_dcond {n k b : Nat} {M : Mem} (h : Src k b M) (hb : b < 900000000 - 200) : ∃ (c : Cnd) (M' : Mem), DP.run fs (n + 4) 21 [.loc k] M = .ok c.d M' ∧ c.Ok ∧ Src k (b + 70) M' ∧ Keep k M M' := by
  obtain ⟨r, M1, e1, r0, r1, s1, k1⟩ := pick (n := n + 2) (m := 5) h (by omega) (by omega) (by omega)
  obtain ⟨g, hg⟩ := sg_at r0 r1
  have hl : pr .list M [(.str ">="), (.str "<="), (.str "="), (.str "in"), (.str "not in")] = some (.list [(.str ">="), (.str "<="), (.str "="), (.str "in"), (.str "not in")], M) := pr_list (by simp [sl_eq])
  have hin := sg_in (M := M1) g
  rw [run_at (d := ⟨1, 3, b__law_any_cond⟩) rfl rfl]
  have fini : ∀ (m : Nat) (M2 : Mem), 1 ≤ m → m ≤ 8 → (g.many = false → m = 1) → Src k (b + 3) M2 → Keep k M M2 → ∃ (c : Cnd) (w : Str) (M3 M4 : Mem), DP.run fs (n + 3) 18 [.loc k] M2 = .ok (.str w) M3 ∧ DP.run fs (n + 3) 20 [.loc k, .int m] M3 = .ok (.tup (c.ns.map .int)) M4 ∧ c.w = w ∧ c.g = g ∧ c.Ok ∧ Src k (b + 70) M4 ∧ Keep k M M4 := by
    intro m M2 h1 h8 hone s2 k2
    obtain ⟨w, M3, e3, hw, s3, k3⟩ := run_dword (n := n) s2 (by omega)
    obtain ⟨ns, M4, e4, hl, hn, hi, s4, k4⟩ := run_numbers (n := n) (m := m) s3 (by omega) h1 h8
    exact ⟨⟨w, g, ns⟩, w, M3, M4, e3, e4, rfl, rfl, ⟨hw, hn, by show 1 ≤ ns.length; omega, by show ns.length ≤ 8; omega, fun q => hl.trans (hone q), hi⟩, s4.mono (by omega), (k2.trans k3).trans k4⟩
  cases hm : g.many
  · rw [hm] at hin
    obtain ⟨c, w, M3, M4, e3, e4, hw, hg2, ok, s4, k4⟩ := fini 1 M1 (by omega) (by omega) (fun _ => rfl) (s1.mono (by omega)) k1
    have tr : ∀ d, trim M d M4 = M4 := fun d => trim_len k4.ln
    refine ⟨c, M4, ?_, ok, s4, k4⟩
    have e4' : DP.run fs (n + 3) 20 [.loc k, .int 1] M3 = .ok (.tup (c.ns.map .int)) M4 := e4
    simp [b__law_any_cond, hl, e1, hg, hin, e3, e4', tr, Cnd.d, hw, hg2]
  · rw [hm] at hin
    obtain ⟨r2, M2, e2, r20, r21, s2, k2⟩ := pick (n := n + 2) (m := 4) s1 (by omega) (by omega) (by omega)
    by_cases q : r2 = 0
    · obtain ⟨r5, M5, e5, r50, r51, s5, k5⟩ := pick (n := n + 2) (m := 8) s2 (by omega) (by omega) (by omega)
      obtain ⟨c, w, M3, M4, e3, e4, hw, hg2, ok, s4, k4⟩ := fini (1 + r5).toNat M5 (by omega) (by omega) (fun h => by rw [hm] at h; cases h) (s5.mono (by omega)) ((k1.trans k2).trans k5)
      rw [show (((1 + r5).toNat : Nat) : Int) = 1 + r5 by omega] at e4
      have tr : ∀ d, trim M d M4 = M4 := fun d => trim_len k4.ln
      refine ⟨c, M4, ?_, ok, s4, k4⟩
      simp [b__law_any_cond, hl, e1, hg, hin, e2, q, e5, e3, e4, tr, Cnd.d, hw, hg2]
    · obtain ⟨r5, M5, e5, r50, r51, s5, k5⟩ := pick (n := n + 2) (m := 3) s2 (by omega) (by omega) (by omega)
      obtain ⟨c, w, M3, M4, e3, e4, hw, hg2, ok, s4, k4⟩ := fini (1 + r5).toNat M5 (by omega) (by omega) (fun h => by rw [hm] at h; cases h) (s5.mono (by omega)) ((k1.trans k2).trans k5)
      rw [show (((1 + r5).toNat : Nat) : Int) = 1 + r5 by omega] at e4
      have tr : ∀ d, trim M d M4 = M4 := fun d => trim_len k4.ln
      refine ⟨c, M4, ?_, ok, s4, k4⟩
      simp [b__law_any_cond, hl, e1, hg, hin, e2, q, e5, e3, e4, tr, Cnd.d, hw, hg2]
theorem conds_comp {n k b m : Nat} {M M0 : Mem} {a : D} {env : DP.Env} (he : env = [some (.loc k), some a, some a', some (.int m), none]) (h : Src k b M) (hk : Keep k M0 M) (hb : b < 900000000 - 2000) (hm : m ≤ 13) :
    ∃ (cs : List Cnd) (M' : Mem), ev (DP.run fs (n + 4)) (.comp false [4] (.nm 4) .rng1 [(.v 3)] none (.call 21 [(.v 0)])) env M = .ok (.list (cs.map Cnd.d)) M' ∧ cs.length = m ∧ (∀ c ∈ cs, c.Ok) ∧ Src k (b + 70 * m) M' ∧ Keep k M0 M' := by
  subst he
  obtain ⟨ds, M', e, hl, ha, hs, hk⟩ := comp_rng (call := DP.run fs (n + 4)) (env := [some (.loc k), some a, some a', some (.int m), none]) (M := M) (M1 := M) (own := [4]) (i := 4) (src := [(.v 3)]) (elt := .call 21 [(.v 0)]) (m := m) (Q := fun d => ∃ c : Cnd, d = c.d ∧ c.Ok)
    (fun t M' => Src k (b + 70 * t) M' ∧ Keep k M0 M') (by simp) (by omega) ⟨h, hk⟩ (by
      rintro t ht M' ⟨sr, kp⟩
      obtain ⟨c, M2, e2, hc, s2, k2⟩ := run_dcond (n := n) sr (by omega)
      refine ⟨c.d, M2, ?_, ⟨c, rfl, hc⟩, s2.mono (by omega), kp.trans k2⟩
      simp [e2])
  obtain ⟨cs, rfl, hcs⟩ := lift_map ha
  exact ⟨cs, M', e, by simpa using hl, hcs, hs, hk⟩
theorem dconds_a {C : Nat → List D → Mem → Res D} {X : E} {M M1 M2 M3 : Mem} {k lo hi : Nat} {r2 : Int} {cs : List Cnd} (e1 : C 28 [.loc k, .int 4] M = .ok (.int 0) M1) (e2 : C 28 [.loc k, .int ((hi : Int) - lo + 1)] M1 = .ok (.int r2) M2) (m : Nat) (hm : (lo : Int) + r2 = m)
  (e3 : ev C X [some (.loc k), some (.int lo), some (.int hi), some (.int m), none] M2 = .ok (.list (cs.map Cnd.d)) M3) (tr : ∀ d, trim M d M3 = M3) :
  fin M (DP.execs C [
    .asg (.nm 3) (.ite (.pr .eq [(.call 28 [(.v 0), (.c (.int (4)))]), (.c (.int (0)))]) (.pr .add [(.v 1), (.call 28 [(.v 0), (.pr .add [(.pr .sub [(.v 2), (.v 1)]), (.c (.int (1)))])])]) (.pr .add [(.v 1), (.call 28 [(.v 0), (.c (.int (2)))])])),
    .ret (.pr .tuple_ [X])] [some (.loc k), some (.int lo), some (.int hi), none, none] M) = .ok (.tup (cs.map Cnd.d)) M3 := by
  simp [e1, e2, hm, e3, tr]
theorem dconds_b {C : Nat → List D → Mem → Res D} {X : E} {M M1 M2 M3 : Mem} {k lo hi : Nat} {r r2 : Int} {cs : List Cnd} (e1 : C 28 [.loc k, .int 4] M = .ok (.int r) M1) (q : ¬ r = 0) (e2 : C 28 [.loc k, .int 2] M1 = .ok (.int r2) M2) (m : Nat) (hm : (lo : Int) + r2 = m)
  (e3 : ev C X [some (.loc k), some (.int lo), some (.int hi), some (.int m), none] M2 = .ok (.list (cs.map Cnd.d)) M3) (tr : ∀ d, trim M d M3 = M3) :
  fin M (DP.execs C [
    .asg (.nm 3) (.ite (.pr .eq [(.call 28 [(.v 0), (.c (.int (4)))]), (.c (.int (0)))]) (.pr .add [(.v 1), (.call 28 [(.v 0), (.pr .add [(.pr .sub [(.v 2), (.v 1)]), (.c (.int (1)))])])]) (.pr .add [(.v 1), (.call 28 [(.v 0), (.c (.int (2)))])])),
    .ret (.pr .tuple_ [X])] [some (.loc k), some (.int lo), some (.int hi), none, none] M) = .ok (.tup (cs.map Cnd.d)) M3 := by
  simp [e1, q, e2, hm, e3, tr]
theorem run_dconds {n k b lo hi : Nat} {M : Mem} (h : Src k b M) (hb : b < 900000000 - 3000) (h1 : 1 ≤ lo) (h2 : lo + 1 ≤ hi) (h13 : hi ≤ 13) : ∃ (cs : List Cnd) (M' : Mem), DP.run fs (n + 5) 22 [.loc k, .int lo, .int hi] M = .ok (.tup (cs.map Cnd.d)) M' ∧ CsOk cs lo hi ∧ Src k (b + 1000) M' ∧ Keep k M M' := by
  obtain ⟨r, M1, e1, r0, r1, s1, k1⟩ := pick (n := n + 3) (m := 4) h (by omega) (by omega) (by omega)
  rw [run_at (d := ⟨3, 5, b__law_any_conds⟩) rfl rfl]
  by_cases q : r = 0
  · obtain ⟨r2, M2, e2, r20, r21, s2, k2⟩ := pick (n := n + 3) (m := (hi : Int) - lo + 1) s1 (by omega) (by omega) (by omega)
    obtain ⟨m, hm⟩ : ∃ m : Nat, (lo : Int) + r2 = m := ⟨((lo : Int) + r2).toNat, by omega⟩
    obtain ⟨cs, M3, e3, hl, hc, s3, k3⟩ := conds_comp (n := n) (a := .int lo) (a' := .int hi) (m := m) rfl s2 (k1.trans k2) (by omega) (by omega)
    have tr : ∀ d, trim M d M3 = M3 := fun d => trim_len k3.ln
    refine ⟨cs, M3, ?_, ⟨hc, by omega, by omega⟩, s3.mono (by omega), k3⟩
    subst q
    exact dconds_a e1 e2 m hm e3 tr
  · obtain ⟨r2, M2, e2, r20, r21, s2, k2⟩ := pick (n := n + 3) (m := 2) s1 (by omega) (by omega) (by omega)
    obtain ⟨m, hm⟩ : ∃ m : Nat, (lo : Int) + r2 = m := ⟨((lo : Int) + r2).toNat, by omega⟩
    obtain ⟨cs, M3, e3, hl, hc, s3, k3⟩ := conds_comp (n := n) (a := .int lo) (a' := .int hi) (m := m) rfl s2 (k1.trans k2) (by omega) (by omega)
    have tr : ∀ d, trim M d M3 = M3 := fun d => trim_len k3.ln
    refine ⟨cs, M3, ?_, ⟨hc, by omega, by omega⟩, s3.mono (by omega), k3⟩
    exact dconds_b e1 q e2 m hm e3 tr
theorem mostS_at {r : Int} (h : r = 5 ∨ r = 6) : atI [D.str "most", .str "least"] (r - 5) = some (.str (mostS (decide (r = 5)))) := by
  rcases h with h | h <;> subst h <;> rfl
theorem run_dform {n k b : Nat} {M : Mem} (h : Src k b M) (hb : b < 900000000 - 5000) : ∃ (f : Frm) (M' : Mem), DP.run fs (n + 6) 23 [.loc k] M = .ok f.d M' ∧ f.Ok ∧ Src k (b + 1200) M' ∧ Keep k M M' := by
  obtain ⟨r, M1, e1, r0, r1, s1, k1⟩ := pick (n := n + 4) (m := 7) h (by omega) (by omega) (by omega)
  rw [run_at (d := ⟨1, 3, b__law_any_form⟩) rfl rfl]
  have fin' : ∀ {M' : Mem}, Keep k M M' → ∀ d, trim M d M' = M' := fun kk d => trim_len kk.ln
  have : r = 0 ∨ r = 1 ∨ r = 2 ∨ r = 3 ∨ r = 4 ∨ (r = 5 ∨ r = 6) := by omega
  rcases this with h | h | h | h | h | h
  · subst h
    obtain ⟨c, M2, e2, hc, s2, k2⟩ := run_dcond (n := n + 1) s1 (by omega)
    refine ⟨.bas (.is c), M2, ?_, hc, s2.mono (by omega), k1.trans k2⟩
    simp [b__law_any_form, e1, e2, fin' (k1.trans k2), Frm.d, Bas.d]
  · subst h
    obtain ⟨w, M2, e2, hw, s2, k2⟩ := run_dword (n := n + 2) s1 (by omega)
    obtain ⟨i, M3, e3, hi, s3, k3⟩ := run_figure (n := n + 3) s2 (by omega)
    obtain ⟨v, M4, e4, hv, s4, k4⟩ := run_dword (n := n + 2) s3 (by omega)
    have kk := ((k1.trans k2).trans k3).trans k4
    refine ⟨.bas (.order w i v), M4, ?_, ⟨hw, hi, hv⟩, s4.mono (by omega), kk⟩
    simp [b__law_any_form, e1, e2, e3, e4, fin' kk, Frm.d, Bas.d]
  · subst h
    obtain ⟨cs, M2, e2, hc, s2, k2⟩ := run_dconds (n := n) (lo := 2) (hi := 13) s1 (by omega) (by omega) (by omega) (by omega)
    have e2' : DP.run fs (n + 5) 22 [.loc k, .int 2, .int 13] M1 = .ok (.tup (cs.map Cnd.d)) M2 := e2
    refine ⟨.either cs, M2, ?_, hc, s2.mono (by omega), k1.trans k2⟩
    simp [b__law_any_form, e1, e2', fin' (k1.trans k2), Frm.d]
  · subst h
    obtain ⟨cs, M2, e2, hc, s2, k2⟩ := run_dconds (n := n) (lo := 1) (hi := 8) s1 (by omega) (by omega) (by omega) (by omega)
    have e2' : DP.run fs (n + 5) 22 [.loc k, .int 1, .int 8] M1 = .ok (.tup (cs.map Cnd.d)) M2 := e2
    obtain ⟨c, M3, e3, hc3, s3, k3⟩ := run_dcond (n := n + 1) s2 (by omega)
    have kk := (k1.trans k2).trans k3
    refine ⟨.ifs cs (.is c), M3, ?_, ⟨hc, hc3⟩, s3.mono (by omega), kk⟩
    simp [b__law_any_form, e1, e2', e3, fin' kk, Frm.d, Bas.d]
  · subst h
    obtain ⟨w, M2, e2, hw, s2, k2⟩ := run_dword (n := n + 2) s1 (by omega)
    obtain ⟨i, M3, e3, hi, s3, k3⟩ := run_figure (n := n + 3) s2 (by omega)
    obtain ⟨v, M4, e4, hv, s4, k4⟩ := run_dword (n := n + 2) s3 (by omega)
    obtain ⟨cs, M5, e5, hc, s5, k5⟩ := run_dconds (n := n) (lo := 1) (hi := 8) s4 (by omega) (by omega) (by omega) (by omega)
    have e5' : DP.run fs (n + 5) 22 [.loc k, .int 1, .int 8] M4 = .ok (.tup (cs.map Cnd.d)) M5 := e5
    have kk := (((k1.trans k2).trans k3).trans k4).trans k5
    refine ⟨.ifs cs (.order w i v), M5, ?_, ⟨hc, hw, hi, hv⟩, s5.mono (by omega), kk⟩
    simp [b__law_any_form, e1, e2, e3, e4, e5', fin' kk, Frm.d, Bas.d]
  · have hat := mostS_at h
    have hl : pr .list M1 [(.str "most"), (.str "least")] = some (.list [(.str "most"), (.str "least")], M1) := pr_list (by simp [sl_eq])
    obtain ⟨i, M2, e2, hi, s2, k2⟩ := run_figure (n := n + 3) s1 (by omega)
    obtain ⟨cs, M3, e3, hc, s3, k3⟩ := run_dconds (n := n) (lo := 1) (hi := 8) s2 (by omega) (by omega) (by omega) (by omega)
    have e3' : DP.run fs (n + 5) 22 [.loc k, .int 1, .int 8] M2 = .ok (.tup (cs.map Cnd.d)) M3 := e3
    have kk := (k1.trans k2).trans k3
    refine ⟨.at_ (decide (r = 5)) i cs, M3, ?_, ⟨hi, hc⟩, s3.mono (by omega), kk⟩
    have hd : (Frm.at_ (decide (r = 5)) i cs).d = .tup [.str (mostS (decide (r = 5))), .int i, .tup (cs.map Cnd.d)] := rfl
    rw [hd]
    generalize mostS (decide (r = 5)) = u at hat
    have n0 : ¬ r = 0 := by omega
    have n1 : ¬ r = 1 := by omega
    have n2 : ¬ r = 2 := by omega
    have n3 : ¬ r = 3 := by omega
    have n4 : ¬ r = 4 := by omega
    simp [b__law_any_form, e1, hl, hat, e2, e3', fin' kk, Frm.d, n0, n1, n2, n3, n4]
end K00

namespace K00
open PySem PySem.Spec PyProof.Rows L2 DP
theorem dwords_a {C : Nat → List D → Mem → Res D} {X : E} {M M3 : Mem} {k : Nat} {ws : List D} (e3 : ev C X [some (.loc k), none] M = .ok (.list ws) M3) (tr : ∀ d, trim M d M3 = M3) :
  fin M (DP.execs C [.ret (.pr .tuple_ [X])] [some (.loc k), none] M) = .ok (.tup ws) M3 := by
  simp [e3, tr]
theorem run_dwords {n k b : Nat} {M : Mem} (h : Src k b M) (hb : b < 900000000 - 200) : ∃ (ws : List Str) (M' : Mem), DP.run fs (n + 4) 24 [.loc k] M = .ok (.tup (ws.map .str)) M' ∧ WsOk ws ∧ Src k (b + 60) M' ∧ Keep k M M' := by
  obtain ⟨r, M1, e1, r0, r1, s1, k1⟩ := pick (n := n + 2) (m := 4) h (by omega) (by omega) (by omega)
  obtain ⟨m, hm⟩ : ∃ m : Nat, (1 : Int) + r = m := ⟨(1 + r).toNat, by omega⟩
  obtain ⟨ds, M', e, hl, ha, hs, hk⟩ := comp_rng (call := DP.run fs (n + 3)) (env := [some (.loc k), none]) (M := M) (M1 := M1) (own := [1]) (i := 1) (src := [(.pr .add [(.c (.int (1))), (.call 28 [(.v 0), (.c (.int (4)))])])]) (elt := .call 18 [(.v 0)]) (m := m) (Q := fun d => ∃ w : Str, d = .str w ∧ IsW w)
    (fun t M' => Src k (b + 1 + 14 * t) M' ∧ Keep k M M') (by simp [e1, hm]) (by omega) ⟨s1, k1⟩ (by
      rintro t ht M' ⟨sr, kp⟩
      obtain ⟨w, M2, e2, hw, s2, k2⟩ := run_dword (n := n) sr (by omega)
      refine ⟨.str w, M2, ?_, ⟨w, rfl, hw⟩, s2.mono (by omega), kp.trans k2⟩
      simp [e2])
  obtain ⟨ws, rfl, hws⟩ := lift_map ha
  rw [List.length_map] at hl
  refine ⟨ws, M', ?_, ⟨hws, by omega, by omega⟩, hs.mono (by omega), hk⟩
  rw [run_at (d := ⟨1, 2, b__law_any_words⟩) rfl rfl]
  exact dwords_a e fun d => trim_len hk.ln
/-! ### lines -/
theorem useS_at {r : Int} (h : r = 5 ∨ r = 6) : atI [D.str "use", .str "mustuse"] (r - 5) = some (.str (useS (decide (r = 6)))) := by
  rcases h with h | h <;> subst h <;> rfl
abbrev bLine1 : List S := b__law_any_line.take 3
abbrev bLine2 : S := .ret (.ite (.pr .le [(.pr .len [(.call 33 [(.v 2)])]), (.c (.int (800)))]) (.v 2) (.pr .tup [(.c (.str "end"))]))
theorem line_end {n : Nat} {M : Mem} {a b : Option D} {l : Lin} (h : l.Ok) : ∃ l2 : Lin, l2.Ok ∧ l2.t.length ≤ 800 ∧ DP.exec (DP.run fs (n + 6)) bLine2 [a, b, some l.d] M = .done (.rt l2.d) [a, b, some l.d] M := by
  have e := run_line (n := n + 2) (M := M) h
  have hl := lT_len h
  have e2 : pr .len M [.str l.t] = some (.int l.t.length, M) := pr_len_str (by rw [sl_eq]; omega)
  by_cases q : l.t.length ≤ 800
  · refine ⟨l, h, q, ?_⟩
    have q2 : (l.t.length : Int) ≤ 800 := by omega
    simp [e, e2, q2]
  · refine ⟨.fin_, trivial, by decide, ?_⟩
    have q2 : ¬ (l.t.length : Int) ≤ 800 := by omega
    rw [show Lin.fin_.d = .tup [.str "end"] from rfl]
    generalize l.d = d at e ⊢
    simp [e, e2, q2]
theorem line_fin {C : Nat → List D → Mem → Res D} {M M1 : Mem} {k : Nat} {a : Option D} {d d2 : D} {X Y : List S} {Z : S} (e1 : DP.execs C X [some (.loc k), none, none] M = .done .nx [some (.loc k), a, some d] M1)
    (e2 : DP.exec C Z [some (.loc k), a, some d] M1 = .done (.rt d2) [some (.loc k), a, some d] M1) (tr : ∀ d, trim M d M1 = M1) (hY : Y = X ++ [Z]) : fin M (DP.execs C Y [some (.loc k), none, none] M) = .ok d2 M1 := by
  have app : ∀ (X : List S) env M, DP.execs C (X ++ [Z]) env M = match DP.execs C X env M with | .done .nx env1 M1 => DP.execs C [Z] env1 M1 | r => r := by
    intro X
    induction X with
    | nil => intro env M; rw [List.nil_append, exs_nil]
    | cons s X ih =>
      intro env M
      rw [List.cons_append, exs_cons, exs_cons]
      cases DP.exec C s env M with
      | bad => rfl
      | done f env1 M1 =>
        cases f with
        | nx => exact ih env1 M1
        | _ => rfl
  subst hY
  rw [app, e1]
  show fin M (DP.execs C [Z] _ M1) = _
  rw [exs_cons, e2]
  show Res.ok d2 (trim M d2 M1) = _
  rw [tr]
theorem run_dline0 {n k b : Nat} {M : Mem} (h : Src k b M) (hb : b < 900000000 - 6000) : ∃ (l : Lin) (M' : Mem) (a : Option D), DP.execs (DP.run fs (n + 6)) bLine1 [some (.loc k), none, none] M = .done .nx [some (.loc k), a, some l.d] M' ∧ l.Ok ∧ Src k (b + 1300) M' ∧ Keep k M M' := by
  obtain ⟨r, M1, e1, r0, r1, s1, k1⟩ := pick (n := n + 5) (m := 9) h (by omega) (by omega) (by omega)
  have hb1 : bLine1 = [
    .asg (.nm 1) (.call 28 [(.v 0), (.c (.int (9)))]),
    .asg (.nm 2) (.pr .tup [(.c (.str "end"))]),
    .ife (.pr .eq [(.v 1), (.c (.int (0)))]) [.asg (.nm 2) (.pr .tup [(.c (.str "name")), (.call 18 [(.v 0)]), (.call 19 [(.v 0)]), (.call 19 [(.v 0)])])] [.ife (.pr .le [(.v 1), (.c (.int (3)))]) [.asg (.nm 2) (.pr .tup [(.c (.str "row")), (.call 18 [(.v 0)]), (.call 23 [(.v 0)])])] [.ife (.pr .eq [(.v 1), (.c (.int (4)))]) [.asg (.nm 2) (.pr .tup [(.c (.str "must")), (.call 18 [(.v 0)]), (.call 23 [(.v 0)])])] [.ife (.pr .le [(.v 1), (.c (.int (6)))]) [.asg (.nm 2) (.pr .tup [(.pr .idx [(.pr .list [(.c (.str "use")), (.c (.str "mustuse"))]), (.pr .sub [(.v 1), (.c (.int (5)))])]), (.call 18 [(.v 0)]), (.call 18 [(.v 0)]), (.call 24 [(.v 0)])])] [.ife (.pr .eq [(.v 1), (.c (.int (7)))]) [.asg (.nm 2) (.pr .tup [(.c (.str "block")), (.call 18 [(.v 0)]), (.call 24 [(.v 0)])])] [.ife (.pr .eq [(.call 28 [(.v 0), (.c (.int (2)))]), (.c (.int (0)))]) [.asg (.nm 2) (.pr .tup [(.c (.str "close")), (.call 18 [(.v 0)])])] []]]]]]] := rfl
  rw [hb1]
  by_cases h0 : r = 0
  · obtain ⟨w, M2, e2, hw, s2, k2⟩ := run_dword (n := n + 3) s1 (by omega)
    obtain ⟨i, M3, e3, hi, s3, k3⟩ := run_figure (n := n + 4) s2 (by omega)
    obtain ⟨j, M4, e4, hj, s4, k4⟩ := run_figure (n := n + 4) s3 (by omega)
    refine ⟨.name w i j, M4, some (.int r), ?_, ⟨hw, hi, hj⟩, s4.mono (by omega), ((k1.trans k2).trans k3).trans k4⟩
    simp [e1, h0, e2, e3, e4, Lin.d]
  by_cases h3 : r ≤ 3
  · obtain ⟨w, M2, e2, hw, s2, k2⟩ := run_dword (n := n + 3) s1 (by omega)
    obtain ⟨f, M3, e3, hf, s3, k3⟩ := run_dform (n := n) s2 (by omega)
    refine ⟨.frm false w f, M3, some (.int r), ?_, ⟨hw, hf⟩, s3.mono (by omega), (k1.trans k2).trans k3⟩
    simp [e1, h0, h3, e2, e3, Lin.d, rowS]
  by_cases h4 : r = 4
  · obtain ⟨w, M2, e2, hw, s2, k2⟩ := run_dword (n := n + 3) s1 (by omega)
    obtain ⟨f, M3, e3, hf, s3, k3⟩ := run_dform (n := n) s2 (by omega)
    refine ⟨.frm true w f, M3, some (.int r), ?_, ⟨hw, hf⟩, s3.mono (by omega), (k1.trans k2).trans k3⟩
    simp [e1, h4, e2, e3, Lin.d, rowS]
  by_cases h6 : r ≤ 6
  · have hat := useS_at (r := r) (by omega)
    have hl : pr .list M1 [(.str "use"), (.str "mustuse")] = some (.list [(.str "use"), (.str "mustuse")], M1) := pr_list (by simp [sl_eq])
    obtain ⟨w, M2, e2, hw, s2, k2⟩ := run_dword (n := n + 3) s1 (by omega)
    obtain ⟨v, M3, e3, hv, s3, k3⟩ := run_dword (n := n + 3) s2 (by omega)
    obtain ⟨ws, M4, e4, hws, s4, k4⟩ := run_dwords (n := n + 2) s3 (by omega)
    refine ⟨.use (decide (r = 6)) w v ws, M4, some (.int r), ?_, ⟨hw, hv, hws⟩, s4.mono (by omega), ((k1.trans k2).trans k3).trans k4⟩
    have hd : (Lin.use (decide (r = 6)) w v ws).d = .tup [.str (useS (decide (r = 6))), .str w, .str v, .tup (ws.map .str)] := rfl
    rw [hd]
    generalize useS (decide (r = 6)) = u at hat
    simp [e1, h0, h3, h4, h6, hl, hat, e2, e3, e4]
  by_cases h7 : r = 7
  · obtain ⟨w, M2, e2, hw, s2, k2⟩ := run_dword (n := n + 3) s1 (by omega)
    obtain ⟨ws, M3, e3, hws, s3, k3⟩ := run_dwords (n := n + 2) s2 (by omega)
    refine ⟨.block w ws, M3, some (.int r), ?_, ⟨hw, hws⟩, s3.mono (by omega), (k1.trans k2).trans k3⟩
    simp [e1, h7, e2, e3, Lin.d]
  obtain ⟨r2, M2, e2, r20, r21, s2, k2⟩ := pick (n := n + 5) (m := 2) s1 (by omega) (by omega) (by omega)
  by_cases q : r2 = 0
  · obtain ⟨w, M3, e3, hw, s3, k3⟩ := run_dword (n := n + 3) s2 (by omega)
    refine ⟨.close w, M3, some (.int r), ?_, hw, s3.mono (by omega), (k1.trans k2).trans k3⟩
    simp [e1, h0, h3, h4, h6, h7, e2, q, e3, Lin.d]
  · refine ⟨.fin_, M2, some (.int r), ?_, trivial, s2.mono (by omega), k1.trans k2⟩
    simp [e1, h0, h3, h4, h6, h7, e2, q, Lin.d]
theorem run_dline {n k b : Nat} {M : Mem} (h : Src k b M) (hb : b < 900000000 - 6000) : ∃ (l : Lin) (M' : Mem), DP.run fs (n + 7) 25 [.loc k] M = .ok l.d M' ∧ l.Ok ∧ l.t.length ≤ 800 ∧ Src k (b + 1300) M' ∧ Keep k M M' := by
  obtain ⟨l, M1, a, e, hl, s, kp⟩ := run_dline0 (n := n) h hb
  obtain ⟨l2, h2, h8, e2⟩ := line_end (n := n) (M := M1) (a := some (.loc k)) (b := a) hl
  refine ⟨l2, M1, ?_, h2, h8, s, kp⟩
  rw [run_at (d := ⟨1, 3, b__law_any_line⟩) rfl rfl]
  exact line_fin e e2 (fun d => trim_len kp.ln) rfl
theorem dlines_a {C : Nat → List D → Mem → Res D} {X : E} {M M3 : Mem} {k m : Nat} {ws : List D} (e3 : ev C X [some (.loc k), some (.int m), none] M = .ok (.list ws) M3) (tr : ∀ d, trim M d M3 = M3) :
  fin M (DP.execs C [.ret X] [some (.loc k), some (.int m), none] M) = .ok (.list ws) M3 := by
  simp [e3, tr]
theorem run_dlines {n k b m : Nat} {M : Mem} (h : Src k b M) (hb : b < 800000000) (hm : m ≤ 20) : ∃ (ls : List Lin) (M' : Mem), DP.run fs (n + 8) 26 [.loc k, .int m] M = .ok (.list (ls.map Lin.d)) M' ∧ ls.length = m ∧ (∀ l ∈ ls, l.Ok ∧ l.t.length ≤ 800) ∧ Src k (b + 26000) M' ∧ Keep k M M' := by
  obtain ⟨ds, M', e, hl, ha, hs, hk⟩ := comp_rng (call := DP.run fs (n + 7)) (env := [some (.loc k), some (.int m), none]) (M := M) (M1 := M) (own := [2]) (i := 2) (src := [(.v 1)]) (elt := .call 25 [(.v 0)]) (m := m) (Q := fun d => ∃ l : Lin, d = l.d ∧ (l.Ok ∧ l.t.length ≤ 800))
    (fun t M' => Src k (b + 1300 * t) M' ∧ Keep k M M') (by simp) (by omega) ⟨h, Keep.rfl'⟩ (by
      rintro t ht M' ⟨sr, kp⟩
      obtain ⟨l, M2, e2, h1, h2, s2, k2⟩ := run_dline (n := n) sr (by omega)
      refine ⟨l.d, M2, ?_, ⟨l, rfl, h1, h2⟩, s2.mono (by omega), kp.trans k2⟩
      simp [e2])
  obtain ⟨ls, rfl, hls⟩ := lift_map ha
  rw [List.length_map] at hl
  refine ⟨ls, M', ?_, hl, hls, hs.mono (by omega), hk⟩
  rw [run_at (d := ⟨2, 3, b__law_any_lines⟩) rfl rfl]
  exact dlines_a e fun d => trim_len hk.ln
end K00

namespace K00
open PySem PySem.Spec PyProof.Rows L2 DP
theorem log_big {x : Int} (h : x.natAbs < 10 ^ 130) : x.natAbs.log2 < 500 := by
  by_cases h0 : x.natAbs = 0
  · rw [h0]; decide
  · exact (Nat.log2_lt h0).mpr (Nat.lt_trans h (by decide))
theorem pr_mulC {M : Mem} {i j : Int} (h1 : i.natAbs < 10 ^ 130) (h2 : j.natAbs < 10 ^ 130) : pr .mul M [.int i, .int j] = some (.int (i * j), M) := by
  show prMul M [.int i, .int j] = _
  unfold prMul
  have a := log_big h1
  have b := log_big h2
  exact if_pos (by unfold mulFits; omega)
theorem big_ex : ∃ B C : Int, (∀ M, pr .pow M [.int 10, .int 60] = some (.int C, M)) ∧ (∀ M, pr .mul M [.int C, .int C] = some (.int B, M)) ∧ 0 < B ∧ B.natAbs < 10 ^ 125 := by
  refine ⟨10 ^ 60 * 10 ^ 60, 10 ^ 60, fun M => ?_, fun M => ?_, by decide, by decide⟩
  · show prPow M [.int 10, .int 60] = _
    rw [prPow, if_pos (by decide)]
    rfl
  · exact pr_mulC (by decide) (by decide)
theorem pow18 : ∃ C : Int, ∀ M, pr .pow M [.int 10, .int 18] = some (.int C, M) := by
  refine ⟨10 ^ 18, fun M => ?_⟩
  show prPow M [.int 10, .int 18] = _
  rw [prPow, if_pos (by decide)]
  rfl
theorem intsOf_map : ∀ zs : List Int, intsOf (zs.map .int) = some zs
  | [] => rfl
  | z :: zs => by simp [intsOf, intsOf_map zs]
theorem sum_bd : ∀ zs : List Int, 0 ≤ (zs.map fun z => z % 999979).sum ∧ (zs.map fun z => z % 999979).sum ≤ (zs.length : Int) * 999979
  | [] => by simp
  | z :: zs => by
    have := sum_bd zs
    have a := Int.emod_nonneg z (b := 999979) (by omega)
    have b := Int.emod_lt_of_pos z (b := 999979) (by omega)
    simp only [List.map_cons, List.sum_cons, List.length_cons]
    omega
theorem cut_ints (ns : List Int) (lo hi : Option Int) : ∃ zs : List Int, DP.cutD (ns.map .int) lo hi = zs.map .int ∧ zs.length ≤ ns.length := by
  refine ⟨(ns.drop (HT.sIx (ns.map D.int).length 0 lo)).take (HT.sIx (ns.map D.int).length (ns.map D.int).length hi - HT.sIx (ns.map D.int).length 0 lo), ?_, ?_⟩
  · unfold DP.cutD
    rw [← List.map_drop, ← List.map_take]
  · rw [List.length_take, List.length_drop]; omega
abbrev cellE : E := .ite (.pr .lt [(.v 1), (.pr .len [(.v 0)])]) (.pr .int_ [(.pr .idx [(.v 0), (.v 1)])]) (.pr .add [(.pr .mul [(.c (.int (31))), (.pr .sum [(.comp false [3] (.nm 3) .seq [(.pr (.slice false true) [(.v 0), (.c (.int (6)))])] none (.pr .mod [(.pr .int_ [(.v 3)]), (.c (.int (999979)))]))])]), (.c (.int (19)))])
theorem cell_ok {C : Nat → List D → Mem → Res D} {M : Mem} {ns : List Int} {p : Nat} (hl : ns.length ≤ 63) : ∃ cell : Int, ev C cellE [some (.klist (ns.map .int)), some (.int p), none, none, none, none] M = .ok (.int cell) M := by
  have hlen : pr .len M [.klist (ns.map .int)] = some (.int ns.length, M) := by
    show prLen M [.klist (ns.map .int)] = _
    simp [prLen, asSeq, asL]
  by_cases q : p < ns.length
  · have hix : pr .idx M [.klist (ns.map .int), .int p] = some (.int ns[p], M) := by
      show prIdx M [.klist (ns.map .int), .int p] = _
      have : atI (ns.map D.int) (p : Int) = some (.int ns[p]) := by rw [atI_nat]; simp [q]
      simp [prIdx, asSeq, asL, this]
    have q2 : (p : Int) < ns.length := by omega
    refine ⟨ns[p], ?_⟩
    simp [hlen, hix, q2]
  · obtain ⟨zs, hz, hzl⟩ := cut_ints ns none (some 6)
    have hsl : pr (.slice false true) M [.klist (ns.map .int), .int 6] = some (.list (zs.map .int), M) := by
      show slc M none (some 6) (.klist (ns.map .int)) = _
      simp [slc, asL, hz]
    have q2 : ¬ (p : Int) < ns.length := by omega
    have c : compLoop (.items (zs.map .int)) (compF C [3] (.nm 3) (.pr .mod [(.pr .int_ [(.v 3)]), (.c (.int (999979)))]) [some (.klist (ns.map .int)), some (.int p), none, none, none, none]) (zs.map .int) M = .ok (zs.map fun z => .int (z % 999979)) M := by
      refine compLoop_on D.int (fun z => .int (z % 999979)) zs fun z _ => ?_
      have := pr_mod (M := M) (i := z) (j := 999979) (by omega)
      simp [compF, this]
    have hs : pr .sum M [.list (zs.map fun z => .int (z % 999979))] = some (.int (zs.map fun z => z % 999979).sum, M) := by
      show prSum M [.list (zs.map fun z => .int (z % 999979))] = _
      have e : zs.map (fun z => D.int (z % 999979)) = (zs.map fun z => z % 999979).map .int := by simp
      rw [e]
      simp only [prSum, asL, intsOf_map]
    have bd := sum_bd zs
    generalize (zs.map fun z => z % 999979).sum = S at hs bd
    have hm := pr_mul (M := M) (i := 31) (j := S) (by omega) (by omega)
    have hsz : zs.length ≤ sizeLine := by rw [sl_eq]; omega
    refine ⟨31 * S + 19, ?_⟩
    simp [hlen, q2, hsl, c, hsz, hs, hm]
theorem trim_loc2 {M M' : Mem} : trim M (.loc M.length) M' = M' := trim_loc
theorem source_fin {F : Nat → List D → Mem → Res D} {X0 X1 X2 : E} {M : Mem} {a : D} {p : Nat} {cell A B C sz ng sm s0 s1 : Int}
  (h0 : ev F X0 [some a, some (.int p), none, none, none, none] M = .ok (.int cell) M) (hab : pr .abs M [.int cell] = some (.int A, M)) (h1 : ∀ M, pr .pow M [.int 10, .int 60] = some (.int C, M)) (h2 : ∀ M, pr .mul M [.int C, .int C] = some (.int B, M))
  (e1 : pr .mod M [.int A, .int B] = some (.int sz, M)) (m1 : pr .mul M [.int 2, .int sz] = some (.int (2 * sz), M)) (m2 : pr .mul M [.int p, .int 130003] = some (.int (p * 130003), M))
  (hng : ev F X1 [some a, some (.int p), some (.int cell), none, some (.int sz), none] M = .ok (.int ng) M) (e2 : pr .mod M [.int (2 * sz + ng + p * 130003 + 70001), .int 2147483629] = some (.int sm, M))
  (hs0 : ev F X2 [some a, some (.int p), some (.int cell), none, some (.int sz), some (.int sm)] M = .ok (.int s0) M) (m3 : pr .mul M [.int (sm + 5113), .int (sm + 91193)] = some (.int ((sm + 5113) * (sm + 91193)), M))
  (e3 : pr .mod M [.int ((sm + 5113) * (sm + 91193)), .int 2147483629] = some (.int s1, M)) (hl : pr .listM M [.int s0, .int s1, .int p] = some (.loc M.length, M ++ [.lst [.int s0, .int s1, .int p]])) :
  fin M (DP.execs F [
    .asg (.nm 2) X0,
    .asg (.nm 4) (.pr .mod [(.pr .abs [(.v 2)]), (.pr .mul [(.pr .pow [(.c (.int (10))), (.c (.int (60)))]), (.pr .pow [(.c (.int (10))), (.c (.int (60)))])])]),
    .asg (.nm 5) (.pr .mod [(.pr .int_ [(.pr .add [(.pr .add [(.pr .add [(.pr .mul [(.c (.int (2))), (.v 4)]), X1]), (.pr .mul [(.v 1), (.c (.int (130003)))])]), (.c (.int (70001)))])]), (.c (.int (2147483629)))]),
    .ret (.pr .listM [X2, (.pr .mod [(.pr .int_ [(.pr .mul [(.pr .add [(.v 5), (.c (.int (5113)))]), (.pr .add [(.v 5), (.c (.int (91193)))])])]), (.c (.int (2147483629)))]), (.v 1)])] [some a, some (.int p), none, none, none, none] M) = .ok (.loc M.length) (M ++ [.lst [.int s0, .int s1, .int p]]) := by
  simp [h0, hab, h1, h2, e1, m1, m2, hng, e2, hs0, m3, e3, hl, trim_loc]
theorem run_source {n p : Nat} {M : Mem} {ns : List Int} (hl : ns.length ≤ 63) (hp : p ≤ 1) : ∃ M', DP.run fs (n + 1) 27 [.klist (ns.map .int), .int p] M = .ok (.loc M.length) M' ∧ Src M.length 1 M' ∧ (∃ c, M' = M ++ [c]) := by
  obtain ⟨cell, hc⟩ := cell_ok (C := DP.run fs n) (M := M) (ns := ns) (p := p) hl
  obtain ⟨B, C, h1, h2, hB, hB2⟩ := big_ex
  obtain ⟨E18, h18⟩ := pow18
  have hab : pr .abs M [.int cell] = some (.int (if cell < 0 then -cell else cell), M) := rfl
  have e1 := pr_mod (M := M) (i := if cell < 0 then -cell else cell) hB
  have z1 := Int.emod_nonneg (if cell < 0 then -cell else cell) (b := B) (by omega)
  have z2 := Int.emod_lt_of_pos (if cell < 0 then -cell else cell) hB
  generalize (if cell < 0 then -cell else cell) = A at hab e1 z1 z2
  generalize A % B = sz at e1 z1 z2
  have bsz : sz.natAbs < 10 ^ 130 := Nat.lt_trans (show sz.natAbs < B.natAbs by omega) (Nat.lt_trans hB2 (by decide))
  have m1 := pr_mulC (M := M) (i := 2) (j := sz) (by decide) bsz
  have m2 := pr_mul (M := M) (i := p) (j := 130003) (by omega) (by omega)
  obtain ⟨ng, hng⟩ : ∃ ng : Int, ev (DP.run fs n) (.ite (.pr .lt [(.v 2), (.c (.int (0)))]) (.c (.int (1))) (.c (.int (0)))) [some (.klist (ns.map .int)), some (.int p), some (.int cell), none, some (.int sz), none] M = .ok (.int ng) M := by
    by_cases q : cell < 0
    · exact ⟨1, by simp [q]⟩
    · exact ⟨0, by simp [q]⟩
  have e2 := pr_mod (M := M) (i := 2 * sz + ng + p * 130003 + 70001) (j := 2147483629) (by omega)
  have y1 := Int.emod_nonneg (2 * sz + ng + p * 130003 + 70001) (b := 2147483629) (by omega)
  have y2 := Int.emod_lt_of_pos (2 * sz + ng + p * 130003 + 70001) (b := 2147483629) (by omega)
  generalize (2 * sz + ng + p * 130003 + 70001) % 2147483629 = sm at e2 y1 y2
  obtain ⟨s0, hs0⟩ : ∃ s0 : Int, ev (DP.run fs n) (.ite (.pr .ge [(.v 4), (.pr .pow [(.c (.int (10))), (.c (.int (18)))])]) (.v 4) (.c (.int (0)))) [some (.klist (ns.map .int)), some (.int p), some (.int cell), none, some (.int sz), some (.int sm)] M = .ok (.int s0) M := by
    by_cases q : E18 ≤ sz
    · exact ⟨sz, by simp [h18, q]⟩
    · exact ⟨0, by simp [h18, q]⟩
  have m3 := pr_mul (M := M) (i := sm + 5113) (j := sm + 91193) (by omega) (by omega)
  have e3 := pr_mod (M := M) (i := (sm + 5113) * (sm + 91193)) (j := 2147483629) (by omega)
  have x1 := Int.emod_nonneg ((sm + 5113) * (sm + 91193)) (b := 2147483629) (by omega)
  have x2 := Int.emod_lt_of_pos ((sm + 5113) * (sm + 91193)) (b := 2147483629) (by omega)
  generalize ((sm + 5113) * (sm + 91193)) % 2147483629 = s1 at e3 x1 x2
  have hl := pr_listM (M := M) (xs := [.int s0, .int s1, .int p]) (by simp [sl_eq])
  refine ⟨M ++ [.lst [.int s0, .int s1, .int p]], ?_, ⟨s0, s1, p, by rw [List.getElem?_append_right (Nat.le_refl _)]; simp, x1, by omega, by omega, by omega⟩, _, rfl⟩
  rw [run_at (d := ⟨2, 6, b__law_source⟩) rfl rfl]
  exact source_fin hc hab h1 h2 e1 m1 m2 hng e2 hs0 m3 e3 hl
end K00

namespace K00
open PySem PySem.Spec PyProof.Rows L2 DP
theorem ty_new {M : Mem} {xs : List D} : (D.loc M.length).ty (M ++ [.lst xs]) = some "list" := ty_loc (xs := xs) (by rw [List.getElem?_append_right (Nat.le_refl _)]; simp)
theorem app_new {M : Mem} {xs : List D} {d : D} (h : xs.length < sizeLine) : pr .append (M ++ [.lst xs]) [.loc M.length, d] = some (.non, M ++ [.lst (xs ++ [d])]) := by
  rw [append_loc (xs := xs) (by rw [List.getElem?_append_right (Nat.le_refl _)]; simp) h]
  simp
theorem set_new {M : Mem} {xs : List D} {d : D} (h : 0 < xs.length) : prSetIdx (M ++ [.lst xs]) [.loc M.length, .int 0, d] = some (.non, M ++ [.lst (xs.set 0 d)]) := by
  have := set_loc (M := M ++ [.lst xs]) (k := M.length) (d := d) (xs := xs) (by rw [List.getElem?_append_right (Nat.le_refl _)]; simp) 0 h
  rw [show ((0 : Nat) : Int) = 0 from rfl] at this
  rw [this]
  simp
abbrev lawZ : S := .ife (.pr .eq [(.call 28 [(.v 1), (.c (.int (8)))]), (.c (.int (0)))]) [.asg (.nm 3) (.pr .mul [(.v 3), (.c (.int (30)))])] []
theorem law_fin {C : Nat → List D → Mem → Res D} {Z : S} {M1 M2 M3 M4 M5 M6 M7 : Mem} {a : D} {x0 xs ys : List D} {r r2 : Int} {T U : Str} {L : Mem → Nat} {A : List D → Mem → Mem} {us zs : List D}
  (h1 : C 27 [a, .int 0] [] = .ok (.loc 0) M1) (h2 : C 27 [a, .int 1] M1 = .ok (.loc 1) M2) (h3 : C 28 [.loc 0, .int 10] M2 = .ok (.int r) M3) (h4 : C 26 [.loc 0, .int (1 + r)] M3 = .ok (.list x0) M4)
  (hZ : DP.exec C Z [some a, some (.loc 0), some (.loc 1), some (.list x0), none, none, none, none, none] M4 = .done .nx [some a, some (.loc 0), some (.loc 1), some (.list xs), none, none, none, none, none] M5)
  (h5 : C 28 [.loc 1, .int 6] M5 = .ok (.int r2) M6) (h6 : C 26 [.loc 1, .int (1 + r2)] M6 = .ok (.list ys) M7)
  (t1 : ∀ M, C 34 [.list xs] M = .ok (.str T) M) (t2 : ∀ M, C 34 [.list ys] M = .ok (.str U) M)
  (rd1 : ∀ M, C 10 [.str T] M = .ok (.loc (L M)) (A xs M)) (rd2 : ∀ M, C 10 [.str (T ++ "\n")] M = .ok (.loc (L M)) (A xs M)) (rd3 : ∀ M, C 10 [.str (U ++ "\n")] M = .ok (.loc (L M)) (A ys M)) (rd4 : ∀ M, C 10 [.str ""] M = .ok (.loc (L M)) (A [] M))
  (sx : ∀ M, C 29 [.loc (L M), .list xs] (A xs M) = .ok (.bl true) (A xs M)) (sy : ∀ M, C 29 [.loc (L M), .list ys] (A ys M) = .ok (.bl true) (A ys M)) (s0 : ∀ M, C 29 [.loc (L M), .list []] (A [] M) = .ok (.bl true) (A [] M))
  (cp : ∀ M, C 30 [.list xs] M = .ok (.list xs) M) (p1 : ∀ M, C 15 [.list xs] M = .ok (.str T) M) (p2 : ∀ M, C 15 [.list ys] M = .ok (.str U) M) (p0 : ∀ M, C 15 [.list []] M = .ok (.str "") M)
  (q1 : ∀ M, C 29 [.str T, .str T] M = .ok (.bl true) M) (q2 : ∀ M, C 29 [.str U, .str U] M = .ok (.bl true) M) (q0 : ∀ M, C 29 [.str "", .str ""] M = .ok (.bl true) M)
  (sl : ∀ M, C 29 [.list xs, .list xs] M = .ok (.bl true) M) (a1 : ∀ M, pr .add M [.str T, .str "\n"] = some (.str (T ++ "\n"), M)) (a2 : ∀ M, pr .add M [.str U, .str "\n"] = some (.str (U ++ "\n"), M)) 
  (b1 : ∀ M, pr .append (A xs M) [.loc (L M), .tup [.str "end"]] = some (.non, A us M)) (b2 : ∀ M, prSetIdx (A us M) [.loc (L M), .int 0, .tup [.str "close", .str "spoilt"]] = some (.non, A zs M)) (b3 : ∀ M, (D.loc (L M)).ty (A xs M) = some "list") :
  ∃ M, fin [] (DP.execs C [
    .asg (.nm 1) (.call 27 [(.v 0), (.c (.int (0)))]),
    .asg (.nm 2) (.call 27 [(.v 0), (.c (.int (1)))]),
    .asg (.nm 3) (.call 26 [(.v 1), (.pr .add [(.c (.int (1))), (.call 28 [(.v 1), (.c (.int (10)))])])]),
    Z,
    .asg (.nm 4) (.call 26 [(.v 2), (.pr .add [(.c (.int (1))), (.call 28 [(.v 2), (.c (.int (6)))])])]),
    .asg (.nm 5) (.call 34 [(.v 3)]),
    .asg (.nm 6) (.call 34 [(.v 4)]),
    .asg (.nm 7) (.call 10 [(.v 5)]),
    .ife (.pr .not_ [(.call 29 [(.v 7), (.v 3)])]) [.ret (.c (.bl false))] [],
    .ex (.meth .append "list" (.v 7) [(.pr .tup [(.c (.str "end"))])]),
    .setIx (.v 7) (.c (.int (0))) (.pr .tup [(.c (.str "close")), (.c (.str "spoilt"))]),
    .ife (.pr .not_ [(.call 29 [(.call 10 [(.pr .add [(.v 6), (.c (.str "\n"))])]), (.v 4)])]) [.ret (.c (.bl false))] [],
    .ife (.pr .not_ [(.call 29 [(.call 10 [(.pr .add [(.v 5), (.c (.str "\n"))])]), (.v 3)])]) [.ret (.c (.bl false))] [],
    .asg (.nm 8) (.call 30 [(.v 3)]),
    .ife (.or_ (.pr .not_ [(.call 29 [(.call 15 [(.v 3)]), (.v 5)])]) (.pr .not_ [(.call 29 [(.call 15 [(.v 4)]), (.v 6)])])) [.ret (.c (.bl false))] [],
    .ife (.or_ (.pr .not_ [(.call 29 [(.v 3), (.v 8)])]) (.pr .not_ [(.call 29 [(.call 15 [(.v 3)]), (.v 5)])])) [.ret (.c (.bl false))] [],
    .ret (.and_ (.call 29 [(.call 10 [(.c (.str ""))]), (.pr .list [])]) (.call 29 [(.call 15 [(.pr .list [])]), (.c (.str ""))]))] [some a, none, none, none, none, none, none, none, none] []) = .ok (.bl true) M := by
  simp [h1, h2, h3, h4, hZ, h5, h6, t1, t2, rd1, rd2, rd3, rd4, sx, sy, s0, cp, p1, p2, p0, q1, q2, q0, sl, a1, a2, b1, b2, b3]
theorem strOk_tl {x : Str} : PyData.strOk x = (TL.tl x).all fun c => decide (c < 0x110000) := by
  unfold PyData.strOk
  rw [← Array.all_toList]
theorem flat_map {ls : List Lin} {k : Nat} : (List.replicate k (ls.map Lin.d)).flatten = ((List.replicate k ls).flatten).map Lin.d := by
  rw [List.map_flatten, List.map_replicate]
theorem flat_len {ls : List Lin} {k : Nat} : (List.replicate k ls).flatten.length = k * ls.length := by
  simp [List.length_flatten]
theorem flat_mem {ls : List Lin} {k : Nat} {l : Lin} (h : l ∈ (List.replicate k ls).flatten) : l ∈ ls := by
  obtain ⟨x, hx, hl⟩ := List.mem_flatten.mp h
  rw [List.eq_of_mem_replicate hx] at hl
  exact hl
theorem pr_mul30 {M : Mem} {xs : List D} (h : xs.length ≤ 1000) : pr .mul M [.list xs, .int 30] = some (.list (List.replicate 30 xs).flatten, M) := by
  show prMul M [.list xs, .int 30] = _
  unfold prMul
  simp only [asLL, asL]
  rw [if_pos ⟨by decide, by decide, by rw [sl_eq]; show xs.length * 30 ≤ _; omega⟩]
  rfl
structure Good (ls : List Lin) : Prop where
  l : ∀ l ∈ ls, l.Ok
  t : ∀ l ∈ ls, l.t.length ≤ 800
  lo : 1 ≤ ls.length
  hi : ls.length ≤ 600
theorem Good.ok {ls : List Lin} (h : Good ls) : LsOk ls := ⟨h.l, h.t, h.lo, h.hi⟩
theorem text_ne {ls : List Lin} (h : LsOk ls) : TL.tl (textOf ls) ≠ [] := by
  obtain ⟨c, r, e, _⟩ := text_last h
  rw [e]; simp
theorem g_read {ls : List Lin} (h : Good ls) (M : Mem) : DP.run fs 19 10 [.str (textOf ls)] M = .ok (.loc M.length) (M ++ [.lst (ls.map Lin.d)]) :=
  run_read_lines (n := 12) (fun M => run_text_lines (n := 17) h.ok (rmsuf_no (text_last h.ok)) (by have := text_len h.ok; omega) (text_ne h.ok) (text_ok h.ok)) h.l h.t h.hi
theorem g_read2 {ls : List Lin} (h : Good ls) (M : Mem) : DP.run fs 19 10 [.str (textOf ls ++ "\n")] M = .ok (.loc M.length) (M ++ [.lst (ls.map Lin.d)]) :=
  run_read_lines (n := 12) (fun M => run_text_lines (n := 17) h.ok rmsuf_yes (by have := text_len h.ok; rw [len_app]; have e : ("\n" : Str).length = 1 := rfl; omega) (by rw [TL.tl_append]; have := text_ne h.ok; simp [this]) (by
    have := text_ok h.ok
    rw [strOk_tl] at this
    rw [strOk_tl, TL.tl_append, List.all_append, this]
    rfl)) h.l h.t h.hi
theorem g_sm {ls : List Lin} (h : Good ls) : ∀ x ∈ ls.map Lin.d, Sm 5 x := fun x hx => by
  obtain ⟨l, hl, rfl⟩ := List.mem_map.mp hx
  exact lin_sm (h.l l hl)
theorem g_loc {xs : List D} (h : ∀ x ∈ xs, Sm 5 x) (hl : xs.length ≤ 600) (M : Mem) : DP.run fs 19 29 [.loc M.length, .list xs] (M ++ [.lst xs]) = .ok (.bl true) (M ++ [.lst xs]) :=
  same_loc (n := 12) (k := 5) (by rw [List.getElem?_append_right (Nat.le_refl _)]; simp) h (by omega)
theorem g_list {xs : List D} (h : ∀ x ∈ xs, Sm 5 x) (hl : xs.length ≤ 600) (M : Mem) : DP.run fs 19 29 [.list xs, .list xs] M = .ok (.bl true) M :=
  same_list (n := 12) (k := 5) h (by omega)
theorem g_copy {xs : List D} (h : ∀ x ∈ xs, Sm 5 x) (hl : xs.length ≤ 600) (M : Mem) : DP.run fs 19 30 [.list xs] M = .ok (.list xs) M :=
  copy_list (n := 18) (fun x hx => copy_sm 5 (h x hx) 12) (by omega)
theorem g_str {x : Str} (h : PyData.strOk x = true) (M : Mem) : DP.run fs 19 29 [.str x, .str x] M = .ok (.bl true) M := same_str (n := 18) h
theorem g_nl {ls : List Lin} (h : Good ls) (M : Mem) : pr .add M [.str (textOf ls), .str "\n"] = some (.str (textOf ls ++ "\n"), M) := pr_adds (by have := text_len h.ok; have e : ("\n" : Str).length = 1 := rfl; rw [sl_eq]; omega)
theorem law_run : ∀ ns : List Int, ns.length ≤ 63 → ∃ M, DP.run fs 20 35 [.klist (ns.map .int)] [] = .ok (.bl true) M := by
  intro ns hl
  obtain ⟨M1, h1, s1, c1, e1⟩ := run_source (n := 18) (p := 0) (M := []) hl (by omega)
  obtain ⟨M2, h2, s2, c2, e2⟩ := run_source (n := 18) (p := 1) (M := M1) hl (by omega)
  have l1 : M1.length = 1 := by rw [e1]; rfl
  have s12 : Src 0 1 M2 := by rw [e2]; exact s1.app
  rw [l1] at h2 s2
  obtain ⟨r, M3, h3, r0, r1, s3, k3⟩ := pick (n := 18) (m := 10) s12 (by omega) (by omega) (by omega)
  obtain ⟨l0, M4, h4, n4, g4, s4, k4⟩ := run_dlines (n := 11) (m := (1 + r).toNat) s3 (by omega) (by omega)
  rw [show (((1 + r).toNat : Nat) : Int) = 1 + r by omega] at h4
  obtain ⟨r8, M5, h8, r80, r81, s5, k5⟩ := pick (n := 18) (m := 8) s4 (by omega) (by omega) (by omega)
  have hZ : ∃ ls : List Lin, Good ls ∧ DP.exec (DP.run fs 19) lawZ [some (.klist (ns.map .int)), some (.loc 0), some (.loc 1), some (.list (l0.map Lin.d)), none, none, none, none, none] M4 = .done .nx [some (.klist (ns.map .int)), some (.loc 0), some (.loc 1), some (.list (ls.map Lin.d)), none, none, none, none, none] M5 := by
    by_cases q : r8 = 0
    · refine ⟨(List.replicate 30 l0).flatten, ⟨fun l h => (g4 l (flat_mem h)).1, fun l h => (g4 l (flat_mem h)).2, by rw [flat_len]; omega, by rw [flat_len]; omega⟩, ?_⟩
      have m := pr_mul30 (M := M5) (xs := l0.map Lin.d) (by simp; omega)
      rw [flat_map] at m
      generalize DP.run fs 19 = C at h8 ⊢
      generalize l0.map Lin.d = X0 at m ⊢
      generalize (List.replicate 30 l0).flatten.map Lin.d = X1 at m ⊢
      simp [h8, q, m]
    · refine ⟨l0, ⟨fun l h => (g4 l h).1, fun l h => (g4 l h).2, by omega, by omega⟩, ?_⟩
      generalize DP.run fs 19 = C at h8 ⊢
      simp [h8, q]
  obtain ⟨ls, hg, hZ⟩ := hZ
  have kk := (k3.trans k4).trans k5
  have s25 : Src 1 1 M5 := by
    obtain ⟨a, b, c, hm, rest⟩ := s2
    exact ⟨a, b, c, by rw [kk.ot 1 (by omega)]; exact hm, rest⟩
  obtain ⟨r6, M6, h6, r60, r61, s6, k6⟩ := pick (n := 18) (m := 6) s25 (by omega) (by omega) (by omega)
  obtain ⟨m0, M7, h7, n7, g7, s7, k7⟩ := run_dlines (n := 11) (m := (1 + r6).toNat) s6 (by omega) (by omega)
  rw [show (((1 + r6).toNat : Nat) : Int) = 1 + r6 by omega] at h7
  have hg2 : Good m0 := ⟨fun l h => (g7 l h).1, fun l h => (g7 l h).2, by omega, by omega⟩
  have lx : (ls.map Lin.d).length ≤ 600 := by have := hg.hi; simpa using this
  have ly : (m0.map Lin.d).length ≤ 600 := by have := hg2.hi; simpa using this
  rw [run_at (n := 19) (d := ⟨1, 9, b_law⟩) rfl rfl]
  exact law_fin (L := fun M => M.length) (A := fun xs M => M ++ [.lst xs]) h1 h2 h3 h4 hZ h6 h7 (fun M => run_law_text (n := 14) hg.l hg.t hg.hi) (fun M => run_law_text (n := 14) hg2.l hg2.t hg2.hi)
    (g_read hg) (g_read2 hg) (g_read2 hg2) (fun M => run_read_lines (n := 12) (ls := []) (fun M => run_text_lines0 (n := 17)) (by simp) (by simp) (by simp))
    (g_loc (g_sm hg) lx) (g_loc (g_sm hg2) ly) (g_loc (xs := []) (by simp) (by simp))
    (g_copy (g_sm hg) lx) (fun M => run_print_lines (n := 14) hg.l hg.t hg.hi) (fun M => run_print_lines (n := 14) hg2.l hg2.t hg2.hi) (fun M => run_print_lines (n := 14) (ls := []) (by simp) (by simp) (by simp))
    (g_str (text_ok hg.ok)) (g_str (text_ok hg2.ok)) (g_str (strOk_lit (a := "") rfl)) (g_list (g_sm hg) lx) (g_nl hg) (g_nl hg2)
    (fun M => app_new (M := M) (xs := ls.map Lin.d) (by rw [sl_eq]; omega)) (fun M => set_new (M := M) (xs := ls.map Lin.d ++ [.tup [.str "end"]]) (by simp)) (fun M => ty_new (M := M))
end K00

namespace K00
open PySem L2 DP
theorem bind_0 : BindOk (top 7) "text_lines" "text_lines" ["text", "lines", "signs"] := fun _ _ _ _ _ _ us hl => match us, hl with | [_, _, _], _ => rfl
theorem bind_1 : BindOk (top 13) "word_like" "word_like" ["text"] := fun _ _ _ _ _ _ us hl => match us, hl with | [_], _ => rfl
theorem bind_2 : BindOk (top 14) "number_like" "number_like" ["text"] := fun _ _ _ _ _ _ us hl => match us, hl with | [_], _ => rfl
theorem bind_3 : BindOk (top 18) "parted" "parted" ["words", "sign"] := fun _ _ _ _ _ _ us hl => match us, hl with | [_, _], _ => rfl
theorem bind_4 : BindOk (top 19) "read_condition" "read_condition" ["words"] := fun _ _ _ _ _ _ us hl => match us, hl with | [_], _ => rfl
theorem bind_5 : BindOk (top 20) "read_conditions" "read_conditions" ["words", "sign", "least", "most"] := fun _ _ _ _ _ _ us hl => match us, hl with | [_, _, _, _], _ => rfl
theorem bind_6 : BindOk (top 21) "read_plain" "read_plain" ["words"] := fun _ _ _ _ _ _ us hl => match us, hl with | [_], _ => rfl
theorem bind_7 : BindOk (top 22) "read_form" "read_form" ["words"] := fun _ _ _ _ _ _ us hl => match us, hl with | [_], _ => rfl
theorem bind_8 : BindOk (top 23) "condition_text" "condition_text" ["condition"] := fun _ _ _ _ _ _ us hl => match us, hl with | [_], _ => rfl
theorem bind_9 : BindOk (top 24) "form_text" "form_text" ["form"] := fun _ _ _ _ _ _ us hl => match us, hl with | [_], _ => rfl
theorem bind_10 : BindOk (top 28) "read_lines" "read_lines" ["text"] := fun _ _ _ _ _ _ us hl => match us, hl with | [_], _ => rfl
theorem bind_11 : BindOk (top 29) "read_line" "read_line" ["line", "number"] := fun _ _ _ _ _ _ us hl => match us, hl with | [_, _], _ => rfl
theorem bind_12 : BindOk (top 30) "words_like" "words_like" ["words"] := fun _ _ _ _ _ _ us hl => match us, hl with | [_], _ => rfl
theorem bind_13 : BindOk (top 31) "line_of" "line_of" ["words"] := fun _ _ _ _ _ _ us hl => match us, hl with | [_], _ => rfl
theorem bind_14 : BindOk (top 33) "line_text" "line_text" ["line"] := fun _ _ _ _ _ _ us hl => match us, hl with | [_], _ => rfl
theorem bind_15 : BindOk (top 34) "print_lines" "print_lines" ["lines"] := fun _ _ _ _ _ _ us hl => match us, hl with | [_], _ => rfl
theorem bind_16 : BindOk (top 36) "_law_keywords" "_law_keywords" [] := fun _ _ _ _ _ _ us hl => match us, hl with | [], _ => rfl
theorem bind_17 : BindOk (top 37) "_law_signs" "_law_signs" ["source", "many"] := fun _ _ _ _ _ _ us hl => match us, hl with | [_, _], _ => rfl
theorem bind_18 : BindOk (top 38) "_law_word" "_law_word" ["source"] := fun _ _ _ _ _ _ us hl => match us, hl with | [_], _ => rfl
theorem bind_19 : BindOk (top 39) "_law_figure" "_law_figure" ["source"] := fun _ _ _ _ _ _ us hl => match us, hl with | [_], _ => rfl
theorem bind_20 : BindOk (top 40) "_law_numbers" "_law_numbers" ["source", "many"] := fun _ _ _ _ _ _ us hl => match us, hl with | [_, _], _ => rfl
theorem bind_21 : BindOk (top 41) "_law_any_cond" "_law_any_cond" ["source"] := fun _ _ _ _ _ _ us hl => match us, hl with | [_], _ => rfl
theorem bind_22 : BindOk (top 42) "_law_any_conds" "_law_any_conds" ["source", "least", "most"] := fun _ _ _ _ _ _ us hl => match us, hl with | [_, _, _], _ => rfl
theorem bind_23 : BindOk (top 43) "_law_any_form" "_law_any_form" ["source"] := fun _ _ _ _ _ _ us hl => match us, hl with | [_], _ => rfl
theorem bind_24 : BindOk (top 44) "_law_any_words" "_law_any_words" ["source"] := fun _ _ _ _ _ _ us hl => match us, hl with | [_], _ => rfl
theorem bind_25 : BindOk (top 45) "_law_any_line" "_law_any_line" ["source"] := fun _ _ _ _ _ _ us hl => match us, hl with | [_], _ => rfl
theorem bind_26 : BindOk (top 46) "_law_any_lines" "_law_any_lines" ["source", "many"] := fun _ _ _ _ _ _ us hl => match us, hl with | [_, _], _ => rfl
theorem bind_27 : BindOk (top 47) "_law_source" "_law_source" ["script", "at"] := fun _ _ _ _ _ _ us hl => match us, hl with | [_, _], _ => rfl
theorem bind_28 : BindOk (top 48) "_law_pick" "_law_pick" ["source", "many"] := fun _ _ _ _ _ _ us hl => match us, hl with | [_, _], _ => rfl
theorem bind_29 : BindOk (top 49) "_law_same" "_law_same" ["answer", "due"] := fun _ _ _ _ _ _ us hl => match us, hl with | [_, _], _ => rfl
theorem bind_30 : BindOk (top 50) "_law_copied" "_law_copied" ["thing"] := fun _ _ _ _ _ _ us hl => match us, hl with | [_], _ => rfl
theorem bind_31 : BindOk (top 51) "_law_cond_text" "_law_cond_text" ["cond"] := fun _ _ _ _ _ _ us hl => match us, hl with | [_], _ => rfl
theorem bind_32 : BindOk (top 52) "_law_form_text" "_law_form_text" ["form"] := fun _ _ _ _ _ _ us hl => match us, hl with | [_], _ => rfl
theorem bind_33 : BindOk (top 53) "_law_line" "_law_line" ["line"] := fun _ _ _ _ _ _ us hl => match us, hl with | [_], _ => rfl
theorem bind_34 : BindOk (top 54) "_law_text" "_law_text" ["lines"] := fun _ _ _ _ _ _ us hl => match us, hl with | [_], _ => rfl
theorem bind_35 : BindOk (top 55) "law" "law" ["script"] := fun _ _ _ _ _ _ us hl => match us, hl with | [_], _ => rfl
theorem txts_of {K : PySem.W.Frag} {h : Heap} {mg : Str → Option Value} (X : K.In h) (G : h.Ns mainGlobals mg)
    (d0 : ∃ f, At K (top 7) "text_lines" "text_lines" f)
    (d1 : ∃ f, At K (top 13) "word_like" "word_like" f)
    (d2 : ∃ f, At K (top 14) "number_like" "number_like" f)
    (d3 : ∃ f, At K (top 18) "parted" "parted" f)
    (d4 : ∃ f, At K (top 19) "read_condition" "read_condition" f)
    (d5 : ∃ f, At K (top 20) "read_conditions" "read_conditions" f)
    (d6 : ∃ f, At K (top 21) "read_plain" "read_plain" f)
    (d7 : ∃ f, At K (top 22) "read_form" "read_form" f)
    (d8 : ∃ f, At K (top 23) "condition_text" "condition_text" f)
    (d9 : ∃ f, At K (top 24) "form_text" "form_text" f)
    (d10 : ∃ f, At K (top 28) "read_lines" "read_lines" f)
    (d11 : ∃ f, At K (top 29) "read_line" "read_line" f)
    (d12 : ∃ f, At K (top 30) "words_like" "words_like" f)
    (d13 : ∃ f, At K (top 31) "line_of" "line_of" f)
    (d14 : ∃ f, At K (top 33) "line_text" "line_text" f)
    (d15 : ∃ f, At K (top 34) "print_lines" "print_lines" f)
    (d16 : ∃ f, At K (top 36) "_law_keywords" "_law_keywords" f)
    (d17 : ∃ f, At K (top 37) "_law_signs" "_law_signs" f)
    (d18 : ∃ f, At K (top 38) "_law_word" "_law_word" f)
    (d19 : ∃ f, At K (top 39) "_law_figure" "_law_figure" f)
    (d20 : ∃ f, At K (top 40) "_law_numbers" "_law_numbers" f)
    (d21 : ∃ f, At K (top 41) "_law_any_cond" "_law_any_cond" f)
    (d22 : ∃ f, At K (top 42) "_law_any_conds" "_law_any_conds" f)
    (d23 : ∃ f, At K (top 43) "_law_any_form" "_law_any_form" f)
    (d24 : ∃ f, At K (top 44) "_law_any_words" "_law_any_words" f)
    (d25 : ∃ f, At K (top 45) "_law_any_line" "_law_any_line" f)
    (d26 : ∃ f, At K (top 46) "_law_any_lines" "_law_any_lines" f)
    (d27 : ∃ f, At K (top 47) "_law_source" "_law_source" f)
    (d28 : ∃ f, At K (top 48) "_law_pick" "_law_pick" f)
    (d29 : ∃ f, At K (top 49) "_law_same" "_law_same" f)
    (d30 : ∃ f, At K (top 50) "_law_copied" "_law_copied" f)
    (d31 : ∃ f, At K (top 51) "_law_cond_text" "_law_cond_text" f)
    (d32 : ∃ f, At K (top 52) "_law_form_text" "_law_form_text" f)
    (d33 : ∃ f, At K (top 53) "_law_line" "_law_line" f)
    (d34 : ∃ f, At K (top 54) "_law_text" "_law_text" f)
    (d35 : ∃ f, At K (top 55) "law" "law" f)
    (c_LINES : GlOk K mg "LINES" (.int (600)))
    (c_SIGNS : GlOk K mg "SIGNS" (.int (800)))
    (c_LETTERS : GlOk K mg "LETTERS" (.str "abcdefghijklmnopqrstuvwxyz"))
    (c_FIGURES : GlOk K mg "FIGURES" (.str "0123456789"))
    (c_LINE_SIGNS : GlOk K mg "LINE_SIGNS" (.str "abcdefghijklmnopqrstuvwxyz0123456789 :+<>=,-"))
    (c_KEYWORDS : GlOk K mg "KEYWORDS" (.tup [.str "name", .str "row", .str "must", .str "block", .str "end", .str "use", .str "mustuse", .str "close", .str "either", .str "or", .str "if", .str "and", .str "then", .str "at", .str "most", .str "least", .str "of", .str "in", .str "not"]))
    (c_CONDITIONS : GlOk K mg "CONDITIONS" (.int (8)))
    (c_CHOICES : GlOk K mg "CHOICES" (.int (13)))
    (c_LINE_WORDS : GlOk K mg "LINE_WORDS" (.tup [.str "name", .str "row", .str "must", .str "use", .str "mustuse", .str "block", .str "end", .str "close"]))
    (c_PARAMETERS : GlOk K mg "PARAMETERS" (.int (4)))
    (z_len : PySem.W.nsIn K mainGlobals "len" = some none)
    (z_int : PySem.W.nsIn K mainGlobals "int" = some none)
    (z_str : PySem.W.nsIn K mainGlobals "str" = some none)
    (z_abs : PySem.W.nsIn K mainGlobals "abs" = some none)
    (z_sum : PySem.W.nsIn K mainGlobals "sum" = some none)
    (z_all : PySem.W.nsIn K mainGlobals "all" = some none)
    (z_any : PySem.W.nsIn K mainGlobals "any" = some none)
    (z_tuple : PySem.W.nsIn K mainGlobals "tuple" = some none)
    (z_list : PySem.W.nsIn K mainGlobals "list" = some none)
    (z_isinstance : PySem.W.nsIn K mainGlobals "isinstance" = some none)
    (z_range : PySem.W.nsIn K mainGlobals "range" = some none)
    (z_enumerate : PySem.W.nsIn K mainGlobals "enumerate" = some none)
    (z_min : PySem.W.nsIn K mainGlobals "min" = some none)
    (z_max : PySem.W.nsIn K mainGlobals "max" = some none)
    (z_bool : PySem.W.nsIn K mainGlobals "bool" = some none)
    (z_dict : PySem.W.nsIn K mainGlobals "dict" = some none)
    (z_zip : PySem.W.nsIn K mainGlobals "zip" = some none) : Txts K mg gl tab := by
  refine txts_mk ?_ ?_ ?_
  · exact all_cons (At.ok X G d0 bind_0) (all_cons (At.ok X G d1 bind_1) (all_cons (At.ok X G d2 bind_2) (all_cons (At.ok X G d3 bind_3) (all_cons (At.ok X G d4 bind_4) (all_cons (At.ok X G d5 bind_5) (all_cons (At.ok X G d6 bind_6) (all_cons (At.ok X G d7 bind_7) (all_cons (At.ok X G d8 bind_8) (all_cons (At.ok X G d9 bind_9) (all_cons (At.ok X G d10 bind_10) (all_cons (At.ok X G d11 bind_11) (all_cons (At.ok X G d12 bind_12) (all_cons (At.ok X G d13 bind_13) (all_cons (At.ok X G d14 bind_14) (all_cons (At.ok X G d15 bind_15) (all_cons (At.ok X G d16 bind_16) (all_cons (At.ok X G d17 bind_17) (all_cons (At.ok X G d18 bind_18) (all_cons (At.ok X G d19 bind_19) (all_cons (At.ok X G d20 bind_20) (all_cons (At.ok X G d21 bind_21) (all_cons (At.ok X G d22 bind_22) (all_cons (At.ok X G d23 bind_23) (all_cons (At.ok X G d24 bind_24) (all_cons (At.ok X G d25 bind_25) (all_cons (At.ok X G d26 bind_26) (all_cons (At.ok X G d27 bind_27) (all_cons (At.ok X G d28 bind_28) (all_cons (At.ok X G d29 bind_29) (all_cons (At.ok X G d30 bind_30) (all_cons (At.ok X G d31 bind_31) (all_cons (At.ok X G d32 bind_32) (all_cons (At.ok X G d33 bind_33) (all_cons (At.ok X G d34 bind_34) (all_cons (At.ok X G d35 bind_35) (all_nil))))))))))))))))))))))))))))))))))))
  · exact all_cons c_LINES (all_cons c_SIGNS (all_cons c_LETTERS (all_cons c_FIGURES (all_cons c_LINE_SIGNS (all_cons c_KEYWORDS (all_cons c_CONDITIONS (all_cons c_CHOICES (all_cons c_LINE_WORDS (all_cons c_PARAMETERS (all_nil))))))))))
  · exact all_cons (PySem.W.mg_none_of X G z_len) (all_cons (PySem.W.mg_none_of X G z_int) (all_cons (PySem.W.mg_none_of X G z_str) (all_cons (PySem.W.mg_none_of X G z_abs) (all_cons (PySem.W.mg_none_of X G z_sum) (all_cons (PySem.W.mg_none_of X G z_all) (all_cons (PySem.W.mg_none_of X G z_any) (all_cons (PySem.W.mg_none_of X G z_tuple) (all_cons (PySem.W.mg_none_of X G z_list) (all_cons (PySem.W.mg_none_of X G z_isinstance) (all_cons (PySem.W.mg_none_of X G z_range) (all_cons (PySem.W.mg_none_of X G z_enumerate) (all_cons (PySem.W.mg_none_of X G z_min) (all_cons (PySem.W.mg_none_of X G z_max) (all_cons (PySem.W.mg_none_of X G z_bool) (all_cons (PySem.W.mg_none_of X G z_dict) (all_cons (PySem.W.mg_none_of X G z_zip) (all_nil)))))))))))))))))
theorem walk {l : PySem.W.OpenLaw} {q : Program} {loose : List Str} {XP : (Str → Option Value) → Heap → Prop} {YP : World → Heap → Prop} {d : DefRec} {K : Params → PySem.W.Frag} (hn : l.most = some 63) (hdf : d.params.defaults = []) (hdn : d.name = "law")
    (hY : ∀ (w : World) (h : Heap), YP w h → (K w.params).In h)
    (F : ∀ (w : World) (mg : Str → Option Value) (h : Heap), (K w.params).In h → h.Ns mainGlobals mg → Txts (K w.params) mg gl tab) :
    PySem.W.WalkO q loose XP YP l.row.toRowW d [] (fun f vs => PySem.call f vs) :=
  L2.walk_of (n := 63) (k := 20) (x := "script") (K := K) (CX := fun w => L2.CX l.prog w) (sp := fun w => spOf ⟨K w.params, DP.run fs 20, fun _ => none⟩ 35) hn (by decide) hdf ⟨rfl, by decide, by decide⟩ hY
    (fun w mg fa h X G hfa => by
      obtain ⟨fd, b, k⟩ := law_fn (n := 20) (P := l.prog) (w := w) (i := 35) (F w mg h X G) fs_ok rfl rfl (by rw [← hdn]; exact hfa) bind_35
      exact ⟨fd, b, fun base _ _ => k base⟩)
    (fun w H a ns hl _ hs => law_sp (gl := gl) (tab := tab) law_run H a ns hl hs)
    (fun w H s e s' h => by
      obtain ⟨_, _, _, _, _, _, _, _, _, _, _, _, z⟩ := h
      exact z)
end K00

open PySem PySem.W PyProof.Rows in
set_option maxRecDepth 100000 in
set_option maxHeartbeats 0 in
theorem PySem.Challenge.cw_everylater_k00_lines_of_a_text_holds : PySem.Challenge.rw_everylater_k00_lines_of_a_text.Holds := by
  w_on; o_law; k_head; (case hw => w_witness2)
  k_fill
  refine K00.walk (l := PySem.Challenge.rw_everylater_k00_lines_of_a_text) rfl rfl rfl (fun w h Y => PySem.W.kIn_of Y) ?F
  case F =>
    intro w mg h KX G
    refine' K00.txts_of KX G ?d0 ?d1 ?d2 ?d3 ?d4 ?d5 ?d6 ?d7 ?d8 ?d9 ?d10 ?d11 ?d12 ?d13 ?d14 ?d15 ?d16 ?d17 ?d18 ?d19 ?d20 ?d21 ?d22 ?d23 ?d24 ?d25 ?d26 ?d27 ?d28 ?d29 ?d30 ?d31 ?d32 ?d33 ?d34 ?d35 ?c_LINES ?c_SIGNS ?c_LETTERS ?c_FIGURES ?c_LINE_SIGNS ?c_KEYWORDS ?c_CONDITIONS ?c_CHOICES ?c_LINE_WORDS ?c_PARAMETERS ?z_len ?z_int ?z_str ?z_abs ?z_sum ?z_all ?z_any ?z_tuple ?z_list ?z_isinstance ?z_range ?z_enumerate ?z_min ?z_max ?z_bool ?z_dict ?z_zip
    (case d0 => refine' DP.At.mk' ?n_d0 ?l_d0 ?c_d0 ?k_d0; (case n_d0 => k_is); (case l_d0 => k_is); (case c_d0 => k_is); (case k_d0 => k_is))
    (case d1 => refine' DP.At.mk' ?n_d1 ?l_d1 ?c_d1 ?k_d1; (case n_d1 => k_is); (case l_d1 => k_is); (case c_d1 => k_is); (case k_d1 => k_is))
    (case d2 => refine' DP.At.mk' ?n_d2 ?l_d2 ?c_d2 ?k_d2; (case n_d2 => k_is); (case l_d2 => k_is); (case c_d2 => k_is); (case k_d2 => k_is))
    (case d3 => refine' DP.At.mk' ?n_d3 ?l_d3 ?c_d3 ?k_d3; (case n_d3 => k_is); (case l_d3 => k_is); (case c_d3 => k_is); (case k_d3 => k_is))
    (case d4 => refine' DP.At.mk' ?n_d4 ?l_d4 ?c_d4 ?k_d4; (case n_d4 => k_is); (case l_d4 => k_is); (case c_d4 => k_is); (case k_d4 => k_is))
    (case d5 => refine' DP.At.mk' ?n_d5 ?l_d5 ?c_d5 ?k_d5; (case n_d5 => k_is); (case l_d5 => k_is); (case c_d5 => k_is); (case k_d5 => k_is))
    (case d6 => refine' DP.At.mk' ?n_d6 ?l_d6 ?c_d6 ?k_d6; (case n_d6 => k_is); (case l_d6 => k_is); (case c_d6 => k_is); (case k_d6 => k_is))
    (case d7 => refine' DP.At.mk' ?n_d7 ?l_d7 ?c_d7 ?k_d7; (case n_d7 => k_is); (case l_d7 => k_is); (case c_d7 => k_is); (case k_d7 => k_is))
    (case d8 => refine' DP.At.mk' ?n_d8 ?l_d8 ?c_d8 ?k_d8; (case n_d8 => k_is); (case l_d8 => k_is); (case c_d8 => k_is); (case k_d8 => k_is))
    (case d9 => refine' DP.At.mk' ?n_d9 ?l_d9 ?c_d9 ?k_d9; (case n_d9 => k_is); (case l_d9 => k_is); (case c_d9 => k_is); (case k_d9 => k_is))
    (case d10 => refine' DP.At.mk' ?n_d10 ?l_d10 ?c_d10 ?k_d10; (case n_d10 => k_is); (case l_d10 => k_is); (case c_d10 => k_is); (case k_d10 => k_is))
    (case d11 => refine' DP.At.mk' ?n_d11 ?l_d11 ?c_d11 ?k_d11; (case n_d11 => k_is); (case l_d11 => k_is); (case c_d11 => k_is); (case k_d11 => k_is))
    (case d12 => refine' DP.At.mk' ?n_d12 ?l_d12 ?c_d12 ?k_d12; (case n_d12 => k_is); (case l_d12 => k_is); (case c_d12 => k_is); (case k_d12 => k_is))
    (case d13 => refine' DP.At.mk' ?n_d13 ?l_d13 ?c_d13 ?k_d13; (case n_d13 => k_is); (case l_d13 => k_is); (case c_d13 => k_is); (case k_d13 => k_is))
    (case d14 => refine' DP.At.mk' ?n_d14 ?l_d14 ?c_d14 ?k_d14; (case n_d14 => k_is); (case l_d14 => k_is); (case c_d14 => k_is); (case k_d14 => k_is))
    (case d15 => refine' DP.At.mk' ?n_d15 ?l_d15 ?c_d15 ?k_d15; (case n_d15 => k_is); (case l_d15 => k_is); (case c_d15 => k_is); (case k_d15 => k_is))
    (case d16 => refine' DP.At.mk' ?n_d16 ?l_d16 ?c_d16 ?k_d16; (case n_d16 => k_is); (case l_d16 => k_is); (case c_d16 => k_is); (case k_d16 => k_is))
    (case d17 => refine' DP.At.mk' ?n_d17 ?l_d17 ?c_d17 ?k_d17; (case n_d17 => k_is); (case l_d17 => k_is); (case c_d17 => k_is); (case k_d17 => k_is))
    (case d18 => refine' DP.At.mk' ?n_d18 ?l_d18 ?c_d18 ?k_d18; (case n_d18 => k_is); (case l_d18 => k_is); (case c_d18 => k_is); (case k_d18 => k_is))
    (case d19 => refine' DP.At.mk' ?n_d19 ?l_d19 ?c_d19 ?k_d19; (case n_d19 => k_is); (case l_d19 => k_is); (case c_d19 => k_is); (case k_d19 => k_is))
    (case d20 => refine' DP.At.mk' ?n_d20 ?l_d20 ?c_d20 ?k_d20; (case n_d20 => k_is); (case l_d20 => k_is); (case c_d20 => k_is); (case k_d20 => k_is))
    (case d21 => refine' DP.At.mk' ?n_d21 ?l_d21 ?c_d21 ?k_d21; (case n_d21 => k_is); (case l_d21 => k_is); (case c_d21 => k_is); (case k_d21 => k_is))
    (case d22 => refine' DP.At.mk' ?n_d22 ?l_d22 ?c_d22 ?k_d22; (case n_d22 => k_is); (case l_d22 => k_is); (case c_d22 => k_is); (case k_d22 => k_is))
    (case d23 => refine' DP.At.mk' ?n_d23 ?l_d23 ?c_d23 ?k_d23; (case n_d23 => k_is); (case l_d23 => k_is); (case c_d23 => k_is); (case k_d23 => k_is))
    (case d24 => refine' DP.At.mk' ?n_d24 ?l_d24 ?c_d24 ?k_d24; (case n_d24 => k_is); (case l_d24 => k_is); (case c_d24 => k_is); (case k_d24 => k_is))
    (case d25 => refine' DP.At.mk' ?n_d25 ?l_d25 ?c_d25 ?k_d25; (case n_d25 => k_is); (case l_d25 => k_is); (case c_d25 => k_is); (case k_d25 => k_is))
    (case d26 => refine' DP.At.mk' ?n_d26 ?l_d26 ?c_d26 ?k_d26; (case n_d26 => k_is); (case l_d26 => k_is); (case c_d26 => k_is); (case k_d26 => k_is))
    (case d27 => refine' DP.At.mk' ?n_d27 ?l_d27 ?c_d27 ?k_d27; (case n_d27 => k_is); (case l_d27 => k_is); (case c_d27 => k_is); (case k_d27 => k_is))
    (case d28 => refine' DP.At.mk' ?n_d28 ?l_d28 ?c_d28 ?k_d28; (case n_d28 => k_is); (case l_d28 => k_is); (case c_d28 => k_is); (case k_d28 => k_is))
    (case d29 => refine' DP.At.mk' ?n_d29 ?l_d29 ?c_d29 ?k_d29; (case n_d29 => k_is); (case l_d29 => k_is); (case c_d29 => k_is); (case k_d29 => k_is))
    (case d30 => refine' DP.At.mk' ?n_d30 ?l_d30 ?c_d30 ?k_d30; (case n_d30 => k_is); (case l_d30 => k_is); (case c_d30 => k_is); (case k_d30 => k_is))
    (case d31 => refine' DP.At.mk' ?n_d31 ?l_d31 ?c_d31 ?k_d31; (case n_d31 => k_is); (case l_d31 => k_is); (case c_d31 => k_is); (case k_d31 => k_is))
    (case d32 => refine' DP.At.mk' ?n_d32 ?l_d32 ?c_d32 ?k_d32; (case n_d32 => k_is); (case l_d32 => k_is); (case c_d32 => k_is); (case k_d32 => k_is))
    (case d33 => refine' DP.At.mk' ?n_d33 ?l_d33 ?c_d33 ?k_d33; (case n_d33 => k_is); (case l_d33 => k_is); (case c_d33 => k_is); (case k_d33 => k_is))
    (case d34 => refine' DP.At.mk' ?n_d34 ?l_d34 ?c_d34 ?k_d34; (case n_d34 => k_is); (case l_d34 => k_is); (case c_d34 => k_is); (case k_d34 => k_is))
    (case d35 => refine' DP.At.mk' ?n_d35 ?l_d35 ?c_d35 ?k_d35; (case n_d35 => k_is); (case l_d35 => k_is); (case c_d35 => k_is); (case k_d35 => k_is))
    (case c_LINES => refine' DP.gl_int KX G ?n_LINES; (case n_LINES => k_is))
    (case c_SIGNS => refine' DP.gl_int KX G ?n_SIGNS; (case n_SIGNS => k_is))
    (case c_LETTERS => refine' DP.gl_str KX G ?n_LETTERS; (case n_LETTERS => k_is))
    (case c_FIGURES => refine' DP.gl_str KX G ?n_FIGURES; (case n_FIGURES => k_is))
    (case c_LINE_SIGNS => refine' DP.gl_str KX G ?n_LINE_SIGNS; (case n_LINE_SIGNS => k_is))
    (case c_KEYWORDS => refine' DP.gl_tup KX G (vs := [.str "name", .str "row", .str "must", .str "block", .str "end", .str "use", .str "mustuse", .str "close", .str "either", .str "or", .str "if", .str "and", .str "then", .str "at", .str "most", .str "least", .str "of", .str "in", .str "not"]) ?n_KEYWORDS ?l_KEYWORDS ?z_KEYWORDS ?v_KEYWORDS ?r_KEYWORDS; (case n_KEYWORDS => k_is); (case l_KEYWORDS => k_is); (case z_KEYWORDS => decide); (case v_KEYWORDS => exact .cons ⟨_, rfl⟩ (.cons ⟨_, rfl⟩ (.cons ⟨_, rfl⟩ (.cons ⟨_, rfl⟩ (.cons ⟨_, rfl⟩ (.cons ⟨_, rfl⟩ (.cons ⟨_, rfl⟩ (.cons ⟨_, rfl⟩ (.cons ⟨_, rfl⟩ (.cons ⟨_, rfl⟩ (.cons ⟨_, rfl⟩ (.cons ⟨_, rfl⟩ (.cons ⟨_, rfl⟩ (.cons ⟨_, rfl⟩ (.cons ⟨_, rfl⟩ (.cons ⟨_, rfl⟩ (.cons ⟨_, rfl⟩ (.cons ⟨_, rfl⟩ (.cons ⟨_, rfl⟩ (.nil)))))))))))))))))))); (case r_KEYWORDS => exact fun _ => .cons (.str _) (.cons (.str _) (.cons (.str _) (.cons (.str _) (.cons (.str _) (.cons (.str _) (.cons (.str _) (.cons (.str _) (.cons (.str _) (.cons (.str _) (.cons (.str _) (.cons (.str _) (.cons (.str _) (.cons (.str _) (.cons (.str _) (.cons (.str _) (.cons (.str _) (.cons (.str _) (.cons (.str _) (.nil)))))))))))))))))))))
    (case c_CONDITIONS => refine' DP.gl_int KX G ?n_CONDITIONS; (case n_CONDITIONS => k_is))
    (case c_CHOICES => refine' DP.gl_int KX G ?n_CHOICES; (case n_CHOICES => k_is))
    (case c_LINE_WORDS => refine' DP.gl_tup KX G (vs := [.str "name", .str "row", .str "must", .str "use", .str "mustuse", .str "block", .str "end", .str "close"]) ?n_LINE_WORDS ?l_LINE_WORDS ?z_LINE_WORDS ?v_LINE_WORDS ?r_LINE_WORDS; (case n_LINE_WORDS => k_is); (case l_LINE_WORDS => k_is); (case z_LINE_WORDS => decide); (case v_LINE_WORDS => exact .cons ⟨_, rfl⟩ (.cons ⟨_, rfl⟩ (.cons ⟨_, rfl⟩ (.cons ⟨_, rfl⟩ (.cons ⟨_, rfl⟩ (.cons ⟨_, rfl⟩ (.cons ⟨_, rfl⟩ (.cons ⟨_, rfl⟩ (.nil))))))))); (case r_LINE_WORDS => exact fun _ => .cons (.str _) (.cons (.str _) (.cons (.str _) (.cons (.str _) (.cons (.str _) (.cons (.str _) (.cons (.str _) (.cons (.str _) (.nil))))))))))
    (case c_PARAMETERS => refine' DP.gl_int KX G ?n_PARAMETERS; (case n_PARAMETERS => k_is))
    (case z_len => k_is)
    (case z_int => k_is)
    (case z_str => k_is)
    (case z_abs => k_is)
    (case z_sum => k_is)
    (case z_all => k_is)
    (case z_any => k_is)
    (case z_tuple => k_is)
    (case z_list => k_is)
    (case z_isinstance => k_is)
    (case z_range => k_is)
    (case z_enumerate => k_is)
    (case z_min => k_is)
    (case z_max => k_is)
    (case z_bool => k_is)
    (case z_dict => k_is)
    (case z_zip => k_is)

