import PyProof.Rows.All
import HandS.ForMost
import HandS.ForExc
import HandS.Flow
import HandS.Wide
import HandS.WideBits
import HandS.IsInst
import HandS.Style
import HandS.Defaults
import HandS.CallSlots
import HandS.List
import PyProof.EqAt
import HandS.TupAny
import HandS.Dict
import HandS.TupMul
import HandS.Text
import HandS.Replace
import HandS.Conv
import PyProof.ListStr
import HandS.IntHex
import HandS.StrMore
import PyProof.StrLawsFrom
import HandS.ExcCtx
import HandS.HotCalls
import HandS.ExcIs
import HandS.Comp
import HandS.TryOnly
import HandS.SuiteRaise
import HandS.ExcField
import KE.KExcInit
import PyProof.InstStoreFacts
import KE.KUnpackStar
import HandS.DictComp
import HandS.Small
import HandS.FStr
import HandS.Zip
import HandS.HeadHook1
import KE.KStateDown
import HandS.Head0
import HandS.Head1
import HandS.Head2
import HandS.HeadEnd
import HandS.HeadHook2
import HandS.EndBits
import HandS.MakeKwOnly
import PyProof.TableCode
import PySem.Challenge.RW_scaledesk_k32_scales_refused
set_option Elab.async false
set_option linter.all false
set_option maxRecDepth 100000
set_option maxHeartbeats 0
section
/-! B0: values, stores, results, and the meaning of a small tongue of programs; plain Lean. -/
namespace Bv

/-- what a value is -/
inductive D where
  | non | bl (b : Bool) | int (i : Int) | str (s : List Nat) | tup (xs : List D) | ref (i : Nat) | fn (i : Nat) | cls (i : Nat) | ty (n : Nat)
  deriving Inhabited
/-- what can change: lists, the script (read alone), instances -/
inductive O where
  | lst (xs : List D) | ro (xs : List D) | dct (kvs : List (D × D)) | ins (c : Nat) (fs : List (Nat × D))
  deriving Inhabited
abbrev Sto := List O
abbrev Loc := List (Option D)
structure Exn where
  c : Nat
  f : Option D
inductive R (α : Type) where
  | ok (a : α) (S : Sto) | exc (e : Exn) (S : Sto) | bad
abbrev M (α : Type) := Sto → R α
abbrev F (α : Type) := Loc → M α
@[reducible] def M.pure {α : Type} (a : α) : M α := fun S => .ok a S
def M.bind {α β : Type} (m : M α) (k : α → M β) : M β := fun S => match m S with
  | .ok a S' => k a S'
  | .exc e S' => .exc e S'
  | .bad => .bad
def M.bad {α : Type} : M α := fun _ => .bad
theorem M.bind_ok {α β : Type} {m : M α} {k : α → M β} {S S' : Sto} {a : α} (h : m S = .ok a S') : M.bind m k S = k a S' := by
  unfold M.bind; rw [h]
def F.bind {α β : Type} (m : F α) (k : α → F β) : F β := fun L => M.bind (m L) fun a => k a L
/-- of a partial value -/
def M.opt {α : Type} : Option α → M α
  | some a => fun S => .ok a S
  | none => M.bad
/-- a new object -/
def M.new (o : O) : M D := fun S => .ok (.ref S.length) (S ++ [o])
def M.get (i : Nat) : M O := fun S => match S[i]? with
  | some o => .ok o S
  | none => .bad
def M.put (i : Nat) (o : O) : M Unit := fun S => .ok () (S.set i o)

/-! ### lists -/
def seqOf (S : Sto) : D → Option (List D)
  | .tup xs => some xs
  | .ref i => match S[i]? with
    | some (.lst xs) => some xs
    | some (.ro xs) => some xs
    | _ => none
  | _ => none
/-- a Python index -/
def at? {α : Type} (xs : List α) (i : Int) : Option α := if 0 ≤ i then xs[i.toNat]? else if 0 ≤ i + xs.length then xs[(i + xs.length).toNat]? else none
/-- a slice's end -/
def cutI (n : Nat) (dflt : Nat) : Option Int → Nat
  | none => dflt
  | some i => if 0 ≤ i then min i.toNat n else (i + n).toNat
def cut {α : Type} (xs : List α) (lo hi : Option Int) : List α :=
  (xs.drop (cutI xs.length 0 lo)).take (cutI xs.length xs.length hi - cutI xs.length 0 lo)

/-! ### data: what a value is, lists looked through -/
inductive T where
  | non | bl (b : Bool) | int (i : Int) | str (s : List Nat) | lst (xs : List T) | tup (xs : List T)
  deriving Inhabited
mutual
/-- so deep at most -/
def dataOf (S : Sto) : Nat → D → Option T
  | 0, _ => none
  | n + 1, d => match d with
    | .non => some .non
    | .bl b => some (.bl b)
    | .int i => some (.int i)
    | .str s => some (.str s)
    | .tup xs => (datasOf S n xs).map T.tup
    | .ref i => match S[i]? with
      | some (.lst xs) => (datasOf S n xs).map T.lst
      | some (.ro xs) => (datasOf S n xs).map T.lst
      | _ => none
    | _ => none
def datasOf (S : Sto) : Nat → List D → Option (List T)
  | _, [] => some []
  | n, d :: ds => match dataOf S n d, datasOf S n ds with
    | some t, some ts => some (t :: ts)
    | _, _ => none
end
end Bv
namespace Bv
/-! ### the tongue -/
inductive Op2 where
  | add | sub | mul | fdiv | mod | pow | shl
  deriving DecidableEq
inductive Cm where
  | eq | ne | lt | le | gt | ge | isIn | notIn | is | isnt
  deriving DecidableEq
/-- built-in functions and classes, called -/
inductive Pr where
  | len | abs | max2 | min2 | max3 | int1 | int2 | str1 | divmod | isinst | all1 | any1 | list1 | tuple1
  deriving DecidableEq
/-- methods of built-in classes -/
inductive Mt where
  | append | extend | count | index | pop | split | join | sindex | find2
  deriving DecidableEq
inductive Tg where
  | name (i : Nat) | names (is : List Nat)
/-- expressions, and (by nil, cons) rows of them -/
inductive E where
  | bad | nil | cons (h t : E)
  | var (i : Nat) | con (d : D) | tup (es : E) | lst (es : E)
  | op (o : Op2) (a b : E) | neg (a : E) | cmp (o : Cm) (a b : E) | chain (o o' : Cm) (a b c : E)
  | not (a : E) | and (a b : E) | or (a b : E) | ite (t a b : E)
  | ix (a b : E) | sl (a lo hi : E) | none
  | call (f : Nat) (es : E) (ds : List D) | callK (f n : Nat) (es ks : E) | prim (p : Pr) (es : E) | meth (m : Mt) (o es : E)
  | xis (i j : Nat) | xf (i k : Nat) | xcall (f i : Nat)
  /-- a call of a value: ok: the defs that it may be -/
  | callV (ok : List Nat) (f es : E) | callVK (ok : List Nat) (f es ks : E)
  /-- a dict written: its keys, its values -/
  | dct (ks : List D) (vs : E)
  /-- an instance's field; its method, by its class: the def -/
  | fld (a : E) (f : Nat) | mcall (ms : List (Nat × Nat)) (o es : E)
  /-- a[::-1]; d.get(k), d.get(k, x) -/
  | rev (a : E) | dget1 (o k : E) | dget2 (o k x : E)
  /-- zip of two tuples, walked by a comprehension -/
  | zip (a b : E)
  /-- {key: val for t in ..} -/
  | dcomp (rng : Bool) (t : Tg) (own : List Nat) (src test key val : E)
  /-- [elt for t in range(src) or src if test]; own: its own names' places -/
  | comp (rng : Bool) (t : Tg) (own : List Nat) (src test elt : E)
/-- what is stored to -/
inductive Tx where
  | name (i : Nat) | fld (o : E) (f : Nat) | sub (o k : E)
inductive Src where
  | range1 (e : E) | range2 (x y : E) | seq (e : E)
inductive St where
  | bad | nil | cons (h t : St)
  | expr (e : E) | set (i : Nat) (e : E) | par (is : List Nat) (es : E) | unp (is : List Nat) (e : E) | aug (i : Nat) (o : Op2) (e : E)
  | ret (e : E) | retN | ifS (t : E) (a b : St) | whileS (t : E) (b : St) | forS (t : Tg) (s : Src) (b : St) | pass
  | unpS (is : List Nat) (j : Nat) (e : E)
  /-- t = e; t, t' = e; o.f op= e -/
  | asg1 (t : Tx) (e : E) | asgs (ts : List Tx) (e : E) | augF (o : E) (f : Nat) (op : Op2) (e : E)
  | rai0 (c : Nat) | rai1 (c : Nat) (e : E) | tryS (b : St) (hs : List (Nat × Option Nat × Bool)) (s0 s1 s2 s3 s4 : St)
inductive Fl where
  | next (L : Loc) | ret (d : D) | brk (L : Loc) | cont (L : Loc) | thr (e : Exn) (L : Loc)

/-! ### operations -/
def bitsOk (a b : Int) : Bool := decide (-(2 ^ 64) < a ∧ a < 2 ^ 64) || decide (-(2 ^ 64) < b ∧ b < 2 ^ 64) || decide (a.natAbs.log2 + b.natAbs.log2 < 1000000)
def op2 : Op2 → D → D → M D
  | .add, .int i, .int j => M.pure (.int (i + j))
  | .add, .str s, .str t => if s.length + t.length ≤ 16000000 then M.pure (.str (s ++ t)) else M.bad
  | .add, .ref i, .ref j => fun S => match S[i]?, S[j]? with
    | some (.lst xs), some (.lst ys) => if xs.length + ys.length ≤ 16000000 then M.new (.lst (xs ++ ys)) S else .bad
    | _, _ => .bad
  | .add, .tup xs, .tup ys => if xs ≠ [] ∧ xs.length + ys.length ≤ 16000000 then M.pure (.tup (xs ++ ys)) else M.bad
  | .sub, .int i, .int j => M.pure (.int (i - j))
  | .mul, .int i, .int j => if bitsOk i j = true then M.pure (.int (i * j)) else M.bad
  | .mul, .str s, .int j => if s.length * j.toNat ≤ 16000000 ∧ -(2 ^ 63) ≤ j ∧ j ≤ 16000000 then M.pure (.str (List.replicate j.toNat s).flatten) else M.bad
  | .mul, .ref i, .int k => fun S => match S[i]? with
    | some (.lst xs) => if xs.length * k.toNat ≤ 16000000 ∧ -(2 ^ 63) ≤ k ∧ k < 2 ^ 63 then M.new (.lst (List.replicate k.toNat xs).flatten) S else .bad
    | _ => .bad
  | .mul, .tup xs, .int k => if xs ≠ [] ∧ 2 ≤ k ∧ k ≤ 1000 ∧ xs.length ≤ 1000 then M.pure (.tup (List.replicate k.toNat xs).flatten) else M.bad
  | .fdiv, .int i, .int j => if 0 < j ∧ j.natAbs.log2 < 9000 then M.pure (.int (i / j)) else M.bad
  | .mod, .int i, .int j => if 0 < j then M.pure (.int (i % j)) else M.bad
  | .pow, .int i, .int j => if 0 ≤ j ∧ j ≤ 1000000 ∧ i.natAbs < 2 ^ 64 then M.pure (.int (i ^ j.toNat)) else M.bad
  | .shl, .int i, .int j => if 0 ≤ j ∧ j ≤ 1000000 ∧ i.natAbs < 2 ^ 64 then M.pure (.int (i * 2 ^ j.toNat)) else M.bad
  | _, _, _ => M.bad
def truth : D → M Bool
  | .non => M.pure false
  | .bl b => M.pure b
  | .int i => M.pure (i != 0)
  | .str s => if s.length ≤ 16000000 then M.pure (!s.isEmpty) else M.bad
  | .tup xs => M.pure (!xs.isEmpty)
  | .ref i => fun S => match S[i]? with
    | some (.lst xs) => .ok (!xs.isEmpty) S
    | some (.ro xs) => .ok (!xs.isEmpty) S
    | _ => .bad
  | _ => M.bad
mutual
def T.eqv : T → T → Bool
  | .non, .non => true
  | .bl a, .bl b => a == b
  | .bl a, .int j => (if a then 1 else 0) == j
  | .int i, .bl b => i == (if b then 1 else 0)
  | .int i, .int j => i == j
  | .str x, .str y => x == y
  | .lst xs, .lst ys => T.eqvs xs ys
  | .tup xs, .tup ys => T.eqvs xs ys
  | _, _ => false
def T.eqvs : List T → List T → Bool
  | [], [] => true
  | x :: xs, y :: ys => T.eqv x y && T.eqvs xs ys
  | _, _ => false
end
def datasK (f : D → Option T) : List D → Option (List T)
  | [] => some []
  | d :: ds => match f d, datasK f ds with
    | some t, some ts => some (t :: ts)
    | _, _ => none
/-- the same, reckoned by the kernel -/
def dataK (S : Sto) : Nat → D → Option T
  | 0, _ => none
  | n + 1, d => match d with
    | .non => some .non
    | .bl b => some (.bl b)
    | .int i => some (.int i)
    | .str s => some (.str s)
    | .tup xs => (datasK (dataK S n) xs).map T.tup
    | .ref i => match S[i]? with
      | some (.lst xs) => (datasK (dataK S n) xs).map T.lst
      | some (.ro xs) => (datasK (dataK S n) xs).map T.lst
      | _ => none
    | _ => none
theorem dataK_eq (S : Sto) : ∀ (n : Nat) (d : D), dataK S n d = dataOf S n d
  | 0, d => by simp only [dataK, dataOf]
  | n + 1, d => by
    have ih := dataK_eq S n
    have hs : ∀ xs, datasK (dataK S n) xs = datasOf S n xs := by
      intro xs
      induction xs with
      | nil => simp only [datasK, datasOf]
      | cons x xs ihx => simp only [datasK, datasOf, ih, ihx]
    cases d <;> simp only [dataK, dataOf, hs]
def eqD (a b : D) : M Bool := fun S => match dataK S 60 a, dataK S 60 b with
  | some x, some y => .ok (T.eqv x y) S
  | _, _ => .bad
theorem eqD_eq (a b : D) (S : Sto) : eqD a b S = (match dataOf S 60 a, dataOf S 60 b with
  | some x, some y => .ok (T.eqv x y) S
  | _, _ => .bad) := by
  unfold eqD
  rw [dataK_eq, dataK_eq]
/-- flat things -/
def flat : D → Option T
  | .non => some .non
  | .bl b => some (.bl b)
  | .int i => some (.int i)
  | .str s => some (.str s)
  | _ => none
def inSeq (x : D) (xs : List D) : Option Bool := match flat x, xs.mapM flat with
  | some a, some bs => some (bs.any fun b => T.eqv a b)
  | _, _ => none
def inD (a b : D) : M Bool := fun S => match b with
  | .str t => (match a with
    | .str [c] => .ok (decide (c ∈ t)) S
    | _ => .bad)
  | b => match seqOf S b with
    | some xs => (match inSeq a xs with
      | some k => .ok k S
      | none => .bad)
    | none => .bad
def cmp2 : Cm → D → D → M Bool
  | .eq, a, b => eqD a b
  | .ne, a, b => M.bind (eqD a b) fun k => M.pure (!k)
  | .lt, .int i, .int j => M.pure (decide (i < j))
  | .le, .int i, .int j => M.pure (decide (i ≤ j))
  | .gt, .int i, .int j => M.pure (decide (j < i))
  | .ge, .int i, .int j => M.pure (decide (j ≤ i))
  | .isIn, a, b => inD a b
  | .notIn, a, b => M.bind (inD a b) fun k => M.pure (!k)
  | .is, .non, .non => M.pure true
  | .is, .ref _, .non => M.pure false
  | .is, .tup _, .non => M.pure false
  | .is, .int _, .non => M.pure false
  | .is, .str _, .non => M.pure false
  | .is, .bl _, .non => M.pure false
  | .is, .bl a, .bl b => M.pure (decide (a = b))
  | .isnt, .bl a, .bl b => M.pure (!decide (a = b))
  | .isnt, .non, .non => M.pure false
  | .isnt, .ref _, .non => M.pure true
  | .isnt, .tup _, .non => M.pure true
  | .isnt, .int _, .non => M.pure true
  | .isnt, .str _, .non => M.pure true
  | .isnt, .bl _, .non => M.pure true
  | _, _, _ => M.bad
/-! dicts -/
/-- what may be a key -/
def isKey : D → Bool
  | .int _ => true
  | .str _ => true
  | _ => false
def eqKey : D → D → Bool
  | .int i, .int j => i == j
  | .str s, .str t => s == t
  | _, _ => false
def getK (k : D) : List (D × D) → Option D
  | [] => none
  | (j, v) :: r => if eqKey j k = true then some v else getK k r
def putK (k v : D) (kvs : List (D × D)) : List (D × D) := if (kvs.any fun p => eqKey p.1 k) = true then kvs.map (fun p => if eqKey p.1 k = true then (p.1, v) else p) else kvs ++ [(k, v)]
def mergeD : List (D × D) → List (D × D) → List (D × D)
  | kvs, [] => kvs
  | kvs, (k, v) :: r => mergeD (putK k v kvs) r
def ixD : D → D → M D
  | .str s, .int i => (match at? s i with
    | some c => if s.length ≤ 16000000 then M.pure (.str [c]) else M.bad
    | none => M.bad)
  | a, .int i => fun S => match seqOf S a with
    | some xs => (match at? xs i with
      | some d => .ok d S
      | none => .bad)
    | none => .bad
  | _, _ => M.bad
/-- .. of dicts too -/
def subD (a b : D) : M D := match a with
  | .ref i => fun S => (match S[i]? with
    | some (.dct kvs) => (match getK b kvs with
      | some v => if isKey b = true then .ok v S else .bad
      | none => .bad)
    | _ => ixD a b S)
  | a => ixD a b
/-! instances -/
def getF (f : Nat) : List (Nat × D) → Option D
  | [] => none
  | (g, x) :: r => if g = f then some x else getF f r
def putI (f : Nat) (v : D) : List (Nat × D) → List (Nat × D)
  | [] => [(f, v)]
  | (g, x) :: r => if g = f then (g, v) :: r else (g, x) :: putI f v r
def fldD (f : Nat) : D → M D
  | .ref i => fun S => match S[i]? with
    | some (.ins _ fs) => (match getF f fs with
      | some v => .ok v S
      | none => .bad)
    | _ => .bad
  | _ => M.bad
def setFD (f : Nat) (v : D) : D → M Unit
  | .ref i => fun S => match S[i]? with
    | some (.ins c fs) => if fs.length < 900 then .ok () (S.set i (.ins c (putI f v fs))) else .bad
    | _ => .bad
  | _ => M.bad
def clsD : D → M Nat
  | .ref i => fun S => match S[i]? with
    | some (.ins c _) => .ok c S
    | _ => .bad
  | _ => M.bad
def lookN (c : Nat) : List (Nat × Nat) → Option Nat
  | [] => none
  | (d, f) :: r => if d = c then some f else lookN c r
/-- is it a dict -/
def isDct : D → M Unit
  | .ref i => fun S => match S[i]? with
    | some (.dct _) => .ok () S
    | _ => .bad
  | _ => M.bad
def dgetD (k : D) : D → M (Option D)
  | .ref i => fun S => match S[i]? with
    | some (.dct kvs) => if isKey k = true then .ok (getK k kvs) S else .bad
    | _ => .bad
  | _ => M.bad
/-- d[k] = v -/
def dputD (k v : D) : D → M Unit
  | .ref i => fun S => match S[i]? with
    | some (.dct kvs) => if isKey k = true ∧ kvs.length < 16000000 then .ok () (S.set i (.dct (putK k v kvs))) else .bad
    | _ => .bad
  | _ => M.bad
def revD : D → M D
  | .ref i => fun S => match S[i]? with
    | some (.lst xs) => M.new (.lst xs.reverse) S
    | _ => .bad
  | _ => M.bad
/-- pairs -/
def zipD : D → D → M D
  | .tup xs, .tup ys => M.pure (.tup ((xs.zip ys).map fun p => D.tup [p.1, p.2]))
  | _, _ => M.bad
/-- a part of a slice -/
def part : D → Option (Option Int)
  | .non => some none
  | .int i => some (some i)
  | _ => none
def slD (a : D) (lo hi : Option Int) : M D := match a with
  | .str s => if s.length ≤ 16000000 then M.pure (.str (cut s lo hi)) else M.bad
  | .tup xs => M.pure (.tup (cut xs lo hi))
  | .ref i => fun S => match S[i]? with
    | some (.lst xs) => M.new (.lst (cut xs lo hi)) S
    | some (.ro xs) => M.new (.lst (cut xs lo hi)) S
    | _ => .bad
  | _ => M.bad
/-- a decimal text of signs 0 to 9 -/
def isDec (s : List Nat) : Bool := s.all fun c => decide (48 ≤ c) && decide (c ≤ 57)
def decVal (s : List Nat) : Nat := s.foldl (fun acc c => acc * 10 + (c - 48)) 0
def tnOf : Nat → String
  | 0 => "int"
  | 1 => "bool"
  | 2 => "str"
  | 3 => "tuple"
  | 4 => "list"
  | _ => "dict"
def tyInt : Nat := 0
def tyBool : Nat := 1
def tyStr : Nat := 2
def tyTuple : Nat := 3
def tyList : Nat := 4
def isOf' (S : Sto) : D → Nat → Option Bool
  | .non, _ => some false
  | .bl _, n => some (n == 0 || n == 1)
  | .int _, n => some (n == 0)
  | .str _, n => some (n == 2)
  | .tup _, n => some (n == 3)
  | .ref i, n => (match S[i]? with
    | some (.lst _) => some (n == 4)
    | _ => none)
  | _, _ => none
def isOf (S : Sto) (d : D) (n : Nat) : Option Bool := if n < 6 then isOf' S d n else none
def decOf (n : Nat) : List Nat := (Nat.toDigits 10 n).map Char.toNat
def strOf (i : Int) : List Nat := if i < 0 then 45 :: decOf i.natAbs else decOf i.natAbs
def blOf : D → Option Bool
  | .bl b => some b
  | _ => none
def strOfD : D → Option (List Nat)
  | .str s => some s
  | _ => none
/-- figures, what they are worth, in a base -/
def fig16 : List Nat := [48, 49, 50, 51, 52, 53, 54, 55, 56, 57, 65, 66, 67, 68, 69, 70]
def figOf (c : Nat) : Nat := if c < 58 then c - 48 else c - 55
def baseVal (b : Nat) (s : List Nat) : Nat := s.foldl (fun a c => a * b + figOf c) 0
def prim : Pr → List D → M D
  | .len, [.str s] => if s.length ≤ 16000000 then M.pure (.int s.length) else M.bad
  | .len, [a] => fun S => match seqOf S a with
    | some xs => .ok (.int xs.length) S
    | none => .bad
  | .abs, [.int i] => M.pure (.int (if i < 0 then -i else i))
  | .max2, [.int i, .int j] => M.pure (.int (if j > i then j else i))
  | .min2, [.int i, .int j] => M.pure (.int (if j < i then j else i))
  | .max3, [.int i, .int j, .int k] => M.pure (.int (if j > i then (if k > j then k else j) else (if k > i then k else i)))
  | .int1, [.int i] => M.pure (.int i)
  | .int1, [.bl b] => M.pure (.int (if b then 1 else 0))
  | .int1, [.str s] => if s ≠ [] ∧ isDec s = true ∧ s.length ≤ 640 then M.pure (.int (decVal s : Nat)) else M.bad
  | .int2, [.str s, .int b] => if s ≠ [] ∧ s.length ≤ 640 ∧ 2 ≤ b ∧ b ≤ 16 ∧ (s.all fun c => decide (c ∈ fig16.take b.toNat)) = true then M.pure (.int (baseVal b.toNat s : Nat)) else M.bad
  | .str1, [.int i] => if i.natAbs.log2 < 1920 then M.pure (.str (strOf i)) else M.bad
  | .divmod, [.int i, .int j] => if 0 < j ∧ j.natAbs.log2 < 9000 then M.pure (.tup [.int (i / j), .int (i % j)]) else M.bad
  | .isinst, [a, .ty n] => fun S => match isOf S a n with
    | some k => .ok (.bl k) S
    | none => .bad
  | .all1, [.ref i] => fun S => match S[i]? with
    | some (.lst xs) => (match xs.mapM blOf with
      | some bs => .ok (.bl (bs.all id)) S
      | none => .bad)
    | _ => .bad
  | .any1, [.ref i] => fun S => match S[i]? with
    | some (.lst xs) => (match xs.mapM blOf with
      | some bs => .ok (.bl (bs.any id)) S
      | none => .bad)
    | _ => .bad
  | .list1, [.str s] => if s.length ≤ 16000000 then M.new (.lst (s.map fun c => D.str [c])) else M.bad
  | .list1, [a] => fun S => match seqOf S a with
    | some xs => M.new (.lst xs) S
    | none => .bad
  | .tuple1, [a] => fun S => match seqOf S a with
    | some xs => .ok (.tup xs) S
    | none => .bad
  | _, _ => M.bad
/-- how many are alike, the first that is alike -/
def countD (x : D) (xs : List D) : Option Nat := match flat x, xs.mapM flat with
  | some a, some bs => some (bs.countP fun b => T.eqv a b)
  | _, _ => none
def indexD (x : D) (xs : List D) : Option Nat := match flat x, xs.mapM flat with
  | some a, some bs => bs.findIdx? fun b => T.eqv a b
  | _, _ => none
/-- a text by one sign -/
def splitC (c : Nat) : List Nat → List Nat → List (List Nat)
  | [], acc => [acc]
  | x :: r, acc => if x = c then acc :: splitC c r [] else splitC c r (acc ++ [x])
def joinS (sep : List Nat) : List (List Nat) → List Nat
  | [] => []
  | [x] => x
  | x :: y :: r => x ++ sep ++ joinS sep (y :: r)
def sumLen (xs : List (List Nat)) : Nat := (xs.map List.length).sum
def mSplit : D → List D → M D
  | .str s, [.str [c]] => if s.length ≤ 16000000 ∧ c < 256 then M.new (.lst ((splitC c s []).map D.str)) else M.bad
  | _, _ => M.bad
def mJoin : D → List D → M D
  | .str s, [.ref i] => fun S => match S[i]? with
    | some (.lst xs) => (match xs.mapM strOfD with
      | some ys => if sumLen ys + ys.length * s.length ≤ 16000000 then .ok (.str (joinS s ys)) S else .bad
      | none => .bad)
    | _ => .bad
  | _, _ => M.bad
def mSindex : D → List D → M D
  | .str s, [.str [c]] => match s.findIdx? (fun x => x == c) with
    | some k => M.pure (.int k)
    | none => M.bad
  | _, _ => M.bad
/-- from a place on -/
def findFrom (c : Nat) (s : List Nat) (i : Nat) : Int := match (s.drop i).findIdx? (fun x => x == c) with
  | some k => (i : Int) + (k : Int)
  | none => -1
def mFind2 : D → List D → M D
  | .str s, [.str [c], .int i] => if 0 ≤ i ∧ i ≤ s.length then M.pure (.int (findFrom c s i.toNat)) else M.bad
  | _, _ => M.bad
def meth : Mt → D → List D → M D
  | .find2, d, ds => mFind2 d ds
  | .split, d, ds => mSplit d ds
  | .join, d, ds => mJoin d ds
  | .sindex, d, ds => mSindex d ds
  | .extend, .ref i, [.ref j] => fun S => match S[i]?, S[j]? with
    | some (.lst xs), some (.lst ys) => if i ≠ j ∧ xs.length + ys.length ≤ 16000000 then .ok .non (S.set i (.lst (xs ++ ys))) else .bad
    | _, _ => .bad
  | .count, .ref i, [x] => fun S => match S[i]? with
    | some (.lst xs) => (match countD x xs with
      | some n => .ok (.int n) S
      | none => .bad)
    | _ => .bad
  | .index, .ref i, [x] => fun S => match S[i]? with
    | some (.lst xs) => (match indexD x xs with
      | some n => .ok (.int n) S
      | none => .bad)
    | _ => .bad
  | .pop, .ref i, [] => fun S => match S[i]? with
    | some (.lst xs) => (match xs[xs.length - 1]? with
      | some y => .ok y (S.set i (.lst xs.dropLast))
      | none => .bad)
    | _ => .bad
  | .append, .ref i, [x] => fun S => match S[i]? with
    | some (.lst xs) => if xs.length < 16000000 then .ok .non (S.set i (.lst (xs ++ [x]))) else .bad
    | _ => .bad
  | _, _, _ => M.bad

/-! ### the meaning -/
/-- of an expression: as a value, as a test, as a row of values, as a part of a slice -/
structure Mn where
  e : F D
  t : F Bool
  s : F (List D)
  p : F (Option Int)
def partOf (f : F D) : F (Option Int) := F.bind f fun x _ => match x with
  | .int k => M.pure (some k)
  | _ => M.bad
@[reducible] def FBad {α : Type} : F α := fun _ => M.bad
@[reducible] def mkE (f : F D) : Mn := ⟨f, F.bind f fun x _ => truth x, FBad, partOf f⟩
@[reducible] def mkT (f : F D) (t : F Bool) : Mn := ⟨f, t, FBad, partOf f⟩
@[reducible] def fVar (i : Nat) : F D := fun L => M.opt (L.getD i none)
@[reducible] def fCmp (o : Cm) (a b : F D) : F Bool := F.bind a fun x => F.bind b fun y _ => cmp2 o x y
@[reducible] def fBl (t : F Bool) : F D := F.bind t fun k _ => M.pure (.bl k)
@[reducible] def fChain (o o' : Cm) (a b c : F D) : F Bool := F.bind a fun x => F.bind b fun y => F.bind (fun _ => cmp2 o x y) fun k =>
  if k = true then F.bind c fun z _ => cmp2 o' y z else fun _ => M.pure false
@[reducible] def fTup (s : F (List D)) : F D := F.bind s fun ds _ => if ds.length ≤ 16000000 then M.pure (.tup ds) else M.bad
@[reducible] def fLst (s : F (List D)) : F D := F.bind s fun ds _ => if ds.length ≤ 16000000 then M.new (.lst ds) else M.bad
@[reducible] def fOp (o : Op2) (a b : F D) : F D := F.bind a fun x => F.bind b fun y _ => op2 o x y
@[reducible] def fNeg (a : F D) : F D := F.bind a fun x _ => match x with
  | .int i => M.pure (.int (-i))
  | _ => M.bad
@[reducible] def fAnd (a b : F D) : F D := F.bind a fun x => F.bind (fun _ => truth x) fun k => if k = true then b else fun _ => M.pure x
@[reducible] def fOr (a b : F D) : F D := F.bind a fun x => F.bind (fun _ => truth x) fun k => if k = true then fun _ => M.pure x else b
@[reducible] def fAndT (a b : F Bool) : F Bool := F.bind a fun k => if k = true then b else fun _ => M.pure false
@[reducible] def fOrT (a b : F Bool) : F Bool := F.bind a fun k => if k = true then fun _ => M.pure true else b
@[reducible] def fNotT (a : F Bool) : F Bool := F.bind a fun k _ => M.pure (!k)
@[reducible] def fIte {α : Type} (t : F Bool) (a b : F α) : F α := F.bind t fun k => if k = true then a else b
@[reducible] def fIx (a b : F D) : F D := F.bind a fun x => F.bind b fun y _ => subD x y
@[reducible] def fSl (a : F D) (lo hi : F (Option Int)) : F D := F.bind a fun x => F.bind lo fun i => F.bind hi fun j _ => slD x i j
@[reducible] def fCons (h : F D) (t : F (List D)) : F (List D) := F.bind h fun x => F.bind t fun xs _ => M.pure (x :: xs)
@[reducible] def fPrim (p : Pr) (s : F (List D)) : F D := F.bind s fun vs _ => prim p vs
/-- is it what has such a method -/
def isStrM : Mt → Bool
  | .split => true
  | .join => true
  | .sindex => true
  | .find2 => true
  | _ => false
def recvS : D → M Unit
  | .str _ => M.pure ()
  | _ => M.bad
def recvL : D → M Unit
  | .ref i => fun S => match S[i]? with
    | some (.lst _) => .ok () S
    | _ => .bad
  | _ => M.bad
def recv (m : Mt) (d : D) : M Unit := if isStrM m = true then recvS d else recvL d
@[reducible] def fMeth (m : Mt) (o : F D) (s : F (List D)) : F D := F.bind o fun x => F.bind (fun _ => recv m x) fun _ => F.bind s fun vs _ => meth m x vs
/-! exceptions that are held: their class, their one field -/
def exnD (c : Nat) : Option D → D
  | none => .tup [.cls c]
  | some d => .tup [.cls c, d]
/-- 0: the errors' common base; 14: the one that is none of them; 100: ValueError -/
def subC (c j : Nat) : Bool := (c == j) || (decide (c < 14) && (j == 0 || j == 100))
/-- whose context may be other than None -/
def looseC (c : Nat) : Bool := c == 14
@[reducible] def fXis (i j : Nat) : F D := fun L => match L.getD i none with
  | some (.tup [.cls c]) => M.pure (.bl (subC c j))
  | _ => M.bad
@[reducible] def fXf (i k : Nat) : F D := fun L => match L.getD i none with
  | some (.tup [.cls c, d]) => if c = k then M.pure d else M.bad
  | _ => M.bad
/-! targets; comprehensions -/
def setAll : List Nat → List D → Loc → Option Loc
  | [], [], L => some L
  | i :: is, d :: ds, L => setAll is ds (L.set i (some d))
  | _, _, _ => none
def tgSet : Tg → D → Loc → Option Loc
  | .name i, d, L => some (L.set i (some d))
  | .names is, .tup ds, L => setAll is ds L
  | _, _, _ => none
def rangeD (lo : Int) (n : Nat) : List D := (List.range n).map fun (k : Nat) => D.int (lo + k)
def near (i : Int) : Bool := decide (-(2 ^ 62) ≤ i ∧ i < 2 ^ 62)
/-- names forgotten -/
def wipeL (L : Loc) : List Nat → Loc
  | [] => L
  | v :: vs => (wipeL L vs).set v none
/-- what raises nothing -/
def M.calm {α : Type} (m : M α) : M α := fun S => match m S with
  | .exc _ _ => .bad
  | r => r
/-- one turn: the list made stands at i -/
def cStep (i : Nat) (g : D → Loc → Option Loc) (t : F Bool) (e : F D) (L : Loc) (x : D) : M Unit := match g x L with
  | none => M.bad
  | some L1 => M.bind (M.calm (t L1)) fun k => if k = true then M.bind (M.calm (e L1)) fun y S => (match S[i]? with
    | some (.lst xs) => if xs.length < 16000000 then .ok () (S.set i (.lst (xs ++ [y]))) else .bad
    | _ => .bad) else M.pure ()
def cLoop (f : D → M Unit) : List D → M Unit
  | [] => M.pure ()
  | x :: xs => M.bind (f x) fun _ => cLoop f xs
/-- over a list as it stands at each turn -/
def cLoopL (f : D → M Unit) (a : Nat) : Nat → Nat → M Unit
  | 0, _ => M.bad
  | n + 1, k => fun S => match seqOf S (.ref a) with
    | none => .bad
    | some xs => match xs[k]? with
      | none => .ok () S
      | some x => M.bind (f x) (fun _ => cLoopL f a n (k + 1)) S
/-- over what a source gives -/
def cOver (f : D → M Unit) (rng : Bool) (d : D) : M Unit := match rng, d with
  | true, .int j => if near j = true then cLoop f (rangeD 0 j.toNat) else M.bad
  | false, .tup xs => cLoop f xs
  | false, .str s => if s.length ≤ 16000000 then cLoop f (s.map fun c => D.str [c]) else M.bad
  | false, .ref a => fun S => (match seqOf S (.ref a) with
    | none => .bad
    | some xs => cLoopL f a (xs.length + 1) 0 S)
  | _, _ => M.bad
@[reducible] def fComp (rng : Bool) (g : D → Loc → Option Loc) (own : List Nat) (src : F D) (t : F Bool) (e : F D) : F D := fun L => M.bind (src L) fun d => fun S => M.bind (cOver (cStep S.length g t e (wipeL L own)) rng d) (fun _ => M.pure (.ref S.length)) (S ++ [.lst []])
/-- one turn of a dict's comprehension -/
def dStep (i : Nat) (g : D → Loc → Option Loc) (t : F Bool) (k e : F D) (L : Loc) (x : D) : M Unit := match g x L with
  | none => M.bad
  | some L1 => M.bind (M.calm (t L1)) fun b => if b = true then M.bind (M.calm (k L1)) fun y => M.bind (M.calm (e L1)) fun z => dputD y z (.ref i) else M.pure ()
@[reducible] def fDcomp (rng : Bool) (g : D → Loc → Option Loc) (own : List Nat) (src : F D) (t : F Bool) (k e : F D) : F D := fun L => M.bind (src L) fun d => fun S => M.bind (cOver (dStep S.length g t k e (wipeL L own)) rng d) (fun _ => M.pure (.ref S.length)) (S ++ [.dct []])
@[reducible] def fFld (a : F D) (f : Nat) : F D := F.bind a fun x _ => fldD f x
@[reducible] def fZip (a b : F D) : F D := F.bind a fun x => F.bind b fun y _ => zipD x y
@[reducible] def fRev (a : F D) : F D := F.bind a fun x _ => revD x
@[reducible] def fDget1 (o k : F D) : F D := F.bind o fun x => F.bind (fun _ => isDct x) fun _ => F.bind k fun y _ => M.bind (dgetD y x) fun r => M.pure (r.getD .non)
@[reducible] def fDget2 (o k e : F D) : F D := F.bind o fun x => F.bind (fun _ => isDct x) fun _ => F.bind k fun y => F.bind e fun z _ => M.bind (dgetD y x) fun r => M.pure (r.getD z)
/-- a dict written: it stands there first, then the values -/
def dctPut (i : Nat) (ks vs : List D) : M D := fun S => match S[i]? with
  | some (.dct []) => if ks.length = vs.length then .ok (.ref i) (S.set i (.dct (mergeD [] (ks.zip vs)))) else .bad
  | _ => .bad
@[reducible] def fDct (ks : List D) (vs : F (List D)) : F D := fun L S => M.bind (vs L) (fun v => dctPut S.length ks v) (S ++ [.dct []])
/-- which def a value is -/
def fnIn (ok : List Nat) : D → M Nat
  | .fn i => if i ∈ ok then M.pure i else M.bad
  | _ => M.bad
section
variable (C : Nat → List D → M D)
@[reducible] def fXcall (f i : Nat) : F D := fun L => match L.getD i none with
  | some d => C f [d]
  | none => M.bad
@[reducible] def fCall (f : Nat) (s : F (List D)) (ds : List D) : F D := F.bind s fun vs _ => C f (vs ++ ds)
@[reducible] def fCallV (ok : List Nat) (f : F D) (s : F (List D)) : F D := F.bind f fun d L => M.bind (fnIn ok d) fun i => M.bind (s L) fun vs => C i vs
@[reducible] def fCallVK (ok : List Nat) (f : F D) (s : F (List D)) (k : F D) : F D := F.bind f fun d L => M.bind (fnIn ok d) fun i => M.bind (s L) fun vs => M.bind (k L) fun w => C i (vs ++ [w])
@[reducible] def fMcall (ms : List (Nat × Nat)) (o : F D) (s : F (List D)) : F D := F.bind o fun x => F.bind (fun _ => clsD x) fun c L => match lookN c ms with
  | some f => M.bind (s L) fun vs => C f (x :: vs)
  | none => M.bad
@[reducible] def fCallK (f : Nat) (s : F (List D)) (k : F D) : F D := F.bind s fun vs => F.bind k fun w _ => C f (vs ++ [w])
def ev : E → Mn
  | .var i => mkE (fVar i)
  | .con d => mkE fun _ => M.pure d
  | .tup es => mkE (fTup (ev es).s)
  | .lst es => mkE (fLst (ev es).s)
  | .op o a b => mkE (fOp o (ev a).e (ev b).e)
  | .neg a => mkE (fNeg (ev a).e)
  | .cmp o a b => mkT (fBl (fCmp o (ev a).e (ev b).e)) (fCmp o (ev a).e (ev b).e)
  | .chain o o' a b c => mkT (fBl (fChain o o' (ev a).e (ev b).e (ev c).e)) (fChain o o' (ev a).e (ev b).e (ev c).e)
  | .not a => mkT (F.bind (ev a).e fun x _ => M.bind (truth x) fun k => M.pure (.bl (!k))) (fNotT (ev a).t)
  | .and a b => mkT (fAnd (ev a).e (ev b).e) (fAndT (ev a).t (ev b).t)
  | .or a b => mkT (fOr (ev a).e (ev b).e) (fOrT (ev a).t (ev b).t)
  | .ite t a b => mkT (fIte (ev t).t (ev a).e (ev b).e) FBad
  | .ix a b => mkE (fIx (ev a).e (ev b).e)
  | .sl a lo hi => mkE (fSl (ev a).e (ev lo).p (ev hi).p)
  | .call f es ds => mkE (fCall C f (ev es).s ds)
  | .callK f _ es ks => mkE (fCallK C f (ev es).s (ev ks).e)
  | .callV ok f es => mkE (fCallV C ok (ev f).e (ev es).s)
  | .callVK ok f es ks => mkE (fCallVK C ok (ev f).e (ev es).s (ev ks).e)
  | .dct ks vs => mkE (fDct ks (ev vs).s)
  | .prim p es => mkE (fPrim p (ev es).s)
  | .fld a f => mkE (fFld (ev a).e f)
  | .mcall ms o es => mkE (fMcall C ms (ev o).e (ev es).s)
  | .rev a => mkE (fRev (ev a).e)
  | .zip a b => mkE (fZip (ev a).e (ev b).e)
  | .dget1 o k => mkE (fDget1 (ev o).e (ev k).e)
  | .dget2 o k x => mkE (fDget2 (ev o).e (ev k).e (ev x).e)
  | .dcomp r t own src tst key val => mkE (fDcomp r (tgSet t) own (ev src).e (ev tst).t (ev key).e (ev val).e)
  | .meth m o es => mkE (fMeth m (ev o).e (ev es).s)
  | .xis i j => mkE (fXis i j)
  | .xf i k => mkE (fXf i k)
  | .xcall f i => mkE (fXcall C f i)
  | .comp r t own src tst elt => mkE (fComp r (tgSet t) own (ev src).e (ev tst).t (ev elt).e)
  | .none => ⟨FBad, FBad, FBad, fun _ => M.pure none⟩
  | .nil => ⟨FBad, FBad, fun _ => M.pure [], FBad⟩
  | .cons h t => ⟨FBad, FBad, fCons (ev h).e (ev t).s, FBad⟩
  | .bad => ⟨FBad, FBad, FBad, FBad⟩
end

/-! ### statements -/
abbrev SF := F Fl
/-- an expression, then on; what it raises is thrown at the names as they are -/
def sB {α : Type} (e : F α) (k : α → SF) : SF := fun L S => match e L S with
  | .ok a S' => k a L S'
  | .exc x S' => .ok (.thr x L) S'
  | .bad => .bad
/-- a statement, then on -/
def sThen (a : SF) (k : Loc → M Fl) : SF := fun L S => match a L S with
  | .ok (.next L') S' => k L' S'
  | r => r
@[reducible] def sNext : SF := fun L => M.pure (.next L)
@[reducible] def sSeq (a b : SF) : SF := sThen a b
@[reducible] def sSet (i : Nat) (e : F D) : SF := sB e fun d L => M.pure (.next (L.set i (some d)))
def optNext : Option Loc → M Fl
  | some L => M.pure (.next L)
  | none => M.bad
@[reducible] def sPar (is : List Nat) (es : F (List D)) : SF := sB es fun ds L => optNext (setAll is ds L)
@[reducible] def sUnp (is : List Nat) (e : F D) : SF := sB e fun d L S => match seqOf S d with
  | some ds => optNext (setAll is ds L) S
  | none => .bad
/-- a, *b = e -/
@[reducible] def sUnpS (is : List Nat) (j : Nat) (e : F D) : SF := sB e fun d L S => match seqOf S d with
  | some ds => if is.length ≤ ds.length ∧ ds.length ≤ 16000 then (match setAll is (ds.take is.length) L with
    | some L' => .ok (.next (L'.set j (some (.ref S.length)))) (S ++ [.lst (ds.drop is.length)])
    | none => .bad) else .bad
  | none => .bad
/-- a store -/
def fTx (C : Nat → List D → M D) (t : Tx) (d : D) : F Loc := match t with
  | .name i => fun L => M.pure (L.set i (some d))
  | .fld o f => fun L => M.bind ((ev C o).e L) fun x => M.bind (setFD f d x) fun _ => M.pure L
  | .sub o k => fun L => M.bind ((ev C o).e L) fun x => M.bind ((ev C k).e L) fun y => M.bind (dputD y d x) fun _ => M.pure L
/-- what is raised is thrown at the names as they are -/
def sTx (C : Nat → List D → M D) (t : Tx) (d : D) : SF := sB (fTx C t d) fun L' _ => M.pure (.next L')
def sTxs (C : Nat → List D → M D) : List Tx → List D → SF
  | [], [] => sNext
  | t :: ts, d :: ds => sThen (sTx C t d) (sTxs C ts ds)
  | _, _ => FBad
@[reducible] def sAsg1 (C : Nat → List D → M D) (t : Tx) (e : F D) : SF := sB e fun d => sTx C t d
@[reducible] def sAsgs (C : Nat → List D → M D) (ts : List Tx) (e : F D) : SF := sB e fun d L S => match seqOf S d with
  | some ds => if ds.length = ts.length then sTxs C ts ds L S else .bad
  | none => .bad
/-- op= -/
def aug2 : Op2 → D → D → M D
  | .add, .int i, .int j => op2 .add (.int i) (.int j)
  | .add, .str i, .str j => op2 .add (.str i) (.str j)
  | .sub, x, y => op2 .sub x y
  | .mul, .int i, .int j => op2 .mul (.int i) (.int j)
  | _, _, _ => M.bad
@[reducible] def sAug (i : Nat) (o : Op2) (e : F D) : SF := sB (F.bind (fVar i) fun x => F.bind e fun y _ => aug2 o x y) fun z L => M.pure (.next (L.set i (some z)))
@[reducible] def sAugF (o : F D) (f : Nat) (op : Op2) (e : F D) : SF := sB (F.bind o fun x => F.bind (fun _ => clsD x) fun c => F.bind (fun _ => fldD f x) fun v => F.bind e fun y => F.bind (fun _ => aug2 op v y) fun z => F.bind (fun _ => clsD x) fun c' => if c' = c then fun _ => setFD f z x else FBad) fun _ L => M.pure (.next L)
@[reducible] def sRet (e : F D) : SF := sB e fun d _ => M.pure (.ret d)
@[reducible] def sExpr (e : F D) : SF := sB e fun _ => sNext
@[reducible] def sIf (t : F Bool) (a b : SF) : SF := sB t fun k => if k = true then a else b
/-- a turn of a loop, then on -/
def turn (f : R Fl) (k : Loc → M Fl) : R Fl := match f with
  | .ok (.next L') S' => k L' S'
  | .ok (.cont L') S' => k L' S'
  | .ok (.brk L') S' => .ok (.next L') S'
  | r => r
def sWhile (t : F Bool) (b : SF) : Nat → SF
  | 0 => FBad
  | n + 1 => sB t fun k => if k = true then fun L S => turn (b L S) (sWhile t b n) else sNext
/-- over items that stand still -/
def sFor (g : D → Loc → Option Loc) (b : SF) : List D → SF
  | [] => sNext
  | x :: xs => fun L S => match g x L with
    | none => .bad
    | some L1 => turn (b L1 S) (sFor g b xs)
/-- over a list as it stands at each turn: k the turn -/
def sForL (g : D → Loc → Option Loc) (b : SF) (a : Nat) : Nat → Nat → SF
  | 0, _ => FBad
  | n + 1, k => fun L S => match seqOf S (.ref a) with
    | none => .bad
    | some xs => match xs[k]? with
      | none => .ok (.next L) S
      | some x => match g x L with
        | none => .bad
        | some L1 => turn (b L1 S) (sForL g b a n (k + 1))
def forOf (g : D → Loc → Option Loc) (b : SF) (d : D) : SF := match d with
  | .tup xs => sFor g b xs
  | .str s => if s.length ≤ 16000000 then sFor g b (s.map fun c => D.str [c]) else FBad
  | .ref a => fun L S => match seqOf S (.ref a) with
    | none => .bad
    | some xs => sForL g b a (xs.length + 1) 0 L S
  | _ => FBad
@[reducible] def sForS (g : D → Loc → Option Loc) (e : F D) (b : SF) : SF := sB e fun d => forOf g b d
def rng1 (g : D → Loc → Option Loc) (b : SF) : D → SF
  | .int j => if near j = true then sFor g b (rangeD 0 j.toNat) else FBad
  | _ => FBad
def rng2 (g : D → Loc → Option Loc) (b : SF) : D × D → SF
  | (.int i, .int j) => if (near i && near j) = true then sFor g b (rangeD i (j - i).toNat) else FBad
  | _ => FBad
@[reducible] def sForR1 (g : D → Loc → Option Loc) (e : F D) (b : SF) : SF := sB e (rng1 g b)
@[reducible] def sForR2 (g : D → Loc → Option Loc) (x y : F D) (b : SF) : SF := sB (F.bind x fun i => F.bind y fun j _ => M.pure (i, j)) (rng2 g b)
/-- the first clause that takes it: its name's place, must the context be None, its suite -/
def pickC (c : Nat) : List (Nat × Option Nat × Bool) → List SF → Option (Option Nat × Bool × SF)
  | (j, o, n) :: r, s :: ss => if subC c j = true then some (o, n, s) else pickC c r ss
  | _, _ => none
/-- the name goes -/
def gone (i : Nat) : R Fl → R Fl
  | .ok (.next L) S => .ok (.next (L.set i none)) S
  | .ok (.ret d) S => .ok (.ret d) S
  | .ok (.brk L) S => .ok (.brk (L.set i none)) S
  | .ok (.cont L) S => .ok (.cont (L.set i none)) S
  | _ => .bad
/-- what an unnamed clause's suite may let out -/
def looseOut (n : Bool) : R Fl → R Fl
  | .ok (.thr e L) S => if n = true ∧ looseC e.c = true then .ok (.thr e L) S else .bad
  | .exc _ _ => .bad
  | r => r
def sAs (o : Option Nat) (n : Bool) (e : Exn) (s : SF) : SF := match o with
  | none => fun L S => looseOut n (s L S)
  | some i => fun L S => if i < L.length then gone i (s (L.set i (some (exnD e.c e.f))) S) else .bad
def sTry (b : SF) (hs : List (Nat × Option Nat × Bool)) (ss : List SF) : SF := fun L S => match b L S with
  | .ok (.thr e L1) S1 => (match pickC e.c hs ss with
    | some (o, n, s) => if n = true ∧ looseC e.c = true then .bad else sAs o n e s L1 S1
    | none => .ok (.thr e L1) S1)
  | r => r
section
variable (C : Nat → List D → M D) (wf : Nat)
def xs : St → SF
  | .nil => sNext
  | .cons h t => sSeq (xs h) (xs t)
  | .expr e => sExpr (ev C e).e
  | .set i e => sSet i (ev C e).e
  | .par is es => sPar is (ev C es).s
  | .unp is e => sUnp is (ev C e).e
  | .unpS is j e => sUnpS is j (ev C e).e
  | .aug i o e => sAug i o (ev C e).e
  | .asg1 t e => sAsg1 C t (ev C e).e
  | .asgs ts e => sAsgs C ts (ev C e).e
  | .augF o f op e => sAugF (ev C o).e f op (ev C e).e
  | .ret e => sRet (ev C e).e
  | .retN => fun _ => M.pure (.ret .non)
  | .ifS t a b => sIf (ev C t).t (xs a) (xs b)
  | .whileS t b => sWhile (ev C t).t (xs b) wf
  | .forS g (.range1 e) b => sForR1 (tgSet g) (ev C e).e (xs b)
  | .forS g (.range2 x y) b => sForR2 (tgSet g) (ev C x).e (ev C y).e (xs b)
  | .forS g (.seq e) b => sForS (tgSet g) (ev C e).e (xs b)
  | .pass => sNext
  | .rai0 c => fun L => M.pure (.thr ⟨c, none⟩ L)
  | .rai1 c e => sB (ev C e).e fun d L => M.pure (.thr ⟨c, some d⟩ L)
  | .tryS b hs s0 s1 s2 s3 s4 => sTry (xs b) hs [xs s0, xs s1, xs s2, xs s3, xs s4]
  | .bad => FBad
end
/-! ### defs -/
structure Fn where
  /-- how many parameters, how many names -/
  ps : Nat
  ns : Nat
  body : St
  /-- a class that is made: its number, its __init__ -/
  cr : Option (Nat × Nat) := none
/-- what comes of a body -/
def doneF : R Fl → R D
  | .ok (.ret d) S => .ok d S
  | .ok (.next _) S => .ok .non S
  | .ok (.thr e _) S => .exc e S
  | _ => .bad
/-- a def called: its body at its values -/
def run (C : Nat → List D → M D) (wf : Nat) (f : Fn) (vs : List D) : M D := fun S =>
  if vs.length = f.ps then doneF (xs C wf f.body (vs.map some ++ List.replicate (f.ns - f.ps) none) S) else .bad
/-- calls within one another, n at most -/
def callF (tab : List Fn) (wf : Nat) : Nat → Nat → List D → M D
  | 0, _, _ => M.bad
  | n + 1, f, vs => match tab[f]? with
    | some fn => (match fn.cr with
      | none => run (callF tab wf n) wf fn vs
      | some (c, g) => fun S => if vs.length = fn.ps then M.bind (callF tab wf n g (.ref S.length :: vs)) (fun d => match d with
        | .non => M.pure (.ref S.length)
        | _ => M.bad) (S ++ [O.ins c []]) else .bad)
    | none => M.bad
end Bv
end
section
/-! B1: how the tongue's values lie in the abstract heap; readings by meanings. -/
namespace Bv
open PySem L2 PyProof.Rows

/-- the text's own objects -/
structure Hx where
  /-- the held exception: its name's place, its object, its class, its dict -/
  sl : Nat
  a : Addr
  c : Nat
  dx : Option Addr
structure Gm where
  K : PySem.W.Frag
  fa : Nat → Addr
  ca : Nat → Addr
  fld : Nat → PySem.Str
  /-- which classes of errors the text has -/
  cl : Nat → Bool
  /-- own classes: where they are, which there are -/
  ka : Nat → Addr
  kl : Nat → Bool
  hot : Option Hx

/-- the fields of instances -/
def iflNames : List PySem.Str := ["stack", "scale", "base_in", "base_out", "registers", "arrays", "printed", "steps", "names", "places", "known", "aside", "every", "at", "left", "now", "past", "fed"]
def ifl (n : Nat) : PySem.Str := iflNames.getD n "stack"
theorem ifl_inj : ∀ {f g : Nat}, f < 18 → g < 18 → ifl f = ifl g → f = g := by
  have : ∀ f : Fin 18, ∀ g : Fin 18, ifl f = ifl g → f = g := by decide +kernel
  intro f g hf hg e
  exact Fin.mk.inj_iff.mp (this ⟨f, hf⟩ ⟨g, hg⟩ e)
variable (Γ : Gm)
mutual
def Rep (ρ : List Addr) (H : Hp) : V → D → Prop
  | v, .non => v = .non
  | v, .bl b => v = .bl b
  | v, .int i => v = .int i
  | v, .str s => v = .str ⟨s.toArray⟩ ∧ ∀ c ∈ s, c < 1114112
  | v, .tup ds => ∃ p xs, v = .ref p ∧ SqT Γ.K H p xs ∧ Reps ρ H xs ds
  | v, .ref i => ∃ a, v = .ref a ∧ ρ[i]? = some a
  | v, .fn i => v = .ref (Γ.fa i)
  | v, .cls i => v = .ref (Γ.ca i)
  | v, .ty n => v = .ty (tnOf n)
def Reps (ρ : List Addr) (H : Hp) : List V → List D → Prop
  | [], [] => True
  | v :: vs, d :: ds => Rep ρ H v d ∧ Reps ρ H vs ds
  | _, _ => False
end
/-- tuples and what is locked stay -/
structure Ext (H H' : Hp) : Prop where
  tup : ∀ b xs, H b = some (.tup xs) → H' b = some (.tup xs)
  frz : ∀ b o u, H b = some (.frz o u) → H' b = some (.frz o u)
  xd : ∀ b fs, H b = some (.xd fs) → H' b = some (.xd fs)
theorem Ext.refl (H : Hp) : Ext H H := ⟨fun _ _ h => h, fun _ _ _ h => h, fun _ _ h => h⟩
theorem Ext.trans {H H1 H2 : Hp} (a : Ext H H1) (b : Ext H1 H2) : Ext H H2 := ⟨fun c xs h => b.tup c xs (a.tup c xs h), fun c o u h => b.frz c o u (a.frz c o u h), fun c fs h => b.xd c fs (a.xd c fs h)⟩
theorem Ext.new {H : Hp} {p : Addr} {o : HO} (h : H p = none) : Ext H (upd H p o) :=
  ⟨fun b xs e => by rw [upd_ne (ne_of_none e h)]; exact e, fun b o' u e => by rw [upd_ne (ne_of_none e h)]; exact e, fun b fs e => by rw [upd_ne (ne_of_none e h)]; exact e⟩
theorem Ext.put {H : Hp} {p : Addr} {o : HO} (h1 : ∀ xs, H p ≠ some (.tup xs)) (h2 : ∀ o u, H p ≠ some (.frz o u)) (h3 : ∀ fs, H p ≠ some (.xd fs)) : Ext H (upd H p o) :=
  ⟨fun b xs e => by
    rw [upd_ne (fun z => h1 xs (by rw [← z]; exact e))]; exact e, fun b o' u e => by
    rw [upd_ne (fun z => h2 o' u (by rw [← z]; exact e))]; exact e, fun b fs e => by
    rw [upd_ne (fun z => h3 fs (by rw [← z]; exact e))]; exact e⟩
theorem Ext.sqT {K : PySem.W.Frag} {H H' : Hp} {a : Addr} {xs : List V} (e : Ext H H') (h : SqT K H a xs) : SqT K H' a xs := by
  rcases h with (h | ⟨o, h⟩) | h
  · exact .inl (.inl (e.tup _ _ h))
  · exact .inl (.inr ⟨o, e.frz _ _ _ h⟩)
  · exact .inr h
variable {Γ}
section
variable {ρ ρ' : List Addr} {H H' : Hp}
theorem get_pre {i : Nat} {a : Addr} (hp : ρ <+: ρ') (h : ρ[i]? = some a) : ρ'[i]? = some a := by
  obtain ⟨t, rfl⟩ := hp
  rw [List.getElem?_append_left (List.getElem?_eq_some_iff.mp h).1]
  exact h
mutual
theorem Rep.mono (hp : ρ <+: ρ') (e : Ext H H') : ∀ {v : V} (d : D), Rep Γ ρ H v d → Rep Γ ρ' H' v d
  | _, .non, h => by simpa only [Rep] using h
  | _, .bl b, h => by simpa only [Rep] using h
  | _, .int i, h => by simpa only [Rep] using h
  | _, .str s, h => by simpa only [Rep] using h
  | _, .tup ds, h => by
    simp only [Rep] at h ⊢
    obtain ⟨p, xs, h1, h2, h3⟩ := h
    exact ⟨p, xs, h1, e.sqT h2, Reps.mono hp e ds h3⟩
  | _, .ref i, h => by
    simp only [Rep] at h ⊢
    obtain ⟨a, h1, h2⟩ := h
    exact ⟨a, h1, get_pre hp h2⟩
  | _, .fn i, h => by simpa only [Rep] using h
  | _, .cls i, h => by simpa only [Rep] using h
  | _, .ty n, h => by simpa only [Rep] using h
theorem Reps.mono (hp : ρ <+: ρ') (e : Ext H H') : ∀ {vs : List V} (ds : List D), Reps Γ ρ H vs ds → Reps Γ ρ' H' vs ds
  | [], [], _ => by simp only [Reps]
  | v :: vs, d :: ds, h => by
    simp only [Reps] at h ⊢
    exact ⟨Rep.mono hp e d h.1, Reps.mono hp e ds h.2⟩
  | [], _ :: _, h => by simp only [Reps] at h
  | _ :: _, [], h => by simp only [Reps] at h
end
theorem Reps.length : ∀ {vs : List V} {ds : List D}, Reps Γ ρ H vs ds → vs.length = ds.length
  | [], [], _ => rfl
  | v :: vs, d :: ds, h => by
    simp only [Reps] at h
    rw [List.length_cons, List.length_cons, Reps.length h.2]
  | [], _ :: _, h => by simp only [Reps] at h
  | _ :: _, [], h => by simp only [Reps] at h
theorem Reps.get : ∀ {vs : List V} {ds : List D} {i : Nat} {d : D}, Reps Γ ρ H vs ds → ds[i]? = some d → ∃ v, vs[i]? = some v ∧ Rep Γ ρ H v d
  | [], [], _, _, _, e => by simp at e
  | v :: vs, d' :: ds, 0, d, h, e => by
    simp only [Reps] at h
    simp at e
    subst e
    exact ⟨v, rfl, h.1⟩
  | v :: vs, d' :: ds, i + 1, d, h, e => by
    simp only [Reps] at h
    obtain ⟨w, h1, h2⟩ := Reps.get (i := i) h.2 (by simpa using e)
    exact ⟨w, by simpa using h1, h2⟩
  | [], _ :: _, _, _, h, _ => by simp only [Reps] at h
  | _ :: _, [], _, _, h, _ => by simp only [Reps] at h
theorem Reps.nil_iff {vs : List V} : Reps Γ ρ H vs [] ↔ vs = [] := by
  cases vs <;> simp [Reps]
theorem Reps.cons_iff {vs : List V} {d : D} {ds : List D} : Reps Γ ρ H vs (d :: ds) ↔ ∃ v r, vs = v :: r ∧ Rep Γ ρ H v d ∧ Reps Γ ρ H r ds := by
  cases vs with
  | nil => simp [Reps]
  | cons v r =>
    constructor
    · intro h
      simp only [Reps] at h
      exact ⟨v, r, rfl, h.1, h.2⟩
    · rintro ⟨v', r', e, h1, h2⟩
      cases e
      simp only [Reps]
      exact ⟨h1, h2⟩
theorem Reps.append : ∀ {xs ys : List V} {ds es : List D}, Reps Γ ρ H xs ds → Reps Γ ρ H ys es → Reps Γ ρ H (xs ++ ys) (ds ++ es)
  | [], ys, [], es, _, h => h
  | x :: xs, ys, d :: ds, es, h, h' => by
    simp only [Reps] at h
    simp only [List.cons_append, Reps]
    exact ⟨h.1, Reps.append h.2 h'⟩
  | [], _, _ :: _, _, h, _ => by simp only [Reps] at h
  | _ :: _, _, [], _, h, _ => by simp only [Reps] at h
theorem Reps.drop : ∀ (n : Nat) {xs : List V} {ds : List D}, Reps Γ ρ H xs ds → Reps Γ ρ H (xs.drop n) (ds.drop n)
  | 0, _, _, h => h
  | n + 1, [], [], h => h
  | n + 1, x :: xs, d :: ds, h => by
    simp only [Reps] at h
    exact Reps.drop n h.2
  | _, [], _ :: _, h => by simp only [Reps] at h
  | _, _ :: _, [], h => by simp only [Reps] at h
theorem Reps.take : ∀ (n : Nat) {xs : List V} {ds : List D}, Reps Γ ρ H xs ds → Reps Γ ρ H (xs.take n) (ds.take n)
  | 0, _, _, _ => by simp [Reps]
  | n + 1, [], [], h => h
  | n + 1, x :: xs, d :: ds, h => by
    simp only [Reps] at h
    simp only [List.take_succ_cons, Reps]
    exact ⟨h.1, Reps.take n h.2⟩
  | _, [], _ :: _, h => by simp only [Reps] at h
  | _, _ :: _, [], h => by simp only [Reps] at h
end

/-! ### the store, the names -/
variable (Γ)
/-- a key -/
def kD : D → Option Key
  | .int i => some (.inl i)
  | .str s => some (.inr ⟨s.toArray⟩)
  | _ => none
def KReps (ρ : List Addr) (H : Hp) : List (Key × V) → List (D × D) → Prop
  | [], [] => True
  | p :: r, q :: r' => kD q.1 = some p.1 ∧ Rep Γ ρ H p.2 q.2 ∧ KReps ρ H r r'
  | _, _ => False
variable {Γ} in
theorem KReps.mono {ρ ρ' : List Addr} {H H' : Hp} (hp : ρ <+: ρ') (e : Ext H H') : ∀ {kv : List (Key × V)} {kd : List (D × D)}, KReps Γ ρ H kv kd → KReps Γ ρ' H' kv kd
  | [], [], _ => by simp only [KReps]
  | p :: r, q :: r', h => by
    simp only [KReps] at h ⊢
    exact ⟨h.1, Rep.mono hp e _ h.2.1, KReps.mono hp e h.2.2⟩
  | [], _ :: _, h => by simp only [KReps] at h
  | _ :: _, [], h => by simp only [KReps] at h
def FReps (ρ : List Addr) (H : Hp) : List (PySem.Str × V) → List (Nat × D) → Prop
  | [], [] => True
  | p :: r, q :: r' => p.1 = ifl q.1 ∧ q.1 < 18 ∧ Rep Γ ρ H p.2 q.2 ∧ FReps ρ H r r'
  | _, _ => False
variable {Γ} in
theorem FReps.mono {ρ ρ' : List Addr} {H H' : Hp} (hp : ρ <+: ρ') (e : Ext H H') : ∀ {kv : List (PySem.Str × V)} {kd : List (Nat × D)}, FReps Γ ρ H kv kd → FReps Γ ρ' H' kv kd
  | [], [], _ => by simp only [FReps]
  | p :: r, q :: r', h => by
    simp only [FReps] at h ⊢
    exact ⟨h.1, h.2.1, Rep.mono hp e _ h.2.2.1, FReps.mono hp e h.2.2.2⟩
  | [], _ :: _, h => by simp only [FReps] at h
  | _ :: _, [], h => by simp only [FReps] at h
def ORep (ρ : List Addr) (H : Hp) (a : Addr) : O → Prop
  | .lst ds => ∃ xs, H a = some (.lst xs) ∧ Reps Γ ρ H xs ds
  | .ro ds => ∃ xs, ((∃ o, H a = some (.frz o (.lst xs))) ∨ SqL Γ.K (fun _ => none) a xs) ∧ Reps Γ ρ H xs ds
  | .dct kd => ∃ kv, H a = some (.dK kv) ∧ KReps Γ ρ H kv kd
  | .ins c fs => Γ.kl c = true ∧ ∃ dx vs, H a = some (.ins (Γ.ka c) dx vs) ∧ FReps Γ ρ H vs fs
def mutb : O → Bool
  | .ro _ => false
  | _ => true
structure SRel (ρ : List Addr) (H : Hp) (S : Sto) : Prop where
  len : ρ.length = S.length
  obj : ∀ (i : Nat) a o, ρ[i]? = some a → S[i]? = some o → ORep Γ ρ H a o
  inj : ∀ (i j : Nat) a o o', ρ[i]? = some a → ρ[j]? = some a → S[i]? = some o → S[j]? = some o' → mutb o = true → mutb o' = true → i = j
/-- an exception as it lies: its class, its one field -/
def XRep (ρ : List Addr) (H : Hp) (e : Exn) (dx : Option Addr) : Prop := Γ.cl e.c = true ∧ match e.f with
  | none => dx = none
  | some d => ∃ a v, dx = some a ∧ H a = some (.xd [(Γ.fld e.c, v)]) ∧ Rep Γ ρ H v d
/-- the held exception's name -/
def Gm.hs : Option Nat := Γ.hot.map (·.sl)
structure LRel (ρ : List Addr) (H : Hp) (σ : L2.St) (L : Loc) : Prop where
  len : L.length = σ.length
  val : ∀ (i : Nat) d, Γ.hs ≠ some i → L[i]? = some (some d) → ∃ v, σ[i]? = some (some v) ∧ Rep Γ ρ H v d
  hot : ∀ x, Γ.hot = some x → ∃ f, L[x.sl]? = some (some (exnD x.c f)) ∧ σ[x.sl]? = some (some (.ref x.a)) ∧ XRep Γ ρ H ⟨x.c, f⟩ x.dx
structure Rel (ρ : List Addr) (H : Hp) (σ : L2.St) (L : Loc) (S : Sto) : Prop where
  s : SRel Γ ρ H S
  l : LRel Γ ρ H σ L
variable {Γ}
section
variable {ρ ρ' : List Addr} {H H' : Hp} {S S' : Sto} {σ : L2.St} {L : Loc}
theorem XRep.mono {x : Exn} {dx : Option Addr} (hp : ρ <+: ρ') (e : Ext H H') (h : XRep Γ ρ H x dx) : XRep Γ ρ' H' x dx := by
  obtain ⟨hc, h⟩ := h
  refine ⟨hc, ?_⟩
  cases x with
  | mk c f =>
    cases f with
    | none => exact h
    | some d =>
      obtain ⟨a, v, e1, e2, r⟩ := h
      exact ⟨a, v, e1, e.xd _ _ e2, Rep.mono hp e _ r⟩
theorem LRel.mono (hp : ρ <+: ρ') (e : Ext H H') (h : LRel Γ ρ H σ L) : LRel Γ ρ' H' σ L := ⟨h.len, fun i d n q => by
  obtain ⟨v, h1, h2⟩ := h.val i d n q
  exact ⟨v, h1, Rep.mono hp e d h2⟩, fun x hx => by
  obtain ⟨f, h1, h2, h3⟩ := h.hot x hx
  exact ⟨f, h1, h2, h3.mono hp e⟩⟩
theorem LRel.set {i : Nat} {v : V} {d : D} (hi : Γ.hs ≠ some i) (h : LRel Γ ρ H σ L) (r : Rep Γ ρ H v d) : LRel Γ ρ H (σ.set i (some v)) (L.set i (some d)) := by
  refine ⟨by simp [h.len], fun j d' n q => ?_, fun x hx => ?_⟩
  · by_cases e : i = j
    · subst e
      have hl : i < L.length := by
        have := (List.getElem?_eq_some_iff.mp q).1
        simpa using this
      rw [List.getElem?_set_self hl] at q
      have : d = d' := by simpa using q
      subst this
      exact ⟨v, List.getElem?_set_self (by rw [← h.len]; exact hl), r⟩
    · rw [List.getElem?_set_ne e] at q
      obtain ⟨w, h1, h2⟩ := h.val j d' n q
      exact ⟨w, by rw [List.getElem?_set_ne e]; exact h1, h2⟩
  · obtain ⟨f, h1, h2, h3⟩ := h.hot x hx
    have ne : i ≠ x.sl := fun z => hi (by unfold Gm.hs; rw [hx, z]; rfl)
    exact ⟨f, by rw [List.getElem?_set_ne ne]; exact h1, by rw [List.getElem?_set_ne ne]; exact h2, h3⟩
/-- a mutable object is tracked -/
theorem ORep.ne {a : Addr} {o : O} (h : ORep Γ ρ H a o) (m : mutb o = true) : H a ≠ none := by
  cases o with
  | lst ds =>
    obtain ⟨xs, e, _⟩ := h
    rw [e]; simp
  | ro ds => cases m
  | dct _ =>
    obtain ⟨xs, e, _⟩ := h
    rw [e]; simp
  | ins _ _ =>
    obtain ⟨_, dx, xs, e, _⟩ := h
    rw [e]; simp
theorem ORep.mono {a : Addr} {o : O} (hp : ρ <+: ρ') (e : Ext H H') (ha : mutb o = true → H' a = H a) (h : ORep Γ ρ H a o) : ORep Γ ρ' H' a o := by
  cases o with
  | lst ds =>
    obtain ⟨xs, q, r⟩ := h
    exact ⟨xs, (ha rfl).trans q, Reps.mono hp e ds r⟩
  | ro ds =>
    obtain ⟨xs, q, r⟩ := h
    refine ⟨xs, ?_, Reps.mono hp e ds r⟩
    rcases q with ⟨o, q⟩ | q
    · exact .inl ⟨o, e.frz _ _ _ q⟩
    · exact .inr q
  | dct kd =>
    obtain ⟨xs, q, r⟩ := h
    exact ⟨xs, (ha rfl).trans q, KReps.mono hp e r⟩
  | ins _ _ =>
    obtain ⟨k, dx, xs, q, r⟩ := h
    exact ⟨k, dx, xs, (ha rfl).trans q, FReps.mono hp e r⟩
/-- nothing that can change was changed -/
theorem SRel.keep (h : SRel Γ ρ H S) (e : Ext H H') (k : ∀ a, H a ≠ none → H' a = H a) : SRel Γ ρ H' S :=
  ⟨h.len, fun i a o h1 h2 => (h.obj i a o h1 h2).mono (List.prefix_refl _) e fun m => k a ((h.obj i a o h1 h2).ne m), h.inj⟩
theorem SRel.new {p : Addr} {ho : HO} {o : O} (h : SRel Γ ρ H S) (hp : H p = none) (r : ORep Γ (ρ ++ [p]) (upd H p ho) p o) : SRel Γ (ρ ++ [p]) (upd H p ho) (S ++ [o]) := by
  have pre : ρ <+: ρ ++ [p] := List.prefix_append _ _
  have old : ∀ (i : Nat) a o', ρ[i]? = some a → S[i]? = some o' → ORep Γ (ρ ++ [p]) (upd H p ho) a o' := fun i a o' h1 h2 =>
    (h.obj i a o' h1 h2).mono pre (Ext.new hp) fun m => upd_ne fun z => (h.obj i a o' h1 h2).ne m (by rw [z]; exact hp)
  have at_ : ∀ (i : Nat) a o', (ρ ++ [p])[i]? = some a → (S ++ [o])[i]? = some o' → (ρ[i]? = some a ∧ S[i]? = some o') ∨ (i = S.length ∧ a = p ∧ o' = o) := fun i a o' h1 h2 => by
    by_cases hi : i < S.length
    · rw [List.getElem?_append_left (by rw [h.len]; exact hi)] at h1
      rw [List.getElem?_append_left hi] at h2
      exact .inl ⟨h1, h2⟩
    · have hl := (List.getElem?_eq_some_iff.mp h2).1
      rw [List.length_append, List.length_singleton] at hl
      have ei : i = S.length := by omega
      subst ei
      rw [← h.len] at h1
      simp at h1 h2
      exact .inr ⟨rfl, h1.symm, h2.symm⟩
  refine ⟨by simp [h.len], fun i a o' h1 h2 => ?_, fun i j a o1 o2 h1 h2 h3 h4 m1 m2 => ?_⟩
  · rcases at_ i a o' h1 h2 with ⟨q1, q2⟩ | ⟨rfl, rfl, rfl⟩
    · exact old i a o' q1 q2
    · exact r
  · rcases at_ i a o1 h1 h3 with ⟨q1, q2⟩ | ⟨e1, e2, e3⟩
    · rcases at_ j a o2 h2 h4 with ⟨q3, q4⟩ | ⟨e1, e2, e3⟩
      · exact h.inj i j a o1 o2 q1 q3 q2 q4 m1 m2
      · exact absurd hp (by rw [← e2]; exact (h.obj i a o1 q1 q2).ne m1)
    · rcases at_ j a o2 h2 h4 with ⟨q3, q4⟩ | ⟨e4, e5, e6⟩
      · exact absurd hp (by rw [← e2]; exact (h.obj j a o2 q3 q4).ne m2)
      · rw [e1, e4]
theorem SRel.put {i : Nat} {a : Addr} {ho : HO} {o o' : O} (h : SRel Γ ρ H S) (ha : ρ[i]? = some a) (hs : S[i]? = some o) (m : mutb o = true) (e : Ext H (upd H a ho)) (r : ORep Γ ρ (upd H a ho) a o') (m' : mutb o' = true) :
    SRel Γ ρ (upd H a ho) (S.set i o') := by
  have hi : i < S.length := (List.getElem?_eq_some_iff.mp hs).1
  have at_ : ∀ (j : Nat) (b : Addr) o2, (S.set i o')[j]? = some o2 → (j = i ∧ o2 = o') ∨ (j ≠ i ∧ S[j]? = some o2) := fun j b o2 q => by
    by_cases ej : i = j
    · subst ej
      rw [List.getElem?_set_self hi] at q
      exact .inl ⟨rfl, (Option.some.inj q).symm⟩
    · rw [List.getElem?_set_ne ej] at q
      exact .inr ⟨fun z => ej z.symm, q⟩
  refine ⟨by simp [h.len], fun j b o2 h1 h2 => ?_, fun j k b o1 o2 h1 h2 h3 h4 m1 m2 => ?_⟩
  · rcases at_ j b o2 h2 with ⟨rfl, rfl⟩ | ⟨nj, q⟩
    · rw [ha] at h1; cases h1
      exact r
    · refine (h.obj j b o2 h1 q).mono (List.prefix_refl _) e fun m2 => upd_ne fun z => nj ?_
      subst z
      exact h.inj j i b o2 o h1 ha q hs m2 m
  · have getm : ∀ (j : Nat) o1, ρ[j]? = some b → (S.set i o')[j]? = some o1 → mutb o1 = true → ∃ o2, S[j]? = some o2 ∧ mutb o2 = true := fun j o1 q1 q2 q3 => by
      rcases at_ j b o1 q2 with ⟨rfl, rfl⟩ | ⟨nj, q⟩
      · exact ⟨o, hs, m⟩
      · exact ⟨o1, q, q3⟩
    obtain ⟨p1, e1, e2⟩ := getm j o1 h1 h3 m1
    obtain ⟨p2, e3, e4⟩ := getm k o2 h2 h4 m2
    exact h.inj j k b p1 p2 h1 h2 e1 e3 e2 e4
theorem SRel.at {i : Nat} {o : O} (h : SRel Γ ρ H S) (hs : S[i]? = some o) : ∃ a, ρ[i]? = some a ∧ ORep Γ ρ H a o := by
  have hi : i < ρ.length := by rw [h.len]; exact (List.getElem?_eq_some_iff.mp hs).1
  exact ⟨ρ[i], List.getElem?_eq_getElem hi, h.obj i _ o (List.getElem?_eq_getElem hi) hs⟩
end

/-! ### readings by meanings -/
/-- a wish about exceptions, whatever the slots -/
abbrev XW := Value → Option Addr → Hp → Prop
section
variable (Γ) (W : WX)
/-- what is wanted of a result -/
def Post {α β : Type} (rep : List Addr → Hp → β → α → Prop) (ρ : List Addr) (H : Hp) (σ : L2.St) (L : Loc) (r : R α) (Q : β → Hp → Prop) : Prop := match r with
  | .ok d S' => ∀ ρ' H' v, ρ <+: ρ' → Ext H H' → Rel Γ ρ' H' σ L S' → rep ρ' H' v d → Q v H'
  | .exc e S' => ∀ ρ' H' dx, ρ <+: ρ' → Ext H H' → SRel Γ ρ' H' S' → XRep Γ ρ' H' e dx → W (.ref (Γ.ca e.c)) dx σ H'
  | .bad => False
def tM {α β : Type} (rep : List Addr → Hp → β → α → Prop) (f : F α) (σ : L2.St) (H : Hp) (Q : β → Hp → Prop) : Prop := ∃ ρ L S, Rel Γ ρ H σ L S ∧ Post Γ W rep ρ H σ L (f L S) Q
abbrev tD (f : F D) : TE := tM Γ W (Rep Γ) f
abbrev tDs (f : F (List D)) : TA := tM Γ W (Reps Γ) f
abbrev repB : List Addr → Hp → Bool → Bool → Prop := fun _ _ b d => b = d
abbrev tBl (f : F Bool) : TT := tM Γ W repB f
abbrev repO : List Addr → Hp → Option Int → Option Int → Prop := fun _ _ b d => b = d
abbrev tOi (f : F (Option Int)) : TO := tM Γ W repO f
end
section
variable {W : WX} {α β γ δ : Type} {rep : List Addr → Hp → β → α → Prop} {ρ : List Addr} {H : Hp} {σ : L2.St} {L : Loc} {S : Sto}
theorem Post.mono {r : R α} {Q : β → Hp → Prop} {ρ' : List Addr} {H' : Hp} (hp : ρ <+: ρ') (e : Ext H H') (h : Post Γ W rep ρ H σ L r Q) : Post Γ W rep ρ' H' σ L r Q := by
  cases r with
  | ok d S' => exact fun ρ2 H2 v p2 e2 rl rp => h ρ2 H2 v (hp.trans p2) (e.trans e2) rl rp
  | exc x S' => exact fun ρ2 H2 dx p2 e2 rl rp => h ρ2 H2 dx (hp.trans p2) (e.trans e2) rl rp
  | bad => exact h
theorem Post.imp {r : R α} {Q Q' : β → Hp → Prop} (h : Post Γ W rep ρ H σ L r Q) (i : ∀ v H', Q v H' → Q' v H') : Post Γ W rep ρ H σ L r Q' := by
  cases r with
  | ok d S' => exact fun ρ2 H2 v p2 e2 rl rp => i _ _ (h ρ2 H2 v p2 e2 rl rp)
  | exc x S' => exact h
  | bad => exact h
/-- one thing, then another -/
theorem Post.bind {rep' : List Addr → Hp → δ → γ → Prop} {m : M α} {k : α → M γ} {Q : δ → Hp → Prop} {Q' : β → Hp → Prop} (h : Post Γ W rep' ρ H σ L (M.bind m k S) Q)
    (hk : ∀ d S' ρ' H' v, ρ <+: ρ' → Ext H H' → Rel Γ ρ' H' σ L S' → rep ρ' H' v d → Post Γ W rep' ρ' H' σ L (k d S') Q → Q' v H') : Post Γ W rep ρ H σ L (m S) Q' := by
  unfold M.bind at h
  cases e : m S with
  | ok d S' =>
    rw [e] at h
    exact fun ρ' H' v p x rl rp => hk d S' ρ' H' v p x rl rp (Post.mono p x h)
  | exc x S' =>
    rw [e] at h
    exact h
  | bad =>
    rw [e] at h
    exact h.elim
end
/-! ### judgements, weakened and joined -/
section
variable {X : Cx} {e : Expr} {W : WX}
theorem PE.weak {t t' : TE} (h : PE X e t) (i : ∀ σ H Q, t' σ H Q → t σ H Q) : PE X e t' := ⟨fun pins s σ H Q I hw => h.run pins s σ H Q I (i σ H Q hw)⟩
theorem PT.weak {t t' : TT} (h : PT X e t) (i : ∀ σ H Q, t' σ H Q → t σ H Q) : PT X e t' := ⟨fun pins s σ H Q I hw => h.run pins s σ H Q I (i σ H Q hw)⟩
theorem PA.weak {es : List Expr} {t t' : TA} (h : PA X es t) (i : ∀ σ H Q, t' σ H Q → t σ H Q) : PA X es t' := ⟨fun pos pins s σ H Q I hw => h.run pos pins s σ H Q I (i σ H Q hw)⟩
theorem PK.weak {es : List Keyword} {t t' : TA} (h : PK X es t) (i : ∀ σ H Q, t' σ H Q → t σ H Q) : PK X es t' := ⟨fun pos pins s σ H Q I hw => h.run pos pins s σ H Q I (i σ H Q hw)⟩
theorem PS.weak {st : Stmt} {t t' : TS} (h : PS X st t) (i : ∀ D σ H, t' D σ H → t D σ H) : PS X st t' := ⟨fun pins s σ H D I hw => h.run pins s σ H D I (i D σ H hw)⟩
theorem PSs.weak {st : List Stmt} {t t' : TS} (h : PSs X st t) (i : ∀ D σ H, t' D σ H → t D σ H) : PSs X st t' := ⟨fun pins s σ H D I hw => h.run pins s σ H D I (i D σ H hw)⟩
theorem PE.or {t t' : TE} (h : PE X e t) (h' : PE X e t') : PE X e (fun σ H Q => t σ H Q ∨ t' σ H Q) := ⟨fun pins s σ H Q I hw => hw.elim (h.run pins s σ H Q I) (h'.run pins s σ H Q I)⟩
theorem PI.or {tg : Expr} {t t' : TI} (h : PI X tg e t) (h' : PI X tg e t') : PI X tg e (fun σ H Q => t σ H Q ∨ t' σ H Q) := ⟨fun pins s σ H Q I hw => hw.elim (h.run pins s σ H Q I) (h'.run pins s σ H Q I)⟩
theorem PE.no : PE X e (tD Γ W FBad) := ⟨fun _ _ _ _ _ _ ⟨_, _, _, _, h⟩ => h.elim⟩
theorem PT.no : PT X e (tBl Γ W FBad) := ⟨fun _ _ _ _ _ _ ⟨_, _, _, _, h⟩ => h.elim⟩
end
/-! ### operations -/
section
variable {X : Cx} {W : WX} {a b c : Expr} {pos : Pos} {fa fb fc : F D}
/-- what an operation on values keeps -/
def Spec2 (Γ : Gm) {β α : Type} (rep : List Addr → Hp → β → α → Prop) (r : V → V → Hp → (β → Hp → Prop) → Prop) (g : D → D → M α) : Prop := ∀ (W : WX) ρ H σ L S x y d1 d2 Q, Rel Γ ρ H σ L S → Rep Γ ρ H x d1 → Rep Γ ρ H y d2 → Post Γ W rep ρ H σ L (g d1 d2 S) Q → r x y H Q
def Spec1 (Γ : Gm) {β α : Type} (rep : List Addr → Hp → β → α → Prop) (r : V → Hp → (β → Hp → Prop) → Prop) (g : D → M α) : Prop := ∀ (W : WX) ρ H σ L S x d1 Q, Rel Γ ρ H σ L S → Rep Γ ρ H x d1 → Post Γ W rep ρ H σ L (g d1 S) Q → r x H Q
def SpecN (Γ : Gm) (r : List V → Hp → VK → Prop) (g : List D → M D) : Prop := ∀ (W : WX) ρ H σ L S xs ds Q, Rel Γ ρ H σ L S → Reps Γ ρ H xs ds → Post Γ W (Rep Γ) ρ H σ L (g ds S) Q → r xs H Q
theorem w_op2 {r : R2} {g : D → D → M D} (sp : Spec2 Γ (Rep Γ) r g) {σ : L2.St} {H : Hp} {Q : VK} (h : tD Γ W (F.bind fa fun x => F.bind fb fun y _ => g x y) σ H Q) : tOp r (tD Γ W fa) (tD Γ W fb) σ H Q := by
  obtain ⟨ρ, L, S, rl, h⟩ := h
  exact ⟨ρ, L, S, rl, Post.bind h fun d S1 ρ1 H1 v p1 e1 rl1 r1 h1 => ⟨ρ1, L, S1, rl1, Post.bind h1 fun d2 S2 ρ2 H2 v2 p2 e2 rl2 r2 h2 =>
    sp W ρ2 H2 σ L S2 v v2 d d2 Q rl2 (Rep.mono p2 e2 d r1) r2 h2⟩⟩
theorem w_op1 {r : V → Hp → VK → Prop} {g : D → M D} (sp : Spec1 Γ (Rep Γ) r g) {σ : L2.St} {H : Hp} {Q : VK} (h : tD Γ W (F.bind fa fun x _ => g x) σ H Q) : tUn r (tD Γ W fa) σ H Q := by
  obtain ⟨ρ, L, S, rl, h⟩ := h
  exact ⟨ρ, L, S, rl, Post.bind h fun d S1 ρ1 H1 v p1 e1 rl1 r1 h1 => sp W ρ1 H1 σ L S1 v d Q rl1 r1 h1⟩
theorem g_op2 {op : Operator} {r : R2} {g : D → D → M D} (ho : OpR X (binaryOp op) r) (sp : Spec2 Γ (Rep Γ) r g) (ha : PE X a (tD Γ W fa)) (hb : PE X b (tD Γ W fb)) : PE X (.BinOp a op b pos) (tD Γ W (F.bind fa fun x => F.bind fb fun y _ => g x y)) :=
  PE.weak (pe_op ho ha hb) fun _ _ _ h => w_op2 sp h
/-- a value just so -/
theorem post_here {α β : Type} {rep : List Addr → Hp → β → α → Prop} {ρ : List Addr} {H : Hp} {σ : L2.St} {L : Loc} {S : Sto} {d : α} {v : β} {Q : β → Hp → Prop} (h : Post Γ W rep ρ H σ L (.ok d S) Q) (rl : Rel Γ ρ H σ L S) (r : rep ρ H v d) : Q v H :=
  h ρ H v (List.prefix_refl _) (Ext.refl _) rl r
/-! ints, texts -/
theorem rep_int {ρ : List Addr} {H : Hp} {v : V} {i : Int} : Rep Γ ρ H v (.int i) ↔ v = .int i := by simp only [Rep]
theorem rep_str {ρ : List Addr} {H : Hp} {v : V} {s : List Nat} : Rep Γ ρ H v (.str s) ↔ v = .str ⟨s.toArray⟩ ∧ ∀ c ∈ s, c < 1114112 := by simp only [Rep]
theorem rep_bl {ρ : List Addr} {H : Hp} {v : V} {b : Bool} : Rep Γ ρ H v (.bl b) ↔ v = .bl b := by simp only [Rep]
theorem rep_non {ρ : List Addr} {H : Hp} {v : V} : Rep Γ ρ H v .non ↔ v = .non := by simp only [Rep]
/-- + -/
def rAdd : R2 := fun x y H Q => (rI0 (fun i j => .int (i + j)) x y H Q) ∨ (∃ i j : PySem.Str, x = .str i ∧ y = .str j ∧ i.length + j.length ≤ sizeLine ∧ Q (.str (i ++ j)) H)
theorem or_add : OpR X (binaryOp .Add) rAdd := OpR.or op_add op_add_str
theorem str_app (s t : List Nat) : (⟨s.toArray⟩ ++ ⟨t.toArray⟩ : PySem.Str) = ⟨(s ++ t).toArray⟩ := by
  show (PySem.Str.mk (s.toArray ++ t.toArray)) = _
  simp
theorem str_len (s : List Nat) : (⟨s.toArray⟩ : PySem.Str).length = s.length := by
  show s.toArray.size = _
  simp
theorem line16 {n : Nat} (h : n ≤ 16000000) : n ≤ sizeLine := Nat.le_trans h (by decide)
section
variable {α β : Type} {rep : List Addr → Hp → β → α → Prop} {ρ : List Addr} {H : Hp} {σ : L2.St} {L : Loc} {S : Sto} {Q : β → Hp → Prop}
theorem post_if {p : Prop} [Decidable p] {m : M α} (h : Post Γ W rep ρ H σ L ((if p then m else M.bad) S) Q) : p ∧ Post Γ W rep ρ H σ L (m S) Q := by
  by_cases hp : p
  · rw [if_pos hp] at h
    exact ⟨hp, h⟩
  · rw [if_neg hp] at h
    exact h.elim
end
theorem sp_sub : Spec2 Γ (Rep Γ) (rI0 fun i j => .int (i - j)) (op2 .sub) := by
  intro W ρ H σ L S x y d1 d2 Q rl r1 r2 h
  cases d1 <;> cases d2 <;> try exact h.elim
  rw [rep_int] at r1 r2
  exact ⟨_, _, r1, r2, post_here h rl (rep_int.mpr rfl)⟩
/-- * -/
def rMul : R2 := fun x y H Q => ((rI CMul (fun i j => .int (i * j)) x y H Q) ∨ (rI CMulW (fun i j => .int (i * j)) x y H Q)) ∨
  (∃ (i : PySem.Str) (j : Int), x = .str i ∧ y = .int j ∧ PySem.MulOk i j ∧ Q (.str (Txt.mul i j)) H)
theorem op_mul_str : OpR X (binaryOp .Mult) (fun x y H Q => ∃ (i : PySem.Str) (j : Int), x = .str i ∧ y = .int j ∧ PySem.MulOk i j ∧ Q (.str (Txt.mul i j)) H) := by
  intro pins s σ H x y v u Q I rx ry h
  obtain ⟨i, j, rfl, rfl, ok, q⟩ := h
  obtain ⟨t, rfl⟩ := rx
  obtain ⟨t', rfl⟩ := ry
  exact SB.mul ok fun t2 k => ⟨.str _, H, I.tok _, ⟨_, rfl⟩, q⟩
theorem or_mul : OpR X (binaryOp .Mult) rMul := OpR.or (OpR.or op_mul op_mulW) op_mul_str
theorem foldl_arr (s : List Nat) : ∀ (m : Nat) (acc : List Nat), (List.replicate m s.toArray).foldl (· ++ ·) acc.toArray = (acc ++ (List.replicate m s).flatten).toArray
  | 0, acc => by simp
  | m + 1, acc => by
    rw [List.replicate_succ, List.foldl_cons, List.append_toArray, foldl_arr s m (acc ++ s), List.replicate_succ, List.flatten_cons, List.append_assoc]
theorem flatten_nils : ∀ m : Nat, (List.replicate m ([] : List Nat)).flatten = []
  | 0 => rfl
  | m + 1 => by rw [List.replicate_succ, List.flatten_cons, flatten_nils m]; rfl
theorem txt_mul (s : List Nat) (n : Int) : Txt.mul ⟨s.toArray⟩ n = ⟨(List.replicate n.toNat s).flatten.toArray⟩ := by
  unfold Txt.mul
  by_cases h1 : n < 1
  · rw [if_pos h1, show n.toNat = 0 by omega]
    rfl
  · rw [if_neg h1]
    by_cases h2 : (n == 1 || (⟨s.toArray⟩ : PySem.Str).length == 0) = true
    · rw [if_pos h2]
      simp only [Bool.or_eq_true, beq_iff_eq] at h2
      rcases h2 with rfl | h2
      · simp
      · rw [str_len] at h2
        have : s = [] := List.length_eq_zero_iff.mp h2
        subst this
        rw [flatten_nils]
    · rw [if_neg h2]
      have := foldl_arr s n.toNat []
      rw [List.nil_append] at this
      exact congrArg PySem.Str.mk this
theorem sp_fdiv : Spec2 Γ (Rep Γ) (rI CDivW fun i j => .int (i / j)) (op2 .fdiv) := by
  intro W ρ H σ L S x y d1 d2 Q rl r1 r2 h
  cases d1 <;> cases d2 <;> try exact h.elim
  rw [rep_int] at r1 r2
  obtain ⟨hl, h⟩ := post_if (m := M.pure _) h
  exact ⟨_, _, r1, r2, hl, post_here h rl (rep_int.mpr rfl)⟩
theorem sp_mod : Spec2 Γ (Rep Γ) (rI (fun _ j => 0 < j) fun i j => .int (i % j)) (op2 .mod) := by
  intro W ρ H σ L S x y d1 d2 Q rl r1 r2 h
  cases d1 <;> cases d2 <;> try exact h.elim
  rw [rep_int] at r1 r2
  obtain ⟨hl, h⟩ := post_if (m := M.pure _) h
  exact ⟨_, _, r1, r2, hl, post_here h rl (rep_int.mpr rfl)⟩
theorem sp_pow : Spec2 Γ (Rep Γ) (rI CPow fun i j => .int (i ^ j.toNat)) (op2 .pow) := by
  intro W ρ H σ L S x y d1 d2 Q rl r1 r2 h
  cases d1 <;> cases d2 <;> try exact h.elim
  rw [rep_int] at r1 r2
  obtain ⟨hl, h⟩ := post_if (m := M.pure _) h
  exact ⟨_, _, r1, r2, hl, post_here h rl (rep_int.mpr rfl)⟩
theorem sp_shl : Spec2 Γ (Rep Γ) (rI CPow fun i j => .int (i * 2 ^ j.toNat)) (op2 .shl) := by
  intro W ρ H σ L S x y d1 d2 Q rl r1 r2 h
  cases d1 <;> cases d2 <;> try exact h.elim
  rw [rep_int] at r1 r2
  obtain ⟨hl, h⟩ := post_if (m := M.pure _) h
  exact ⟨_, _, r1, r2, hl, post_here h rl (rep_int.mpr rfl)⟩
/-! ### data -/
mutual
def toPy : T → PyData
  | .non => .none
  | .bl b => .bool b
  | .int i => .int i
  | .str s => .str ⟨s.toArray⟩
  | .lst xs => .list (toPys xs)
  | .tup xs => .tuple (toPys xs)
def toPys : List T → List PyData
  | [] => []
  | x :: xs => toPy x :: toPys xs
end
mutual
theorem eqv_py : ∀ a b : T, PyData.eqv (toPy a) (toPy b) = T.eqv a b
  | .non, b => by cases b <;> rfl
  | .bl x, b => by cases b <;> rfl
  | .int i, b => by cases b <;> rfl
  | .str s, b => by
    cases b <;> try rfl
    rename_i t
    show ((⟨s.toArray⟩ : PySem.Str) == ⟨t.toArray⟩) = (s == t)
    by_cases e : s = t
    · subst e; simp
    · have : (⟨s.toArray⟩ : PySem.Str) ≠ ⟨t.toArray⟩ := fun q => e (by injection q with q; simpa using congrArg Array.toList q)
      rw [beq_eq_false_iff_ne.mpr this, beq_eq_false_iff_ne.mpr e]
  | .lst xs, b => by
    cases b <;> try rfl
    exact eqvs_py xs _
  | .tup xs, b => by
    cases b <;> try rfl
    exact eqvs_py xs _
theorem eqvs_py : ∀ a b : List T, PyData.eqvAll (toPys a) (toPys b) = T.eqvs a b
  | [], b => by cases b <;> rfl
  | x :: xs, b => by
    cases b with
    | nil => rfl
    | cons y ys =>
      show (PyData.eqv (toPy x) (toPy y) && PyData.eqvAll (toPys xs) (toPys ys)) = (T.eqv x y && T.eqvs xs ys)
      rw [eqv_py x y, eqvs_py xs ys]
end
theorem roL {K : PySem.W.Frag} {H : Hp} {a : Addr} {xs : List V} (h : (∃ o, H a = some (.frz o (.lst xs))) ∨ SqL K (fun _ => none) a xs) : SqL K H a xs := by
  rcases h with ⟨o, h⟩ | (h | ⟨o, h⟩) | h
  · exact .inl (.inr ⟨o, h⟩)
  · cases h
  · cases h
  · exact .inr h
section
variable {ρ : List Addr} {H : Hp} {S : Sto}
/-- a list of the store -/
theorem SRel.seq {i : Nat} {ds : List D} (rs : SRel Γ ρ H S) (h : seqOf S (.ref i) = some ds) : ∃ a xs, ρ[i]? = some a ∧ SqL Γ.K H a xs ∧ Reps Γ ρ H xs ds := by
  unfold seqOf at h
  cases e : S[i]? with
  | none => simp [e] at h
  | some o =>
    obtain ⟨a, ha, r⟩ := rs.at e
    cases o with
    | lst xs =>
      simp [e] at h
      subst h
      obtain ⟨vs, q, r⟩ := r
      exact ⟨a, vs, ha, SqL.of q, r⟩
    | ro xs =>
      simp [e] at h
      subst h
      obtain ⟨vs, q, r⟩ := r
      exact ⟨a, vs, ha, roL q, r⟩
    | dct _ => simp [e] at h
    | ins _ _ => simp [e] at h
theorem SRel.seqD {d : D} {v : V} {ds : List D} (rs : SRel Γ ρ H S) (r : Rep Γ ρ H v d) (h : seqOf S d = some ds) : ∃ a xs, v = .ref a ∧ (SqL Γ.K H a xs ∨ SqT Γ.K H a xs) ∧ Reps Γ ρ H xs ds := by
  cases d with
  | tup xs =>
    simp only [seqOf, Option.some.injEq] at h
    subst h
    simp only [Rep] at r
    obtain ⟨p, vs, e, q, r⟩ := r
    exact ⟨p, vs, e, .inr q, r⟩
  | ref i =>
    obtain ⟨a, xs, e, q, r'⟩ := rs.seq h
    simp only [Rep] at r
    obtain ⟨b, e1, e2⟩ := r
    rw [e] at e2; cases e2
    exact ⟨a, xs, e1, .inl q, r'⟩
  | _ => simp [seqOf] at h
theorem depth_max (a b n : Nat) : max a b ≤ n ↔ a ≤ n ∧ b ≤ n := by omega
mutual
theorem data_ok (rs : SRel Γ ρ H S) : ∀ (n : Nat) (d : D) (v : V) (t : T), Rep Γ ρ H v d → dataOf S n d = some t → Dp Γ.K H v (toPy t) ∧ (toPy t).canLay0 = true ∧ (toPy t).depth ≤ n
  | 0, _, _, _, _, h => by simp [dataOf] at h
  | n + 1, d, v, t, r, h => by
    cases d with
    | non =>
      simp [dataOf] at h; subst h
      rw [rep_non] at r; subst r
      exact ⟨.non, rfl, Nat.zero_le _⟩
    | bl b =>
      simp [dataOf] at h; subst h
      rw [rep_bl] at r; subst r
      exact ⟨.bl b, rfl, Nat.zero_le _⟩
    | int i =>
      simp [dataOf] at h; subst h
      rw [rep_int] at r; subst r
      exact ⟨.int i, rfl, Nat.zero_le _⟩
    | str s =>
      simp [dataOf] at h; subst h
      rw [rep_str] at r
      obtain ⟨rfl, hc⟩ := r
      refine ⟨.str _, ?_, Nat.zero_le _⟩
      show PyData.strOk ⟨s.toArray⟩ = true
      unfold PyData.strOk
      simp only [Array.all_eq_true]
      intro i hi
      simp at hi ⊢
      exact hc _ (List.getElem_mem _)
    | tup ds =>
      simp only [dataOf] at h
      simp only [Rep] at r
      obtain ⟨p, xs, rfl, q, r⟩ := r
      cases e : datasOf S n ds with
      | none => rw [e] at h; cases h
      | some ts =>
        rw [e] at h
        have : T.tup ts = t := by simpa using h
        subst this
        obtain ⟨h1, h2, h3⟩ := datas_ok rs n ds xs ts r e
        exact ⟨.tup q h1, h2, by show PyData.depthAll (toPys ts) + 1 ≤ n + 1; omega⟩
    | ref i =>
      have go : ∀ ds, seqOf S (.ref i) = some ds → (datasOf S n ds).map T.lst = some t → Dp Γ.K H v (toPy t) ∧ (toPy t).canLay0 = true ∧ (toPy t).depth ≤ n + 1 := fun ds hs h => by
        obtain ⟨a, xs, ea, q, rr⟩ := rs.seq hs
        simp only [Rep] at r
        obtain ⟨b, e1, e2⟩ := r
        rw [ea] at e2; cases e2
        subst e1
        cases e : datasOf S n ds with
        | none => rw [e] at h; cases h
        | some ts =>
          rw [e] at h
          have : T.lst ts = t := by simpa using h
          subst this
          obtain ⟨h1, h2, h3⟩ := datas_ok rs n ds xs ts rr e
          exact ⟨.lst q h1, h2, by show PyData.depthAll (toPys ts) + 1 ≤ n + 1; omega⟩
      simp only [dataOf] at h
      cases e : S[i]? with
      | none => simp [e] at h
      | some o =>
        cases o with
        | lst ds =>
          simp only [e] at h
          exact go ds (by simp [seqOf, e]) h
        | ro ds =>
          simp only [e] at h
          exact go ds (by simp [seqOf, e]) h
        | dct _ => simp [e] at h
        | ins _ _ => simp [e] at h
    | fn i => simp [dataOf] at h
    | cls i => simp [dataOf] at h
    | ty i => simp [dataOf] at h
theorem datas_ok (rs : SRel Γ ρ H S) : ∀ (n : Nat) (ds : List D) (vs : List V) (ts : List T), Reps Γ ρ H vs ds → datasOf S n ds = some ts → DpAll Γ.K H vs (toPys ts) ∧ PyData.canLayAll0 (toPys ts) = true ∧ PyData.depthAll (toPys ts) ≤ n
  | n, [], vs, ts, r, h => by
    simp [datasOf] at h; subst h
    rw [Reps.nil_iff] at r; subst r
    exact ⟨.nil, rfl, Nat.zero_le _⟩
  | n, d :: ds, vs, ts, r, h => by
    rw [Reps.cons_iff] at r
    obtain ⟨v, rv, rfl, r1, r2⟩ := r
    simp only [datasOf] at h
    cases e1 : dataOf S n d with
    | none => simp [e1] at h
    | some t =>
      cases e2 : datasOf S n ds with
      | none => simp [e1, e2] at h
      | some ts' =>
        simp [e1, e2] at h
        subst h
        obtain ⟨a1, a2, a3⟩ := data_ok rs n d v t r1 e1
        obtain ⟨b1, b2, b3⟩ := datas_ok rs n ds rv ts' r2 e2
        refine ⟨.cons a1 b1, ?_, ?_⟩
        · show ((toPy t).canLay0 && PyData.canLayAll0 (toPys ts')) = true
          rw [a2, b2]; rfl
        · show max (toPy t).depth (PyData.depthAll (toPys ts')) ≤ n
          rw [depth_max]
          exact ⟨a3, b3⟩
end
end
end
end Bv
end
section
namespace Bv
open PySem L2 PyProof.Rows
theorem M.bind_assoc {α β γ : Type} (m : M α) (k : α → M β) (j : β → M γ) : M.bind (M.bind m k) j = M.bind m fun a => M.bind (k a) j := by
  funext S
  unfold M.bind
  cases m S <;> rfl
theorem F.bind_assoc {α β γ : Type} (m : F α) (k : α → F β) (j : β → F γ) : F.bind (F.bind m k) j = F.bind m fun a => F.bind (k a) j := by
  funext L
  exact M.bind_assoc _ _ _
variable {Γ : Gm} {X : Cx} {W : WX} {a b c : Expr} {pos : Pos} {fa fb fc : F D}
/-! ### comparisons -/
abbrev repK : List Addr → Hp → V → Bool → Prop := fun _ _ v k => v = .bl k
abbrev SpecC (Γ : Gm) (r : R2) (g : D → D → M Bool) : Prop := Spec2 Γ repK r g
theorem shaped_of {t : T} (h1 : (toPy t).canLay0 = true) (h2 : (toPy t).depth ≤ 60) : SeqAt.shaped (toPy t) = true := by
  unfold SeqAt.shaped
  rw [h1, Bool.true_and]
  exact decide_eq_true (by omega)
theorem sp_eq : SpecC Γ (rEqD Γ.K) (cmp2 .eq) := by
  intro W ρ H σ L S x y d1 d2 Q rl r1 r2 h
  change Post Γ W repK ρ H σ L (eqD d1 d2 S) Q at h
  rw [eqD_eq] at h
  cases e1 : dataOf S 60 d1 with
  | none => simp [e1, Post] at h
  | some t1 =>
    cases e2 : dataOf S 60 d2 with
    | none => simp [e1, e2, Post] at h
    | some t2 =>
      simp only [e1, e2] at h
      obtain ⟨a1, a2, a3⟩ := data_ok rl.s 60 d1 x t1 r1 e1
      obtain ⟨b1, b2, b3⟩ := data_ok rl.s 60 d2 y t2 r2 e2
      refine ⟨_, _, a1, b1, shaped_of a2 a3, shaped_of b2 b3, ?_⟩
      rw [eqv_py]
      exact post_here h rl rfl
theorem sp_ne : SpecC Γ (rNeD Γ.K) (cmp2 .ne) := by
  intro W ρ H σ L S x y d1 d2 Q rl r1 r2 h
  change Post Γ W repK ρ H σ L (M.bind (eqD d1 d2) (fun k => M.pure (!k)) S) Q at h
  unfold M.bind at h
  rw [eqD_eq] at h
  cases e1 : dataOf S 60 d1 with
  | none => simp [e1, Post] at h
  | some t1 =>
    cases e2 : dataOf S 60 d2 with
    | none => simp [e1, e2, Post] at h
    | some t2 =>
      simp only [e1, e2] at h
      obtain ⟨a1, a2, a3⟩ := data_ok rl.s 60 d1 x t1 r1 e1
      obtain ⟨b1, b2, b3⟩ := data_ok rl.s 60 d2 y t2 r2 e2
      refine ⟨_, _, a1, b1, shaped_of a2 a3, shaped_of b2 b3, ?_⟩
      rw [eqv_py]
      exact post_here h rl rfl
theorem sp_lt : SpecC Γ (rI0 fun i j => .bl (decide (i < j))) (cmp2 .lt) := by
  intro W ρ H σ L S x y d1 d2 Q rl r1 r2 h
  cases d1 <;> cases d2 <;> try exact h.elim
  rw [rep_int] at r1 r2
  exact ⟨_, _, r1, r2, post_here h rl rfl⟩
theorem sp_le : SpecC Γ (rI0 fun i j => .bl (decide (i ≤ j))) (cmp2 .le) := by
  intro W ρ H σ L S x y d1 d2 Q rl r1 r2 h
  cases d1 <;> cases d2 <;> try exact h.elim
  rw [rep_int] at r1 r2
  exact ⟨_, _, r1, r2, post_here h rl rfl⟩
theorem sp_gt : SpecC Γ (rI0 fun i j => .bl (decide (j < i))) (cmp2 .gt) := by
  intro W ρ H σ L S x y d1 d2 Q rl r1 r2 h
  cases d1 <;> cases d2 <;> try exact h.elim
  rw [rep_int] at r1 r2
  exact ⟨_, _, r1, r2, post_here h rl rfl⟩
theorem sp_ge : SpecC Γ (rI0 fun i j => .bl (decide (j ≤ i))) (cmp2 .ge) := by
  intro W ρ H σ L S x y d1 d2 Q rl r1 r2 h
  cases d1 <;> cases d2 <;> try exact h.elim
  rw [rep_int] at r1 r2
  exact ⟨_, _, r1, r2, post_here h rl rfl⟩
/-- is None -/
theorem rep_none {ρ : List Addr} {H : Hp} {v : V} {d : D} (r : Rep Γ ρ H v d) (h : v = .non) : d = .non := by
  subst h
  cases d with
  | non => rfl
  | tup ds => simp only [Rep] at r; obtain ⟨_, _, e, _⟩ := r; cases e
  | ref i => simp only [Rep] at r; obtain ⟨_, e, _⟩ := r; cases e
  | str s => simp only [Rep] at r; cases r.1
  | _ => simp only [Rep] at r; cases r
def rIsA : R2 := fun x y H Q => (y = .non ∧ Q (.bl (decide (x = .non))) H) ∨ rIsB x y H Q
def rNotA : R2 := fun x y H Q => (y = .non ∧ Q (.bl (!decide (x = .non))) H) ∨ rNotB x y H Q
theorem or_is : OpR X (compareOp .Is) rIsA := OpR.or op_isN op_isBl
theorem or_isnt : OpR X (compareOp .IsNot) rNotA := OpR.or op_notN op_notBl
theorem sp_is : SpecC Γ rIsA (cmp2 .is) := by
  intro W ρ H σ L S x y d1 d2 Q rl r1 r2 h
  have no : ∀ (e : d1 ≠ .non), decide (x = .non) = false := fun e => decide_eq_false fun z => e (rep_none r1 z)
  cases d2 with
  | non =>
    rw [rep_non] at r2
    refine .inl ⟨r2, ?_⟩
    cases d1 with
    | non =>
      rw [rep_non] at r1; subst r1
      exact post_here h rl rfl
    | fn _ => exact h.elim
    | cls _ => exact h.elim
    | ty _ => exact h.elim
    | _ => exact post_here h rl (by rw [no (by intro z; cases z)])
  | bl b =>
    cases d1 with
    | bl a =>
      rw [rep_bl] at r1 r2
      exact .inr ⟨a, b, r1, r2, post_here h rl rfl⟩
    | _ => exact h.elim
  | _ => cases d1 <;> exact h.elim
theorem sp_isnt : SpecC Γ rNotA (cmp2 .isnt) := by
  intro W ρ H σ L S x y d1 d2 Q rl r1 r2 h
  have no : ∀ (e : d1 ≠ .non), decide (x = .non) = false := fun e => decide_eq_false fun z => e (rep_none r1 z)
  cases d2 with
  | non =>
    rw [rep_non] at r2
    refine .inl ⟨r2, ?_⟩
    cases d1 with
    | non =>
      rw [rep_non] at r1; subst r1
      exact post_here h rl rfl
    | fn _ => exact h.elim
    | cls _ => exact h.elim
    | ty _ => exact h.elim
    | _ => exact post_here h rl (by rw [no (by intro z; cases z)]; rfl)
  | bl b =>
    cases d1 with
    | bl a =>
      rw [rep_bl] at r1 r2
      exact .inr ⟨a, b, r1, r2, post_here h rl rfl⟩
    | _ => exact h.elim
  | _ => cases d1 <;> exact h.elim
/-! in -/
theorem flat_eqV {ρ : List Addr} {H : Hp} {v w : V} {d e : D} {t u : T} (r : Rep Γ ρ H v d) (r' : Rep Γ ρ H w e) (h : flat d = some t) (h' : flat e = some u) : flatV v = true ∧ flatV w = true ∧ eqV w v = T.eqv t u := by
  have sym : ∀ (i j : Int), (i == j) = (j == i) := fun i j => by
    by_cases q : i = j
    · subst q; rfl
    · rw [beq_eq_false_iff_ne.mpr q, beq_eq_false_iff_ne.mpr (Ne.symm q)]
  have symb : ∀ (i j : Bool), (i == j) = (j == i) := by decide
  cases d <;> simp [flat] at h <;> cases e <;> simp [flat] at h' <;> subst h <;> subst h' <;> simp only [Rep] at r r'
  case str.str s t =>
    obtain ⟨rfl, _⟩ := r
    obtain ⟨rfl, _⟩ := r'
    refine ⟨rfl, rfl, ?_⟩
    show ((⟨t.toArray⟩ : PySem.Str) == ⟨s.toArray⟩) = (s == t)
    by_cases e : s = t
    · subst e; simp
    · have : (⟨t.toArray⟩ : PySem.Str) ≠ ⟨s.toArray⟩ := fun q => e (by injection q with q; simpa using (congrArg Array.toList q).symm)
      rw [beq_eq_false_iff_ne.mpr this, beq_eq_false_iff_ne.mpr e]
  all_goals first
    | (obtain ⟨rfl, _⟩ := r; obtain ⟨rfl, _⟩ := r'; exact ⟨rfl, rfl, rfl⟩)
    | (obtain ⟨rfl, _⟩ := r; subst r'; exact ⟨rfl, rfl, rfl⟩)
    | (obtain ⟨rfl, _⟩ := r'; subst r; exact ⟨rfl, rfl, rfl⟩)
    | (subst r; subst r'; exact ⟨rfl, rfl, rfl⟩)
    | (subst r; subst r'; exact ⟨rfl, rfl, symb _ _⟩)
    | (subst r; subst r'; exact ⟨rfl, rfl, sym _ _⟩)
theorem in_eq {ρ : List Addr} {H : Hp} {v : V} {d : D} {t : T} (r : Rep Γ ρ H v d) (h : flat d = some t) : ∀ {xs : List V} {ds : List D} {ts : List T}, Reps Γ ρ H xs ds → ds.mapM flat = some ts → xs.all flatV = true ∧ inV v xs = ts.any fun u => T.eqv t u
  | xs, [], ts, rs, hm => by
    rw [Reps.nil_iff] at rs; subst rs
    simp at hm; subst hm
    exact ⟨rfl, rfl⟩
  | xs, e :: ds, ts, rs, hm => by
    rw [Reps.cons_iff] at rs
    obtain ⟨w, ws, rfl, r1, r2⟩ := rs
    rw [List.mapM_cons] at hm
    cases h1 : flat e with
    | none => rw [h1] at hm; cases hm
    | some u =>
      cases h2 : ds.mapM flat with
      | none => rw [h1, h2] at hm; cases hm
      | some us =>
        rw [h1, h2] at hm
        have : u :: us = ts := by simpa using hm
        subst this
        obtain ⟨f1, f2, f3⟩ := flat_eqV r r1 h h1
        obtain ⟨g1, g2⟩ := in_eq r h r2 h2
        refine ⟨by simp [f2, g1], ?_⟩
        show (eqV w v || inV v ws) = _
        rw [f3, g2]
        rfl
end Bv
namespace Bv
open PySem L2 PyProof.Rows
variable {Γ : Gm} {X : Cx} {W : WX} {a b c : Expr} {pos : Pos} {fa fb fc : F D}
def rInA (K : PySem.W.Frag) : R2 := fun x y H Q => rIn K false x y H Q ∨ (∃ (c : Nat) (z : PySem.Str), x = .str ⟨#[c]⟩ ∧ y = .str z ∧ Q (.bl (decide (c ∈ z.cps.toList))) H)
def rNinA (K : PySem.W.Frag) : R2 := fun x y H Q => rIn K true x y H Q ∨ (∃ (c : Nat) (z : PySem.Str), x = .str ⟨#[c]⟩ ∧ y = .str z ∧ Q (.bl (!decide (c ∈ z.cps.toList))) H)
theorem or_in : OpR X (compareOp .In) (rInA X.K) := OpR.or op_in_seq op_in_sign
theorem or_nin : OpR X (compareOp .NotIn) (rNinA X.K) := OpR.or op_notIn_seq op_notIn_sign
theorem in_cases {ρ : List Addr} {H : Hp} {σ : L2.St} {L : Loc} {S : Sto} {x y : V} {d1 d2 : D} (rl : Rel Γ ρ H σ L S) (r1 : Rep Γ ρ H x d1) (r2 : Rep Γ ρ H y d2) :
    inD d1 d2 S = .bad ∨ ∃ k, inD d1 d2 S = .ok k S ∧ ((∃ p xs, y = .ref p ∧ (SqL Γ.K H p xs ∨ SqT Γ.K H p xs) ∧ flatV x = true ∧ xs.all flatV = true ∧ inV x xs = k) ∨
      ∃ (c : Nat) (z : PySem.Str), x = .str ⟨#[c]⟩ ∧ y = .str z ∧ decide (c ∈ z.cps.toList) = k) := by
  have seq : ∀ o, (o = match seqOf S d2 with
      | some xs => (match inSeq d1 xs with
        | some k => R.ok k S
        | none => .bad)
      | none => .bad) → o = .bad ∨ ∃ k, o = .ok k S ∧ ((∃ p xs, y = .ref p ∧ (SqL Γ.K H p xs ∨ SqT Γ.K H p xs) ∧ flatV x = true ∧ xs.all flatV = true ∧ inV x xs = k) ∨
      ∃ (c : Nat) (z : PySem.Str), x = .str ⟨#[c]⟩ ∧ y = .str z ∧ decide (c ∈ z.cps.toList) = k) := by
    intro o e
    subst e
    cases e1 : seqOf S d2 with
    | none => exact .inl rfl
    | some ds =>
      obtain ⟨p, xs, e2, q, rr⟩ := rl.s.seqD r2 e1
      cases e3 : inSeq d1 ds with
      | none => exact .inl (by simp only [e3])
      | some k =>
        refine .inr ⟨k, by simp only [e3], .inl ⟨p, xs, e2, q, ?_⟩⟩
        unfold inSeq at e3
        cases e4 : flat d1 with
        | none => simp [e4] at e3
        | some t =>
          cases e5 : ds.mapM flat with
          | none => simp [e4, e5] at e3
          | some ts =>
            simp only [e4, e5, Option.some.injEq] at e3
            obtain ⟨g1, g2⟩ := in_eq r1 e4 rr e5
            refine ⟨?_, g1, g2.trans e3⟩
            exact (flat_eqV r1 r1 e4 e4).1
  cases d2 with
  | str t =>
    cases d1 with
    | str s =>
      match s with
      | [] => exact .inl rfl
      | [c] =>
        rw [rep_str] at r1 r2
        exact .inr ⟨_, rfl, .inr ⟨c, ⟨t.toArray⟩, r1.1, r2.1, rfl⟩⟩
      | _ :: _ :: _ => exact .inl rfl
    | _ => exact .inl rfl
  | _ => exact seq _ rfl
theorem sp_in : SpecC Γ (rInA Γ.K) (cmp2 .isIn) := by
  intro W ρ H σ L S x y d1 d2 Q rl r1 r2 h
  change Post Γ W repK ρ H σ L (inD d1 d2 S) Q at h
  rcases in_cases rl r1 r2 with e | ⟨k, e, ⟨p, xs, h1, h2, h3, h4, h5⟩ | ⟨c, z, h1, h2, h3⟩⟩
  · rw [e] at h; exact h.elim
  · rw [e] at h
    exact .inl ⟨p, xs, h1, h2, h3, h4, post_here h rl (by rw [h5]; rfl)⟩
  · rw [e] at h
    exact .inr ⟨c, z, h1, h2, post_here h rl (by rw [h3])⟩
theorem sp_nin : SpecC Γ (rNinA Γ.K) (cmp2 .notIn) := by
  intro W ρ H σ L S x y d1 d2 Q rl r1 r2 h
  change Post Γ W repK ρ H σ L (M.bind (inD d1 d2) (fun k => M.pure (!k)) S) Q at h
  unfold M.bind at h
  rcases in_cases rl r1 r2 with e | ⟨k, e, ⟨p, xs, h1, h2, h3, h4, h5⟩ | ⟨c, z, h1, h2, h3⟩⟩
  · rw [e] at h; exact h.elim
  · rw [e] at h
    exact .inl ⟨p, xs, h1, h2, h3, h4, post_here h rl (by rw [h5]; rfl)⟩
  · rw [e] at h
    exact .inr ⟨c, z, h1, h2, post_here h rl (by rw [h3])⟩
/-! a comparison as a value, as a test -/
theorem w_cmp {r : R2} {o : Cm} (sp : SpecC Γ r (cmp2 o)) {σ : L2.St} {H : Hp} {Q : VK} (h : tM Γ W repK (fCmp o fa fb) σ H Q) : tOp r (tD Γ W fa) (tD Γ W fb) σ H Q := by
  obtain ⟨ρ, L, S, rl, h⟩ := h
  exact ⟨ρ, L, S, rl, Post.bind h fun d S1 ρ1 H1 v p1 e1 rl1 r1 h1 => ⟨ρ1, L, S1, rl1, Post.bind h1 fun d2 S2 ρ2 H2 v2 p2 e2 rl2 r2 h2 =>
    sp W ρ2 H2 σ L S2 v v2 d d2 Q rl2 (Rep.mono p2 e2 d r1) r2 h2⟩⟩
/-- a bool as a value -/
theorem tM_bl {f : F Bool} {σ : L2.St} {H : Hp} {Q : VK} (h : tD Γ W (fBl f) σ H Q) : tM Γ W repK f σ H Q := by
  obtain ⟨ρ, L, S, rl, h⟩ := h
  refine ⟨ρ, L, S, rl, Post.bind h fun d S1 ρ1 H1 v p1 e1 rl1 r1 h1 => ?_⟩
  exact post_here h1 rl1 (by subst r1; exact rep_bl.mpr rfl)
theorem tM_kb {f : F Bool} {σ : L2.St} {H : Hp} {Q : Bool → Hp → Prop} (h : tBl Γ W f σ H Q) : tM Γ W repK f σ H (fun x H' => ∃ k, x = .bl k ∧ Q k H') := by
  obtain ⟨ρ, L, S, rl, h⟩ := h
  refine ⟨ρ, L, S, rl, ?_⟩
  cases e : f L S with
  | ok d S' =>
    rw [e] at h
    exact fun ρ' H' v p x rl' r' => ⟨d, r', h ρ' H' d p x rl' rfl⟩
  | exc x S' =>
    rw [e] at h
    exact h
  | bad =>
    rw [e] at h
    exact h.elim
theorem g_cmp {op : CmpOp} {r : R2} {o : Cm} (ho : OpR X (compareOp op) r) (sp : SpecC Γ r (cmp2 o)) (hm : behindInMarks op b = false) (ha : PE X a (tD Γ W fa)) (hb : PE X b (tD Γ W fb)) :
    PE X (.Compare a [op] [b] pos) (tD Γ W (fBl (fCmp o fa fb))) ∧ PT X (.Compare a [op] [b] pos) (tBl Γ W (fCmp o fa fb)) :=
  ⟨PE.weak (pe_cmpR ho ha hb hm) fun _ _ _ h => w_cmp sp (tM_bl h), PT.weak (pt_cmpR ho ha hb hm) fun _ _ _ h => w_cmp sp (tM_kb h)⟩
end Bv
end
section
namespace Bv
open PySem L2 PyProof.Rows
variable {Γ : Gm} {X : Cx} {W : WX} {a b c : Expr} {pos : Pos} {fa fb fc : F D}
/-! ### truth -/
theorem sp_truth : Spec1 Γ repB (fun x H Q => ∃ k, TruV Γ.K x H k ∧ Q k H) truth := by
  intro W ρ H σ L S x d1 Q rl r1 h
  cases d1 with
  | non => rw [rep_non] at r1; subst r1; exact ⟨_, rfl, post_here h rl rfl⟩
  | bl b => rw [rep_bl] at r1; subst r1; exact ⟨_, rfl, post_here h rl rfl⟩
  | int i => rw [rep_int] at r1; subst r1; exact ⟨_, rfl, post_here h rl rfl⟩
  | str s =>
    rw [rep_str] at r1
    obtain ⟨rfl, _⟩ := r1
    obtain ⟨hl, h⟩ := post_if (m := M.pure _) h
    refine ⟨_, ⟨by rw [str_len]; exact line16 hl, rfl⟩, ?_⟩
    rw [str_len]
    refine post_here h rl ?_
    cases s with
    | nil => rfl
    | cons c r =>
      show ((((c :: r).length : Nat) : Int) != 0) = true
      rw [List.length_cons, bne_iff_ne]
      omega
  | tup ds =>
    simp only [Rep] at r1
    obtain ⟨p, xs, rfl, q, r⟩ := r1
    refine ⟨_, .inr (.inl ⟨xs, q, rfl⟩), post_here h rl ?_⟩
    have := r.length
    cases xs <;> cases ds <;> simp at this ⊢
  | ref i =>
    simp only [truth] at h
    have go : ∀ ds, seqOf S (.ref i) = some ds → Post Γ W repB ρ H σ L (.ok (!ds.isEmpty) S) Q → ∃ k, TruV Γ.K x H k ∧ Q k H := fun ds hs h => by
      obtain ⟨p, xs, e, q, r⟩ := rl.s.seqD r1 hs
      subst e
      refine ⟨!xs.isEmpty, ?_, post_here h rl ?_⟩
      · rcases q with q | q
        · exact .inl ⟨xs, q, rfl⟩
        · exact .inr (.inl ⟨xs, q, rfl⟩)
      · have := r.length
        cases xs <;> cases ds <;> simp at this ⊢
    cases e : S[i]? with
    | none => simp [e, Post] at h
    | some o =>
      cases o with
      | lst ds => simp only [e] at h; exact go ds (by simp [seqOf, e]) h
      | ro ds => simp only [e] at h; exact go ds (by simp [seqOf, e]) h
      | dct _ => simp [e, Post] at h
      | ins _ _ => simp [e, Post] at h
  | fn _ => exact h.elim
  | cls _ => exact h.elim
  | ty _ => exact h.elim
theorem g_truth (hK : X.K = Γ.K) (ha : PE X a (tD Γ W fa)) (he : ∀ whole, isTrue a X.env whole = (do let v ← whole; standAt a.pos; holding [v] (truthy v))) : PT X a (tBl Γ W (F.bind fa fun x _ => truth x)) :=
  PT.weak (pt_truth ha he) fun σ H Q h => by
    obtain ⟨ρ, L, S, rl, h⟩ := h
    exact ⟨ρ, L, S, rl, Post.bind h fun d S1 ρ1 H1 v p1 e1 rl1 r1 h1 => by rw [hK]; exact sp_truth W ρ1 H1 σ L S1 v d Q rl1 r1 h1⟩
theorem g_notV (hK : X.K = Γ.K) (ha : PE X a (tD Γ W fa)) : PE X (.UnaryOp .Not a pos) (tD Γ W (F.bind fa fun x _ => M.bind (truth x) fun k => M.pure (.bl (!k)))) :=
  PE.weak (pe_notT ha) fun σ H Q h => by
    obtain ⟨ρ, L, S, rl, h⟩ := h
    refine ⟨ρ, L, S, rl, Post.bind h fun d S1 ρ1 H1 v p1 e1 rl1 r1 h1 => ?_⟩
    rw [hK]
    refine sp_truth W ρ1 H1 σ L S1 v d (fun k H => Q (.bl (!k)) H) rl1 r1 ?_
    refine Post.bind h1 fun k S2 ρ2 H2 k' p2 e2 rl2 r2 h2 => ?_
    subst r2
    exact post_here h2 rl2 (rep_bl.mpr rfl)
theorem g_notT {fa : F Bool} (ha : PT X a (tBl Γ W fa)) : PT X (.UnaryOp .Not a pos) (tBl Γ W (fNotT fa)) :=
  PT.weak (pt_not ha) fun σ H Q h => by
    obtain ⟨ρ, L, S, rl, h⟩ := h
    refine ⟨ρ, L, S, rl, Post.bind h fun d S1 ρ1 H1 v p1 e1 rl1 r1 h1 => ?_⟩
    subst r1
    exact post_here h1 rl1 rfl
/-! and, or: values -/
theorem g_and1 {op : BoolOp} (ha : PE X a (tD Γ W fa)) : PE X (.BoolOp op [a] pos) (tD Γ W fa) := pe_one ha
theorem sp_tr {ρ : List Addr} {H : Hp} {σ : L2.St} {L : Loc} {S : Sto} {v : V} {d : D} {α β : Type} {rep : List Addr → Hp → β → α → Prop} {k : Bool → M α} {Q : β → Hp → Prop} {R : Bool → Hp → Prop} (rl : Rel Γ ρ H σ L S) (r : Rep Γ ρ H v d)
    (h : Post Γ W rep ρ H σ L (M.bind (truth d) k S) Q) (hk : ∀ b S' ρ' H', ρ <+: ρ' → Ext H H' → Rel Γ ρ' H' σ L S' → Post Γ W rep ρ' H' σ L (k b S') Q → R b H') : ∃ b, TruV Γ.K v H b ∧ R b H :=
  sp_truth W ρ H σ L S v d R rl r (Post.bind h fun b S2 ρ2 H2 b' p2 e2 rl2 r2 h2 => by
    subst r2
    exact hk _ S2 ρ2 H2 p2 e2 rl2 h2)
/-- the truth of a value leaves all as it was -/
theorem truth_same {d : D} {S S' : Sto} {k : Bool} (h : truth d S = .ok k S') : S' = S := by
  cases d with
  | ref i =>
    simp only [truth] at h
    cases e : S[i]? with
    | none => simp [e] at h
    | some o => cases o <;> simp [e] at h <;> exact h.2.symm
  | str s =>
    simp only [truth] at h
    by_cases hl : s.length ≤ 16000000
    · rw [if_pos hl] at h; injection h with _ h; exact h.symm
    · rw [if_neg hl] at h; cases h
  | non => injection h with _ h; exact h.symm
  | bl _ => injection h with _ h; exact h.symm
  | int _ => injection h with _ h; exact h.symm
  | tup _ => injection h with _ h; exact h.symm
  | fn _ => cases h
  | cls _ => cases h
  | ty _ => cases h
theorem g_and (hK : X.K = Γ.K) {rest : List Expr} (ha : PE X a (tD Γ W fa)) (hb : PE X (.BoolOp .And (b :: rest) pos) (tD Γ W fb)) : PE X (.BoolOp .And (a :: b :: rest) pos) (tD Γ W (fAnd fa fb)) :=
  PE.weak (pe_andT ha hb) fun σ H Q h => by
    obtain ⟨ρ, L, S, rl, h⟩ := h
    refine ⟨ρ, L, S, rl, Post.bind h fun d S1 ρ1 H1 v p1 e1 rl1 r1 h1 => ?_⟩
    rw [hK]
    refine sp_tr (R := fun k H => if k = true then tD Γ W fb σ H Q else Q v H) rl1 r1 h1 fun k S2 ρ2 H2 p2 e2 rl2 h2 => ?_
    cases k with
    | true => exact iteT ⟨ρ2, L, S2, rl2, h2⟩
    | false => exact iteF (post_here h2 rl2 (Rep.mono p2 e2 d r1))
theorem g_or (hK : X.K = Γ.K) {rest : List Expr} (ha : PE X a (tD Γ W fa)) (hb : PE X (.BoolOp .Or (b :: rest) pos) (tD Γ W fb)) : PE X (.BoolOp .Or (a :: b :: rest) pos) (tD Γ W (fOr fa fb)) :=
  PE.weak (pe_orT ha hb) fun σ H Q h => by
    obtain ⟨ρ, L, S, rl, h⟩ := h
    refine ⟨ρ, L, S, rl, Post.bind h fun d S1 ρ1 H1 v p1 e1 rl1 r1 h1 => ?_⟩
    rw [hK]
    refine sp_tr (R := fun k H => if k = true then Q v H else tD Γ W fb σ H Q) rl1 r1 h1 fun k S2 ρ2 H2 p2 e2 rl2 h2 => ?_
    cases k with
    | true => exact iteT (post_here h2 rl2 (Rep.mono p2 e2 d r1))
    | false => exact iteF ⟨ρ2, L, S2, rl2, h2⟩
/-! tests -/
theorem g_andT {ta tb : F Bool} {rest : List Expr} (ha : PT X a (tBl Γ W ta)) (hb : PW X (.BoolOp .And (b :: rest) pos) (tBl Γ W tb)) : PW X (.BoolOp .And (a :: b :: rest) pos) (tBl Γ W (fAndT ta tb)) :=
  ⟨fun wh pins s σ H Q I h => (pw_and ha hb).run wh pins s σ H Q I (by
    obtain ⟨ρ, L, S, rl, h⟩ := h
    refine ⟨ρ, L, S, rl, Post.bind h fun d S1 ρ1 H1 v p1 e1 rl1 r1 h1 => ?_⟩
    subst r1
    cases v with
    | true => exact iteT ⟨ρ1, L, S1, rl1, h1⟩
    | false => exact iteF (post_here h1 rl1 rfl))⟩
theorem g_orT {ta tb : F Bool} {rest : List Expr} (ha : PT X a (tBl Γ W ta)) (hb : PW X (.BoolOp .Or (b :: rest) pos) (tBl Γ W tb)) : PW X (.BoolOp .Or (a :: b :: rest) pos) (tBl Γ W (fOrT ta tb)) :=
  ⟨fun wh pins s σ H Q I h => (pw_or ha hb).run wh pins s σ H Q I (by
    obtain ⟨ρ, L, S, rl, h⟩ := h
    refine ⟨ρ, L, S, rl, Post.bind h fun d S1 ρ1 H1 v p1 e1 rl1 r1 h1 => ?_⟩
    subst r1
    cases v with
    | true => exact iteT (post_here h1 rl1 rfl)
    | false => exact iteF ⟨ρ1, L, S1, rl1, h1⟩)⟩
theorem g_ite {ft : F Bool} (hc : PT X c (tBl Γ W ft)) (ha : PE X a (tD Γ W fa)) (hb : PE X b (tD Γ W fb)) : PE X (.IfExp c a b pos) (tD Γ W (fIte ft fa fb)) :=
  PE.weak (pe_ifExp hc ha hb) fun σ H Q h => by
    obtain ⟨ρ, L, S, rl, h⟩ := h
    refine ⟨ρ, L, S, rl, Post.bind h fun d S1 ρ1 H1 v p1 e1 rl1 r1 h1 => ?_⟩
    subst r1
    cases v with
    | true => exact iteT ⟨ρ1, L, S1, rl1, h1⟩
    | false => exact iteF ⟨ρ1, L, S1, rl1, h1⟩
/-! a chain -/
theorem w_chain {r r' : R2} {o o' : Cm} (sp : SpecC Γ r (cmp2 o)) (sp' : SpecC Γ r' (cmp2 o')) {σ : L2.St} {H : Hp} {Q : VK} (h : tM Γ W repK (fChain o o' fa fb fc) σ H Q) : tChain r r' (tD Γ W fa) (tD Γ W fb) (tD Γ W fc) σ H Q := by
  obtain ⟨ρ, L, S, rl, h⟩ := h
  refine ⟨ρ, L, S, rl, Post.bind h fun d S1 ρ1 H1 v p1 e1 rl1 r1 h1 => ⟨ρ1, L, S1, rl1, Post.bind h1 fun d2 S2 ρ2 H2 v2 p2 e2 rl2 r2 h2 => ?_⟩⟩
  refine sp W ρ2 H2 σ L S2 v v2 d d2 _ rl2 (Rep.mono p2 e2 d r1) r2 (Post.bind h2 fun k S3 ρ3 H3 z p3 e3 rl3 r3 h3 => ⟨k, r3, ?_⟩)
  cases k with
  | true =>
    refine iteT ⟨ρ3, L, S3, rl3, Post.bind h3 fun d4 S4 ρ4 H4 v4 p4 e4 rl4 r4 h4 => ?_⟩
    exact sp' W ρ4 H4 σ L S4 v2 v4 d2 d4 Q rl4 (Rep.mono (p3.trans p4) (e3.trans e4) d2 r2) r4 h4
  | false => exact iteF (post_here h3 rl3 rfl)
theorem g_chain {op op' : CmpOp} {r r' : R2} {o o' : Cm} (ho : OpR X (compareOp op) r) (ho' : OpR X (compareOp op') r') (sp : SpecC Γ r (cmp2 o)) (sp' : SpecC Γ r' (cmp2 o')) (hm : lastMarks [op, op'] [b, c] = false)
    (ha : PE X a (tD Γ W fa)) (hb : PE X b (tD Γ W fb)) (hc : PE X c (tD Γ W fc)) :
    PE X (.Compare a [op, op'] [b, c] pos) (tD Γ W (fBl (fChain o o' fa fb fc))) ∧ PT X (.Compare a [op, op'] [b, c] pos) (tBl Γ W (fChain o o' fa fb fc)) :=
  ⟨PE.weak (pe_chain ho ho' ha hb hc hm) fun _ _ _ h => w_chain sp sp' (tM_bl h), PT.weak (pt_chain ho ho' ha hb hc hm) fun _ _ _ h => w_chain sp sp' (tM_kb h)⟩
/-! ### names, constants, rows -/
theorem g_var {i : Nat} {x : PySem.Str} (hh : Γ.hs ≠ some i) (hN : X.N[i]? = some x) (hv : Vis X.env.scope x) (hd : (x == ("__debug__" : PySem.Str)) = false) (hcd : (x == ("__classdict__" : PySem.Str)) = false) : PE X (.Name x pos) (tD Γ W (fVar i)) :=
  PE.weak (pe_var hN hv hd hcd) fun σ H Q h => by
    obtain ⟨ρ, L, S, rl, h⟩ := h
    unfold fVar at h
    rw [List.getD_eq_getElem?_getD] at h
    cases e : L[i]? with
    | none => rw [e] at h; exact h.elim
    | some o =>
      rw [e] at h
      cases o with
      | none => exact h.elim
      | some d =>
        obtain ⟨v, e1, r⟩ := rl.l.val i d hh e
        exact ⟨v, e1, post_here h rl r⟩
theorem g_con {e : Expr} {v : V} {d : D} (h : PE X e (tC v)) (hr : ∀ ρ H, Rep Γ ρ H v d) : PE X e (tD Γ W fun _ => M.pure d) :=
  PE.weak h fun σ H Q h => by
    obtain ⟨ρ, L, S, rl, h⟩ := h
    exact post_here h rl (hr ρ H)
theorem g_nil : PA X [] (tDs Γ W fun _ => M.pure []) := PA.weak pa_nil fun σ H Q h => by
  obtain ⟨ρ, L, S, rl, h⟩ := h
  exact post_here h rl (by simp only [Reps])
theorem w_cons {f : F D} {fs : F (List D)} {σ : L2.St} {H : Hp} {Q : List V → Hp → Prop} (h : tDs Γ W (fCons f fs) σ H Q) : tCons (tD Γ W f) (tDs Γ W fs) σ H Q := by
  obtain ⟨ρ, L, S, rl, h⟩ := h
  refine ⟨ρ, L, S, rl, Post.bind h fun d S1 ρ1 H1 v p1 e1 rl1 r1 h1 => ⟨ρ1, L, S1, rl1, Post.bind h1 fun ds S2 ρ2 H2 vs p2 e2 rl2 r2 h2 => ?_⟩⟩
  exact post_here h2 rl2 (by simp only [Reps]; exact ⟨Rep.mono p2 e2 d r1, r2⟩)
theorem g_cons {es : List Expr} {fs : F (List D)} (ha : PE X a (tD Γ W fa)) (hr : PA X es (tDs Γ W fs)) (hs : starEach (a :: es) X.env = (false, eval a X.env) :: starEach es X.env) : PA X (a :: es) (tDs Γ W (fCons fa fs)) :=
  PA.weak (pa_cons ha hr hs) fun _ _ _ h => w_cons h
theorem g_knil : PK X [] (tDs Γ W fun _ => M.pure []) := PK.weak pk_nil fun σ H Q h => by
  obtain ⟨ρ, L, S, rl, h⟩ := h
  exact post_here h rl (by simp only [Reps])
theorem g_kcons {kws : List Keyword} {fs : F (List D)} {nm : Option PySem.Str} {kpos : Pos} (ha : PE X a (tD Γ W fa)) (hr : PK X kws (tDs Γ W fs)) : PK X (⟨nm, a, kpos⟩ :: kws) (tDs Γ W (fCons fa fs)) :=
  PK.weak (pk_cons ha hr) fun _ _ _ h => w_cons h
/-! tuples, lists -/
theorem g_tup {es : List Expr} {x1} {fs : F (List D)} (h : PA X es (tDs Γ W fs)) : PE X (.Tuple es x1 pos) (tD Γ W (fTup fs)) :=
  PE.weak (pe_tup h) fun σ H Q h => by
    obtain ⟨ρ, L, S, rl, h⟩ := h
    refine ⟨ρ, L, S, rl, Post.bind h fun ds S1 ρ1 H1 vs p1 e1 rl1 r1 h1 => ?_⟩
    obtain ⟨hl, h1⟩ := post_if (m := M.pure _) h1
    refine ⟨by rw [r1.length]; exact line16 hl, fun p hp => ?_⟩
    have ex : Ext H1 (upd H1 p (.tup vs)) := Ext.new hp
    refine h1 ρ1 (upd H1 p (.tup vs)) (.ref p) (List.prefix_refl _) ex ⟨rl1.s.keep ex fun a ha => upd_ne fun z => ha (by rw [z]; exact hp), rl1.l.mono (List.prefix_refl _) ex⟩ ?_
    simp only [Rep]
    exact ⟨p, vs, rfl, SqT.of upd_same, Reps.mono (List.prefix_refl _) ex ds r1⟩
/-- a new list -/
theorem new_list {ρ : List Addr} {H : Hp} {σ : L2.St} {L : Loc} {S : Sto} {vs : List V} {ds : List D} {p : Addr} {Q : VK} (rl : Rel Γ ρ H σ L S) (r : Reps Γ ρ H vs ds) (hp : H p = none) (h : Post Γ W (Rep Γ) ρ H σ L (M.new (.lst ds) S) Q) : Q (.ref p) (upd H p (.lst vs)) := by
  have ex : Ext H (upd H p (.lst vs)) := Ext.new hp
  have pre : ρ <+: ρ ++ [p] := List.prefix_append _ _
  refine h (ρ ++ [p]) (upd H p (.lst vs)) (.ref p) pre ex ⟨rl.s.new hp ⟨vs, upd_same, Reps.mono pre ex ds r⟩, rl.l.mono pre ex⟩ ?_
  simp only [Rep]
  exact ⟨p, rfl, by rw [← rl.s.len]; simp⟩
theorem g_lst {es : List Expr} {fs : F (List D)} (h : PA X es (tDs Γ W fs)) : PE X (.List es pos) (tD Γ W (fLst fs)) :=
  PE.weak (pe_lst h) fun σ H Q h => by
    obtain ⟨ρ, L, S, rl, h⟩ := h
    refine ⟨ρ, L, S, rl, Post.bind h fun ds S1 ρ1 H1 vs p1 e1 rl1 r1 h1 => ?_⟩
    obtain ⟨hl, h1⟩ := post_if (m := M.new _) h1
    exact ⟨by rw [r1.length]; exact line16 hl, fun p hp => new_list rl1 r1 hp h1⟩
/-! negation -/
theorem g_neg (ha : PE X a (tD Γ W fa)) : PE X (.UnaryOp .USub a pos) (tD Γ W (fNeg fa)) :=
  PE.weak (pe_un un_neg ha) fun σ H Q h => w_op1 (g := fun x => match x with
    | .int i => M.pure (.int (-i))
    | _ => M.bad) (by
      intro W ρ H σ L S x d1 Q rl r1 h
      cases d1 <;> try exact h.elim
      rw [rep_int] at r1
      exact ⟨_, r1, post_here h rl (rep_int.mpr rfl)⟩) h
end Bv
end
section
namespace Bv
open PySem L2 PyProof.Rows
variable {Γ : Gm} {X : Cx} {W : WX} {a b c : Expr} {pos : Pos} {fa fb fc : F D}
/-! ### items, slices -/
theorem at_eq {α : Type} (xs : List α) (i : Int) : at? xs i = atI xs i := by
  unfold at? atI ixN
  by_cases h0 : 0 ≤ i
  · rw [if_pos h0, if_pos h0]
    by_cases h1 : i < xs.length
    · rw [if_pos h1]; rfl
    · rw [if_neg h1]
      exact List.getElem?_eq_none_iff.mpr (by omega)
  · rw [if_neg h0, if_neg h0]
    by_cases h1 : -(xs.length : Int) ≤ i
    · rw [if_pos h1, if_pos (by omega)]; rfl
    · rw [if_neg h1, if_neg (by omega)]; rfl
theorem atI_reps {ρ : List Addr} {H : Hp} {xs : List V} {ds : List D} {i : Int} {d : D} (r : Reps Γ ρ H xs ds) (h : at? ds i = some d) : ∃ v, atI xs i = some v ∧ Rep Γ ρ H v d := by
  rw [at_eq] at h
  unfold atI at h ⊢
  rw [r.length]
  cases e : ixN ds.length i with
  | none => rw [e] at h; cases h
  | some j =>
    rw [e] at h
    obtain ⟨v, h1, h2⟩ := r.get (i := j) h
    exact ⟨v, h1, h2⟩
theorem sp_ix : Spec2 Γ (Rep Γ) (rIx Γ.K) ixD := by
  intro W ρ H σ L S x y d1 d2 Q rl r1 r2 h
  cases d2 with
  | int i =>
    rw [rep_int] at r2
    have seq : Post Γ W (Rep Γ) ρ H σ L (match seqOf S d1 with
      | some xs => (match at? xs i with
        | some d => R.ok d S
        | none => .bad)
      | none => .bad) Q → rIx Γ.K x y H Q := fun h => by
      cases e1 : seqOf S d1 with
      | none => rw [e1] at h; exact h.elim
      | some ds =>
        rw [e1] at h
        obtain ⟨p, xs, e2, q, rr⟩ := rl.s.seqD r1 e1
        cases e3 : at? ds i with
        | none => simp only [e3] at h; exact h.elim
        | some d =>
          simp only [e3] at h
          obtain ⟨v, e4, rv⟩ := atI_reps rr e3
          rcases q with q | q
          · exact .inl ⟨p, xs, i, v, e2, r2, q, e4, post_here h rl rv⟩
          · exact .inr (.inl ⟨p, xs, i, v, e2, r2, q, e4, post_here h rl rv⟩)
    cases d1 with
    | str s =>
      rw [rep_str] at r1
      simp only [ixD] at h
      cases e : at? s i with
      | none => rw [e] at h; exact h.elim
      | some c =>
        rw [e] at h
        obtain ⟨hl, h⟩ := post_if (m := M.pure _) h
        have hm : c ∈ s := by
          unfold at? at e
          split at e
          · exact List.mem_of_getElem? e
          · split at e
            · exact List.mem_of_getElem? e
            · cases e
        refine .inr (.inr ⟨_, i, c, r1.1, r2, by rw [str_len]; exact line16 hl, by rw [← at_eq]; exact e, post_here h rl (rep_str.mpr ⟨rfl, fun c' hc => ?_⟩)⟩)
        rw [List.mem_singleton.mp hc]
        exact r1.2 c hm
    | tup ds => exact seq h
    | ref j => exact seq h
    | non => exact seq h
    | bl _ => exact seq h
    | int _ => exact seq h
    | fn _ => exact seq h
    | cls _ => exact seq h
    | ty _ => exact seq h
  | non => cases d1 <;> exact h.elim
  | bl _ => cases d1 <;> exact h.elim
  | str _ => cases d1 <;> exact h.elim
  | tup _ => cases d1 <;> exact h.elim
  | ref _ => cases d1 <;> exact h.elim
  | fn _ => cases d1 <;> exact h.elim
  | cls _ => cases d1 <;> exact h.elim
  | ty _ => cases d1 <;> exact h.elim
theorem cutI_eq (n d : Nat) (o : Option Int) : cutI n d o = HT.sIx n d o := by
  cases o with
  | none => rfl
  | some i =>
    show (if 0 ≤ i then min i.toNat n else (i + n).toNat) = if i < 0 then (i + (n : Int)).toNat else min i.toNat n
    by_cases h : i < 0
    · rw [if_pos h, if_neg (by omega)]
    · rw [if_neg h, if_pos (by omega)]
theorem cut_reps {ρ : List Addr} {H : Hp} {xs : List V} {ds : List D} (lo hi : Option Int) (r : Reps Γ ρ H xs ds) : Reps Γ ρ H (cutV xs lo hi) (cut ds lo hi) := by
  unfold cutV cut
  rw [cutI_eq, cutI_eq, r.length]
  exact Reps.take _ (Reps.drop _ r)
def rSl (K : PySem.W.Frag) : V → Option Int → Option Int → Hp → VK → Prop := fun x lo hi H Q => (rSlL K x lo hi H Q ∨ rSlA K x lo hi H Q) ∨ rSlS x lo hi H Q
theorem or_sl : SlR X (rSl X.K) := SlR.or (SlR.or sl_list sl_tupA) sl_str
theorem cut_whole {α : Type} {xs : List α} {lo hi : Option Int} (h : HT.sIx xs.length 0 lo = 0 ∧ HT.sIx xs.length xs.length hi = xs.length) : cut xs lo hi = xs := by
  unfold cut
  rw [cutI_eq, cutI_eq, h.1, h.2]
  simp
theorem sp_sl {ρ : List Addr} {H : Hp} {σ : L2.St} {L : Loc} {S : Sto} {x : V} {d : D} {lo hi : Option Int} {Q : VK} (rl : Rel Γ ρ H σ L S) (r : Rep Γ ρ H x d) (h : Post Γ W (Rep Γ) ρ H σ L (slD d lo hi S) Q) : rSl Γ.K x lo hi H Q := by
  cases d with
  | str s =>
    rw [rep_str] at r
    obtain ⟨hl, h⟩ := post_if (m := M.pure _) h
    have e : cutS ⟨s.toArray⟩ lo hi = ⟨(cut s lo hi).toArray⟩ := by
      unfold cutS cut
      rw [cutI_eq, cutI_eq, str_len]
    refine .inr ⟨_, r.1, by rw [str_len]; exact line16 hl, ?_⟩
    rw [e]
    exact post_here h rl (rep_str.mpr ⟨rfl, fun c hc => r.2 c (List.mem_of_mem_drop (List.mem_of_mem_take hc))⟩)
  | tup ds =>
    simp only [Rep] at r
    obtain ⟨p, xs, e, q, r⟩ := r
    refine .inl (.inr ⟨p, xs, e, q, fun hw => ?_, fun hw p' hp => ?_⟩)
    · rw [r.length] at hw
      refine post_here h rl ?_
      rw [cut_whole hw]
      simp only [Rep]
      exact ⟨p, xs, rfl, q, r⟩
    · have ex : Ext H (upd H p' (.tup (cutV xs lo hi))) := Ext.new hp
      refine h ρ _ (.ref p') (List.prefix_refl _) ex ⟨rl.s.keep ex fun a ha => upd_ne fun z => ha (by rw [z]; exact hp), rl.l.mono (List.prefix_refl _) ex⟩ ?_
      simp only [Rep]
      exact ⟨p', _, rfl, SqT.of upd_same, Reps.mono (List.prefix_refl _) ex _ (cut_reps lo hi r)⟩
  | ref i =>
    have go : ∀ ds, seqOf S (.ref i) = some ds → Post Γ W (Rep Γ) ρ H σ L (M.new (.lst (cut ds lo hi)) S) Q → rSl Γ.K x lo hi H Q := fun ds hs h => by
      obtain ⟨p, xs, ea, q, rr⟩ := rl.s.seq hs
      simp only [Rep] at r
      obtain ⟨p2, e1, e2⟩ := r
      rw [ea] at e2; cases e2
      exact .inl (.inl ⟨p, xs, e1, q, fun p' hp => new_list rl (cut_reps lo hi rr) hp h⟩)
    simp only [slD] at h
    cases e : S[i]? with
    | none => simp [e, Post] at h
    | some o =>
      cases o with
      | lst ds => simp only [e] at h; exact go ds (by simp [seqOf, e]) h
      | ro ds => simp only [e] at h; exact go ds (by simp [seqOf, e]) h
      | dct _ => simp [e, Post] at h
      | ins _ _ => simp [e, Post] at h
  | non => exact h.elim
  | bl _ => exact h.elim
  | int _ => exact h.elim
  | fn _ => exact h.elim
  | cls _ => exact h.elim
  | ty _ => exact h.elim
theorem PO.weak {e : Option Expr} {t t' : TO} (h : PO X e t) (i : ∀ σ H Q, t' σ H Q → t σ H Q) : PO X e t' := ⟨fun pins s σ H Q I hw => h.run pins s σ H Q I (i σ H Q hw)⟩
theorem g_po0 : PO X none (tOi Γ W fun _ => M.pure none) := PO.weak po_none fun σ H Q h => by
  obtain ⟨ρ, L, S, rl, h⟩ := h
  exact post_here h rl rfl
theorem g_po1 (ha : PE X a (tD Γ W fa)) : PO X (some a) (tOi Γ W (partOf fa)) := PO.weak (po_some ha) fun σ H Q h => by
  obtain ⟨ρ, L, S, rl, h⟩ := h
  refine ⟨ρ, L, S, rl, Post.bind h fun d S1 ρ1 H1 v p1 e1 rl1 r1 h1 => ?_⟩
  cases d <;> try exact h1.elim
  rw [rep_int] at r1
  exact ⟨_, r1, post_here h1 rl1 rfl⟩
theorem g_sl (hK : X.K = Γ.K) {lo hi : Option Expr} {fl fh : F (Option Int)} {p2 : Pos} (ha : PE X a (tD Γ W fa)) (hl : PO X lo (tOi Γ W fl)) (hh : PO X hi (tOi Γ W fh)) : PE X (.Subscript a (.Slice lo hi none p2) pos) (tD Γ W (fSl fa fl fh)) :=
  PE.weak (pe_slice or_sl ha hl hh) fun σ H Q h => by
    obtain ⟨ρ, L, S, rl, h⟩ := h
    refine ⟨ρ, L, S, rl, Post.bind h fun d S1 ρ1 H1 v p1 e1 rl1 r1 h1 => ⟨ρ1, L, S1, rl1, Post.bind h1 fun i S2 ρ2 H2 i' p2 e2 rl2 r2 h2 => ⟨ρ2, L, S2, rl2, Post.bind h2 fun j S3 ρ3 H3 j' p3 e3 rl3 r3 h3 => ?_⟩⟩⟩
    subst r2 r3
    rw [hK]
    exact sp_sl rl3 (Rep.mono (p2.trans p3) (e2.trans e3) d r1) h3
/-! ### built-in functions -/
theorem g_prim {fs : F (List D)} {r : List V → Hp → VK → Prop} {g : List D → M D} {e : Expr} (sp : SpecN Γ r g) (h : PE X e (tCB r (tDs Γ W fs))) : PE X e (tD Γ W (F.bind fs fun vs _ => g vs)) :=
  PE.weak h fun σ H Q h => by
    obtain ⟨ρ, L, S, rl, h⟩ := h
    exact ⟨ρ, L, S, rl, Post.bind h fun ds S1 ρ1 H1 vs p1 e1 rl1 r1 h1 => sp W ρ1 H1 σ L S1 vs ds Q rl1 r1 h1⟩
theorem reps1 {ρ : List Addr} {H : Hp} {vs : List V} {d : D} (r : Reps Γ ρ H vs [d]) : ∃ v, vs = [v] ∧ Rep Γ ρ H v d := by
  rw [Reps.cons_iff] at r
  obtain ⟨v, r', rfl, h1, h2⟩ := r
  rw [Reps.nil_iff] at h2
  subst h2
  exact ⟨v, rfl, h1⟩
theorem reps2 {ρ : List Addr} {H : Hp} {vs : List V} {d e : D} (r : Reps Γ ρ H vs [d, e]) : ∃ v w, vs = [v, w] ∧ Rep Γ ρ H v d ∧ Rep Γ ρ H w e := by
  rw [Reps.cons_iff] at r
  obtain ⟨v, r', rfl, h1, h2⟩ := r
  obtain ⟨w, rfl, h3⟩ := reps1 h2
  exact ⟨v, w, rfl, h1, h3⟩
theorem reps3 {ρ : List Addr} {H : Hp} {vs : List V} {d e f : D} (r : Reps Γ ρ H vs [d, e, f]) : ∃ v w z, vs = [v, w, z] ∧ Rep Γ ρ H v d ∧ Rep Γ ρ H w e ∧ Rep Γ ρ H z f := by
  rw [Reps.cons_iff] at r
  obtain ⟨v, r', rfl, h1, h2⟩ := r
  obtain ⟨w, z, rfl, h3, h4⟩ := reps2 h2
  exact ⟨v, w, z, rfl, h1, h3, h4⟩
theorem sp_len : SpecN Γ (fun xs H Q => ∃ x n, xs = [x] ∧ LenV Γ.K x H n ∧ Q (.int n) H) (prim .len) := by
  intro W ρ H σ L S xs ds Q rl rs h
  match ds with
  | [] => exact h.elim
  | [d] =>
    obtain ⟨v, rfl, r⟩ := reps1 rs
    have seq : Post Γ W (Rep Γ) ρ H σ L (match seqOf S d with
      | some xs => R.ok (.int xs.length) S
      | none => .bad) Q → ∃ x n, [v] = [x] ∧ LenV Γ.K x H n ∧ Q (.int n) H := fun h => by
      cases e1 : seqOf S d with
      | none => rw [e1] at h; exact h.elim
      | some ds =>
        rw [e1] at h
        obtain ⟨p, ys, e2, q, rr⟩ := rl.s.seqD r e1
        subst e2
        refine ⟨_, ys.length, rfl, ?_, ?_⟩
        · rcases q with q | q
          · exact .inl ⟨ys, q, rfl⟩
          · exact .inr ⟨ys, q, rfl⟩
        · rw [rr.length]
          exact post_here h rl (rep_int.mpr rfl)
    cases d with
    | str s =>
      rw [rep_str] at r
      obtain ⟨rfl, _⟩ := r
      obtain ⟨hl, h⟩ := post_if (m := M.pure _) h
      refine ⟨_, s.length, rfl, ⟨by rw [str_len]; exact line16 hl, (str_len s).symm⟩, post_here h rl (rep_int.mpr rfl)⟩
    | tup _ => exact seq h
    | ref _ => exact seq h
    | non => exact seq h
    | bl _ => exact seq h
    | int _ => exact seq h
    | fn _ => exact seq h
    | cls _ => exact seq h
    | ty _ => exact seq h
  | d :: _ :: _ => cases d <;> exact h.elim
theorem sp_abs : SpecN Γ (fun xs H Q => ∃ i, xs = [.int i] ∧ Q (.int (if i < 0 then -i else i)) H) (prim .abs) := by
  intro W ρ H σ L S xs ds Q rl rs h
  match ds with
  | [] => exact h.elim
  | [d] =>
    obtain ⟨v, rfl, r⟩ := reps1 rs
    cases d <;> try exact h.elim
    rw [rep_int] at r; subst r
    exact ⟨_, rfl, post_here h rl (rep_int.mpr rfl)⟩
  | d :: _ :: _ => cases d <;> exact h.elim
theorem sp_max2 : SpecN Γ (fun xs H Q => ∃ i j, xs = [.int i, .int j] ∧ Q (.int (if j > i then j else i)) H) (prim .max2) := by
  intro W ρ H σ L S xs ds Q rl rs h
  match ds with
  | [] => exact h.elim
  | [d] => cases d <;> exact h.elim
  | [d, e] =>
    obtain ⟨v, w, rfl, r1, r2⟩ := reps2 rs
    cases d <;> cases e <;> try exact h.elim
    rw [rep_int] at r1 r2; subst r1 r2
    exact ⟨_, _, rfl, post_here h rl (rep_int.mpr rfl)⟩
  | d :: e :: _ :: _ => cases d <;> cases e <;> exact h.elim
theorem sp_min2 : SpecN Γ (fun xs H Q => ∃ i j, xs = [.int i, .int j] ∧ Q (.int (if j < i then j else i)) H) (prim .min2) := by
  intro W ρ H σ L S xs ds Q rl rs h
  match ds with
  | [] => exact h.elim
  | [d] => cases d <;> exact h.elim
  | [d, e] =>
    obtain ⟨v, w, rfl, r1, r2⟩ := reps2 rs
    cases d <;> cases e <;> try exact h.elim
    rw [rep_int] at r1 r2; subst r1 r2
    exact ⟨_, _, rfl, post_here h rl (rep_int.mpr rfl)⟩
  | d :: e :: _ :: _ => cases d <;> cases e <;> exact h.elim
def rMax3 : List V → Hp → VK → Prop := fun xs H Q => ∃ i j k, xs = [.int i, .int j, .int k] ∧ Q (.int (if j > i then (if k > j then k else j) else (if k > i then k else i))) H
theorem call_max3 (hc : X.calm = true) : CallR X (.builtin "max") rMax3 := by
  intro pins s σ H xs us Q I r h
  obtain ⟨i, j, k, rfl, q⟩ := h
  cases r with
  | cons r1 r => cases r with
    | cons r2 r => cases r with
      | cons r3 r =>
        cases r
        obtain ⟨t1, rfl⟩ := r1
        obtain ⟨t2, rfl⟩ := r2
        obtain ⟨t3, rfl⟩ := r3
        refine max_three_ints (I.ok.hd hc) fun h' tk kp => ⟨_, H, I.kept kp, ?_, q⟩
        by_cases h1 : j > i
        · rw [if_pos h1, if_pos h1]
          by_cases h2 : k > j
          · rw [if_pos h2, if_pos h2]; exact ⟨_, rfl⟩
          · rw [if_neg h2, if_neg h2]; exact ⟨_, rfl⟩
        · rw [if_neg h1, if_neg h1]
          by_cases h2 : k > i
          · rw [if_pos h2, if_pos h2]; exact ⟨_, rfl⟩
          · rw [if_neg h2, if_neg h2]; exact ⟨_, rfl⟩
theorem sp_max3 : SpecN Γ rMax3 (prim .max3) := by
  intro W ρ H σ L S xs ds Q rl rs h
  match ds with
  | [] => exact h.elim
  | [d] => cases d <;> exact h.elim
  | [d, e] => cases d <;> cases e <;> exact h.elim
  | [d, e, f] =>
    obtain ⟨v, w, z, rfl, r1, r2, r3⟩ := reps3 rs
    cases d <;> cases e <;> cases f <;> try exact h.elim
    rw [rep_int] at r1 r2 r3; subst r1 r2 r3
    exact ⟨_, _, _, rfl, post_here h rl (rep_int.mpr rfl)⟩
  | d :: e :: f :: _ :: _ => cases d <;> cases e <;> cases f <;> exact h.elim
end Bv
end
section
namespace Bv
open PySem L2 PyProof.Rows
variable {Γ : Gm} {X : Cx} {W : WX} {a b c : Expr} {pos : Pos} {fa fb fc : F D}
theorem CallR.or {f : Value} {r r' : List V → Hp → VK → Prop} (h : CallR X f r) (h' : CallR X f r') : CallR X f (fun xs H Q => r xs H Q ∨ r' xs H Q) := by
  intro pins s σ H xs us Q I rs q
  rcases q with q | q
  · exact h pins s σ H xs us Q I rs q
  · exact h' pins s σ H xs us Q I rs q
def rInt : List V → Hp → VK → Prop := fun xs H Q => ((∃ i, xs = [.int i] ∧ Q (.int i) H) ∨ ∃ k, xs = [.bl k] ∧ Q (.int (if k then 1 else 0)) H) ∨ ∃ a n, xs = [.str a] ∧ PySem.intText? a = some n ∧ a.length ≤ 640 ∧ Q (.int n) H
theorem or_int : CallR X (.type "int") rInt := CallR.or call_int1 call_int_str
theorem sp_int : SpecN Γ rInt (prim .int1) := by
  intro W ρ H σ L S xs ds Q rl rs h
  match ds with
  | [] => exact h.elim
  | [d] =>
    obtain ⟨v, rfl, r⟩ := reps1 rs
    cases d <;> try exact h.elim
    · rw [rep_bl] at r; subst r
      exact .inl (.inr ⟨_, rfl, post_here h rl (rep_int.mpr rfl)⟩)
    · rw [rep_int] at r; subst r
      exact .inl (.inl ⟨_, rfl, post_here h rl (rep_int.mpr rfl)⟩)
    · rename_i s
      rw [rep_str] at r
      obtain ⟨rfl, _⟩ := r
      obtain ⟨⟨h1, h2, h3⟩, h⟩ := post_if (m := M.pure _) h
      refine .inr ⟨_, _, rfl, ?_, by rw [str_len]; exact h3, post_here h rl (rep_int.mpr rfl)⟩
      refine PySem.intText_digits (x := ⟨s.toArray⟩) (fun c hc => ?_) h1 (by rw [str_len]; omega)
      unfold isDec at h2
      have := List.all_eq_true.mp h2 c hc
      simpa using this
  | d :: _ :: _ => cases d <;> exact h.elim
theorem str_int_ok (i : Int) : (PySem.Str.ofString (toString i)) = ⟨(strOf i).toArray⟩ := by
  refine TL.ext_tl ?_
  show TL.tl (PySem.Str.ofString (toString i)) = strOf i
  cases i with
  | ofNat n =>
    have := TL.tl_num n
    unfold strOf
    rw [if_neg (by exact Int.not_lt.mpr (Int.natCast_nonneg n))]
    exact this
  | negSucc n =>
    have := TL.tl_num (n + 1)
    unfold strOf
    rw [if_pos (Int.negSucc_lt_zero n)]
    rw [TL.tl_ofString] at this ⊢
    show ("-" ++ toString (n + 1)).toList.map Char.toNat = _
    rw [String.toList_append, List.map_append]
    show 45 :: _ = _
    congr 1
theorem strOf_ok (i : Int) : ∀ c ∈ strOf i, c < 1114112 := by
  have dg : ∀ n : Nat, ∀ c ∈ decOf n, c < 1114112 := fun n c hc => by
    have := TL.numL_digits n c hc
    omega
  intro c hc
  unfold strOf at hc
  split at hc
  · rcases List.mem_cons.mp hc with rfl | hc
    · omega
    · exact dg _ c hc
  · exact dg _ c hc
theorem sp_str : SpecN Γ (fun xs H Q => ∃ i, xs = [.int i] ∧ i.natAbs.log2 < 1920 ∧ Q (.str (toString i : String)) H) (prim .str1) := by
  intro W ρ H σ L S xs ds Q rl rs h
  match ds with
  | [] => exact h.elim
  | [d] =>
    obtain ⟨v, rfl, r⟩ := reps1 rs
    cases d <;> try exact h.elim
    rename_i i
    rw [rep_int] at r; subst r
    obtain ⟨hl, h⟩ := post_if (m := M.pure _) h
    exact ⟨_, rfl, hl, post_here h rl (rep_str.mpr ⟨congrArg V.str (str_int_ok i), strOf_ok i⟩)⟩
  | d :: _ :: _ => cases d <;> exact h.elim
theorem sp_divmod : SpecN Γ (fun xs H Q => ∃ i j, xs = [.int i, .int j] ∧ CDivP i j ∧ ∀ p, H p = none → Q (.ref p) (upd H p (.tup [.int (i / j), .int (i % j)]))) (prim .divmod) := by
  intro W ρ H σ L S xs ds Q rl rs h
  match ds with
  | [] => exact h.elim
  | [d] => cases d <;> exact h.elim
  | [d, e] =>
    obtain ⟨v, w, rfl, r1, r2⟩ := reps2 rs
    cases d <;> cases e <;> try exact h.elim
    rename_i i j
    rw [rep_int] at r1 r2; subst r1 r2
    obtain ⟨hl, h⟩ := post_if (m := M.pure _) h
    refine ⟨_, _, rfl, ⟨hl.1, PyProof.noPylong_of_log2 hl.2⟩, fun p hp => ?_⟩
    have ex : Ext H (upd H p (.tup [.int (i / j), .int (i % j)])) := Ext.new hp
    refine h ρ _ (.ref p) (List.prefix_refl _) ex ⟨rl.s.keep ex fun a ha => upd_ne fun z => ha (by rw [z]; exact hp), rl.l.mono (List.prefix_refl _) ex⟩ ?_
    simp only [Rep, Reps]
    exact ⟨p, _, rfl, SqT.of upd_same, rfl, rfl, trivial⟩
  | d :: e :: _ :: _ => cases d <;> cases e <;> exact h.elim
/-! isinstance -/
theorem kit_at (K : PySem.W.Frag) : ∀ (m n : Nat), m < 5 → n < 6 → PySem.W.kitOne K (.type (tnOf m)) (.type (tnOf n)) = some (m == n || (m == 1 && n == 0)) := by
  intro m n hm hn
  have all : ∀ m : Nat, m < 5 → ∀ n : Nat, n < 6 → kitB (tnOf m) (tnOf n) = some (m == n || (m == 1 && n == 0)) := by decide +kernel
  exact kit_ty (all m hm n hn)
theorem kit_none (K : PySem.W.Frag) : ∀ (n : Nat), n < 6 → PySem.W.kitOne K (.type "NoneType") (.type (tnOf n)) = some false := by
  intro n hn
  have all : ∀ n : Nat, n < 6 → kitB "NoneType" (tnOf n) = some false := by decide +kernel
  exact kit_ty (all n hn)
theorem sp_isinst : SpecN Γ (rIsi Γ.K) (prim .isinst) := by
  intro W ρ H σ L S xs ds Q rl rs h
  match ds with
  | [] => exact h.elim
  | [d] => cases d <;> exact h.elim
  | [d, e] =>
    obtain ⟨v, w, rfl, r1, r2⟩ := reps2 rs
    cases e with
    | ty n =>
      simp only [Rep] at r2
      subst r2
      simp only [prim] at h
      cases e1 : isOf S d n with
      | none => simp [e1, Post] at h
      | some k =>
        simp only [e1] at h
        have hn : n < 6 ∧ isOf' S d n = some k := by
          unfold isOf at e1
          by_cases hn : n < 6
          · rw [if_pos hn] at e1; exact ⟨hn, e1⟩
          · rw [if_neg hn] at e1; cases e1
        obtain ⟨hn, e1⟩ := hn
        have fin : ∀ (t : Value), TyX Γ.K H v t → PySem.W.kitOne Γ.K t (.type (tnOf n)) = some k → rIsi Γ.K [v, .ty (tnOf n)] H Q := fun t ht hk =>
          ⟨v, .ty (tnOf n), t, _, k, rfl, .ty _, ht, hk, post_here h rl (rep_bl.mpr rfl)⟩
        cases d with
        | non =>
          rw [rep_non] at r1; subst r1
          simp [isOf'] at e1; subst e1
          exact fin _ (.base .non) (kit_none _ n hn)
        | bl b =>
          rw [rep_bl] at r1; subst r1
          simp only [isOf', Option.some.injEq] at e1
          refine fin _ (.base (.bl b)) ?_
          have := kit_at Γ.K 1 n (by omega) hn
          rw [← e1]
          rw [(show ∀ n : Nat, n < 6 → (n == 0 || n == 1) = (1 == n || (1 == 1 && n == 0)) by decide) n hn]
          exact this
        | int i =>
          rw [rep_int] at r1; subst r1
          simp only [isOf', Option.some.injEq] at e1
          refine fin _ (.base (.int i)) ?_
          have := kit_at Γ.K 0 n (by omega) hn
          rw [← e1]
          rw [(show ∀ n : Nat, n < 6 → (n == 0) = (0 == n || (0 == 1 && n == 0)) by decide) n hn]
          exact this
        | str s =>
          rw [rep_str] at r1
          obtain ⟨rfl, _⟩ := r1
          simp only [isOf', Option.some.injEq] at e1
          refine fin _ (.base (.str _)) ?_
          have := kit_at Γ.K 2 n (by omega) hn
          rw [← e1]
          rw [(show ∀ n : Nat, n < 6 → (n == 2) = (2 == n || (2 == 1 && n == 0)) by decide) n hn]
          exact this
        | tup ds =>
          simp only [Rep] at r1
          obtain ⟨p, xs, rfl, q, _⟩ := r1
          simp only [isOf', Option.some.injEq] at e1
          have hk := kit_at Γ.K 3 n (by omega) hn
          rw [(show ∀ n : Nat, n < 6 → (3 == n || (3 == 1 && n == 0)) = (n == 3) by decide) n hn, e1] at hk
          rcases q with (q | ⟨o, q⟩) | ⟨o, its, m, q1, q2, _⟩
          · exact fin _ (.base (.tup q)) hk
          · exact fin _ (.fTuple q) hk
          · exact fin _ (.kTuple q1 q2) hk
        | ref i =>
          simp only [isOf'] at e1
          cases e2 : S[i]? with
          | none => simp [e2] at e1
          | some o =>
            cases o with
            | lst ds =>
              simp only [e2, Option.some.injEq] at e1
              obtain ⟨p, ea, xs, q, _⟩ := rl.s.at e2
              simp only [Rep] at r1
              obtain ⟨p', e3, e4⟩ := r1
              rw [ea] at e4; cases e4
              subst e3
              have hk := kit_at Γ.K 4 n (by omega) hn
              rw [(show ∀ n : Nat, n < 6 → (4 == n || (4 == 1 && n == 0)) = (n == 4) by decide) n hn, e1] at hk
              exact fin _ (.base (.lst q)) hk
            | ro _ => simp [e2] at e1
            | dct _ => simp [e2] at e1
            | ins _ _ => simp [e2] at e1
        | fn _ => simp [isOf'] at e1
        | cls _ => simp [isOf'] at e1
        | ty _ => simp [isOf'] at e1
    | non => cases d <;> exact h.elim
    | bl _ => cases d <;> exact h.elim
    | int _ => cases d <;> exact h.elim
    | str _ => cases d <;> exact h.elim
    | tup _ => cases d <;> exact h.elim
    | ref _ => cases d <;> exact h.elim
    | fn _ => cases d <;> exact h.elim
    | cls _ => cases d <;> exact h.elim
  | d :: e :: _ :: _ => cases d <;> cases e <;> exact h.elim
/-! ### methods -/
/-- what a method keeps -/
def MSp (Γ : Gm) (r : V → List V → Hp → VK → Prop) (m : Mt) : Prop := ∀ (W : WX) ρ H σ L S x vs d ds Q, Rel Γ ρ H σ L S → Rep Γ ρ H x d → Reps Γ ρ H vs ds → Post Γ W (Rep Γ) ρ H σ L (meth m d ds S) Q → r x vs H Q
def tyM (m : Mt) : String := if isStrM m = true then "str" else "list"
theorem recv_ok {m : Mt} {d : D} {x : V} {S : Sto} {ρ : List Addr} {H : Hp} {σ : L2.St} {L : Loc} {α β : Type} {rep : List Addr → Hp → β → α → Prop} {k : Unit → M α} {Q : β → Hp → Prop} (rl : Rel Γ ρ H σ L S) (r : Rep Γ ρ H x d) (h : Post Γ W rep ρ H σ L (M.bind (recv m d) k S) Q) : tyV Γ.K (tyM m) x H ∧ Post Γ W rep ρ H σ L (k () S) Q := by
  unfold M.bind at h
  unfold recv at h
  unfold tyM
  by_cases e : isStrM m = true
  · rw [if_pos e] at h ⊢
    cases d with
    | str s =>
      rw [rep_str] at r
      obtain ⟨rfl, _⟩ := r
      exact ⟨rfl, h⟩
    | _ => exact h.elim
  · rw [if_neg e] at h ⊢
    cases d with
    | ref i =>
      simp only [recvL] at h
      cases e2 : S[i]? with
      | none => simp [e2, Post] at h
      | some o =>
        cases o with
        | lst ds =>
          simp only [e2] at h
          obtain ⟨p, ea, xs, q, rr⟩ := rl.s.at e2
          simp only [Rep] at r
          obtain ⟨p', e3, e4⟩ := r
          rw [ea] at e4; cases e4
          subst e3
          exact ⟨.inl ⟨rfl, xs, SqL.of q⟩, h⟩
        | ro _ => simp [e2, Post] at h
        | dct _ => simp [e2, Post] at h
        | ins _ _ => simp [e2, Post] at h
    | _ => exact h.elim
theorem g_meth (hK : X.K = Γ.K) {m : Mt} {r : V → List V → Hp → VK → Prop} (sp : MSp Γ r m) {fs : F (List D)} {e : Expr} (h : PE X e (tBM X.K (tyM m) r (tD Γ W fa) (tDs Γ W fs))) : PE X e (tD Γ W (fMeth m fa fs)) :=
  PE.weak h fun σ H Q h => by
    obtain ⟨ρ, L, S, rl, h⟩ := h
    refine ⟨ρ, L, S, rl, Post.bind h fun d S1 ρ1 H1 v p1 e1 rl1 r1 h1 => ?_⟩
    obtain ⟨ht, h1⟩ := recv_ok rl1 r1 h1
    refine ⟨by rw [hK]; exact ht, ρ1, L, S1, rl1, Post.bind (m := fs L) h1 fun vs S2 ρ2 H2 ws p2 x2 rl2 r2 h2 => sp W ρ2 H2 σ L S2 v ws d vs Q rl2 (Rep.mono p2 x2 d r1) r2 h2⟩
theorem g_meth0 (hK : X.K = Γ.K) {m : Mt} {r : V → List V → Hp → VK → Prop} (sp : MSp Γ r m) {e : Expr} (h : PE X e (tBM0 X.K (tyM m) r (tD Γ W fa))) : PE X e (tD Γ W (fMeth m fa fun _ => M.pure [])) :=
  PE.weak h fun σ H Q h => by
    obtain ⟨ρ, L, S, rl, h⟩ := h
    refine ⟨ρ, L, S, rl, Post.bind h fun d S1 ρ1 H1 v p1 e1 rl1 r1 h1 => ?_⟩
    obtain ⟨ht, h1⟩ := recv_ok rl1 r1 h1
    exact ⟨by rw [hK]; exact ht, sp W ρ1 H1 σ L S1 v [] d [] Q rl1 r1 (by simp only [Reps]) h1⟩
/-- the list that a method is asked of -/
theorem lst_at {d : D} {x : V} {S : Sto} {ρ : List Addr} {H : Hp} {σ : L2.St} {L : Loc} {i : Nat} {ds : List D} (rl : Rel Γ ρ H σ L S) (r : Rep Γ ρ H x (.ref i)) (e : S[i]? = some (.lst ds)) : ∃ p xs, x = .ref p ∧ ρ[i]? = some p ∧ H p = some (.lst xs) ∧ Reps Γ ρ H xs ds := by
  obtain ⟨p, ea, xs, q, rr⟩ := rl.s.at e
  simp only [Rep] at r
  obtain ⟨p', e3, e4⟩ := r
  rw [ea] at e4; cases e4
  exact ⟨p, xs, e3, ea, q, rr⟩
theorem sp_append : MSp Γ rAppend .append := by
  intro W ρ H σ L S x vs d ds Q rl rx rv h
  match d, ds with
  | .ref i, [z] =>
    obtain ⟨w, rfl, rw_⟩ := reps1 rv
    simp only [meth] at h
    cases e5 : S[i]? with
    | none => simp [e5, Post] at h
    | some o2 =>
      cases o2 with
      | lst ds2 =>
        simp only [e5] at h
        obtain ⟨p, ys, e1, e2, q3, r3⟩ := lst_at (d := d) rl rx e5
        by_cases hl : ds2.length < 16000000
        · rw [if_pos hl] at h
          have ex : Ext H (upd H p (.lst (ys ++ [w]))) := Ext.put (fun xs z => by rw [q3] at z; cases z) (fun o u z => by rw [q3] at z; cases z) (fun fs z => by rw [q3] at z; cases z)
          refine ⟨p, ys, w, e1, rfl, q3, ?_, ?_⟩
          · rw [r3.length]; exact Nat.lt_of_lt_of_le hl (by decide)
          · refine h ρ _ .non (List.prefix_refl _) ex ⟨rl.s.put e2 e5 rfl ex ⟨_, upd_same, ?_⟩ rfl, rl.l.mono (List.prefix_refl _) ex⟩ (rep_non.mpr rfl)
            exact Reps.append (Reps.mono (List.prefix_refl _) ex _ r3) (by simp only [Reps]; exact ⟨Rep.mono (List.prefix_refl _) ex _ rw_, trivial⟩)
        · rw [if_neg hl] at h; exact h.elim
      | ro _ => simp [e5, Post] at h
      | dct _ => simp [e5, Post] at h
      | ins _ _ => simp [e5, Post] at h
  | .ref i, [] => exact h.elim
  | .ref i, _ :: _ :: _ => exact h.elim
  | .non, _ => exact h.elim
  | .bl _, _ => exact h.elim
  | .int _, _ => exact h.elim
  | .str _, _ => exact h.elim
  | .tup _, _ => exact h.elim
  | .fn _, _ => exact h.elim
  | .cls _, _ => exact h.elim
  | .ty _, _ => exact h.elim
theorem sp_extend : MSp Γ rExtend .extend := by
  intro W ρ H σ L S x vs d ds Q rl rx rv h
  match d, ds with
  | .ref i, [.ref j] =>
    obtain ⟨w, rfl, rw_⟩ := reps1 rv
    simp only [meth] at h
    cases e5 : S[i]? with
    | none => simp [e5, Post] at h
    | some o2 =>
      cases o2 with
      | lst ds2 =>
        cases e6 : S[j]? with
        | none => simp [e5, e6, Post] at h
        | some o3 =>
          cases o3 with
          | lst ds3 =>
            simp only [e5, e6] at h
            obtain ⟨p, ys, e1, e2, q3, r3⟩ := lst_at (d := d) rl rx e5
            obtain ⟨p', zs, e1', e2', q3', r3'⟩ := lst_at (d := d) rl rw_ e6
            by_cases hl : i ≠ j ∧ ds2.length + ds3.length ≤ 16000000
            · rw [if_pos hl] at h
              have ex : Ext H (upd H p (.lst (ys ++ zs))) := Ext.put (fun xs z => by rw [q3] at z; cases z) (fun o u z => by rw [q3] at z; cases z) (fun fs z => by rw [q3] at z; cases z)
              refine ⟨p, p', ys, zs, e1, by rw [e1'], q3, q3', ?_, ?_⟩
              · rw [r3.length, r3'.length]; exact Nat.le_trans hl.2 (by decide)
              · refine h ρ _ .non (List.prefix_refl _) ex ⟨rl.s.put e2 e5 rfl ex ⟨_, upd_same, ?_⟩ rfl, rl.l.mono (List.prefix_refl _) ex⟩ (rep_non.mpr rfl)
                exact Reps.append (Reps.mono (List.prefix_refl _) ex _ r3) (Reps.mono (List.prefix_refl _) ex _ r3')
            · rw [if_neg hl] at h; exact h.elim
          | ro _ => simp [e5, e6, Post] at h
          | dct _ => simp [e5, e6, Post] at h
          | ins _ _ => simp [e5, e6, Post] at h
      | ro _ => simp [e5, Post] at h
      | dct _ => simp [e5, Post] at h
      | ins _ _ => simp [e5, Post] at h
  | .ref i, [] => exact h.elim
  | .ref i, z :: _ :: _ => cases z <;> exact h.elim
  | .ref i, [.non] => exact h.elim
  | .ref i, [.bl _] => exact h.elim
  | .ref i, [.int _] => exact h.elim
  | .ref i, [.str _] => exact h.elim
  | .ref i, [.tup _] => exact h.elim
  | .ref i, [.fn _] => exact h.elim
  | .ref i, [.cls _] => exact h.elim
  | .ref i, [.ty _] => exact h.elim
  | .non, _ => exact h.elim
  | .bl _, _ => exact h.elim
  | .int _, _ => exact h.elim
  | .str _, _ => exact h.elim
  | .tup _, _ => exact h.elim
  | .fn _, _ => exact h.elim
  | .cls _, _ => exact h.elim
  | .ty _, _ => exact h.elim
theorem Reps.dropLast {ρ : List Addr} {H : Hp} : ∀ {xs : List V} {ds : List D}, Reps Γ ρ H xs ds → Reps Γ ρ H xs.dropLast ds.dropLast
  | [], [], _ => by simp only [List.dropLast, Reps]
  | [_], [_], _ => by simp only [List.dropLast, Reps]
  | v :: w :: vs, d :: e :: ds, h => by
    rw [List.dropLast_cons_cons, List.dropLast_cons_cons]
    have h : Rep Γ ρ H v d ∧ Reps Γ ρ H (w :: vs) (e :: ds) := by simpa only [Reps] using h
    have := Reps.dropLast h.2
    simp only [Reps]
    exact ⟨h.1, this⟩
  | [], _ :: _, h => by simp only [Reps] at h
  | _ :: _, [], h => by simp only [Reps] at h
  | [_], _ :: _ :: _, h => by simp [Reps] at h
  | _ :: _ :: _, [_], h => by simp [Reps] at h
theorem sp_pop : MSp Γ rPop .pop := by
  intro W ρ H σ L S x vs d ds Q rl rx rv h
  match d, ds with
  | .ref i, [] =>
    rw [Reps.nil_iff] at rv
    subst rv
    simp only [meth] at h
    cases e5 : S[i]? with
    | none => simp [e5, Post] at h
    | some o2 =>
      cases o2 with
      | lst ds2 =>
        simp only [e5] at h
        obtain ⟨p, ys, e1, e2, q3, r3⟩ := lst_at (d := d) rl rx e5
        cases e6 : ds2[ds2.length - 1]? with
        | none => simp [e6, Post] at h
        | some y =>
          simp only [e6] at h
          obtain ⟨w, e7, r4⟩ := r3.get e6
          have ex : Ext H (upd H p (.lst ys.dropLast)) := Ext.put (fun xs z => by rw [q3] at z; cases z) (fun o u z => by rw [q3] at z; cases z) (fun fs z => by rw [q3] at z; cases z)
          refine ⟨p, ys, w, e1, rfl, q3, by rw [r3.length]; exact e7, ?_⟩
          refine h ρ _ w (List.prefix_refl _) ex ⟨rl.s.put e2 e5 rfl ex ⟨_, upd_same, ?_⟩ rfl, rl.l.mono (List.prefix_refl _) ex⟩ (Rep.mono (List.prefix_refl _) ex _ r4)
          exact Reps.mono (List.prefix_refl _) ex _ r3.dropLast
      | ro _ => simp [e5, Post] at h
      | dct _ => simp [e5, Post] at h
      | ins _ _ => simp [e5, Post] at h
  | .ref i, _ :: _ => exact h.elim
  | .non, _ => exact h.elim
  | .bl _, _ => exact h.elim
  | .int _, _ => exact h.elim
  | .str _, _ => exact h.elim
  | .tup _, _ => exact h.elim
  | .fn _, _ => exact h.elim
  | .cls _, _ => exact h.elim
  | .ty _, _ => exact h.elim
/-! ### calls -/
/-- what is wanted of a call's result -/
def PostC (Γ : Gm) (ρ : List Addr) (H : Hp) (r : R D) (Q : VK) (E : XK) : Prop := match r with
  | .ok d S' => ∀ ρ' H' v, ρ <+: ρ' → Ext H H' → SRel Γ ρ' H' S' → Rep Γ ρ' H' v d → Q v H'
  | .exc e S' => ∀ ρ' H' dx, ρ <+: ρ' → Ext H H' → SRel Γ ρ' H' S' → XRep Γ ρ' H' e dx → E (.ref (Γ.ca e.c)) dx H'
  | .bad => False
/-- a def's promise: it does what the meaning says -/
def spF (Γ : Gm) (np : Nat) (c : List D → M D) : Sp := fun vs H Q E => ∃ ρ S ds, SRel Γ ρ H S ∧ Reps Γ ρ H vs ds ∧ ds.length = np ∧ PostC Γ ρ H (c ds S) Q E
theorem Post.toC {ρ : List Addr} {H : Hp} {σ : L2.St} {L : Loc} {r : R D} {Q : VK} (hl : LRel Γ ρ H σ L) (h : Post Γ W (Rep Γ) ρ H σ L r Q) : PostC Γ ρ H r Q (WE W σ) := by
  cases r with
  | ok d S' => exact fun ρ' H' v p e s r => h ρ' H' v p e ⟨s, hl.mono p e⟩ r
  | exc x S' => exact fun ρ' H' dx p e s r => h ρ' H' dx p e s r
  | bad => exact h
theorem g_call {np : Nat} {C : List D → M D} {fs : F (List D)} {e : Expr} {dvs : List V} {dds : List D} (hnp : ∀ ds S, C ds S ≠ .bad → ds.length = np) (hd : ∀ ρ H, Reps Γ ρ H dvs dds) (h : PE X e (tCallSD (spF Γ np C) dvs (WE W) (tDs Γ W fs))) :
    PE X e (tD Γ W (F.bind fs fun vs _ => C (vs ++ dds))) :=
  PE.weak h fun σ H Q h => by
    obtain ⟨ρ, L, S, rl, h⟩ := h
    refine ⟨ρ, L, S, rl, Post.bind h fun ds S1 ρ1 H1 vs p1 e1 rl1 r1 h1 => ⟨ρ1, S1, ds ++ dds, rl1.s, Reps.append r1 (hd _ _), ?_, Post.toC rl1.l h1⟩⟩
    refine hnp _ S1 fun z => ?_
    have h1 : Post Γ W (Rep Γ) ρ1 H1 σ L (C (ds ++ dds) S1) Q := h1
    rw [z] at h1
    exact h1.elim
end Bv
end
section
/-! B1m: list.count, list.index of flat things -/
namespace Bv
open PySem L2 PyProof.Rows
variable {Γ : Gm} {X : Cx} {W : WX}
/-- how many of a list's flat items are alike -/
def rCntF (K : PySem.W.Frag) : V → List V → Hp → VK → Prop := fun x vs H Q => ∃ (a : Addr) (ys : List V) (y : V), x = .ref a ∧ vs = [y] ∧ SqL K H a ys ∧ flatV y = true ∧ ys.all flatV = true ∧ Q (.int (ys.countP fun z => eqV z y : Nat)) H
theorem count_of {y : V} : ∀ {ys : List V} {us : List Value}, Vals ys us → ys.all flatV = true → us.countP (eqU y) = ys.countP fun z => eqV z y
  | _, _, .nil, _ => rfl
  | z :: zs, u :: us, .cons r t, f => by
    rw [List.all_cons, Bool.and_eq_true] at f
    rw [List.countP_cons, List.countP_cons, count_of t f.2, eqU_of r f.1]
theorem mt_cntF : MtR X "list.count" (rCntF X.K) := by
  intro pins s σ H x vs v us Q I rx rv h
  obtain ⟨a, ys, y, rfl, rfl, hs, fy, fys, q⟩ := h
  cases rx
  cases rv with
  | cons ry rt =>
    cases rt
    obtain ⟨its, rs, ⟨⟨cls, dd, data, sl⟩, n, ho, hc, hdn, hd⟩, hlen⟩ := I.list hs
    simp only at hc hd
    subst hc hd
    refine call_meets PySem.F.slot_list_count ⟨_, ho, rfl⟩ PySem.F.entry_list_count (PySem.F.args_list_count_2 _ _) (SeqAt.list_countAt a its.toArray n dd sl _ (eqU y)) ⟨ho, fun u hu => mem_eqAt ry fy rs fys u (by simpa using hu), ?_⟩
    have ec : its.toArray.toList.countP (eqU y) = ys.countP fun z => eqV z y := count_of rs fys
    exact ⟨.int (ys.countP fun z => eqV z y : Nat), H, I.tok _, ⟨_, by rw [ec]⟩, q⟩
/-- flat things of the tongue are flat -/
theorem flats_eq {ρ : List Addr} {H : Hp} {v : V} {d : D} {t : T} (r : Rep Γ ρ H v d) (h : flat d = some t) : ∀ {vs : List V} {ds : List D} {ts : List T}, Reps Γ ρ H vs ds → ds.mapM flat = some ts → vs.all flatV = true ∧ vs.map (fun w => eqV w v) = ts.map fun u => T.eqv t u
  | vs, [], ts, rs, hm => by
    rw [Reps.nil_iff] at rs; subst rs
    simp at hm; subst hm
    exact ⟨rfl, rfl⟩
  | vs, e :: ds, ts, rs, hm => by
    rw [Reps.cons_iff] at rs
    obtain ⟨w, ws, rfl, r1, r2⟩ := rs
    rw [List.mapM_cons] at hm
    cases h1 : flat e with
    | none => rw [h1] at hm; cases hm
    | some u =>
      cases h2 : ds.mapM flat with
      | none => rw [h1, h2] at hm; cases hm
      | some us =>
        rw [h1, h2] at hm
        have : u :: us = ts := by simpa using hm
        subst this
        obtain ⟨f1, f2, f3⟩ := flat_eqV r r1 h h1
        obtain ⟨g1, g2⟩ := flats_eq r h r2 h2
        exact ⟨by simp [f2, g1], by rw [List.map_cons, List.map_cons, f3, g2]⟩
theorem flat_V {ρ : List Addr} {H : Hp} {v : V} {d : D} {t : T} (r : Rep Γ ρ H v d) (h : flat d = some t) : flatV v = true := (flat_eqV r r h h).1
theorem countP_map' {α β : Type} {f : α → Bool} {g : β → Bool} {xs : List α} {ys : List β} (h : xs.map f = ys.map g) : xs.countP f = ys.countP g := by
  have e1 : xs.countP f = (xs.map f).countP id := by rw [List.countP_map]; rfl
  have e2 : ys.countP g = (ys.map g).countP id := by rw [List.countP_map]; rfl
  rw [e1, e2, h]
theorem findIdx_map' {α β : Type} {f : α → Bool} {g : β → Bool} {xs : List α} {ys : List β} (h : xs.map f = ys.map g) : xs.findIdx? f = ys.findIdx? g := by
  have e1 : xs.findIdx? f = (xs.map f).findIdx? id := by rw [List.findIdx?_map]; rfl
  have e2 : ys.findIdx? g = (ys.map g).findIdx? id := by rw [List.findIdx?_map]; rfl
  rw [e1, e2, h]
theorem sp_count : MSp Γ (rCntF Γ.K) .count := by
  intro W ρ H σ L S x vs d ds Q rl rx rv h
  match d, ds with
  | .ref i, [z] =>
    obtain ⟨w, rfl, rw_⟩ := reps1 rv
    simp only [meth] at h
    cases e5 : S[i]? with
    | none => simp [e5, Post] at h
    | some o2 =>
      cases o2 with
      | lst ds2 =>
        simp only [e5] at h
        obtain ⟨p, ys, e1, e2, q3, r3⟩ := lst_at (d := d) rl rx e5
        unfold countD at h
        cases e6 : flat z with
        | none => simp [e6, Post] at h
        | some a =>
          cases e7 : ds2.mapM flat with
          | none => simp [e6, e7, Post] at h
          | some bs =>
            simp only [e6, e7] at h
            obtain ⟨g1, g2⟩ := flats_eq rw_ e6 r3 e7
            refine ⟨p, ys, w, e1, rfl, SqL.of q3, flat_V rw_ e6, g1, ?_⟩
            rw [countP_map' g2]
            exact h ρ H _ (List.prefix_refl _) (Ext.refl _) rl (rep_int.mpr rfl)
      | ro _ => simp [e5, Post] at h
      | dct _ => simp [e5, Post] at h
      | ins _ _ => simp [e5, Post] at h
  | .ref i, [] => exact h.elim
  | .ref i, _ :: _ :: _ => exact h.elim
  | .non, _ => exact h.elim
  | .bl _, _ => exact h.elim
  | .int _, _ => exact h.elim
  | .str _, _ => exact h.elim
  | .tup _, _ => exact h.elim
  | .fn _, _ => exact h.elim
  | .cls _, _ => exact h.elim
  | .ty _, _ => exact h.elim
theorem sp_index : MSp Γ (rIndex Γ.K) .index := by
  intro W ρ H σ L S x vs d ds Q rl rx rv h
  match d, ds with
  | .ref i, [z] =>
    obtain ⟨w, rfl, rw_⟩ := reps1 rv
    simp only [meth] at h
    cases e5 : S[i]? with
    | none => simp [e5, Post] at h
    | some o2 =>
      cases o2 with
      | lst ds2 =>
        simp only [e5] at h
        obtain ⟨p, ys, e1, e2, q3, r3⟩ := lst_at (d := d) rl rx e5
        unfold indexD at h
        cases e6 : flat z with
        | none => simp [e6, Post] at h
        | some a =>
          cases e7 : ds2.mapM flat with
          | none => simp [e6, e7, Post] at h
          | some bs =>
            simp only [e6, e7] at h
            obtain ⟨g1, g2⟩ := flats_eq rw_ e6 r3 e7
            rw [← findIdx_map' g2] at h
            cases e8 : ys.findIdx? (fun v => eqV v w) with
            | none => simp [e8, Post] at h
            | some j =>
              simp only [e8] at h
              obtain ⟨hj, h1, h2⟩ := List.findIdx?_eq_some_iff_getElem.mp e8
              refine ⟨p, ys, w, j, ys[j], e1, rfl, SqL.of q3, flat_V rw_ e6, g1, List.getElem?_eq_getElem hj, h1, fun m z' hm hz => ?_, ?_⟩
              · obtain ⟨hm', e9⟩ := List.getElem?_eq_some_iff.mp hz
                have := h2 m hm
                rw [e9] at this
                simpa using this
              · exact h ρ H _ (List.prefix_refl _) (Ext.refl _) rl (rep_int.mpr rfl)
      | ro _ => simp [e5, Post] at h
      | dct _ => simp [e5, Post] at h
      | ins _ _ => simp [e5, Post] at h
  | .ref i, [] => exact h.elim
  | .ref i, _ :: _ :: _ => exact h.elim
  | .non, _ => exact h.elim
  | .bl _, _ => exact h.elim
  | .int _, _ => exact h.elim
  | .str _, _ => exact h.elim
  | .tup _, _ => exact h.elim
  | .fn _, _ => exact h.elim
  | .cls _, _ => exact h.elim
  | .ty _, _ => exact h.elim
end Bv
end
section
/-! B1n: + and * of lists and tuples; all, any, list, tuple; texts' methods; dicts -/
namespace Bv
open PySem PySem.Spec L2 PyProof.Rows
variable {Γ : Gm} {X : Cx} {W : WX}
/-! ### + -/
def rAddA (K : PySem.W.Frag) : R2 := fun x y H Q => (rAdd x y H Q ∨ rCat x y H Q) ∨ rCatT K x y H Q
theorem or_addA : OpR X (binaryOp .Add) (rAddA X.K) := OpR.or (OpR.or or_add op_cat) op_catT
/-- a new tuple -/
theorem new_tup {ρ : List Addr} {H : Hp} {σ : L2.St} {L : Loc} {S : Sto} {vs : List V} {ds : List D} {p : Addr} {Q : VK} (rl : Rel Γ ρ H σ L S) (r : Reps Γ ρ H vs ds) (hp : H p = none) (h : Post Γ W (Rep Γ) ρ H σ L (.ok (.tup ds) S) Q) : Q (.ref p) (upd H p (.tup vs)) := by
  have ex : Ext H (upd H p (.tup vs)) := Ext.new hp
  refine h ρ _ (.ref p) (List.prefix_refl _) ex ⟨rl.s.keep ex fun a ha => upd_ne fun z => ha (by rw [z]; exact hp), rl.l.mono (List.prefix_refl _) ex⟩ ?_
  simp only [Rep]
  exact ⟨p, vs, rfl, SqT.of upd_same, Reps.mono (List.prefix_refl _) ex ds r⟩
theorem sp_add0 : Spec2 Γ (Rep Γ) rAdd (aug2 .add) := by
  intro W ρ H σ L S x y d1 d2 Q rl r1 r2 h
  cases d1 <;> cases d2 <;> try exact h.elim
  · rw [rep_int] at r1 r2
    exact .inl ⟨_, _, r1, r2, post_here h rl (rep_int.mpr rfl)⟩
  · rename_i s t
    rw [rep_str] at r1 r2
    have h : Post Γ W (Rep Γ) ρ H σ L ((if s.length + t.length ≤ 16000000 then M.pure (.str (s ++ t)) else M.bad) S) Q := h
    obtain ⟨hl, h⟩ := post_if (m := M.pure _) h
    exact .inr ⟨_, _, r1.1, r2.1, by rw [str_len, str_len]; exact line16 hl, by
      rw [str_app]
      exact post_here h rl (rep_str.mpr ⟨rfl, fun c hc => (List.mem_append.mp hc).elim (r1.2 c) (r2.2 c)⟩)⟩
theorem sp_add : Spec2 Γ (Rep Γ) (rAddA Γ.K) (op2 .add) := by
  intro W ρ H σ L S x y d1 d2 Q rl r1 r2 h
  cases d1 <;> cases d2 <;> try exact h.elim
  · exact .inl (.inl (sp_add0 W ρ H σ L S x y _ _ Q rl r1 r2 h))
  · exact .inl (.inl (sp_add0 W ρ H σ L S x y _ _ Q rl r1 r2 h))
  · rename_i xs ys
    obtain ⟨⟨hne, hl⟩, h⟩ := post_if (m := M.pure _) h
    simp only [Rep] at r1 r2
    obtain ⟨p, vs, rfl, q1, r1⟩ := r1
    obtain ⟨p', ws, rfl, q2, r2⟩ := r2
    have l1 := r1.length
    have l2 := r2.length
    refine .inr ⟨p, p', vs, ws, rfl, rfl, q1, q2, fun z => hne (List.length_eq_zero_iff.mp (by rw [← l1, z]; rfl)), by rw [l1, l2]; exact line16 hl, fun z => ?_, fun _ q hq => ?_⟩
    · have : ys = [] := List.length_eq_zero_iff.mp (by rw [← l2, z]; rfl)
      subst this
      rw [List.append_nil] at h
      exact post_here h rl (by simp only [Rep]; exact ⟨p, vs, rfl, q1, r1⟩)
    · exact new_tup rl (Reps.append r1 r2) hq h
  · rename_i i j
    simp only [op2] at h
    cases e1 : S[i]? with
    | none => simp [e1, Post] at h
    | some o =>
      cases o with
      | lst xs =>
        cases e2 : S[j]? with
        | none => simp [e1, e2, Post] at h
        | some o' =>
          cases o' with
          | lst ys =>
            simp only [e1, e2] at h
            obtain ⟨p, vs, ep, _, q1, rr1⟩ := lst_at (d := .non) rl r1 e1
            obtain ⟨p', ws, ep', _, q2, rr2⟩ := lst_at (d := .non) rl r2 e2
            by_cases hl : xs.length + ys.length ≤ 16000000
            · rw [if_pos hl] at h
              exact .inl (.inr ⟨p, p', vs, ws, ep, ep', q1, q2, by rw [rr1.length, rr2.length]; exact line16 hl, fun q hq => new_list rl (Reps.append rr1 rr2) hq h⟩)
            · rw [if_neg hl] at h; exact h.elim
          | ro _ => simp [e1, e2, Post] at h
          | dct _ => simp [e1, e2, Post] at h
          | ins _ _ => simp [e1, e2, Post] at h
      | ro _ => simp [e1, Post] at h
      | dct _ => simp [e1, Post] at h
      | ins _ _ => simp [e1, Post] at h
/-! ### * -/
def rMulA (K : PySem.W.Frag) : R2 := fun x y H Q => (rMul x y H Q ∨ rRep x y H Q) ∨ rRepT K x y H Q
theorem or_mulA : OpR X (binaryOp .Mult) (rMulA X.K) := OpR.or (OpR.or or_mul op_rep) op_repT
theorem Reps.reps {ρ : List Addr} {H : Hp} {vs : List V} {ds : List D} (r : Reps Γ ρ H vs ds) : ∀ n : Nat, Reps Γ ρ H (List.replicate n vs).flatten (List.replicate n ds).flatten
  | 0 => by simp only [List.replicate_zero, List.flatten_nil, Reps]
  | n + 1 => by
    rw [List.replicate_succ, List.replicate_succ, List.flatten_cons, List.flatten_cons]
    exact Reps.append r (Reps.reps r n)
theorem sp_mul : Spec2 Γ (Rep Γ) (rMulA Γ.K) (op2 .mul) := by
  intro W ρ H σ L S x y d1 d2 Q rl r1 r2 h
  cases d1 <;> cases d2 <;> try exact h.elim
  · rename_i i j
    rw [rep_int] at r1 r2
    obtain ⟨hl, h⟩ := post_if (m := M.pure _) h
    unfold bitsOk at hl
    simp only [Bool.or_eq_true, decide_eq_true_eq] at hl
    rcases hl with (hl | hl) | hl
    · exact .inl (.inl (.inl (.inl ⟨_, _, r1, r2, .inl hl, post_here h rl (rep_int.mpr rfl)⟩)))
    · exact .inl (.inl (.inl (.inl ⟨_, _, r1, r2, .inr hl, post_here h rl (rep_int.mpr rfl)⟩)))
    · exact .inl (.inl (.inl (.inr ⟨_, _, r1, r2, hl, post_here h rl (rep_int.mpr rfl)⟩)))
  · rename_i s n
    rw [rep_str] at r1
    rw [rep_int] at r2
    obtain ⟨⟨hl, h1, h2⟩, h⟩ := post_if (m := M.pure _) h
    refine .inl (.inl (.inr ⟨_, _, r1.1, r2, ?_, by
      rw [txt_mul]
      refine post_here h rl (rep_str.mpr ⟨rfl, fun c hc => ?_⟩)
      obtain ⟨l, hl, hc⟩ := List.mem_flatten.mp hc
      rw [List.eq_of_mem_replicate hl] at hc
      exact r1.2 c hc⟩))
    refine mulOk_of s.length n.toNat (by rw [str_len]; exact Nat.le_refl _) (by omega) h1 (by omega) (by omega)
  · rename_i xs n
    rw [rep_int] at r2
    obtain ⟨⟨hne, h1, h2, h3⟩, h⟩ := post_if (m := M.pure _) h
    simp only [Rep] at r1
    obtain ⟨p, vs, rfl, q1, r1⟩ := r1
    have l1 := r1.length
    exact .inr ⟨p, n, vs, rfl, r2, q1, fun z => hne (List.length_eq_zero_iff.mp (by rw [← l1, z]; rfl)), h1, h2, by rw [l1]; exact h3, fun q hq => new_tup rl (Reps.reps r1 _) hq h⟩
  · rename_i i n
    rw [rep_int] at r2
    simp only [op2] at h
    cases e1 : S[i]? with
    | none => simp [e1, Post] at h
    | some o =>
      cases o with
      | lst xs =>
        simp only [e1] at h
        obtain ⟨p, vs, ep, _, q1, rr1⟩ := lst_at (d := .non) rl r1 e1
        by_cases hl : xs.length * n.toNat ≤ 16000000 ∧ -(2 ^ 63) ≤ n ∧ n < 2 ^ 63
        · rw [if_pos hl] at h
          exact .inl (.inr ⟨p, n, vs, ep, r2, q1, hl.2.1, hl.2.2, by rw [rr1.length]; exact line16 hl.1, fun q hq => new_list rl (Reps.reps rr1 _) hq h⟩)
        · rw [if_neg hl] at h; exact h.elim
      | ro _ => simp [e1, Post] at h
      | dct _ => simp [e1, Post] at h
      | ins _ _ => simp [e1, Post] at h
/-! ### all, any, list, tuple -/
theorem bls_of {ρ : List Addr} {H : Hp} : ∀ {ds : List D} {vs : List V} {bs : List Bool}, Reps Γ ρ H vs ds → ds.mapM blOf = some bs → vs = bs.map V.bl
  | [], vs, bs, r, h => by
    rw [Reps.nil_iff] at r; subst r
    simp at h; subst h
    rfl
  | d :: ds, vs, bs, r, h => by
    rw [Reps.cons_iff] at r
    obtain ⟨v, ws, rfl, r1, r2⟩ := r
    rw [List.mapM_cons] at h
    cases e1 : blOf d with
    | none => rw [e1] at h; cases h
    | some b =>
      cases e2 : ds.mapM blOf with
      | none => rw [e1, e2] at h; cases h
      | some cs =>
        rw [e1, e2] at h
        have : b :: cs = bs := by simpa using h
        subst this
        cases d <;> simp [blOf] at e1
        subst e1
        rw [rep_bl] at r1
        rw [bls_of r2 e2, r1]
        rfl
theorem sp_all : SpecN Γ (rAll Γ.K) (prim .all1) := by
  intro W ρ H σ L S xs ds Q rl rs h
  match ds with
  | [] => exact h.elim
  | [d] =>
    obtain ⟨v, rfl, r⟩ := reps1 rs
    cases d <;> try exact h.elim
    rename_i i
    simp only [prim] at h
    cases e1 : S[i]? with
    | none => simp [e1, Post] at h
    | some o =>
      cases o with
      | lst ys =>
        simp only [e1] at h
        obtain ⟨p, vs, ep, _, q1, rr1⟩ := lst_at (d := .non) rl r e1
        cases e2 : ys.mapM blOf with
        | none => simp [e2, Post] at h
        | some bs =>
          simp only [e2] at h
          refine ⟨p, bs, by rw [ep], ?_, post_here h rl (rep_bl.mpr rfl)⟩
          rw [← bls_of rr1 e2]
          exact SqL.of q1
      | ro _ => simp [e1, Post] at h
      | dct _ => simp [e1, Post] at h
      | ins _ _ => simp [e1, Post] at h
  | d :: _ :: _ => cases d <;> exact h.elim
theorem sp_any : SpecN Γ (rAny Γ.K) (prim .any1) := by
  intro W ρ H σ L S xs ds Q rl rs h
  match ds with
  | [] => exact h.elim
  | [d] =>
    obtain ⟨v, rfl, r⟩ := reps1 rs
    cases d <;> try exact h.elim
    rename_i i
    simp only [prim] at h
    cases e1 : S[i]? with
    | none => simp [e1, Post] at h
    | some o =>
      cases o with
      | lst ys =>
        simp only [e1] at h
        obtain ⟨p, vs, ep, _, q1, rr1⟩ := lst_at (d := .non) rl r e1
        cases e2 : ys.mapM blOf with
        | none => simp [e2, Post] at h
        | some bs =>
          simp only [e2] at h
          refine ⟨p, bs, by rw [ep], ?_, post_here h rl (rep_bl.mpr rfl)⟩
          rw [← bls_of rr1 e2]
          exact SqL.of q1
      | ro _ => simp [e1, Post] at h
      | dct _ => simp [e1, Post] at h
      | ins _ _ => simp [e1, Post] at h
  | d :: _ :: _ => cases d <;> exact h.elim
/-- list(text) -/
def rListT : List V → Hp → VK → Prop := fun xs H Q => ∃ z : PySem.Str, xs = [.str z] ∧ z.cps.size ≤ sizeLine ∧ ∀ l, H l = none → Q (.ref l) (upd H l (.lst (z.cps.toList.map fun c => V.str ⟨#[c]⟩)))
theorem call_list_text (hc : X.calm = true) : CallR X (.type "list") rListT := by
  intro pins s σ H xs us Q I r h
  obtain ⟨z, rfl, hz, q⟩ := h
  obtain ⟨u, rfl, t, rfl⟩ := vals1 r
  refine call_list_str (I.ok.hd hc) z t (fun h' tk acc' c' kp e hacc => ?_) hz
  have hv : Vals (z.cps.toList.map fun c => V.str ⟨#[c]⟩) acc'.toList := by
    refine vals_of_at ?_ fun j x u h1 h2 => ?_
    · rw [List.length_map, Array.length_toList, Array.length_toList]
      exact hacc.1.symm
    · rw [Array.getElem?_toList] at h2
      obtain ⟨c, tk, h3, rfl⟩ := hacc.2 j u h2
      rw [List.getElem?_map, Array.getElem?_toList, h3] at h1
      cases h1
      exact ⟨tk, rfl⟩
  refine ⟨.ref s.heap.objs.size, _, I.laid (t' := tk) kp (Nat.le_refl _) (show ObjOk X.prog X.w _ h' _ (.lst (z.cps.toList.map fun c => V.str ⟨#[c]⟩)) from ⟨by rw [List.length_map, Array.length_toList]; exact hz, acc'.toList, c', hv, by simpa using e⟩), rfl, q _ (I.hok.fresh (Nat.le_refl _))⟩
theorem sp_list1 : SpecN Γ (fun xs H Q => (∃ p ys, xs = [.ref p] ∧ (SqL Γ.K H p ys ∨ SqT Γ.K H p ys) ∧ ∀ l, H l = none → Q (.ref l) (upd H l (.lst ys))) ∨ rListT xs H Q) (prim .list1) := by
  intro W ρ H σ L S xs ds Q rl rs h
  match ds with
  | [] => exact h.elim
  | [d] =>
    obtain ⟨v, rfl, r⟩ := reps1 rs
    have gen : (∀ s, d ≠ .str s) → (∃ p ys, [v] = [.ref p] ∧ (SqL Γ.K H p ys ∨ SqT Γ.K H p ys) ∧ ∀ l, H l = none → Q (.ref l) (upd H l (.lst ys))) := fun hd => by
      have h : Post Γ W (Rep Γ) ρ H σ L ((match seqOf S d with
        | some xs => M.new (.lst xs) S
        | none => .bad)) Q := by
        cases d <;> first | exact h | exact absurd rfl (hd _)
      cases e1 : seqOf S d with
      | none => simp [e1, Post] at h
      | some ys =>
        simp only [e1] at h
        obtain ⟨p, vs, ep, q, rr⟩ := rl.s.seqD r e1
        exact ⟨p, vs, by rw [ep], q, fun l hl => new_list rl rr hl h⟩
    cases d with
    | str s =>
      obtain ⟨rfl, hs⟩ := rep_str.mp r
      simp only [prim] at h
      by_cases c : s.length ≤ 16000000
      · rw [if_pos c] at h
        refine .inr ⟨_, rfl, by rw [List.size_toArray]; exact line16 c, fun l hl => new_list rl ?_ hl h⟩
        show Reps Γ ρ H (s.map fun c => V.str ⟨#[c]⟩) (s.map fun c => D.str [c])
        clear h r c rs gen
        induction s with
        | nil => simp only [List.map_nil, Reps]
        | cons a s ih =>
          simp only [List.map_cons, Reps]
          exact ⟨rep_str.mpr ⟨rfl, fun c hc => by rw [List.mem_singleton.mp hc]; exact hs a (List.mem_cons_self ..)⟩, ih fun c hc => hs c (List.mem_cons_of_mem _ hc)⟩
      · rw [if_neg c] at h
        exact h.elim
    | non => exact .inl (gen (by intro s e; cases e))
    | bl _ => exact .inl (gen (by intro s e; cases e))
    | int _ => exact .inl (gen (by intro s e; cases e))
    | tup _ => exact .inl (gen (by intro s e; cases e))
    | ref _ => exact .inl (gen (by intro s e; cases e))
    | fn _ => exact .inl (gen (by intro s e; cases e))
    | cls _ => exact .inl (gen (by intro s e; cases e))
    | ty _ => exact .inl (gen (by intro s e; cases e))
  | d :: _ :: _ => cases d <;> exact h.elim
theorem sp_tuple1 : SpecN Γ (fun xs H Q => ∃ p ys, xs = [.ref p] ∧ ((SqL Γ.K H p ys ∧ ∀ l, H l = none → Q (.ref l) (upd H l (.tup ys))) ∨ (SqT Γ.K H p ys ∧ Q (.ref p) H))) (prim .tuple1) := by
  intro W ρ H σ L S xs ds Q rl rs h
  match ds with
  | [] => exact h.elim
  | [d] =>
    obtain ⟨v, rfl, r⟩ := reps1 rs
    simp only [prim] at h
    cases e1 : seqOf S d with
    | none => simp [e1, Post] at h
    | some ys =>
      simp only [e1] at h
      obtain ⟨p, vs, ep, q, rr⟩ := rl.s.seqD r e1
      rcases q with q | q
      · exact ⟨p, vs, by rw [ep], .inl ⟨q, fun l hl => new_tup rl rr hl h⟩⟩
      · exact ⟨p, vs, by rw [ep], .inr ⟨q, post_here h rl (by simp only [Rep]; exact ⟨p, vs, rfl, q, rr⟩)⟩⟩
  | d :: _ :: _ => cases d <;> exact h.elim
/-! ### texts -/
theorem str_eq {a : PySem.Str} {l : List Nat} (h : TL.tl a = l) : a = ⟨l.toArray⟩ := by
  subst h
  exact (TL.mk_tl a).symm
theorem spl_splitC (c : Nat) : ∀ (s acc : List Nat), TL.spl [c] 0 acc s = splitC c s acc
  | [], acc => TL.spl_nil _ _ _
  | x :: r, acc => by
    unfold splitC
    by_cases e : x = c
    · subst e
      rw [if_pos rfl, TL.spl_hit (show TL.pre [x] (x :: r) = true from TL.pre_self [x] r)]
      show acc :: TL.spl [x] 0 [] r = _
      rw [spl_splitC]
    · rw [if_neg e, TL.spl_miss (TL.pre_of_head [] r e), spl_splitC]
theorem splitC_mem {c x : Nat} : ∀ {s acc : List Nat} {p : List Nat}, p ∈ splitC c s acc → x ∈ p → x ∈ s ∨ x ∈ acc
  | [], acc, p, h, hx => by
    simp only [splitC, List.mem_singleton] at h
    subst h
    exact .inr hx
  | y :: r, acc, p, h, hx => by
    unfold splitC at h
    split at h
    · rcases List.mem_cons.mp h with rfl | h
      · exact .inr hx
      · rcases splitC_mem h hx with q | q
        · exact .inl (List.mem_cons_of_mem _ q)
        · cases q
    · rcases splitC_mem h hx with q | q
      · exact .inl (List.mem_cons_of_mem _ q)
      · rcases List.mem_append.mp q with q | q
        · exact .inr q
        · rw [List.mem_singleton.mp q]; exact .inl List.mem_cons_self
theorem reps_strs {ρ : List Addr} {H : Hp} : ∀ {ls : List (List Nat)}, (∀ l ∈ ls, ∀ c ∈ l, c < 1114112) → Reps Γ ρ H (ls.map fun l => V.str ⟨l.toArray⟩) (ls.map D.str)
  | [], _ => by simp only [List.map_nil, Reps]
  | l :: ls, h => by
    simp only [List.map_cons, Reps]
    exact ⟨rep_str.mpr ⟨rfl, h l List.mem_cons_self⟩, reps_strs fun l' hl' => h l' (List.mem_cons_of_mem _ hl')⟩
theorem map_strs {as : List PySem.Str} {ls : List (List Nat)} (h : as.map TL.tl = ls) : as = ls.map fun l => ⟨l.toArray⟩ := by
  subst h
  rw [List.map_map]
  refine (List.map_id as).symm.trans (List.map_congr_left fun a _ => ?_)
  exact (TL.mk_tl a).symm
theorem sp_split : MSp Γ (fun x xs H Q => ∃ a b, x = .str a ∧ xs = [.str b] ∧ (b.length == 0) = false ∧ a.length + 2 ≤ sizeLine ∧ rNewStrs (Txt.split a b) H Q) .split := by
  intro W ρ H σ L S x vs d ds Q rl rx rv h
  have h : Post Γ W (Rep Γ) ρ H σ L (mSplit d ds S) Q := h
  unfold mSplit at h
  split at h
  · rename_i s c hold
    clear hold
    obtain ⟨⟨hl, hc2⟩, h⟩ := post_if (m := M.new _) h
    obtain ⟨w, rfl, rw_⟩ := reps1 rv
    rw [rep_str] at rx rw_
    obtain ⟨rfl, hx⟩ := rx
    obtain ⟨rfl, hc⟩ := rw_
    have hk : (⟨[c].toArray⟩ : PySem.Str).cps.all (· < 256) = true := by simp [hc2]
    have es : Txt.split ⟨s.toArray⟩ ⟨[c].toArray⟩ = (splitC c s []).map fun l => (⟨l.toArray⟩ : PySem.Str) := by
      refine map_strs ?_
      rw [TL.split_spl _ _ (by show [c] ≠ []; simp) (TL.kind_ok hk)]
      show TL.spl [c] 0 [] s = _
      exact spl_splitC c s []
    refine ⟨_, _, rfl, rfl, rfl, by rw [str_len]; exact Nat.le_trans (Nat.add_le_add_right hl 2) (by decide), fun p hp => ?_⟩
    rw [es, List.map_map]
    refine new_list rl (reps_strs fun l hl' c' hc' => ?_) hp h
    rcases splitC_mem hl' hc' with q | q
    · exact hx c' q
    · cases q
  · exact h.elim
theorem strs_of {ρ : List Addr} {H : Hp} : ∀ {ds : List D} {vs : List V} {ls : List (List Nat)}, Reps Γ ρ H vs ds → ds.mapM strOfD = some ls → vs = ls.map (fun l => V.str ⟨l.toArray⟩) ∧ ∀ l ∈ ls, ∀ c ∈ l, c < 1114112
  | [], vs, bs, r, h => by
    rw [Reps.nil_iff] at r; subst r
    simp at h; subst h
    exact ⟨rfl, fun l hl => by cases hl⟩
  | d :: ds, vs, bs, r, h => by
    rw [Reps.cons_iff] at r
    obtain ⟨v, ws, rfl, r1, r2⟩ := r
    rw [List.mapM_cons] at h
    cases e1 : strOfD d with
    | none => rw [e1] at h; cases h
    | some b =>
      cases e2 : ds.mapM strOfD with
      | none => rw [e1, e2] at h; cases h
      | some cs =>
        rw [e1, e2] at h
        have : b :: cs = bs := by simpa using h
        subst this
        cases d <;> simp [strOfD] at e1
        subst e1
        rw [rep_str] at r1
        obtain ⟨g1, g2⟩ := strs_of r2 e2
        refine ⟨by rw [g1, r1.1]; rfl, fun l hl => ?_⟩
        rcases List.mem_cons.mp hl with rfl | hl
        · exact r1.2
        · exact g2 l hl
theorem joinS_eq (s : List Nat) : ∀ ls : List (List Nat), joinS s ls = TL.joinL s ls
  | [] => rfl
  | [x] => rfl
  | x :: y :: r => by
    show x ++ s ++ joinS s (y :: r) = x ++ (s ++ TL.joinL s (y :: r))
    rw [joinS_eq, List.append_assoc]
theorem joinS_mem {s : List Nat} {c : Nat} : ∀ {ls : List (List Nat)}, c ∈ joinS s ls → c ∈ s ∨ ∃ l ∈ ls, c ∈ l
  | [], h => by cases h
  | [x], h => .inr ⟨x, List.mem_singleton.mpr rfl, h⟩
  | x :: y :: r, h => by
    have h : c ∈ x ++ s ++ joinS s (y :: r) := h
    rcases List.mem_append.mp h with h | h
    · rcases List.mem_append.mp h with h | h
      · exact .inr ⟨x, List.mem_cons_self, h⟩
      · exact .inl h
    · rcases joinS_mem h with q | ⟨l, hl, q⟩
      · exact .inl q
      · exact .inr ⟨l, List.mem_cons_of_mem _ hl, q⟩
def rJoin (K : PySem.W.Frag) : V → List V → Hp → VK → Prop := fun x xs H Q => ∃ a p, ∃ ys : List PySem.Str, x = .str a ∧ xs = [.ref p] ∧ (SqL K H p (ys.map V.str) ∨ SqT K H p (ys.map V.str)) ∧ (ys.map (·.length)).sum + ys.length * a.length ≤ 16777216 ∧ Q (.str (Txt.join a ys)) H
theorem sp_join : MSp Γ (rJoin Γ.K) .join := by
  intro W ρ H σ L S x vs d ds Q rl rx rv h
  have h : Post Γ W (Rep Γ) ρ H σ L (mJoin d ds S) Q := h
  unfold mJoin at h
  split at h
  · rename_i s i hold
    clear hold
    obtain ⟨w, rfl, rw_⟩ := reps1 rv
    rw [rep_str] at rx
    obtain ⟨rfl, hx⟩ := rx
    cases e1 : S[i]? with
    | none => simp [e1, Post] at h
    | some o =>
      cases o with
      | lst xs =>
        simp only [e1] at h
        obtain ⟨p, vs, ep, _, q1, rr1⟩ := lst_at (d := .non) rl rw_ e1
        cases e2 : xs.mapM strOfD with
        | none => simp [e2, Post] at h
        | some ls =>
          simp only [e2] at h
          obtain ⟨g1, g2⟩ := strs_of rr1 e2
          by_cases hl : sumLen ls + ls.length * s.length ≤ 16000000
          · rw [if_pos hl] at h
            refine ⟨⟨s.toArray⟩, p, ls.map fun l => ⟨l.toArray⟩, rfl, by rw [ep], .inl ?_, ?_, ?_⟩
            · rw [List.map_map]
              have : vs = ls.map (V.str ∘ fun l => (⟨l.toArray⟩ : PySem.Str)) := g1
              rw [← this]
              exact SqL.of q1
            · rw [List.map_map, List.length_map, str_len]
              have : (ls.map ((fun y : PySem.Str => y.length) ∘ fun l => (⟨l.toArray⟩ : PySem.Str))) = ls.map List.length := List.map_congr_left fun l _ => str_len l
              rw [this]
              exact Nat.le_trans hl (by decide)
            · have ej : Txt.join ⟨s.toArray⟩ (ls.map fun l => (⟨l.toArray⟩ : PySem.Str)) = ⟨(joinS s ls).toArray⟩ := by
                refine str_eq ?_
                rw [TL.join_eq, TL.tl_join, joinS_eq, List.map_map]
                show TL.joinL s _ = TL.joinL s ls
                congr 1
                refine (List.map_congr_left (g := id) fun l _ => ?_).trans (List.map_id ls)
                rfl
              rw [ej]
              refine post_here h rl (rep_str.mpr ⟨rfl, fun c hc => ?_⟩)
              rcases joinS_mem hc with q | ⟨l, hl', q⟩
              · exact hx c q
              · exact g2 l hl' c q
          · rw [if_neg hl] at h; exact h.elim
      | ro _ => simp [e1, Post] at h
      | dct _ => simp [e1, Post] at h
      | ins _ _ => simp [e1, Post] at h
  · exact h.elim
theorem sp_sindex : MSp Γ (fun x xs H Q => ∃ a b i rest, x = .str a ∧ xs = [.str b] ∧ Builtin.Str.occurrences a b 0 a.length 1 = i :: rest ∧ Q (.int (i : Nat)) H) .sindex := by
  intro W ρ H σ L S x vs d ds Q rl rx rv h
  have h : Post Γ W (Rep Γ) ρ H σ L (mSindex d ds S) Q := h
  unfold mSindex at h
  split at h
  · rename_i s c hold
    clear hold
    obtain ⟨w, rfl, rw_⟩ := reps1 rv
    rw [rep_str] at rx rw_
    obtain ⟨rfl, hx⟩ := rx
    obtain ⟨rfl, hc⟩ := rw_
    cases e1 : s.findIdx? (fun x => x == c) with
    | none => simp [e1, M.bad, Post] at h
    | some k =>
      simp only [e1] at h
      obtain ⟨hk, k1, k2⟩ := List.findIdx?_eq_some_iff_getElem.mp e1
      have hy : TL.tl (⟨[c].toArray⟩ : PySem.Str) ≠ [] := by show [c] ≠ []; simp
      have at_of : ∀ j, StrLaws.At ⟨s.toArray⟩ ⟨[c].toArray⟩ (⟨s.toArray⟩ : PySem.Str).length j ↔ s[j]? = some c := fun j => by
        rw [TL.at_iff hy]
        show TL.pre [c] (s.drop j) = true ↔ _
        cases e : s.drop j with
        | nil =>
          have : s.length ≤ j := List.drop_eq_nil_iff.mp e
          rw [List.getElem?_eq_none this]
          constructor
          · intro q; rw [TL.pre_nil (by simp)] at q; cases q
          · intro q; cases q
        | cons y r =>
          have hj : s[j]? = some y := by
            have := congrArg List.head? e
            rw [List.head?_drop] at this
            exact this
          rw [hj]
          constructor
          · intro q
            by_cases z : y = c
            · rw [z]
            · rw [TL.pre_of_head [] r z] at q; cases q
          · intro q
            cases q
            exact TL.pre_self [c] r
      refine ⟨⟨s.toArray⟩, ⟨[c].toArray⟩, ?_⟩
      rcases StrLaws.occ_head ⟨s.toArray⟩ ⟨[c].toArray⟩ 1 (Nat.le_refl _) with ⟨_, hn⟩ | ⟨i, r, ho, ha, hb⟩
      · exact absurd ((at_of k).mpr (by rw [List.getElem?_eq_getElem hk]; exact congrArg some (beq_iff_eq.mp k1))) (hn k)
      · have hi := (at_of i).mp ha
        have eik : i = k := by
          rcases Nat.lt_trichotomy i k with z | z | z
          · have := k2 i z
            obtain ⟨hi', e⟩ := List.getElem?_eq_some_iff.mp hi
            rw [e] at this
            simp at this
          · exact z
          · exact absurd ((at_of k).mpr (by rw [List.getElem?_eq_getElem hk]; exact congrArg some (beq_iff_eq.mp k1))) (hb k z)
        subst eik
        exact ⟨i, r, rfl, rfl, ho, post_here h rl (rep_int.mpr rfl)⟩
  · exact h.elim
/-! ### dicts -/
theorem kD_eq {d e : D} {k j : Key} (hd : kD d = some k) (he : kD e = some j) : eqKey d e = decide (k = j) := by
  cases d <;> simp [kD] at hd <;> cases e <;> simp [kD] at he <;> subst hd <;> subst he
  · rename_i a b
    show (a == b) = decide (Sum.inl a = Sum.inl b)
    by_cases q : a = b
    · subst q; simp
    · rw [beq_eq_false_iff_ne.mpr q, decide_eq_false (fun z => q (Sum.inl.inj z))]
  · rfl
  · rfl
  · rename_i a b
    show (a == b) = decide (Sum.inr _ = Sum.inr _)
    by_cases q : a = b
    · subst q; simp
    · rw [beq_eq_false_iff_ne.mpr q, decide_eq_false]
      intro z
      have z := Sum.inr.inj z
      injection z with z
      exact q (by simpa using congrArg Array.toList z)
theorem isKey_kD {d : D} (h : isKey d = true) : ∃ k, kD d = some k := by
  cases d <;> simp [isKey] at h <;> exact ⟨_, rfl⟩
theorem rep_key {ρ : List Addr} {H : Hp} {v : V} {d : D} {k : Key} (r : Rep Γ ρ H v d) (h : kD d = some k) : v = kV k := by
  cases d <;> simp [kD] at h <;> subst h
  · rw [rep_int] at r; exact r
  · rw [rep_str] at r; exact r.1
section
variable {ρ : List Addr} {H : Hp}
theorem KReps.nil_iff {kv : List (Key × V)} : KReps Γ ρ H kv [] ↔ kv = [] := by
  cases kv <;> simp [KReps]
theorem KReps.get {k : Key} {d : D} (hk : kD d = some k) : ∀ {kv : List (Key × V)} {kd : List (D × D)} {e : D}, KReps Γ ρ H kv kd → getK d kd = some e → ∃ v, valV kv k = some v ∧ Rep Γ ρ H v e
  | [], [], e, _, h => by cases h
  | p :: r, (j, w) :: r', e, h, g => by
    simp only [KReps] at h
    obtain ⟨h1, h2, h3⟩ := h
    unfold getK at g
    rw [kD_eq h1 hk] at g
    by_cases q : p.1 = k
    · rw [decide_eq_true q, if_pos rfl] at g
      cases g
      exact ⟨p.2, valV_pos q, h2⟩
    · rw [decide_eq_false q, if_neg (fun z => nomatch z)] at g
      obtain ⟨v, g1, g2⟩ := KReps.get hk h3 g
      exact ⟨v, (valV_neg q).trans g1, g2⟩
  | [], _ :: _, _, h, _ => by simp only [KReps] at h
  | _ :: _, [], _, h, _ => by simp only [KReps] at h
theorem KReps.any {k : Key} {d : D} (hk : kD d = some k) : ∀ {kv : List (Key × V)} {kd : List (D × D)}, KReps Γ ρ H kv kd → (kd.any fun p => eqKey p.1 d) = kv.any fun p => decide (p.1 = k)
  | [], [], _ => rfl
  | p :: r, q :: r', h => by
    simp only [KReps] at h
    obtain ⟨h1, h2, h3⟩ := h
    rw [List.any_cons, List.any_cons, KReps.any hk h3, kD_eq h1 hk]
  | [], _ :: _, h => by simp only [KReps] at h
  | _ :: _, [], h => by simp only [KReps] at h
theorem KReps.map {k : Key} {d e : D} {v : V} (hk : kD d = some k) (r_ : Rep Γ ρ H v e) : ∀ {kv : List (Key × V)} {kd : List (D × D)}, KReps Γ ρ H kv kd → KReps Γ ρ H (kv.map fun p => if p.1 = k then (p.1, v) else p) (kd.map fun p => if eqKey p.1 d = true then (p.1, e) else p)
  | [], [], _ => by simp only [List.map_nil, KReps]
  | p :: r, q :: r', h => by
    simp only [KReps] at h
    obtain ⟨h1, h2, h3⟩ := h
    simp only [List.map_cons, KReps]
    rw [kD_eq h1 hk]
    by_cases z : p.1 = k
    · rw [decide_eq_true z, if_pos rfl, if_pos z]
      exact ⟨h1, r_, KReps.map hk r_ h3⟩
    · rw [decide_eq_false z, if_neg (fun z => nomatch z), if_neg z]
      exact ⟨h1, h2, KReps.map hk r_ h3⟩
  | [], _ :: _, h => by simp only [KReps] at h
  | _ :: _, [], h => by simp only [KReps] at h
theorem KReps.snoc {k : Key} {d e : D} {v : V} (hk : kD d = some k) (r_ : Rep Γ ρ H v e) : ∀ {kv : List (Key × V)} {kd : List (D × D)}, KReps Γ ρ H kv kd → KReps Γ ρ H (kv ++ [(k, v)]) (kd ++ [(d, e)])
  | [], [], _ => by
    simp only [List.nil_append, KReps]
    exact ⟨hk, r_, trivial⟩
  | p :: r, q :: r', h => by
    simp only [KReps] at h
    simp only [List.cons_append, KReps]
    exact ⟨h.1, h.2.1, KReps.snoc hk r_ h.2.2⟩
  | [], _ :: _, h => by simp only [KReps] at h
  | _ :: _, [], h => by simp only [KReps] at h
theorem KReps.put {k : Key} {d e : D} {v : V} (hk : kD d = some k) (r : Rep Γ ρ H v e) {kv : List (Key × V)} {kd : List (D × D)} (h : KReps Γ ρ H kv kd) : KReps Γ ρ H (L2.putK kv k v) (putK d e kd) := by
  unfold L2.putK putK
  rw [h.any hk]
  by_cases q : (kv.any fun p => decide (p.1 = k)) = true
  · rw [if_pos q, if_pos q]
    exact h.map hk r
  · rw [if_neg q, if_neg q]
    exact h.snoc hk r
theorem KReps.merge : ∀ {more : List (Key × V)} {md : List (D × D)} {kv : List (Key × V)} {kd : List (D × D)}, KReps Γ ρ H more md → KReps Γ ρ H kv kd → KReps Γ ρ H (mergeK kv more) (mergeD kd md)
  | [], [], kv, kd, _, h => h
  | p :: r, q :: r', kv, kd, hm, h => by
    simp only [KReps] at hm
    show KReps Γ ρ H (mergeK (L2.putK kv p.1 p.2) r) (mergeD (putK q.1 q.2 kd) r')
    exact KReps.merge hm.2.2 (h.put hm.1 hm.2.1)
  | [], _ :: _, _, _, h, _ => by simp only [KReps] at h
  | _ :: _, [], _, _, h, _ => by simp only [KReps] at h
theorem KReps.length : ∀ {kv : List (Key × V)} {kd : List (D × D)}, KReps Γ ρ H kv kd → kv.length = kd.length
  | [], [], _ => rfl
  | p :: r, q :: r', h => by
    simp only [KReps] at h
    rw [List.length_cons, List.length_cons, KReps.length h.2.2]
  | [], _ :: _, h => by simp only [KReps] at h
  | _ :: _, [], h => by simp only [KReps] at h
end
/-- the dict at a place -/
theorem dct_at {x : V} {S : Sto} {ρ : List Addr} {H : Hp} {i : Nat} {kd : List (D × D)} (rs : SRel Γ ρ H S) (r : Rep Γ ρ H x (.ref i)) (e : S[i]? = some (.dct kd)) : ∃ p kv, x = .ref p ∧ ρ[i]? = some p ∧ H p = some (.dK kv) ∧ KReps Γ ρ H kv kd := by
  obtain ⟨p, ea, xs, q, rr⟩ := rs.at e
  simp only [Rep] at r
  obtain ⟨p', e3, e4⟩ := r
  rw [ea] at e4; cases e4
  exact ⟨p, xs, e3, ea, q, rr⟩
/-- one thing, then another, the first told -/
theorem Post.bindE {α β γ δ : Type} {rep : List Addr → Hp → β → α → Prop} {rep' : List Addr → Hp → δ → γ → Prop} {ρ : List Addr} {H : Hp} {σ : L2.St} {L : Loc} {S : Sto} {m : M α} {k : α → M γ} {Q : δ → Hp → Prop} {Q' : β → Hp → Prop} (h : Post Γ W rep' ρ H σ L (M.bind m k S) Q)
    (hk : ∀ d S' ρ' H' v, m S = .ok d S' → ρ <+: ρ' → Ext H H' → Rel Γ ρ' H' σ L S' → rep ρ' H' v d → Post Γ W rep' ρ' H' σ L (k d S') Q → Q' v H') : Post Γ W rep ρ H σ L (m S) Q' := by
  unfold M.bind at h
  cases e : m S with
  | ok d S' =>
    rw [e] at h
    exact fun ρ' H' v p x rl rp => hk d S' ρ' H' v e p x rl rp (Post.mono p x h)
  | exc x S' =>
    rw [e] at h
    exact h
  | bad =>
    rw [e] at h
    exact h.elim
variable {a b : Expr} {pos : Pos} {fa fb : F D}
theorem NoSl_of {b : Expr} (hs : PlainIx b) : NoSl b := hs
theorem g_ix (hK : X.K = Γ.K) (hu : X.A.units + 1 < cLine) (ha : PE X a (tD Γ W fa)) (hb : PE X b (tD Γ W fb)) (hs : PlainIx b) : PE X (.Subscript a b pos) (tD Γ W (fIx fa fb)) :=
  PE.weak (PE.or (pe_ix ix_seq ha hb hs) (pe_dget hu ha hb (NoSl_of hs))) fun σ H Q h => by
    obtain ⟨ρ, L, S, rl, h⟩ := h
    have plain : ∀ (g : D → D → M D), (∀ d S1 d2 S2, fa L S = .ok d S1 → fb L S1 = .ok d2 S2 → g d d2 S2 = ixD d d2 S2) → Post Γ W (Rep Γ) ρ H σ L (M.bind (fa L) (fun x => M.bind (fb L) fun y => g x y) S) Q → tOp (rIx X.K) (tD Γ W fa) (tD Γ W fb) σ H Q := fun g hg h => by
      refine w_op2 (hK ▸ sp_ix) ⟨ρ, L, S, rl, ?_⟩
      show Post Γ W (Rep Γ) ρ H σ L (M.bind (fa L) (fun x => M.bind (fb L) fun y => ixD x y) S) Q
      unfold M.bind at h ⊢
      cases e1 : fa L S with
      | exc _ _ => rw [e1] at h; exact h
      | bad => rw [e1] at h; exact h
      | ok d S1 =>
        rw [e1] at h
        simp only at h ⊢
        cases e2 : fb L S1 with
        | exc _ _ => rw [e2] at h; exact h
        | bad => rw [e2] at h; exact h
        | ok d2 S2 =>
          rw [e2] at h
          simp only at h ⊢
          rw [hg d S1 d2 S2 e1 e2] at h
          exact h
    have h : Post Γ W (Rep Γ) ρ H σ L (M.bind (fa L) (fun x => M.bind (fb L) fun y => subD x y) S) Q := h
    by_cases isd : ∃ i S1 d2 S2 kd, fa L S = .ok (.ref i) S1 ∧ fb L S1 = .ok d2 S2 ∧ S2[i]? = some (.dct kd)
    · obtain ⟨i, S1, d2, S2, kd, e1, e2, e3⟩ := isd
      refine .inr ⟨ρ, L, S, rl, Post.bindE h fun d S1' ρ1 H1 v q1 p1 x1 rl1 r1 h1 => ?_⟩
      rw [e1] at q1
      cases q1
      refine ⟨ρ1, L, _, rl1, Post.bindE h1 fun d2' S2' ρ2 H2 v2 q2 p2 x2 rl2 r2 h2 => ?_⟩
      rw [e2] at q2
      cases q2
      have h2 : Post Γ W (Rep Γ) ρ2 H2 σ L (subD (.ref i) d2 S2) Q := h2
      unfold subD at h2
      simp only [e3] at h2
      obtain ⟨p, kv, ep, _, hd, kr⟩ := dct_at rl2.s (Rep.mono p2 x2 _ r1) e3
      cases e4 : getK d2 kd with
      | none => simp only [e4] at h2; exact h2.elim
      | some w =>
        simp only [e4] at h2
        by_cases hk : isKey d2 = true
        · rw [if_pos hk] at h2
          obtain ⟨k, ek⟩ := isKey_kD hk
          obtain ⟨u, g1, g2⟩ := kr.get ek e4
          refine ⟨p, u, ep, ?_, post_here h2 rl2 g2⟩
          rw [rep_key r2 ek, ← g1]
          exact DGet.k hd
        · rw [if_neg hk] at h2; exact h2.elim
    · refine .inl (plain subD (fun d S1 d2 S2 e1 e2 => ?_) h)
      unfold subD
      cases d with
      | ref i =>
        simp only
        cases e3 : S2[i]? with
        | none => rfl
        | some o =>
          cases o with
          | dct kd => exact absurd ⟨i, S1, d2, S2, kd, e1, e2, e3⟩ isd
          | _ => rfl
      | _ => rfl
/-! a dict written -/
/-- the keys as they are read, and the values -/
def trsOf (Γ : Gm) (W : WX) : List Key → List (F D) → List (TE × TE)
  | k :: ks, f :: fs => (tC (kV k), tD Γ W f) :: trsOf Γ W ks fs
  | _, _ => []
def seqF : List (F D) → F (List D)
  | [] => fun _ => M.pure []
  | f :: fs => fCons f (seqF fs)
theorem pairs_w {σ : L2.St} {L : Loc} : ∀ {ks : List Key} {ds : List D} {fs : List (F D)} {ρ : List Addr} {H : Hp} {S : Sto} {R : List (V × V) → Hp → Prop} {k : List D → M D} {Q : VK}, ks.length = fs.length → Rel Γ ρ H σ L S → Post Γ W (Rep Γ) ρ H σ L (M.bind (seqF fs L) k S) Q →
    (∀ vs S' ρ' H' ws, ρ <+: ρ' → Ext H H' → Rel Γ ρ' H' σ L S' → Reps Γ ρ' H' ws vs → ws.length = ks.length → Post Γ W (Rep Γ) ρ' H' σ L (k vs S') Q → R ((ks.map kV).zip ws) H') → tPairs (trsOf Γ W ks fs) σ H R
  | [], _, [], ρ, H, S, R, k, Q, _, rl, h, hk => hk [] S ρ H [] (List.prefix_refl _) (Ext.refl _) rl (by simp only [Reps]) rfl h
  | c :: ks, ds, f :: fs, ρ, H, S, R, k, Q, hl, rl, h, hk => by
    show tC (kV c) σ H fun x H1 => tD Γ W f σ H1 fun y H2 => tPairs (trsOf Γ W ks fs) σ H2 fun ps H3 => R ((x, y) :: ps) H3
    show tD Γ W f σ H fun y H2 => tPairs (trsOf Γ W ks fs) σ H2 fun ps H3 => R ((kV c, y) :: ps) H3
    refine ⟨ρ, L, S, rl, ?_⟩
    have h : Post Γ W (Rep Γ) ρ H σ L (M.bind (f L) (fun x => M.bind (M.bind (seqF fs L) fun xs => M.pure (x :: xs)) k) S) Q := by
      rw [← M.bind_assoc]
      exact h
    refine Post.bind h fun d S1 ρ1 H1 v p1 x1 rl1 r1 h1 => ?_
    rw [M.bind_assoc] at h1
    refine pairs_w (ds := ds) (by simpa using hl) rl1 h1 fun vs S2 ρ2 H2 ws p2 x2 rl2 r2 hl2 h2 => ?_
    refine hk (d :: vs) S2 ρ2 H2 (v :: ws) (p1.trans p2) (x1.trans x2) rl2 (by simp only [Reps]; exact ⟨Rep.mono p2 x2 d r1, r2⟩) (by simp [hl2]) h2
  | [], _, _ :: _, _, _, _, _, _, _, hl, _, _, _ => by simp at hl
  | _ :: _, _, [], _, _, _, _, _, _, hl, _, _, _ => by simp at hl
theorem zip_kreps {ρ : List Addr} {H : Hp} : ∀ {ks : List Key} {ds : List D} {ws : List V} {vs : List D}, ds.map kD = ks.map some → Reps Γ ρ H ws vs → KReps Γ ρ H (ks.zip ws) (ds.zip vs)
  | [], [], ws, vs, _, _ => by simp only [List.zip_nil_left, KReps]
  | k :: ks, d :: ds, [], [], _, _ => by simp only [List.zip_nil_right, KReps]
  | k :: ks, d :: ds, w :: ws, v :: vs, h, r => by
    simp only [List.map_cons, List.cons.injEq] at h
    simp only [Reps] at r
    simp only [List.zip_cons_cons, KReps]
    exact ⟨h.1, r.1, zip_kreps h.2 r.2⟩
  | [], _ :: _, _, _, h, _ => by simp at h
  | _ :: _, [], _, _, h, _ => by simp at h
  | _, _, [], _ :: _, _, r => by simp only [Reps] at r
  | _, _, _ :: _, [], _, r => by simp only [Reps] at r
theorem zip_kV (ks : List Key) : ∀ ws : List V, (ks.map kV).zip ws = (ks.zip ws).map fun kv => (kV kv.1, kv.2) := by
  induction ks with
  | nil => intro ws; rfl
  | cons k ks ih =>
    intro ws
    cases ws with
    | nil => rfl
    | cons w ws =>
      simp only [List.map_cons, List.zip_cons_cons, List.cons.injEq, true_and]
      exact ih ws
/-- a new dict stands there -/
theorem dct_new {ρ : List Addr} {H : Hp} {σ : L2.St} {L : Loc} {S : Sto} {p : Addr} (rl : Rel Γ ρ H σ L S) (hp : H p = none) : Rel Γ (ρ ++ [p]) (upd H p (.dK [])) σ L (S ++ [.dct []]) ∧ (ρ ++ [p])[S.length]? = some p ∧ ρ <+: ρ ++ [p] ∧ Ext H (upd H p (.dK [])) := by
  have pre : ρ <+: ρ ++ [p] := List.prefix_append _ _
  have ex : Ext H (upd H p (.dK [])) := Ext.new hp
  refine ⟨⟨rl.s.new hp ⟨[], upd_same, by simp only [KReps]⟩, rl.l.mono pre ex⟩, ?_, pre, ex⟩
  rw [← rl.s.len, List.getElem?_append_right (Nat.le_refl _), Nat.sub_self]
  rfl
theorem w_dct {ks : List Key} {ds : List D} {fs : List (F D)} (hk : ds.map kD = ks.map some) (hl : ks.length = fs.length) (h15 : ks.length ≤ 15) {σ : L2.St} {H : Hp} {Q : VK} (h : tD Γ W (fDct ds (seqF fs)) σ H Q) : tDisp (trsOf Γ W ks fs) σ H Q := by
  obtain ⟨ρ, L, S, rl, h⟩ := h
  intro p hp
  obtain ⟨rl2, hp2, pre, ex⟩ := dct_new rl hp
  have h : Post Γ W (Rep Γ) ρ H σ L (M.bind (seqF fs L) (fun v => dctPut S.length ds v) (S ++ [.dct []])) Q := h
  refine pairs_w (ds := ds) hl rl2 (Post.mono pre ex h) fun vs S2 ρ2 H2 ws p2 x2 rl3 r2 hl2 h2 => ?_
  unfold dctPut at h2
  have hp3 := get_pre p2 hp2
  cases e : S2[S.length]? with
  | none => simp [e, Post] at h2
  | some o =>
    cases o with
    | dct kd =>
      cases kd with
      | nil =>
        simp only [e] at h2
        obtain ⟨q, ea, kv, hq, kr⟩ := rl3.s.at e
        rw [hp3] at ea; cases ea
        rw [KReps.nil_iff] at kr
        subst kr
        by_cases hlen : ds.length = vs.length
        · rw [if_pos hlen] at h2
          have ne : ∀ u, H2 p ≠ some (.tup u) := fun u z => by rw [hq] at z; cases z
          have ex2 : Ext H2 (upd H2 p (.dK (mergeK [] (ks.zip ws)))) := Ext.put ne (fun o u z => by rw [hq] at z; cases z) (fun u z => by rw [hq] at z; cases z)
          have kz := KReps.merge (zip_kreps hk r2) (kv := []) (kd := []) (by simp only [KReps])
          refine ⟨hq, ks.zip ws, zip_kV ks ws, Nat.le_trans (by rw [List.length_zip]; exact Nat.min_le_left _ _) h15, ?_⟩
          refine h2 ρ2 _ (.ref p) (List.prefix_refl _) ex2 ⟨rl3.s.put hp3 e rfl ex2 ⟨_, upd_same, KReps.mono (List.prefix_refl _) ex2 kz⟩ rfl, rl3.l.mono (List.prefix_refl _) ex2⟩ ?_
          simp only [Rep]
          exact ⟨p, rfl, hp3⟩
        · rw [if_neg hlen] at h2; exact h2.elim
      | cons _ _ => simp [e, Post] at h2
    | lst _ => simp [e, Post] at h2
    | ro _ => simp [e, Post] at h2
    | ins _ _ => simp [e, Post] at h2
theorem w_dct0 {σ : L2.St} {H : Hp} {Q : VK} (h : tD Γ W (fDct [] fun _ => M.pure []) σ H Q) : tDNewK σ H Q := by
  obtain ⟨ρ, L, S, rl, h⟩ := h
  intro p hp
  obtain ⟨rl2, hp2, pre, ex⟩ := dct_new rl hp
  have h : Post Γ W (Rep Γ) ρ H σ L (dctPut S.length [] [] (S ++ [.dct []])) Q := h
  unfold dctPut at h
  have e : (S ++ [O.dct []])[S.length]? = some (.dct []) := by rw [List.getElem?_append_right (Nat.le_refl _), Nat.sub_self]; rfl
  simp only [e] at h
  have es : (S ++ [O.dct []]).set S.length (.dct []) = S ++ [.dct []] := by
    rw [List.set_append_right _ _ (Nat.le_refl _), Nat.sub_self]; rfl
  have h : Post Γ W (Rep Γ) ρ H σ L (.ok (.ref S.length) ((S ++ [O.dct []]).set S.length (O.dct []))) Q := h
  rw [es] at h
  exact h (ρ ++ [p]) _ (.ref p) pre ex rl2 (by simp only [Rep]; exact ⟨p, rfl, hp2⟩)
end Bv
end
section
/-! B1i: int(text, base), of figures of that base -/
namespace Bv
open PySem PySem.Spec PyProof.Rows L2
namespace Ib
open PySem.NumText PySem.Calls
theorem dig_ok {c : Nat} (h : c ∈ fig16) : digit? c = some (figOf c) := by
  have all : ∀ x ∈ fig16, digit? x = some (figOf x) := by decide
  exact all c h
theorem fig_rng {c : Nat} (h : c ∈ fig16) : 48 ≤ c ∧ c ≤ 70 := by
  have all : ∀ x ∈ fig16, 48 ≤ x ∧ x ≤ 70 := by decide
  exact all c h
theorem figOf_lt {b c : Nat} (hb : b ≤ 16) (h : c ∈ fig16.take b) : figOf c < b := by
  have all : ∀ b ≤ 16, ∀ x ∈ fig16.take b, figOf x < b := by decide
  exact all b hb c h
theorem fig_of {b c : Nat} (h : c ∈ fig16.take b) : c ∈ fig16 := List.mem_of_mem_take h
section
variable {b : Nat} (hb : 2 ≤ b ∧ b ≤ 16)
include hb
theorem step_ok {ds : Array Nat} {k : Bool} {c : Nat} (h : c ∈ fig16.take b) : NumText.step b (ds, k) c = some (ds.push (figOf c), true) := by
  have r := fig_rng (fig_of h)
  unfold NumText.step
  rw [if_neg (by rw [beq_iff_eq]; omega), dig_ok (fig_of h)]
  exact if_pos (figOf_lt hb.2 h)
theorem steps_ok : ∀ (cs : List Nat) (ds : Array Nat), (∀ c ∈ cs, c ∈ fig16.take b) → cs.foldlM (NumText.step b) (ds, true) = some (cs.foldl (fun acc c => acc.push (figOf c)) ds, true)
  | [], _, _ => rfl
  | c :: r, ds, h => by
    rw [List.foldlM_cons, step_ok hb (h c List.mem_cons_self)]
    show r.foldlM (NumText.step b) (ds.push (figOf c), true) = _
    exact steps_ok r _ fun d hd => h d (List.mem_cons_of_mem _ hd)
theorem digs_ok {cs : List Nat} (h : ∀ c ∈ cs, c ∈ fig16.take b) (ne : cs ≠ []) : digits? b cs = some (cs.foldl (fun acc c => acc.push (figOf c)) #[]) := by
  match cs, h, ne with
  | c :: r, h, _ =>
    unfold digits?
    rw [List.foldlM_cons, step_ok hb (h c List.mem_cons_self)]
    show (r.foldlM (NumText.step b) ((#[] : Array Nat).push (figOf c), true)).bind _ = _
    rw [steps_ok hb r _ fun d hd => h d (List.mem_cons_of_mem _ hd)]
    rfl
omit hb in
theorem pushes : ∀ (cs : List Nat) (ds : Array Nat), (cs.foldl (fun acc c => acc.push (figOf c)) ds).foldl (fun acc d => acc * b + d) 0 = cs.foldl (fun a c => a * b + figOf c) (ds.foldl (fun acc d => acc * b + d) 0)
  | [], _ => rfl
  | c :: r, ds => by
    rw [List.foldl_cons, pushes r, List.foldl_cons]
    congr 1
    simp
omit hb in
theorem noBlank {cs : List Nat} (h : ∀ c ∈ cs, c ∈ fig16.take b) : cs.dropWhile blank = cs := by
  match cs, h with
  | [], _ => rfl
  | c :: r, h => exact dropWhile_of (by have := fig_rng (fig_of (h c List.mem_cons_self)); omega)
omit hb in
theorem noSign {cs : List Nat} (h : ∀ c ∈ cs, c ∈ fig16.take b) : sign cs = (false, cs) := by
  match cs, h with
  | [], _ => rfl
  | c :: r, h =>
    have := fig_rng (fig_of (h c List.mem_cons_self))
    exact sign_of (by omega) (by omega)
theorem noPref {cs : List Nat} (h : ∀ c ∈ cs, c ∈ fig16.take b) (p : Nat) (hp : NumText.prefix? cs = some p) : b ≠ p := by
  match cs, h, hp with
  | [], _, hp => exact nomatch (show (none : Option Nat) = some p from hp)
  | [a], _, hp =>
    unfold NumText.prefix? at hp
    split at hp
    · rename_i e; cases e
    · cases hp
  | a :: c :: r, h, hp =>
    have hc := h c (List.mem_cons_of_mem _ List.mem_cons_self)
    have rc := fig_rng (fig_of hc)
    have lc := figOf_lt hb.2 hc
    by_cases ha : a = 48
    · subst ha
      have e : NumText.prefix? (48 :: c :: r) = if (c == 120 || c == 88) = true then some 16 else if (c == 111 || c == 79) = true then some 8 else if (c == 98 || c == 66) = true then some 2 else none := rfl
      rw [e, if_neg (by simp; omega), if_neg (by simp; omega)] at hp
      split at hp
      · rename_i c66
        cases hp
        have : c = 66 := by simp at c66; omega
        subst this
        have : figOf 66 = 11 := rfl
        omega
      · cases hp
    · unfold NumText.prefix? at hp
      split at hp
      · rename_i e
        exact absurd (List.cons.inj e).1 ha
      · cases hp
theorem plainBase {cs : List Nat} (h : ∀ c ∈ cs, c ∈ fig16.take b) : based b cs = (b, false, cs) := by
  have np := noPref hb h
  have b0 : (b == 0) = false := beq_eq_false_iff_ne.mpr (by omega)
  unfold based
  cases e : NumText.prefix? cs with
  | none =>
    show (if (b == 0) = true then _ else (b, false, cs)) = (b, false, cs)
    rw [b0]; rfl
  | some p =>
    have bp : (b == p) = false := beq_eq_false_iff_ne.mpr (np p e)
    show (if (b == 0 || b == p) = true then _ else (b, false, cs)) = (b, false, cs)
    rw [b0, bp]; rfl
theorem reads {cs : List Nat} (h : ∀ c ∈ cs, c ∈ fig16.take b) (ne : cs ≠ []) (lc : cs.length ≤ 640) : (int_private% "readNumeral") 0 b cs = (int_private% "Numeral.value") ((baseVal b cs : Nat) : Int) := by
  refine (readNumeral_eq 0 b cs).trans ?_
  rw [noBlank h, noSign h]
  show judge 0 false (based b cs).1 (based b cs).2.1 (digits? (based b cs).1 (((based b cs).2.2.reverse.dropWhile blank).reverse)) = _
  rw [plainBase hb h]
  show judge 0 false b false (digits? b ((cs.reverse.dropWhile blank).reverse)) = _
  rw [noBlank (cs := cs.reverse) fun c hc => h c (List.mem_reverse.mp hc), List.reverse_reverse, digs_ok hb h ne]
  have z : (#[] : Array Nat).foldl (fun acc d => acc * b + d) 0 = 0 := by first | rfl | simp
  have v : (cs.foldl (fun acc c => acc.push (figOf c)) (#[] : Array Nat)).foldl (fun acc d => acc * b + d) 0 = baseVal b cs := by
    rw [pushes, z]; rfl
  have sz : ∀ (r : List Nat) (ds : Array Nat), (r.foldl (fun acc c => acc.push (figOf c)) ds).size = ds.size + r.length := fun r => by
    induction r with
    | nil => intro ds; rfl
    | cons c r ih =>
      intro ds
      rw [List.foldl_cons, ih, Array.size_push, List.length_cons]
      omega
  rw [← v]
  generalize hA : cs.foldl (fun acc c => acc.push (figOf c)) (#[] : Array Nat) = A
  have sA : A.size ≤ 640 := by
    rw [← hA, sz]
    simp only [List.size_toArray, List.length_nil, Nat.zero_add]
    exact lc
  unfold judge
  simp only
  rw [if_neg (by simp), if_neg (by simp; omega)]
  rfl
end
theorem seen {b : Nat} {x : PySem.Str} (h : ∀ c ∈ x.cps.toList, c ∈ fig16.take b) : numTextOf x = x.cps.toList ∧ numSeenOf x = x.cps.toList := by
  have e1 : numTextOf x = x.cps.toList := by
    refine if_pos ?_
    rw [← Array.all_toList, List.all_eq_true]
    exact fun c hc => decide_eq_true (by have := fig_rng (fig_of (h c hc)); omega)
  refine ⟨e1, ?_⟩
  show (numTextOf x).takeWhile _ = _
  rw [e1]
  exact takeWhile_all fun c hc => bne_iff_ne.mpr (by have := fig_rng (fig_of (h c hc)); omega)
theorem gives_int {x : PySem.Str} {u t : Tok} {B : Int} (hB : 2 ≤ B ∧ B ≤ 16) (hl : x.cps.toList.length ≤ 640) (h : ∀ c ∈ x.cps.toList, c ∈ fig16.take B.toNat) (ne : x.cps.toList ≠ []) :
    Gives (Builtin.«int.__new__» ⟨[.type "int", .str x u, .int B t], []⟩) (.int ((baseVal B.toNat x.cps.toList : Nat) : Int)) :=
  .of_wp fun M A E s Q hQ => by
    obtain ⟨hp, g, d, tk, os⟩ := s
    have f1 := F.conv_sub_int
    have f2 := F.madeHere_int
    have f6 : typeOf (.str x u) = pure (.type "str") := rfl
    obtain ⟨e1, e2⟩ := seen h
    have hs : (numSeenOf x).length ≤ 640 := by rw [e2]; exact hl
    have hr : (int_private% "readNumeral") 0 B.toNat (numSeenOf x) = (int_private% "Numeral.value") ((baseVal B.toNat x.cps.toList : Nat) : Int) := by
      rw [e2]
      exact reads (by omega) h ne hl
    have ha : ((numSeenOf x).length == (numTextOf x).length) = true := by rw [e1, e2]; exact beq_self_eq_true _
    have hk := Hx.Hid.mk (And.intro hs (And.intro hr ha))
    clear hs hr ha e1 e2 hl ne h
    have hc : decide ((B != 0 && decide (B < 2) || decide (B > 36)) = true) = false := by
      refine decide_eq_false ?_
      rw [Bool.or_eq_true, Bool.and_eq_true, decide_eq_true_eq, decide_eq_true_eq]
      omega
    clear hB
    repeat (any_goals (first
      | assumption
      | (with_reducible refine wpAny_ite_false hc ?_)
      | ((with_reducible show wpAny _ _ ((int_private% "intFromText") _ _ _) _ _ _); refine Hx.wp_textB hk.out.1 hk.out.2.1 hk.out.2.2 ?_)
      | wp_step))
    all_goals first | exact ⟨_, rfl, hQ⟩ | skip
theorem call_int {prog : Program} {w : World} {A : Around} {E : Value → Shared → Prop} {s : Shared} {Q : Value → Shared → Prop} {x : PySem.Str} {u t : Tok} {B : Int} (hB : 2 ≤ B ∧ B ≤ 16) (hl : x.cps.toList.length ≤ 640) (h : ∀ c ∈ x.cps.toList, c ∈ fig16.take B.toNat) (ne : x.cps.toList ≠ [])
    (hQ : Q (.int ((baseVal B.toNat x.cps.toList : Nat) : Int) s.toks) { s with toks := s.toks + 1 }) : wpAny (model prog w) A (call (.type "int") [.str x u, .int B t]) Q E s :=
  callType_new F.called_int F.newNe_int (Hx.typeCall_int_2 _ _) (Hx.newCall_int_2 _ _) (fun obj => F.initArgs_range_2 obj _ _) F.entry_int_new (gives_int hB hl h ne).meets (show (Made.int ((baseVal B.toNat x.cps.toList : Nat) : Int)).post _ s from ⟨rfl, hQ⟩)
end Ib
section
variable {Γ : Gm} {X : Cx}
/-- int(t, b) -/
def rInt2 : List V → Hp → VK → Prop := fun xs H Q => ∃ (l : List Nat) (B : Int), xs = [.str ⟨l.toArray⟩, .int B] ∧ (2 ≤ B ∧ B ≤ 16) ∧ l ≠ [] ∧ l.length ≤ 640 ∧ (∀ c ∈ l, c ∈ fig16.take B.toNat) ∧ Q (.int ((baseVal B.toNat l : Nat) : Int)) H
theorem call_int2 : CallR X (.type "int") rInt2 := by
  intro pins s σ H xs us Q I r h
  obtain ⟨l, B, rfl, hB, ne, hl, hx, q⟩ := h
  obtain ⟨u, w', rfl, r1, r2⟩ := vals2 r
  obtain ⟨t1, rfl⟩ := r1
  obtain ⟨t2, rfl⟩ := r2
  exact Ib.call_int hB hl hx ne ⟨.int ((baseVal B.toNat l : Nat) : Int), H, I.tok _, ⟨_, rfl⟩, q⟩
theorem sp_int2 : SpecN Γ rInt2 (prim .int2) := by
  intro W ρ H σ L S xs ds Q rl rs h
  match ds with
  | [] => exact h.elim
  | [d] => cases d <;> exact h.elim
  | [d, e] =>
    obtain ⟨v, w, rfl, r1, r2⟩ := reps2 rs
    cases d <;> try exact h.elim
    cases e <;> try exact h.elim
    rename_i s b
    simp only [prim] at h
    split at h
    · rename_i c
      obtain ⟨c1, c2, c3, c4, c5⟩ := c
      obtain ⟨rfl, _⟩ := rep_str.mp r1
      obtain rfl := rep_int.mp r2
      exact ⟨s, b, rfl, ⟨c3, c4⟩, c1, c2, fun c hc => of_decide_eq_true (List.all_eq_true.mp c5 c hc), post_here h rl (rep_int.mpr rfl)⟩
    · exact h.elim
  | d :: e :: _ :: _ => cases d <;> (try exact h.elim) <;> cases e <;> exact h.elim
/-! text.find(sign, place) -/
theorem at_one {s : List Nat} {c j : Nat} : StrLaws.At ⟨s.toArray⟩ ⟨[c].toArray⟩ (⟨s.toArray⟩ : PySem.Str).length j ↔ s[j]? = some c := by
  have hy : TL.tl (⟨[c].toArray⟩ : PySem.Str) ≠ [] := by show [c] ≠ []; simp
  rw [TL.at_iff hy]
  show TL.pre [c] (s.drop j) = true ↔ _
  cases e : s.drop j with
  | nil =>
    rw [List.getElem?_eq_none (List.drop_eq_nil_iff.mp e)]
    refine ⟨fun q => ?_, fun q => ?_⟩
    · rw [TL.pre_nil (by simp)] at q; cases q
    · cases q
  | cons y r =>
    have hj : s[j]? = some y := by
      have := congrArg List.head? e
      rw [List.head?_drop] at this
      exact this
    rw [hj]
    refine ⟨fun q => ?_, fun q => ?_⟩
    · by_cases z : y = c
      · rw [z]
      · rw [TL.pre_of_head [] r z] at q; cases q
    · cases q
      exact TL.pre_self [c] r
theorem find3_eq {s : List Nat} {c i : Nat} : Txt.find3 ⟨s.toArray⟩ ⟨[c].toArray⟩ (i : Int) = findFrom c s i := by
  have e : PySem.fromIndex (⟨s.toArray⟩ : PySem.Str).length (i : Int) = i := by
    unfold PySem.fromIndex
    rw [if_neg (by omega)]
    omega
  unfold Txt.find3 findFrom
  rw [e]
  rcases StrLaws.occ_head_from ⟨s.toArray⟩ ⟨[c].toArray⟩ i 1 (Nat.le_refl _) with ⟨h0, hn⟩ | ⟨k, r, h0, h1, ha, hb⟩
  · rw [h0]
    have : (s.drop i).findIdx? (fun x => x == c) = none := by
      rw [List.findIdx?_eq_none_iff]
      intro x hx
      obtain ⟨j, hj⟩ := List.getElem?_of_mem hx
      rw [List.getElem?_drop] at hj
      by_cases z : x = c
      · subst z
        exact absurd (at_one.mpr hj) (hn _ (by omega))
      · simp [z]
    rw [this]
  · rw [h0]
    have hk := at_one.mp ha
    have : (s.drop i).findIdx? (fun x => x == c) = some (k - i) := by
      have hl := (List.getElem?_eq_some_iff.mp hk).1
      rw [List.findIdx?_eq_some_iff_getElem]
      refine ⟨by rw [List.length_drop]; omega, ?_, fun j hj => ?_⟩
      · have := (List.getElem?_eq_some_iff.mp hk).2
        rw [List.getElem_drop]
        simp only [show i + (k - i) = k by omega]
        simp [this]
      · have := hb (i + j) (by omega) (by omega)
        rw [at_one] at this
        rw [List.getElem_drop]
        have hl2 : i + j < s.length := by omega
        rw [List.getElem?_eq_getElem hl2] at this
        simp at this ⊢
        exact this
    rw [this]
    show ((k : Nat) : Int) = (i : Int) + ((k - i : Nat) : Int)
    omega
theorem sp_find2 : MSp Γ (fun x xs H Q => ∃ (a b : PySem.Str) (i : Int), x = .str a ∧ xs = [.str b, .int i] ∧ Q (.int (Txt.find3 a b i)) H) .find2 := by
  intro W ρ H σ L S x vs d ds Q rl rx rv h
  have h : Post Γ W (Rep Γ) ρ H σ L (mFind2 d ds S) Q := h
  unfold mFind2 at h
  split at h
  · rename_i s c i hold
    clear hold
    obtain ⟨w, z, rfl, rw_, rz⟩ := reps2 rv
    rw [rep_str] at rx rw_
    obtain ⟨rfl, hx⟩ := rx
    obtain ⟨rfl, hc⟩ := rw_
    obtain rfl := rep_int.mp rz
    split at h
    · rename_i hi
      obtain ⟨n, rfl⟩ : ∃ n : Nat, i = (n : Int) := ⟨i.toNat, by omega⟩
      refine ⟨_, _, _, rfl, rfl, ?_⟩
      rw [find3_eq]
      rw [Int.toNat_natCast] at h
      exact post_here h rl (rep_int.mpr rfl)
    · exact h.elim
  · exact h.elim
end
end Bv
end
section
namespace Bv
open PySem L2 PyProof.Rows
/-! ### statements -/
section
variable (Γ : Gm) (W : WX)
def PostF (D : Ends) (ρ : List Addr) (H : Hp) (r : R Fl) : Prop := match r with
  | .ok (.next L') S' => ∀ ρ' H' σ', ρ <+: ρ' → Ext H H' → Rel Γ ρ' H' σ' L' S' → D.nx σ' H'
  | .ok (.ret d) S' => ∀ ρ' H' v, ρ <+: ρ' → Ext H H' → SRel Γ ρ' H' S' → Rep Γ ρ' H' v d → D.rt v H'
  | .ok (.brk L') S' => ∀ ρ' H' σ', ρ <+: ρ' → Ext H H' → Rel Γ ρ' H' σ' L' S' → D.bk σ' H'
  | .ok (.cont L') S' => ∀ ρ' H' σ', ρ <+: ρ' → Ext H H' → Rel Γ ρ' H' σ' L' S' → D.ct σ' H'
  | .ok (.thr e L') S' => ∀ ρ' H' σ' dx, ρ <+: ρ' → Ext H H' → Rel Γ ρ' H' σ' L' S' → XRep Γ ρ' H' e dx → W (.ref (Γ.ca e.c)) dx σ' H'
  | .exc _ _ => False
  | .bad => False
def tSt (f : SF) : TS := fun D σ H => ∃ ρ L S, Rel Γ ρ H σ L S ∧ PostF Γ W D ρ H (f L S)
end
variable {Γ : Gm} {X : Cx} {W : WX} {a b c e : Expr} {pos : Pos} {fa fb fc fe : F D} {st : Stmt} {sts : List Stmt} {D : Ends} {ρ ρ' : List Addr} {H H' : Hp} {σ : L2.St} {L : Loc} {S : Sto} {f f' : SF}
theorem PostF.mono {r : R Fl} (p : ρ <+: ρ') (x : Ext H H') (h : PostF Γ W D ρ H r) : PostF Γ W D ρ' H' r := by
  cases r with
  | ok fl S' =>
    cases fl with
    | next L' => exact fun ρ2 H2 σ2 p2 x2 rl => h ρ2 H2 σ2 (p.trans p2) (x.trans x2) rl
    | ret d => exact fun ρ2 H2 v p2 x2 rl r => h ρ2 H2 v (p.trans p2) (x.trans x2) rl r
    | brk L' => exact fun ρ2 H2 σ2 p2 x2 rl => h ρ2 H2 σ2 (p.trans p2) (x.trans x2) rl
    | cont L' => exact fun ρ2 H2 σ2 p2 x2 rl => h ρ2 H2 σ2 (p.trans p2) (x.trans x2) rl
    | thr e L' => exact fun ρ2 H2 σ2 dx p2 x2 rl r => h ρ2 H2 σ2 dx (p.trans p2) (x.trans x2) rl r
  | exc _ _ => exact h
  | bad => exact h
theorem postF_next {L' : Loc} (h : PostF Γ W D ρ H (.ok (.next L') S)) (rl : Rel Γ ρ H σ L' S) : D.nx σ H := h ρ H σ (List.prefix_refl _) (Ext.refl _) rl
/-- an expression, then on -/
theorem PostF.bnd {α β : Type} {rep : List Addr → Hp → β → α → Prop} {g : F α} {k : α → SF} {Q : β → Hp → Prop} (rl : Rel Γ ρ H σ L S) (h : PostF Γ W D ρ H (sB g k L S))
    (hk : ∀ d S' ρ' H' v, ρ <+: ρ' → Ext H H' → Rel Γ ρ' H' σ L S' → rep ρ' H' v d → PostF Γ W D ρ' H' (k d L S') → Q v H') : Post Γ W rep ρ H σ L (g L S) Q := by
  unfold sB at h
  cases e : g L S with
  | ok d S' =>
    rw [e] at h
    exact fun ρ' H' v p x rl' r => hk d S' ρ' H' v p x rl' r (PostF.mono p x h)
  | exc x S' =>
    rw [e] at h
    exact fun ρ' H' dx p x' s r => h ρ' H' σ dx p x' ⟨s, rl.l.mono p x'⟩ r
  | bad =>
    rw [e] at h
    exact h.elim
theorem tM_of {α β : Type} {rep : List Addr → Hp → β → α → Prop} {g : F α} {k : α → SF} {Q : β → Hp → Prop} (h : tSt Γ W (sB g k) D σ H)
    (hk : ∀ d L S' ρ' H' v, Rel Γ ρ' H' σ L S' → rep ρ' H' v d → PostF Γ W D ρ' H' (k d L S') → Q v H') : tM Γ W rep g σ H Q := by
  obtain ⟨ρ, L, S, rl, h⟩ := h
  exact ⟨ρ, L, S, rl, PostF.bnd rl h fun d S' ρ' H' v _ _ rl' r h' => hk d L S' ρ' H' v rl' r h'⟩
/-! blocks -/
theorem PSs.no : PSs X sts (tSt Γ W FBad) := ⟨fun _ _ _ _ _ _ ⟨_, _, _, _, h⟩ => h.elim⟩
theorem PS.no : PS X st (tSt Γ W FBad) := ⟨fun _ _ _ _ _ _ ⟨_, _, _, _, h⟩ => h.elim⟩
theorem s_nil : PSs X [] (tSt Γ W sNext) := PSs.weak pss_nil fun D σ H ⟨ρ, L, S, rl, h⟩ => postF_next h rl
theorem PostF.seq {k : Loc → M Fl} {r : R Fl} (h : PostF Γ W D ρ H (match r with
    | .ok (.next L') S' => k L' S'
    | r => r)) : PostF Γ W { D with nx := fun σ' H' => ∃ ρ' L' S', Rel Γ ρ' H' σ' L' S' ∧ PostF Γ W D ρ' H' (k L' S') } ρ H r := by
  cases r with
  | ok fl S' =>
    cases fl with
    | next L' => exact fun ρ2 H2 σ2 p2 x2 rl => ⟨ρ2, L', S', rl, PostF.mono p2 x2 h⟩
    | ret d => exact h
    | brk L' => exact h
    | cont L' => exact h
    | thr e L' => exact h
  | exc _ _ => exact h
  | bad => exact h
theorem s_cons (h1 : PS X st (tSt Γ W f)) (h2 : PSs X sts (tSt Γ W f')) : PSs X (st :: sts) (tSt Γ W (sSeq f f')) := PSs.weak (pss_cons h1 h2) fun D σ H ⟨ρ, L, S, rl, h⟩ => ⟨ρ, L, S, rl, PostF.seq h⟩
theorem s_pass : PS X (.Pass pos) (tSt Γ W sNext) := PS.weak ps_pass fun D σ H ⟨ρ, L, S, rl, h⟩ => postF_next h rl
theorem s_expr (he : PE X e (tD Γ W fe)) (hs : swapsWith e none pos.line X.env = pure false) : PS X (.Expr e pos) (tSt Γ W (sExpr fe)) :=
  PS.weak (ps_expr he hs) fun D σ H h => tM_of h fun d L S' ρ' H' v rl r h' => postF_next h' rl
theorem s_ret (he : PE X e (tD Γ W fe)) : PS X (.Return (some e) pos) (tSt Γ W (sRet fe)) :=
  PS.weak (ps_ret he) fun D σ H h => tM_of h fun d L S' ρ' H' v rl r h' => h' ρ' H' v (List.prefix_refl _) (Ext.refl _) rl.s r
theorem s_retN : PS X (.Return none pos) (tSt Γ W fun _ => M.pure (.ret .non)) :=
  PS.weak ps_retN fun D σ H ⟨ρ, L, S, rl, h⟩ => h ρ H .non (List.prefix_refl _) (Ext.refl _) rl.s (rep_non.mpr rfl)
theorem s_set {i : Nat} {x : PySem.Str} {pos' : Pos} (hh : Γ.hs ≠ some i) (hN : X.N.Nodup) (hi : X.N[i]? = some x) (hx : L2.Loc X.env.scope x) (he : PE X e (tD Γ W fe)) (hs : swapsWith e (some (.Name x pos')) pos.line X.env = pure false)
    (hf : X.fn x = true ∨ X.env.scope.names.lookup x = some .local) : PS X (.Assign [.Name x pos'] e pos) (tSt Γ W (sSet i fe)) :=
  PS.weak (ps_set hN hi hx he hs hf) fun D σ H h => tM_of h fun d L S' ρ' H' v rl r h' => postF_next h' ⟨rl.s, rl.l.set hh r⟩
theorem s_if {ft : F Bool} {as bs : List Stmt} (hc : PT X c (tBl Γ W ft)) (ha : PSs X as (tSt Γ W f)) (hb : PSs X bs (tSt Γ W f')) : PS X (.If c as bs pos) (tSt Γ W (sIf ft f f')) :=
  PS.weak (ps_if hc ha hb) fun D σ H h => tM_of h fun d L S' ρ' H' v rl r h' => by
    subst r
    cases v with
    | true => exact iteT ⟨ρ', L, S', rl, h'⟩
    | false => exact iteF ⟨ρ', L, S', rl, h'⟩
/-! a, b = x, y -/
theorem hs_none {i : Nat} (hh : Γ.hot = none) : Γ.hs ≠ some i := by unfold Gm.hs; rw [hh]; exact fun z => nomatch z
theorem setAll_rel (hh : Γ.hot = none) : ∀ {is : List Nat} {ds : List Bv.D} {vs : List V} {L L' : Bv.Loc} {σ : L2.St}, LRel Γ ρ H σ L → Reps Γ ρ H vs ds → setAll is ds L = some L' → is.length = vs.length ∧ LRel Γ ρ H ((is.zip vs).foldl (fun σ q => σ.set q.1 (some q.2)) σ) L'
  | [], [], vs, L, L', σ, hl, r, h => by
    simp only [setAll, Option.some.injEq] at h
    subst h
    rw [Reps.nil_iff] at r; subst r
    exact ⟨rfl, hl⟩
  | i :: is, d :: ds, vs, L, L', σ, hl, r, h => by
    rw [Reps.cons_iff] at r
    obtain ⟨v, ws, rfl, r1, r2⟩ := r
    obtain ⟨h1, h2⟩ := setAll_rel hh (hl.set (i := i) (hs_none hh) r1) r2 h
    exact ⟨by simp [h1], h2⟩
  | [], _ :: _, _, _, _, _, _, _, h => by simp [setAll] at h
  | _ :: _, [], _, _, _, _, _, _, h => by simp [setAll] at h
theorem s_par2 (hh : Γ.hot = none) {i j : Nat} {x y : PySem.Str} {px py pt : Pos} {kt k2 : Nat} {pt2 : Pos} {fs : F (List Bv.D)} (h : PS X (.Assign [.Tuple [.Name x px, .Name y py] kt pt] (.Tuple [a, b] k2 pt2) pos) (tPar i j (tDs Γ W fs))) :
    PS X (.Assign [.Tuple [.Name x px, .Name y py] kt pt] (.Tuple [a, b] k2 pt2) pos) (tSt Γ W (sPar [i, j] fs)) :=
  PS.weak h fun D σ H h => tM_of h fun ds L S' ρ' H' vs rl r h' => by
    cases e : setAll [i, j] ds L with
    | none => rw [e] at h'; exact h'.elim
    | some L' =>
      rw [e] at h'
      obtain ⟨h1, h2⟩ := setAll_rel hh rl.l r e
      match vs, h1 with
      | [v, w], _ => exact ⟨v, w, rfl, postF_next h' ⟨rl.s, h2⟩⟩
/-! targets -/
def TgOk (Γ : Gm) (g : TG) (t : Tg) : Prop := ∀ v d ρ H σ L S L1 (Q : L2.St → Hp → Prop), Rel Γ ρ H σ L S → Rep Γ ρ H v d → tgSet t d L = some L1 → (∀ σ', Rel Γ ρ H σ' L1 S → Q σ' H) → g v σ H Q
theorem tg_name (hh : Γ.hot = none) (i : Nat) : TgOk Γ (gName i) (.name i) := by
  intro v d ρ H σ L S L1 Q rl r e q
  simp only [tgSet, Option.some.injEq] at e
  subst e
  exact q _ ⟨rl.s, rl.l.set (hs_none hh) r⟩
def gNames : List Nat → TGs
  | [] => gNil
  | i :: is => gCons (gName i) (gNames is)
theorem gNames_ok (hh : Γ.hot = none) : ∀ {is : List Nat} {ds : List Bv.D} {vs : List V} {L L' : Bv.Loc} {σ : L2.St} {Q : L2.St → Hp → Prop}, LRel Γ ρ H σ L → Reps Γ ρ H vs ds → setAll is ds L = some L' → (∀ σ', LRel Γ ρ H σ' L' → Q σ' H) → gNames is vs σ H Q
  | [], [], vs, L, L', σ, Q, hl, r, h, q => by
    simp only [setAll, Option.some.injEq] at h
    subst h
    rw [Reps.nil_iff] at r; subst r
    exact ⟨rfl, q σ hl⟩
  | i :: is, d :: ds, vs, L, L', σ, Q, hl, r, h, q => by
    rw [Reps.cons_iff] at r
    obtain ⟨v, ws, rfl, r1, r2⟩ := r
    exact ⟨v, ws, rfl, gNames_ok hh (hl.set (i := i) (hs_none hh) r1) r2 h q⟩
  | [], _ :: _, _, _, _, _, _, _, _, h, _ => by simp [setAll] at h
  | _ :: _, [], _, _, _, _, _, _, _, h, _ => by simp [setAll] at h
theorem setAll_len : ∀ {is : List Nat} {ds : List Bv.D} {L L' : Bv.Loc}, setAll is ds L = some L' → ds.length = is.length
  | [], [], _, _, _ => rfl
  | i :: is, d :: ds, L, L', h => by simp [setAll_len (is := is) (ds := ds) h]
  | [], _ :: _, _, _, h => by simp [setAll] at h
  | _ :: _, [], _, _, h => by simp [setAll] at h
theorem tg_names (hh : Γ.hot = none) (is : List Nat) : TgOk Γ (gTup Γ.K is.length (gNames is)) (.names is) := by
  intro v d ρ H σ L S L1 Q rl r e q
  cases d <;> try (simp [tgSet] at e)
  rename_i ds
  simp only [Rep] at r
  obtain ⟨p, xs, rfl, hq, r⟩ := r
  exact ⟨p, xs, rfl, hq, r.length.trans (setAll_len e), gNames_ok hh rl.l r e fun σ' h => q σ' ⟨rl.s, h⟩⟩
theorem s_asg {tg : Expr} {g : TG} {t : Tg} (tk : TgOk Γ g t) (h : PS X (.Assign [tg] e pos) (tAsg (tD Γ W fe) g)) : PS X (.Assign [tg] e pos) (tSt Γ W (sB fe fun d L => optNext (tgSet t d L))) :=
  PS.weak h fun D σ H h => tM_of h fun d L S' ρ' H' v rl r h' => by
    cases e : tgSet t d L with
    | none => rw [e] at h'; exact h'.elim
    | some L' =>
      rw [e] at h'
      exact tk v d ρ' H' σ L S' L' _ rl r e fun σ' rl' => postF_next h' rl'
/-! x op= e -/
theorem s_aug (hh : Γ.hot = none) {i : Nat} {o : Op2} {ti : TIp} (sp : Spec2 Γ (Rep Γ) ti (aug2 o)) (h : PS X st (tAug i (tD Γ W fe) ti)) : PS X st (tSt Γ W (sAug i o fe)) :=
  PS.weak h fun D σ H ⟨ρ, L, S, rl, h⟩ => by
    have h2 := PostF.bnd (rep := Rep Γ) (Q := fun v H' => ∃ L' S' ρ' d, Rel Γ ρ' H' σ L' S' ∧ Rep Γ ρ' H' v d ∧ PostF Γ W D ρ' H' (.ok (.next (L'.set i (some d))) S')) rl h fun d S' ρ' H' v _ _ rl' r h' => ⟨L, S', ρ', d, rl', r, h'⟩
    unfold F.bind at h2
    unfold fVar at h2
    rw [List.getD_eq_getElem?_getD] at h2
    cases e : L[i]? with
    | none => rw [e] at h2; exact h2.elim
    | some od =>
      cases od with
      | none => rw [e] at h2; exact h2.elim
      | some d =>
        rw [e] at h2
        obtain ⟨v, e1, r⟩ := rl.l.val i d (hs_none hh) e
        refine ⟨v, e1, ρ, L, S, rl, ?_⟩
        have h3 : Post Γ W (Rep Γ) ρ H σ L (M.bind (fe L) (fun y => aug2 o d y) S) _ := h2
        refine Post.bind h3 fun d2 S1 ρ1 H1 v2 p1 x1 rl1 r1 h4 => ?_
        refine sp W ρ1 H1 σ L S1 v v2 d d2 _ rl1 (Rep.mono p1 x1 d r) r1 (Post.imp h4 fun z H2 q => ?_)
        obtain ⟨L', S', ρ', d', rl', r', h'⟩ := q
        exact postF_next h' ⟨rl'.s, rl'.l.set (hs_none hh) r'⟩
/-! loops -/
theorem PostF.turn {r : R Fl} {k : Bv.Loc → M Fl} (h : PostF Γ W D ρ H (turn r k)) {N : L2.St → Hp → Prop} (hN : ∀ L' S' ρ' H' σ', ρ <+: ρ' → Ext H H' → Rel Γ ρ' H' σ' L' S' → PostF Γ W D ρ' H' (k L' S') → N σ' H') :
    PostF Γ W { D with nx := N, ct := N, bk := D.nx } ρ H r := by
  cases r with
  | ok fl S' =>
    cases fl with
    | next L' => exact fun ρ2 H2 σ2 p2 x2 rl => hN L' S' ρ2 H2 σ2 p2 x2 rl (PostF.mono p2 x2 h)
    | ret d => exact h
    | brk L' => exact h
    | cont L' => exact fun ρ2 H2 σ2 p2 x2 rl => hN L' S' ρ2 H2 σ2 p2 x2 rl (PostF.mono p2 x2 h)
    | thr e L' => exact h
  | exc _ _ => exact h
  | bad => exact h
theorem s_while {ft : F Bool} {bs : List Stmt} {n : Nat} (hp : PassesOwn (model X.prog X.w) X.A X.env X.xe) (hc : PT X c (tBl Γ W ft)) (hb : PSs X bs (tSt Γ W f)) : PS X (.While c bs [] pos) (tSt Γ W (sWhile ft f n)) :=
  PS.weak (ps_while hp hc hb) fun D σ H h => by
    refine ⟨fun m σ H => tSt Γ W (sWhile ft f m) D σ H, ⟨n, h⟩, fun m σ H h => ?_⟩
    cases m with
    | zero => obtain ⟨_, _, _, _, h⟩ := h; exact h.elim
    | succ m =>
      refine tM_of h fun k L S' ρ' H' v rl r h' => ?_
      subst r
      cases v with
      | true =>
        exact iteT ⟨fun σ H => tSt Γ W (sWhile ft f m) D σ H, fun σ' H' q => ⟨m, Nat.lt_succ_self m, q⟩, ρ', L, S', rl, PostF.turn h' fun L' S' ρ2 H2 σ2 _ _ rl2 q => ⟨ρ2, L', S', rl2, q⟩⟩
      | false => exact iteF (postF_next h' rl)
/-- the items of a loop that stand still -/
theorem loop_inv {J : It} {g : TG} {t : Tg} {items : List Bv.D} (tk : TgOk Γ g t) (stop : ∀ i ρ' H', ρ <+: ρ' → Ext H H' → items.length ≤ i → J.stop i H') (go : ∀ i ρ' H', ρ <+: ρ' → Ext H H' → i < items.length → J.go i H') (yld : ∀ i d ρ' H' x H2, ρ <+: ρ' → Ext H H' → items[i]? = some d → J.yld i H' x H2 → H2 = H' ∧ Rep Γ ρ' H' x d)
    (rl : Rel Γ ρ H σ L S) (h : PostF Γ W D ρ H (sFor (tgSet t) f items L S)) : ∃ W' : Nat → Nat → L2.St → Hp → Prop, (∃ m, W' 0 m σ H) ∧ ∀ i m σ H, W' i m σ H →
      (J.stop i H ∧ D.nx σ H) ∨ (J.go i H ∧ ∃ N : L2.St → Hp → Prop, (∀ σ' H', N σ' H' → ∃ m', m' < m ∧ W' (i + 1) m' σ' H') ∧ ∀ x H', J.yld i H x H' → g x σ H' fun σ2 H2 => tSt Γ W f { D with nx := N, ct := N, bk := D.nx } σ2 H2) := by
  let Pv : Nat → L2.St → Hp → Prop := fun i σ1 H1 => ∃ ρ1 L1 S1, ρ <+: ρ1 ∧ Ext H H1 ∧ Rel Γ ρ1 H1 σ1 L1 S1 ∧ PostF Γ W D ρ1 H1 (sFor (tgSet t) f (items.drop i) L1 S1)
  refine ⟨fun i m σ H => m = items.length - i ∧ i ≤ items.length ∧ Pv i σ H, ⟨items.length, by simp, Nat.zero_le _, ρ, L, S, List.prefix_refl _, Ext.refl _, rl, h⟩, ?_⟩
  rintro i m σ1 H1 ⟨rfl, hi, ρ1, L1, S1, p1, x1, rl1, h1⟩
  by_cases hlt : i < items.length
  · have e : items.drop i = items[i] :: items.drop (i + 1) := List.drop_eq_getElem_cons hlt
    rw [e] at h1
    refine .inr ⟨go i ρ1 H1 p1 x1 hlt, Pv (i + 1), fun σ' H' q => ⟨items.length - (i + 1), by omega, rfl, hlt, q⟩, fun x H' y => ?_⟩
    obtain ⟨rfl, r⟩ := yld i items[i] ρ1 H1 x H' p1 x1 (List.getElem?_eq_getElem hlt) y
    simp only [sFor] at h1
    cases eg : tgSet t items[i] L1 with
    | none => rw [eg] at h1; exact h1.elim
    | some L2 =>
      rw [eg] at h1
      refine tk x _ ρ1 H' σ1 L1 S1 L2 _ rl1 r eg fun σ' rl' => ⟨ρ1, L2, S1, rl', PostF.turn h1 fun L3 S3 ρ3 H3 σ3 p3 x3 rl3 q => ⟨ρ3, L3, S3, p1.trans p3, x1.trans x3, rl3, q⟩⟩
  · have e : items.drop i = [] := List.drop_eq_nil_of_le (by omega)
    rw [e] at h1
    exact .inl ⟨stop i ρ1 H1 p1 x1 (by omega), postF_next h1 rl1⟩
theorem loop_rng {g : TG} {t : Tg} {lo : Int} {n : Nat} (tk : TgOk Γ g t) (rl : Rel Γ ρ H σ L S) (h : PostF Γ W D ρ H (sFor (tgSet t) f (rangeD lo n) L S)) : ∃ W' : Nat → Nat → L2.St → Hp → Prop, (∃ m, W' 0 m σ H) ∧ ∀ i m σ H, W' i m σ H →
      ((Itr lo n).stop i H ∧ D.nx σ H) ∨ ((Itr lo n).go i H ∧ ∃ N : L2.St → Hp → Prop, (∀ σ' H', N σ' H' → ∃ m', m' < m ∧ W' (i + 1) m' σ' H') ∧ ∀ x H', (Itr lo n).yld i H x H' → g x σ H' fun σ2 H2 => tSt Γ W f { D with nx := N, ct := N, bk := D.nx } σ2 H2) := by
  have hl : (rangeD lo n).length = n := by simp [rangeD]
  refine loop_inv tk (fun i ρ' H' _ _ hi => by rw [hl] at hi; exact hi) (fun i ρ' H' _ _ hi => by rw [hl] at hi; exact hi) (fun i d ρ' H' x H2 _ _ hd y => ?_) rl h
  obtain ⟨rfl, rfl⟩ := y
  refine ⟨rfl, ?_⟩
  unfold rangeD at hd
  rw [List.getElem?_map] at hd
  cases e : (List.range n)[i]? with
  | none => rw [e] at hd; cases hd
  | some k =>
    rw [e] at hd
    have ek : k = i := by
      obtain ⟨q1, q2⟩ := List.getElem?_eq_some_iff.mp e
      simpa using q2.symm
    subst ek
    have : Bv.D.int (lo + k) = d := by simpa using hd
    subst this
    exact rep_int.mpr rfl
theorem s_forR1 {bs : List Stmt} {tg it : Expr} {g : TG} {t : Tg} (tk : TgOk Γ g t) (h : PS X (.For tg it bs [] pos) (tFor (iRng1 (tCons (tD Γ W fe) tNil)) g (tSt Γ W f))) : PS X (.For tg it bs [] pos) (tSt Γ W (sForR1 (tgSet t) fe f)) :=
  PS.weak h fun D σ H h => tM_of h fun d L S' ρ' H' v rl r h' => by
    cases d <;> try exact h'.elim
    rename_i j
    rw [rep_int] at r; subst r
    simp only [rng1] at h'
    by_cases hj : near j = true
    · rw [if_pos hj] at h'
      unfold near at hj
      have hj := of_decide_eq_true hj
      exact ⟨j, rfl, hj.1, hj.2, loop_rng tk rl h'⟩
    · rw [if_neg hj] at h'; exact h'.elim
theorem s_forR2 {bs : List Stmt} {tg it : Expr} {g : TG} {t : Tg} (tk : TgOk Γ g t) (h : PS X (.For tg it bs [] pos) (tFor (iRng2 (tCons (tD Γ W fa) (tCons (tD Γ W fb) tNil))) g (tSt Γ W f))) : PS X (.For tg it bs [] pos) (tSt Γ W (sForR2 (tgSet t) fa fb f)) :=
  PS.weak h fun D σ H h => by
    obtain ⟨ρ, L, S, rl, h⟩ := h
    have h2 := PostF.bnd (rep := fun ρ H (p : V × V) (d : Bv.D × Bv.D) => Rep Γ ρ H p.1 d.1 ∧ Rep Γ ρ H p.2 d.2) (Q := fun p H' => ∃ L' S' ρ' d, Rel Γ ρ' H' σ L' S' ∧ (Rep Γ ρ' H' p.1 d.1 ∧ Rep Γ ρ' H' p.2 d.2) ∧ PostF Γ W D ρ' H' (rng2 (tgSet t) f d L' S')) rl h fun d S' ρ' H' v _ _ rl' r h' => ⟨L, S', ρ', d, rl', r, h'⟩
    have h3 : Post Γ W _ ρ H σ L (M.bind (fa L) (fun i => M.bind (fb L) fun j => M.pure (i, j)) S) _ := h2
    refine ⟨ρ, L, S, rl, Post.bind h3 fun d S1 ρ1 H1 v p1 x1 rl1 r1 h4 => ⟨ρ1, L, S1, rl1, Post.bind h4 fun d2 S2 ρ2 H2 v2 p2 x2 rl2 r2 h5 => ?_⟩⟩
    obtain ⟨L', S', ρ', dd, rl', ⟨ra, rb⟩, h'⟩ := post_here (v := (v, v2)) h5 rl2 ⟨Rep.mono p2 x2 d r1, r2⟩
    obtain ⟨da, db⟩ := dd
    cases da <;> cases db <;> try exact h'.elim
    rename_i i j
    rw [rep_int] at ra rb
    dsimp only at ra rb
    subst ra rb
    simp only [rng2] at h'
    by_cases hj : (near i && near j) = true
    · rw [if_pos hj] at h'
      unfold near at hj
      simp only [Bool.and_eq_true, decide_eq_true_eq] at hj
      exact ⟨i, j, rfl, ⟨hj.1.1, hj.1.2, hj.2.1, hj.2.2⟩, loop_rng tk rl' h'⟩
    · rw [if_neg hj] at h'; exact h'.elim
theorem s_par3 (hh : Γ.hot = none) {i j l : Nat} {x y z : PySem.Str} {px py pz pt : Pos} {kt k2 : Nat} {pt2 : Pos} {fs : F (List Bv.D)} (h : PS X (.Assign [.Tuple [.Name x px, .Name y py, .Name z pz] kt pt] (.Tuple [a, b, c] k2 pt2) pos) (tPar3 i j l (tDs Γ W fs))) :
    PS X (.Assign [.Tuple [.Name x px, .Name y py, .Name z pz] kt pt] (.Tuple [a, b, c] k2 pt2) pos) (tSt Γ W (sPar [i, j, l] fs)) :=
  PS.weak h fun D σ H h => tM_of h fun ds L S' ρ' H' vs rl r h' => by
    cases e : setAll [i, j, l] ds L with
    | none => rw [e] at h'; exact h'.elim
    | some L' =>
      rw [e] at h'
      obtain ⟨h1, h2⟩ := setAll_rel hh rl.l r e
      match vs, h1 with
      | [u, v, w], _ => exact ⟨u, v, w, rfl, postF_next h' ⟨rl.s, h2⟩⟩
def iAny (K : PySem.W.Frag) (te : TE) : TI := fun σ H R => (iList K te σ H R ∨ iTup K te σ H R) ∨ iStr te σ H R
theorem pi_any {tg : Expr} {te : TE} (h : PE X e te) : PI X tg e (iAny X.K te) := PI.or (PI.or (pi_list h) (pi_tup h)) (pi_str h)
theorem loop_list {g : TG} {t : Tg} {i : Nat} {p : Addr} (tk : TgOk Γ g t) (hp : ρ[i]? = some p) (rl : Rel Γ ρ H σ L S) {n : Nat} (h : PostF Γ W D ρ H (sForL (tgSet t) f i n 0 L S)) :
    ∃ W' : Nat → Nat → L2.St → Hp → Prop, (∃ m, W' 0 m σ H) ∧ ∀ i m σ H, W' i m σ H →
      ((Itl Γ.K p).stop i H ∧ D.nx σ H) ∨ ((Itl Γ.K p).go i H ∧ ∃ N : L2.St → Hp → Prop, (∀ σ' H', N σ' H' → ∃ m', m' < m ∧ W' (i + 1) m' σ' H') ∧ ∀ x H', (Itl Γ.K p).yld i H x H' → g x σ H' fun σ2 H2 => tSt Γ W f { D with nx := N, ct := N, bk := D.nx } σ2 H2) := by
  refine ⟨fun k m σ1 H1 => ∃ ρ1 L1 S1, ρ <+: ρ1 ∧ Rel Γ ρ1 H1 σ1 L1 S1 ∧ PostF Γ W D ρ1 H1 (sForL (tgSet t) f i m k L1 S1), ⟨n, ρ, L, S, List.prefix_refl _, rl, h⟩, ?_⟩
  rintro k m σ1 H1 ⟨ρ1, L1, S1, p1, rl1, h1⟩
  cases m with
  | zero => exact h1.elim
  | succ m =>
    simp only [sForL] at h1
    cases e1 : seqOf S1 (.ref i) with
    | none => rw [e1] at h1; exact h1.elim
    | some ds =>
      rw [e1] at h1
      obtain ⟨p', xs, ep, q, rr⟩ := rl1.s.seq e1
      rw [get_pre p1 hp] at ep; cases ep
      cases e2 : ds[k]? with
      | none =>
        simp only [e2] at h1
        refine .inl ⟨⟨xs, q, ?_⟩, postF_next h1 rl1⟩
        rw [rr.length]
        exact List.getElem?_eq_none_iff.mp e2
      | some d =>
        simp only [e2] at h1
        obtain ⟨v, ev, rv⟩ := rr.get e2
        refine .inr ⟨⟨xs, v, q, ev⟩, fun σ2 H2 => ∃ ρ2 L2 S2, ρ <+: ρ2 ∧ Rel Γ ρ2 H2 σ2 L2 S2 ∧ PostF Γ W D ρ2 H2 (sForL (tgSet t) f i m (k + 1) L2 S2), fun σ' H' z => ⟨m, Nat.lt_succ_self m, z⟩, fun x H' y => ?_⟩
        obtain ⟨rfl, y⟩ := y
        have ex : x = v := Option.some.inj ((y xs q).symm.trans ev)
        subst ex
        cases eg : tgSet t d L1 with
        | none => rw [eg] at h1; exact h1.elim
        | some L2 =>
          rw [eg] at h1
          exact tk x d ρ1 H' σ1 L1 S1 L2 _ rl1 rv eg fun σ' rl' => ⟨ρ1, L2, S1, rl', PostF.turn h1 fun L3 S3 ρ3 H3 σ3 p3 x3 rl3 q => ⟨ρ3, L3, S3, p1.trans p3, rl3, q⟩⟩
theorem s_forS {bs : List Stmt} {tg : Expr} {g : TG} {t : Tg} (hK : X.K = Γ.K) (tk : TgOk Γ g t) (h : PS X (.For tg e bs [] pos) (tFor (iAny X.K (tD Γ W fe)) g (tSt Γ W f))) :
    PS X (.For tg e bs [] pos) (tSt Γ W (sForS (tgSet t) fe f)) :=
  PS.weak h fun D σ H h => by
    obtain ⟨ρ, L, S, rl, h⟩ := h
    rw [hK]
    unfold sForS sB at h
    cases e : fe L S with
    | ok d S1 =>
      rw [e] at h
      have h : PostF Γ W D ρ H (forOf (tgSet t) f d L S1) := h
      cases d with
      | tup ds =>
        refine .inl (.inr ⟨ρ, L, S, rl, ?_⟩)
        rw [e]
        intro ρ' H' v p x rl' r
        simp only [Rep] at r
        obtain ⟨q, xs, rfl, hq, rr⟩ := r
        refine ⟨q, rfl, ⟨xs, hq⟩, ?_⟩
        have hs : ∀ {H2 : Hp}, Ext H' H2 → SqT Γ.K H2 q xs := fun x2 => x2.sqT hq
        refine loop_inv (items := ds) tk (fun i ρ2 H2 p2 x2 hi => ?_) (fun i ρ2 H2 p2 x2 hi => ?_) (fun i d ρ2 H2 z H3 p2 x2 hd y => ?_) rl' (PostF.mono p x h)
        · exact ⟨xs, hs x2, by rw [rr.length]; exact hi⟩
        · obtain ⟨v, ev, _⟩ := rr.get (List.getElem?_eq_getElem hi)
          exact ⟨xs, v, hs x2, ev⟩
        · obtain ⟨rfl, y⟩ := y
          obtain ⟨v, ev, rv⟩ := rr.get hd
          have : z = v := Option.some.inj ((y xs (hs x2)).symm.trans ev)
          subst this
          exact ⟨rfl, Rep.mono p2 x2 d rv⟩
      | str s =>
        refine .inr ⟨ρ, L, S, rl, ?_⟩
        rw [e]
        intro ρ' H' v p x rl' r
        rw [rep_str] at r
        obtain ⟨rfl, hc⟩ := r
        refine ⟨_, rfl, ?_⟩
        by_cases hl : s.length ≤ 16000000
        · simp only [forOf, if_pos hl] at h
          refine loop_inv (items := s.map fun c => Bv.D.str [c]) tk (fun i ρ2 H2 p2 x2 hi => ?_) (fun i ρ2 H2 p2 x2 hi => ?_) (fun i d ρ2 H2 z H3 p2 x2 hd y => ?_) rl' (PostF.mono p x h)
          · show s.toArray.size ≤ i
            simpa using hi
          · show i < s.toArray.size
            simpa using hi
          · obtain ⟨rfl, c, y, rfl⟩ := y
            refine ⟨rfl, ?_⟩
            rw [List.getElem?_map] at hd
            have y : s[i]? = some c := by simpa using y
            rw [y] at hd
            have : Bv.D.str [c] = d := by simpa using hd
            subst this
            exact rep_str.mpr ⟨rfl, fun c' h' => by rw [List.mem_singleton.mp h']; exact hc c (List.mem_of_getElem? y)⟩
        · simp only [forOf, if_neg hl] at h
          exact h.elim
      | ref i =>
        refine .inl (.inl ⟨ρ, L, S, rl, ?_⟩)
        rw [e]
        intro ρ' H' v p x rl' r
        simp only [Rep] at r
        obtain ⟨q, rfl, ea⟩ := r
        simp only [forOf] at h
        cases e1 : seqOf S1 (.ref i) with
        | none => rw [e1] at h; exact h.elim
        | some ds =>
          rw [e1] at h
          obtain ⟨q', xs, eq, hq, rr⟩ := rl'.s.seq e1
          rw [ea] at eq; cases eq
          exact ⟨q, rfl, ⟨xs, hq⟩, loop_list tk ea rl' (PostF.mono p x h)⟩
      | non => exact h.elim
      | bl _ => exact h.elim
      | int _ => exact h.elim
      | fn _ => exact h.elim
      | cls _ => exact h.elim
      | ty _ => exact h.elim
    | exc x S1 =>
      rw [e] at h
      refine .inl (.inl ⟨ρ, L, S, rl, ?_⟩)
      rw [e]
      exact fun ρ' H' dx p x' s r => h ρ' H' σ dx p x' ⟨s, rl.l.mono p x'⟩ r
    | bad =>
      rw [e] at h
      exact h.elim
end Bv
end
section
/-! B1x: exceptions -/
namespace Bv
open PySem PySem.Spec L2 PyProof.Rows
variable {Γ : Gm} {X : Cx} {W : WX}
/-! ### what may fly -/
/-- a class whose errors may have a context -/
def looseV (Γ : Gm) (cls : Value) : Prop := ∃ c, looseC c = true ∧ cls = .ref (Γ.ca c)
/-- behind a call that let an exception out: its context is None, or it is a loose one -/
def CXm (Γ : Gm) (P : Program) (w : World) : CXT := fun outer H s E u s' => L2N.CX P w outer H s E u s' ∨ L2.CX P w outer H s (fun cls d H => looseV Γ cls ∧ E cls d H) u s'
structure TkM (Γ : Gm) (X : Cx) (W : WX) : Prop where
  n : L2N.Takes X W
  l : L2.Takes X (fun cls d σ H => looseV Γ cls ∧ W cls d σ H)
theorem passM (tk : TkM Γ X W) (σ : L2.St) : PassesAt (CXm Γ X.prog X.w) X σ (WE W σ) := fun pins H s e s' I h => by
  rcases h with h | h
  · exact L2N.passAt tk.n σ pins H s e s' I h
  · exact L2.passAt tk.l σ pins H s e s' I h
theorem tkM_of {E : XK} (hs : X.stack = X.env :: X.outer) (hf : X.env.frame = some X.env.locals) (hex : X.ex = []) {E₁ : Value → Shared → Prop}
    (hx : X.xe = fun e s' => wpAny (model X.prog X.w) X.A (leaving X.env e) (fun _ s'' => CXm Γ X.prog X.w X.outer X.H_0 X.s_0 E e s'') E₁ s') : TkM Γ X (fun cls d _ H => E cls d H) := by
  refine ⟨fun u s' q => ?_, fun u s' q => ?_⟩
  · rw [hx]
    exact wpAny_mono (L2N.XE.leave (W := fun cls d _ H => E cls d H) (E := E) hs hf hex (fun _ _ _ _ h => h) q) (fun _ _ h => .inl h) fun _ _ h => h
  · rw [hx]
    exact wpAny_mono (L2.XE.leave (W := fun cls d _ H => looseV Γ cls ∧ E cls d H) (E := fun cls d H => looseV Γ cls ∧ E cls d H) hs hf hex (fun _ _ _ _ h => h) q) (fun _ _ h => .inr h) fun _ _ h => h
/-- a try's body, whose loose errors are none -/
theorem TkM.tr {X' : Cx} (h : L2N.Takes X' W) : TkM Γ X' (fun cls d σ H => ¬ looseV Γ cls ∧ W cls d σ H) :=
  ⟨L2N.Takes.imp h fun _ _ _ _ q => q.2, L2.Takes.imp takes_none5 fun _ _ _ _ q => (q.2.1 q.1).elim⟩
/-! ### raise X('..') -/
theorem s_raise0 {c : Nat} {x m : PySem.Str} {p p2 pos pos' : Pos} {j : Nat} (hc : X.calm = true) (tk : TkM Γ X W) (ok : Γ.cl c = true) (he : L2N.PMk X (.Call (.Name x p) [.Constant (.str m) j p2] [] pos) (fun _ H Q => Q (.ref (Γ.ca c)) none H)) :
    PS X (.Raise (some (.Call (.Name x p) [.Constant (.str m) j p2] [] pos)) none pos') (tSt Γ W fun L => M.pure (.thr ⟨c, none⟩ L)) :=
  PS.weak (L2N.ps_raise hc tk.n he) fun D σ H ⟨ρ, L, S, rl, h⟩ => h ρ H σ none (List.prefix_refl _) (Ext.refl _) rl ⟨ok, rfl⟩
/-! ### into a suite, and out -/
/-- the same text, an exception held -/
abbrev Gm.held (Γ : Gm) (h : Hx) : Gm := { Γ with hot := some h }
section
variable {ρ : List Addr} {H : Hp} {S : Sto} {σ : L2.St} {L : Loc} {h : Hx}
mutual
theorem rep_held : ∀ (d : D) {v : V}, Rep (Γ.held h) ρ H v d ↔ Rep Γ ρ H v d
  | .non, v => by simp only [Rep]
  | .bl _, v => by simp only [Rep]
  | .int _, v => by simp only [Rep]
  | .str _, v => by simp only [Rep]
  | .tup ds, v => by
    simp only [Rep]
    constructor
    · rintro ⟨p, xs, e, q, r⟩
      exact ⟨p, xs, e, q, (reps_held ds).mp r⟩
    · rintro ⟨p, xs, e, q, r⟩
      exact ⟨p, xs, e, q, (reps_held ds).mpr r⟩
  | .ref _, v => by simp only [Rep]
  | .fn _, v => by simp only [Rep]
  | .cls _, v => by simp only [Rep]
  | .ty _, v => by simp only [Rep]
theorem reps_held : ∀ (ds : List D) {vs : List V}, Reps (Γ.held h) ρ H vs ds ↔ Reps Γ ρ H vs ds
  | [], [] => by simp only [Reps]
  | [], _ :: _ => by simp only [Reps]
  | _ :: _, [] => by simp only [Reps]
  | d :: ds, v :: vs => by
    simp only [Reps]
    rw [rep_held d, reps_held ds]
end
theorem kreps_held : ∀ {kv : List (Key × V)} {kd : List (D × D)}, KReps (Γ.held h) ρ H kv kd ↔ KReps Γ ρ H kv kd
  | [], [] => by simp only [KReps]
  | [], _ :: _ => by simp only [KReps]
  | _ :: _, [] => by simp only [KReps]
  | p :: r, q :: r' => by
    simp only [KReps]
    rw [rep_held q.2, kreps_held]
theorem freps_held : ∀ {kv : List (PySem.Str × V)} {kd : List (Nat × D)}, FReps (Γ.held h) ρ H kv kd ↔ FReps Γ ρ H kv kd
  | [], [] => by simp only [FReps]
  | [], _ :: _ => by simp only [FReps]
  | _ :: _, [] => by simp only [FReps]
  | p :: r, q :: r' => by
    simp only [FReps]
    rw [rep_held q.2, freps_held]
theorem orep_held {a : Addr} (o : O) : ORep (Γ.held h) ρ H a o ↔ ORep Γ ρ H a o := by
  cases o with
  | lst ds =>
    constructor
    · rintro ⟨xs, e, r⟩
      exact ⟨xs, e, (reps_held ds).mp r⟩
    · rintro ⟨xs, e, r⟩
      exact ⟨xs, e, (reps_held ds).mpr r⟩
  | ro ds =>
    constructor
    · rintro ⟨xs, e, r⟩
      exact ⟨xs, e, (reps_held ds).mp r⟩
    · rintro ⟨xs, e, r⟩
      exact ⟨xs, e, (reps_held ds).mpr r⟩
  | dct kd =>
    constructor
    · rintro ⟨xs, e, r⟩
      exact ⟨xs, e, kreps_held.mp r⟩
    · rintro ⟨xs, e, r⟩
      exact ⟨xs, e, kreps_held.mpr r⟩
  | ins _ _ =>
    constructor
    · rintro ⟨k, dx, xs, e, r⟩
      exact ⟨k, dx, xs, e, freps_held.mp r⟩
    · rintro ⟨k, dx, xs, e, r⟩
      exact ⟨k, dx, xs, e, freps_held.mpr r⟩
theorem xrep_held {e : Exn} {dx : Option Addr} : XRep (Γ.held h) ρ H e dx ↔ XRep Γ ρ H e dx := by
  obtain ⟨c, f⟩ := e
  cases f with
  | none => exact Iff.rfl
  | some d =>
    constructor
    · rintro ⟨h0, a, v, h1, h2, h3⟩
      exact ⟨h0, a, v, h1, h2, (rep_held d).mp h3⟩
    · rintro ⟨h0, a, v, h1, h2, h3⟩
      exact ⟨h0, a, v, h1, h2, (rep_held d).mpr h3⟩
theorem SRel.held (s : SRel Γ ρ H S) : SRel (Γ.held h) ρ H S := ⟨s.len, fun i a o h1 h2 => (orep_held o).mpr (s.obj i a o h1 h2), s.inj⟩
theorem SRel.free (s : SRel (Γ.held h) ρ H S) : SRel Γ ρ H S := ⟨s.len, fun i a o h1 h2 => (orep_held o).mp (s.obj i a o h1 h2), s.inj⟩
theorem LRel.held {f : Option D} (hh : Γ.hot = none) (l : LRel Γ ρ H σ L) (hi : h.sl < L.length) (x : XRep Γ ρ H ⟨h.c, f⟩ h.dx) : LRel (Γ.held h) ρ H (σ.set h.sl (some (.ref h.a))) (L.set h.sl (some (exnD h.c f))) := by
  refine ⟨by simp [l.len], fun j d n q => ?_, fun y hy => ?_⟩
  · have ne : h.sl ≠ j := fun z => n (show some h.sl = some j by rw [z])
    rw [List.getElem?_set_ne ne] at q ⊢
    obtain ⟨v, e1, r⟩ := l.val j d (hs_none hh) q
    exact ⟨v, e1, (rep_held d).mpr r⟩
  · cases hy
    exact ⟨f, List.getElem?_set_self hi, List.getElem?_set_self (by rw [← l.len]; exact hi), xrep_held.mpr x⟩
theorem LRel.free (hh : Γ.hot = none) (l : LRel (Γ.held h) ρ H σ L) : LRel Γ ρ H (σ.set h.sl none) (L.set h.sl none) := by
  refine ⟨by simp [l.len], fun j d n q => ?_, fun y hy => by rw [hh] at hy; cases hy⟩
  by_cases e : h.sl = j
  · subst e
    by_cases hl : h.sl < L.length
    · rw [List.getElem?_set_self hl] at q; cases q
    · rw [List.getElem?_eq_none (by simpa using hl)] at q; cases q
  · rw [List.getElem?_set_ne e] at q ⊢
    obtain ⟨v, e1, r⟩ := l.val j d (fun z => e (Option.some.inj z)) q
    exact ⟨v, e1, (rep_held d).mp r⟩
theorem Ends_gone {D : Ends} {r : R Fl} (hh : Γ.hot = none) (q : PostF Γ W D ρ H (gone h.sl r)) :
    PostF (Γ.held h) (fun _ _ _ _ => False) { nx := fun σ' H' => D.nx (σ'.set h.sl none) H', rt := D.rt, bk := fun σ' H' => D.bk (σ'.set h.sl none) H', ct := fun σ' H' => D.ct (σ'.set h.sl none) H' } ρ H r := by
  cases r with
  | ok fl S' =>
    cases fl with
    | next L' => exact fun ρ2 H2 σ2 p2 x2 rl => q ρ2 H2 _ p2 x2 ⟨rl.s.free, rl.l.free hh⟩
    | ret d => exact fun ρ2 H2 v p2 x2 s r => q ρ2 H2 v p2 x2 s.free ((rep_held d).mp r)
    | brk L' => exact fun ρ2 H2 σ2 p2 x2 rl => q ρ2 H2 _ p2 x2 ⟨rl.s.free, rl.l.free hh⟩
    | cont L' => exact fun ρ2 H2 σ2 p2 x2 rl => q ρ2 H2 _ p2 x2 ⟨rl.s.free, rl.l.free hh⟩
    | thr e L' => exact q.elim
  | exc _ _ => exact q.elim
  | bad => exact q.elim
end
theorem loose_ne {c : Nat} (inj : ∀ c', Γ.cl c = true → looseC c' = true → Γ.ca c' = Γ.ca c → looseC c = true) (ok : Γ.cl c = true) (h : looseC c = false) : ¬ looseV Γ (.ref (Γ.ca c)) := by
  rintro ⟨c', h1, h2⟩
  have := inj c' ok h1 (Value.ref.inj h2).symm
  rw [h] at this
  cases this
/-! ### isinstance(e, C), e the held exception -/
theorem call_held {a D : Addr} {oe : Obj} (hp : (a, oe) ∈ X.pn) (C : ExcC X.K D) (hz : oe.cls = .ref D ∧ oe.dict = none) (hf : ∃ fs, oe.data = .fields fs) : CallR X (.builtin "isinstance") (rIsE X.K D a) := by
  intro pins s σ H ws us Q I rs h
  obtain ⟨y, cv, k, rfl, hy, e, q⟩ := h
  cases rs with
  | cons r1 rs =>
    cases rs with
    | cons r2 rs =>
      cases rs
      cases r1
      obtain rfl := hy _ r2
      have there := (I.pin (a, oe) (List.mem_append_left _ hp)).1
      have inst : PySem.W.InstAt s.heap a oe D none := by
        obtain ⟨kc, kd, kf, ks⟩ := oe
        obtain ⟨fs, hf⟩ := hf
        obtain ⟨z1, z2⟩ := hz
        dsimp only at z1 z2 hf
        subst z1 z2 hf
        exact ⟨there, rfl, rfl, trivial⟩
      have kit := PySem.W.handS_kitx_exc (x := a) (ox := oe) C.hg C.hk C.hs C.hd C.ha C.hn C.ht C.hm
      exact PySem.W.kia_one kit I.kIn inst e (fun z => nomatch z) fun t => ⟨.bl k, H, I.kept (t' := t) fun _ _ z => z, rfl, q⟩
/-! ### a def called with the held exception -/
/-- what such a def promises, p the exception that is held -/
structure FnP (P : Program) (w : World) (K : PySem.W.Frag) (mg : PySem.Str → Option Value) (base : Heap) (k : Nat) (f : Addr) (fd : FuncData) (ps : List PySem.Str) (p : Addr × Obj) (sp : Sp) : Prop where
  go : ∀ {A : Around} {outer : List Env} {s : Shared} {H : Hp} {args : Args} {us : List Value} {vs : List V} {Q : VK}, L2H.RoomH k A → L2H.Hot1 A p → L2H.PinOk outer H s p → Env0 P w K mg base A outer s H → BindsTo s fd args (ps.zip us) → Vals vs us → vs.length = ps.length →
    sp vs H Q (fun _ _ _ => False) → codeAny (model P w) A (.call (.ref f) args) (CR (fun _ _ _ _ _ _ => False) outer P w H s Q fun _ _ _ => False) s
theorem fnP_of {P : Program} {w : World} {K : PySem.W.Frag} {mg : PySem.Str → Option Value} {base : Heap} {k : Nat} {f : Addr} {x qual : PySem.Str} {params : Arguments} {body : List Stmt} {scope : Scope} {dvs : List V} {kws : List (PySem.Str × V)} {fd : FuncData} {N ps : List PySem.Str} {p : Addr × Obj} {sp : Sp}
    (F : FunD K x qual params body scope dvs kws f fd) (S : FnScope N ps scope)
    (hb : ∀ (cdv : Value) (A : Around) (outer : List Env) (s : Shared) (H : Hp) (vs : List V) (Q : VK), L2H.Hot1 A p → L2H.RoomH k (A.deeper (envOfC qual scope s.heap.objs.size f cdv)) → vs.length = ps.length → sp vs H Q (fun _ _ _ => False) →
      ∃ t, PSs (L2H.cxH (fun _ _ _ _ _ _ => False) P w K mg base N qual scope f cdv A outer s H (fun _ _ _ => False) p) body t ∧ t { nx := fun _ H' => Q .non H', rt := Q } (L2.start N vs) H) :
    FnP P w K mg base (k + 1) f fd ps p sp := by
  obtain ⟨oc, od, dV, kV, doc, pm, an, cdv, ct, osl, rfl, lk, hcd, _, _⟩ := F.ex
  refine ⟨fun {A outer s H args us vs Q} room hot pin e0 bd rv hl hsp => ?_⟩
  have keep : ∀ b o, base.get? b = some o → s.heap.get? b = some o := fun b o z => (e0.bs b o z).1
  have kin : K.In s.heap := e0.mod.kin.keeps keep
  have kinds : ∀ z ∈ ps.zip us, scope.names.lookup z.1 = some .local ∨ (scope.names.lookup z.1 = some .cell ∧ ((cellsFrom (s.heap.objs.size + 1) scope.names []).lookup z.1).isSome = true) := by
    rintro ⟨y, u⟩ hz
    rcases S.par y (List.of_mem_zip hz).1 with q | q
    · exact Or.inl q
    · exact Or.inr ⟨q, PySem.W.cellsFrom_some _ _ _ (Or.inl q)⟩
  refine codeAny_call_function room.depth (kin _ _ lk) rfl S.co S.gen rfl (PySem.W.codeRec_of kin hcd) (bd _ _ _ _ ?_)
  refine wpAny_newFunctionEnv_cells S.kind kinds ?_
  rintro env rfl s1 inn
  refine ⟨(e0.mod.nolimit.keeps keep).keeps inn.toInCall.keep, codeAny_func ?_⟩
  obtain ⟨t, ht, hq⟩ := hb cdv A outer s H vs Q hot (room.deeper _) hl hsp
  have J := L2H.inv_startH (CX := fun _ _ _ _ _ _ => False) (E := fun _ _ _ => False) S pin e0 hl rv inn
  refine wpAny_mono (ht.run [] s1 (L2.start N vs) H _ J hq) ?_ fun _ _ z => z
  intro fl s' done
  cases fl with
  | ret u =>
    obtain ⟨v, σ', H', I', r', q'⟩ := done
    exact ⟨v, H', I'.os, I'.bare, I'.base, I'.hok, r', q'⟩
  | next =>
    obtain ⟨σ', H', I', q'⟩ := done
    exact ⟨.non, H', I'.os, I'.bare, I'.base, I'.hok, rfl, q'⟩
  | brk =>
    obtain ⟨_, _, _, z⟩ := done
    exact z.elim
  | cont =>
    obtain ⟨_, _, _, z⟩ := done
    exact z.elim
/-- such a call -/
theorem pe_held {k i : Nat} {f : Addr} {fd : FuncData} {ps : List PySem.Str} {p : Addr × Obj} {sp : Sp} {x n : PySem.Str} {q pn pos : Pos} (F : FnP X.prog X.w X.K X.mg X.base k f fd ps p sp) (hr : L2H.RoomH k X.A) (hot : L2H.Hot1 X.A p) (hp : p ∈ X.pn) (hg : Gl X x) (hm : X.mg x = some (.ref f)) (hk : PySem.W.keepIn X.K (.ref f) = true)
    (hb : Binds X.K fd ps []) (hl : ps.length = 1) (hN : X.N[i]? = some n) (hv : Vis X.env.scope n) (h1 : (n == ("__debug__" : PySem.Str)) = false) (h2 : (n == ("__classdict__" : PySem.Str)) = false) (hdb : (x == ("__debug__" : PySem.Str)) = false) :
    PE X (.Call (.Name x q) [.Name n pn] [] pos) (fun σ H Q => ∃ v, σ[i]? = some (some v) ∧ sp [v] H Q fun _ _ _ => False) := by
  refine ⟨fun pins s σ H Q I h => ?_⟩
  obtain ⟨v, hv', hsp⟩ := h
  have ha : PA X [.Name n pn] _ := pa_cons (pe_var hN hv h1 h2) pa_nil
  refine wpAny_Call_Name_kw (ld_glob I hg hm ?_ hdb)
  refine PySem.W.callWith_K (h₀ := X.base) I.ok.mod.kin hk (thn (ha.run pos pins s σ H (fun vs H1 => vs = [v] ∧ H1 = H) I ⟨v, hv', rfl, rfl⟩) fun us s1 hh => ?_)
  obtain ⟨vs, H1, I1, r, rfl, rfl⟩ := hh
  refine ⟨I1.kIn, ?_⟩
  have hlen : us.length = ps.length := by rw [← r.length, hl]; rfl
  have bd := hb s1 us I1.kIn (by rw [List.append_nil]; exact hlen)
  rw [List.append_nil] at bd
  obtain ⟨p1, p2, p3, p4, p5⟩ := I1.pin p (List.mem_append_left _ hp)
  have pin : L2H.PinOk X.stack H1 s1 p := ⟨p1, p2, fun hm => (List.mem_cons.mp (I1.stkSub p.1 hm)).elim p3 p4, p5⟩
  refine wpAny_call (codeAny_mono (F.go hr hot pin I1.env0 bd r (by rw [hl]; rfl) hsp) fun rr s' hq => ?_)
  cases rr with
  | error e => exact hq.elim
  | ok fl =>
    cases fl with
    | ret u => exact I1.after hq
    | next => exact hq.elim
    | brk => exact hq.elim
    | cont => exact hq.elim
end Bv
end
section
/-! B1y: list comprehensions; unpacking -/
namespace Bv
open PySem PySem.Spec L2 PyProof.Rows
variable {Γ : Gm} {X : Cx} {W : WX}
/-! ### names forgotten -/
theorem wipe_at (σ : L2.St) (j : Nat) : ∀ vs : List Nat, (wipe σ vs)[j]? = if j ∈ vs ∧ j < σ.length then some none else σ[j]?
  | [] => by simp [wipe]
  | v :: vs => by
    have ih := wipe_at σ j vs
    unfold wipe
    by_cases e : v = j
    · subst e
      by_cases hv : v < σ.length
      · rw [List.getElem?_set_self (by rw [wipe_length]; exact hv)]; simp [hv]
      · rw [List.getElem?_eq_none (by rw [List.length_set, wipe_length]; omega)]
        simp [hv]
    · rw [List.getElem?_set_ne e, ih]
      have : (j ∈ v :: vs) ↔ j ∈ vs := by simp [Ne.symm e]
      simp only [this]
theorem wipeL_at (L : Loc) (j : Nat) : ∀ vs : List Nat, (wipeL L vs)[j]? = if j ∈ vs ∧ j < L.length then some none else L[j]?
  | [] => by simp [wipeL]
  | v :: vs => by
    have ih := wipeL_at L j vs
    have len : ∀ vs : List Nat, (wipeL L vs).length = L.length := fun vs => by
      induction vs with
      | nil => rfl
      | cons v vs ih => simp [wipeL, ih]
    unfold wipeL
    by_cases e : v = j
    · subst e
      by_cases hv : v < L.length
      · rw [List.getElem?_set_self (by rw [len]; exact hv)]; simp [hv]
      · rw [List.getElem?_eq_none (by rw [List.length_set, len]; omega)]
        simp [hv]
    · rw [List.getElem?_set_ne e, ih]
      have : (j ∈ v :: vs) ↔ j ∈ vs := by simp [Ne.symm e]
      simp only [this]
theorem wipeL_length (L : Loc) : ∀ vs : List Nat, (wipeL L vs).length = L.length
  | [] => rfl
  | v :: vs => by simp [wipeL, wipeL_length L vs]
theorem LRel.wipe {ρ : List Addr} {H : Hp} {σ : L2.St} {L : Loc} (hh : Γ.hot = none) (l : LRel Γ ρ H σ L) (vs : List Nat) : LRel Γ ρ H (L2.wipe σ vs) (wipeL L vs) := by
  refine ⟨by rw [wipeL_length, wipe_length]; exact l.len, fun j d n q => ?_, fun y hy => by rw [hh] at hy; cases hy⟩
  rw [wipeL_at] at q
  split at q
  · cases q
  · rename_i hj
    obtain ⟨v, e, r⟩ := l.val j d n q
    refine ⟨v, ?_, r⟩
    rw [wipe_at, if_neg (by rw [← l.len]; exact hj)]
    exact e
theorem wipe_same {σ σ' : L2.St} {vs : List Nat} (hl : σ'.length = σ.length) (h : ∀ j, j ∉ vs → σ'[j]? = σ[j]?) : wipe σ' vs = wipe σ vs := by
  refine List.ext_getElem? fun j => ?_
  rw [wipe_at, wipe_at, hl]
  split
  · rfl
  · rename_i hj
    by_cases hm : j ∈ vs
    · have : ¬ j < σ.length := fun z => hj ⟨hm, z⟩
      rw [List.getElem?_eq_none (by omega), List.getElem?_eq_none (by omega)]
    · exact h j hm
/-- a target that stores into these names alone -/
def TgW (Γ : Gm) (g : TG) (t : Tg) (vs : List Nat) : Prop := ∀ v d ρ H σ L S L1 (Q : L2.St → Hp → Prop), Rel Γ ρ H σ L S → Rep Γ ρ H v d → tgSet t d L = some L1 → (∀ σ', Rel Γ ρ H σ' L1 S → wipe σ' vs = wipe σ vs → Q σ' H) → g v σ H Q
theorem wipe_set {σ : L2.St} {i : Nat} {o : Option V} {vs : List Nat} (h : i ∈ vs) : wipe (σ.set i o) vs = wipe σ vs :=
  wipe_same (by simp) fun j hj => by rw [List.getElem?_set_ne (fun z => hj (by rw [← z]; exact h))]
theorem tgw_name (hh : Γ.hot = none) {i : Nat} {vs : List Nat} (hi : i ∈ vs) : TgW Γ (gName i) (.name i) vs := by
  intro v d ρ H σ L S L1 Q rl r e q
  simp only [tgSet, Option.some.injEq] at e
  subst e
  exact q _ ⟨rl.s, rl.l.set (hs_none hh) r⟩ (wipe_set hi)
theorem gNames_w (hh : Γ.hot = none) {ρ : List Addr} {H : Hp} {us : List Nat} : ∀ {is : List Nat} {ds : List D} {vs : List V} {L L' : Loc} {σ : L2.St} {Q : L2.St → Hp → Prop}, (∀ i ∈ is, i ∈ us) → LRel Γ ρ H σ L → Reps Γ ρ H vs ds → setAll is ds L = some L' → (∀ σ', LRel Γ ρ H σ' L' → wipe σ' us = wipe σ us → Q σ' H) → gNames is vs σ H Q
  | [], [], vs, L, L', σ, Q, hu, hl, r, h, q => by
    simp only [setAll, Option.some.injEq] at h
    subst h
    rw [Reps.nil_iff] at r; subst r
    exact ⟨rfl, q σ hl rfl⟩
  | i :: is, d :: ds, vs, L, L', σ, Q, hu, hl, r, h, q => by
    rw [Reps.cons_iff] at r
    obtain ⟨v, ws, rfl, r1, r2⟩ := r
    refine ⟨v, ws, rfl, gNames_w hh (fun j hj => hu j (List.mem_cons_of_mem _ hj)) (hl.set (i := i) (hs_none hh) r1) r2 h fun σ' l' w' => q σ' l' (w'.trans (wipe_set (hu i List.mem_cons_self)))⟩
  | [], _ :: _, _, _, _, _, _, _, _, _, h, _ => by simp [setAll] at h
  | _ :: _, [], _, _, _, _, _, _, _, _, h, _ => by simp [setAll] at h
theorem tgw_names (hh : Γ.hot = none) {is us : List Nat} (hu : ∀ i ∈ is, i ∈ us) : TgW Γ (gTup Γ.K is.length (gNames is)) (.names is) us := by
  intro v d ρ H σ L S L1 Q rl r e q
  cases d <;> try (simp [tgSet] at e)
  rename_i ds
  simp only [Rep] at r
  obtain ⟨p, xs, rfl, hq, r⟩ := r
  exact ⟨p, xs, rfl, hq, r.length.trans (setAll_len e), gNames_w hh hu rl.l r e fun σ' h w => q σ' ⟨rl.s, h⟩ w⟩
/-! ### a turn -/
section
variable {ρ : List Addr} {H : Hp} {σ : L2.St} {L : Loc} {S : Sto} {g : TG} {t : Tg} {own : List Nat} {ft : F Bool} {fe : F D} {i : Nat} {p : Addr} {Q : VK}
theorem M.assoc {α β γ : Type} {m : M α} {f : α → M β} {k : β → M γ} (S : Sto) : M.bind (M.bind m f) k S = M.bind m (fun a => M.bind (f a) k) S := by
  unfold M.bind
  cases m S <;> rfl
/-- nothing is raised within -/
abbrev W0 : WX := fun _ _ _ _ => False
theorem calm_post {α β γ δ : Type} {rep : List Addr → Hp → β → α → Prop} {rep' : List Addr → Hp → δ → γ → Prop} {m : M α} {k : α → M γ} {Q : δ → Hp → Prop} {Q' : β → Hp → Prop} {σ2 : L2.St} {L2' : Loc} (l : LRel Γ ρ H σ L) (h : Post Γ W rep' ρ H σ L (M.bind (M.calm m) k S) Q)
    (hk : ∀ a S' ρ' H' v, ρ <+: ρ' → Ext H H' → Rel Γ ρ' H' σ L S' → Rel Γ ρ' H' σ2 L2' S' → rep ρ' H' v a → Post Γ W rep' ρ' H' σ L (k a S') Q → Q' v H') : Post Γ W0 rep ρ H σ2 L2' (m S) Q' := by
  unfold M.bind M.calm at h
  cases e : m S with
  | ok a S' =>
    rw [e] at h
    exact fun ρ' H' v p x rl r => hk a S' ρ' H' v p x ⟨rl.s, l.mono p x⟩ rl r (Post.mono p x h)
  | exc _ _ => rw [e] at h; exact h.elim
  | bad => rw [e] at h; exact h.elim
theorem comp_turn {k : Unit → M D} {x : V} {d : D} {Nx : Hp → Prop} (hh : Γ.hot = none) (tk : TgW Γ g t own) (rl : Rel Γ ρ H σ L S) (hp : ρ[i]? = some p) (r : Rep Γ ρ H x d) (h : Post Γ W (Rep Γ) ρ H σ L (M.bind (cStep i (tgSet t) ft fe (wipeL L own) d) k S) Q)
    (hN : ∀ ρ' H' S', ρ <+: ρ' → Ext H H' → Rel Γ ρ' H' σ L S' → Post Γ W (Rep Γ) ρ' H' σ L (k () S') Q → Nx H') :
    g x (wipe σ own) H fun σ2 H2 => wipe σ2 own = wipe σ own ∧ tBl Γ W0 ft σ2 H2 fun b H3 => if b = true then tD Γ W0 fe σ2 H3 fun y H4 => ∃ acc, H4 p = some (.lst acc) ∧ acc.length < sizeLine ∧ Nx (upd H4 p (.lst (acc ++ [y]))) else Nx H3 := by
  unfold cStep at h
  cases e : tgSet t d (wipeL L own) with
  | none => rw [e] at h; exact h.elim
  | some L1 =>
    rw [e] at h
    refine tk x d ρ H (wipe σ own) (wipeL L own) S L1 _ ⟨rl.s, rl.l.wipe hh own⟩ r e fun σ' rl' hw => ?_
    have hw2 : wipe σ' own = wipe σ own := by
      rw [hw]
      exact wipe_same (wipe_length _ _) fun j hj => by rw [wipe_at, if_neg (fun z => hj z.1)]
    refine ⟨hw2, ρ, L1, S, rl', ?_⟩
    have h : Post Γ W (Rep Γ) ρ H σ L (M.bind (M.calm (ft L1)) (fun b S1 => M.bind (if b = true then M.bind (M.calm (fe L1)) fun y S => (match S[i]? with
      | some (.lst xs) => if xs.length < 16000000 then R.ok () (S.set i (.lst (xs ++ [y]))) else .bad
      | _ => .bad) else M.pure ()) k S1) S) Q := by
      rw [← M.assoc]
      exact h
    refine calm_post rl.l h fun b S1 ρ1 H1 v p1 x1 rl1 rl1' rv h1 => ?_
    subst rv
    cases v with
    | false =>
      refine iteF (hN ρ1 H1 S1 p1 x1 rl1 ?_)
      exact h1
    | true =>
      refine iteT ⟨ρ1, L1, S1, rl1', ?_⟩
      have h1 : Post Γ W (Rep Γ) ρ1 H1 σ L (M.bind (M.calm (fe L1)) (fun y S2 => M.bind (fun S => (match S[i]? with
        | some (.lst xs) => if xs.length < 16000000 then R.ok () (S.set i (.lst (xs ++ [y]))) else .bad
        | _ => .bad)) k S2) S1) Q := by
        rw [← M.assoc]
        exact h1
      refine calm_post rl1.l h1 fun y S2 ρ2 H2 w p2 x2 rl2 rl2' rw_ h2 => ?_
      unfold M.bind at h2
      cases e5 : S2[i]? with
      | none => simp [e5, Post] at h2
      | some o =>
        cases o with
        | lst ds =>
          simp only [e5] at h2
          have hp2 := get_pre p2 (get_pre p1 hp)
          obtain ⟨p', ea, ys, q3, r3⟩ := rl2.s.at e5
          rw [hp2] at ea; cases ea
          by_cases hl : ds.length < 16000000
          · simp only [if_pos hl] at h2
            have ex : Ext H2 (upd H2 p (.lst (ys ++ [w]))) := Ext.put (fun xs z => by rw [q3] at z; cases z) (fun o u z => by rw [q3] at z; cases z) (fun fs z => by rw [q3] at z; cases z)
            refine ⟨ys, q3, by rw [r3.length]; exact Nat.lt_of_lt_of_le hl (by decide), hN ρ2 _ (S2.set i (.lst (ds ++ [y]))) (p1.trans p2) (x1.trans (x2.trans ex)) ⟨rl2.s.put hp2 e5 rfl ex ⟨_, upd_same, ?_⟩ rfl, rl2.l.mono (List.prefix_refl _) ex⟩ (Post.mono (List.prefix_refl _) ex h2)⟩
            exact Reps.append (Reps.mono (List.prefix_refl _) ex _ r3) (by simp only [Reps]; exact ⟨Rep.mono (List.prefix_refl _) ex _ rw_, trivial⟩)
          · simp only [if_neg hl] at h2; exact h2.elim
        | ro _ => simp [e5, Post] at h2
        | dct _ => simp [e5, Post] at h2
        | ins _ _ => simp [e5, Post] at h2
/-- the loop of a comprehension -/
abbrev CompW (J : It) (g : TG) (tt : TT) (te : TE) (vs : List Nat) (σ : L2.St) (Q : VK) (D : Addr) (H0 : Hp) : Prop := ∃ W : Nat → Nat → Hp → Prop, (∃ m, W 0 m H0) ∧ ∀ i m H, W i m H →
  (J.stop i H ∧ Q (.ref D) H) ∨ (J.go i H ∧ ∃ Nx : Hp → Prop, (∀ H', Nx H' → ∃ m', m' < m ∧ W (i + 1) m' H') ∧ ∀ x H', J.yld i H x H' → g x (wipe σ vs) H' fun σ2 H2 => wipe σ2 vs = wipe σ vs ∧ tt σ2 H2 fun b H3 =>
    if b = true then te σ2 H3 fun y H4 => ∃ acc, H4 D = some (.lst acc) ∧ acc.length < sizeLine ∧ Nx (upd H4 D (.lst (acc ++ [y]))) else Nx H3)
theorem fin_ref (rl : Rel Γ ρ H σ L S) (hp : ρ[i]? = some p) (h : Post Γ W (Rep Γ) ρ H σ L (M.pure (D.ref i) S) Q) : Q (.ref p) H :=
  h ρ H (.ref p) (List.prefix_refl _) (Ext.refl _) rl (by simp only [Rep]; exact ⟨p, rfl, hp⟩)
theorem comp_itemsX {J : It} {items : List D} (hh : Γ.hot = none) (tk : TgW Γ g t own) (stop : ∀ k ρ' H', ρ <+: ρ' → Ext H H' → items.length ≤ k → J.stop k H') (go : ∀ k ρ' H', ρ <+: ρ' → Ext H H' → k < items.length → J.go k H') (yld : ∀ k d ρ' H' x H2, ρ <+: ρ' → Ext H H' → items[k]? = some d → J.yld k H' x H2 → Ext H' H2 ∧ (∀ a, H' a ≠ none → H2 a = H' a) ∧ Rep Γ ρ' H2 x d)
    (rl : Rel Γ ρ H σ L S) (hp : ρ[i]? = some p) (h : Post Γ W (Rep Γ) ρ H σ L (M.bind (cLoop (cStep i (tgSet t) ft fe (wipeL L own)) items) (fun _ => M.pure (.ref i)) S) Q) : CompW J g (tBl Γ W0 ft) (tD Γ W0 fe) own σ Q p H := by
  let Pv : Nat → Hp → Prop := fun k H1 => ∃ ρ1 S1, ρ <+: ρ1 ∧ Ext H H1 ∧ Rel Γ ρ1 H1 σ L S1 ∧ Post Γ W (Rep Γ) ρ1 H1 σ L (M.bind (cLoop (cStep i (tgSet t) ft fe (wipeL L own)) (items.drop k)) (fun _ => M.pure (.ref i)) S1) Q
  refine ⟨fun k m H1 => m = items.length - k ∧ k ≤ items.length ∧ Pv k H1, ⟨items.length, by simp, Nat.zero_le _, ρ, S, List.prefix_refl _, Ext.refl _, rl, h⟩, ?_⟩
  rintro k m H1 ⟨rfl, hk, ρ1, S1, p1, x1, rl1, h1⟩
  by_cases hlt : k < items.length
  · have e : items.drop k = items[k] :: items.drop (k + 1) := List.drop_eq_getElem_cons hlt
    rw [e] at h1
    refine .inr ⟨go k ρ1 H1 p1 x1 hlt, Pv (k + 1), fun H' q => ⟨items.length - (k + 1), by omega, rfl, hlt, q⟩, fun x H' y => ?_⟩
    obtain ⟨ex, kp, r⟩ := yld k items[k] ρ1 H1 x H' p1 x1 (List.getElem?_eq_getElem hlt) y
    have rl1 : Rel Γ ρ1 H' σ L S1 := ⟨rl1.s.keep ex kp, rl1.l.mono (List.prefix_refl _) ex⟩
    have h1 := Post.mono (List.prefix_refl _) ex h1
    have x1 := x1.trans ex
    have h1 : Post Γ W (Rep Γ) ρ1 H' σ L (M.bind (cStep i (tgSet t) ft fe (wipeL L own) items[k]) (fun _ => M.bind (cLoop (cStep i (tgSet t) ft fe (wipeL L own)) (items.drop (k + 1))) (fun _ => M.pure (.ref i))) S1) Q := by
      rw [← M.assoc]
      exact h1
    exact comp_turn hh tk rl1 (get_pre p1 hp) r h1 fun ρ2 H2 S2 p2 x2 rl2 h2 => ⟨ρ2, S2, p1.trans p2, x1.trans x2, rl2, h2⟩
  · have e : items.drop k = [] := List.drop_eq_nil_of_le (by omega)
    rw [e] at h1
    exact .inl ⟨stop k ρ1 H1 p1 x1 (by omega), fin_ref rl1 (get_pre p1 hp) h1⟩
theorem comp_items {J : It} {items : List D} (hh : Γ.hot = none) (tk : TgW Γ g t own) (stop : ∀ k ρ' H', ρ <+: ρ' → Ext H H' → items.length ≤ k → J.stop k H') (go : ∀ k ρ' H', ρ <+: ρ' → Ext H H' → k < items.length → J.go k H') (yld : ∀ k d ρ' H' x H2, ρ <+: ρ' → Ext H H' → items[k]? = some d → J.yld k H' x H2 → H2 = H' ∧ Rep Γ ρ' H' x d)
    (rl : Rel Γ ρ H σ L S) (hp : ρ[i]? = some p) (h : Post Γ W (Rep Γ) ρ H σ L (M.bind (cLoop (cStep i (tgSet t) ft fe (wipeL L own)) items) (fun _ => M.pure (.ref i)) S) Q) : CompW J g (tBl Γ W0 ft) (tD Γ W0 fe) own σ Q p H :=
  comp_itemsX hh tk stop go (fun k d ρ' H' x H2 p1 x1 hd y => by
    obtain ⟨rfl, r⟩ := yld k d ρ' H' x H2 p1 x1 hd y
    exact ⟨Ext.refl _, fun _ _ => rfl, r⟩) rl hp h
theorem comp_list {j n : Nat} {q : Addr} (hh : Γ.hot = none) (tk : TgW Γ g t own) (hq : ρ[j]? = some q) (rl : Rel Γ ρ H σ L S) (hp : ρ[i]? = some p) (h : Post Γ W (Rep Γ) ρ H σ L (M.bind (cLoopL (cStep i (tgSet t) ft fe (wipeL L own)) j n 0) (fun _ => M.pure (.ref i)) S) Q) : CompW (Itl Γ.K q) g (tBl Γ W0 ft) (tD Γ W0 fe) own σ Q p H := by
  refine ⟨fun k m H1 => ∃ ρ1 S1, ρ <+: ρ1 ∧ Rel Γ ρ1 H1 σ L S1 ∧ Post Γ W (Rep Γ) ρ1 H1 σ L (M.bind (cLoopL (cStep i (tgSet t) ft fe (wipeL L own)) j m k) (fun _ => M.pure (.ref i)) S1) Q, ⟨n, ρ, S, List.prefix_refl _, rl, h⟩, ?_⟩
  rintro k m H1 ⟨ρ1, S1, p1, rl1, h1⟩
  cases m with
  | zero => exact h1.elim
  | succ m =>
    unfold M.bind at h1
    simp only [cLoopL] at h1
    cases e1 : seqOf S1 (.ref j) with
    | none => simp only [e1] at h1; exact h1.elim
    | some ds =>
      simp only [e1] at h1
      obtain ⟨p', xs, ep, hs, rr⟩ := rl1.s.seq e1
      rw [get_pre p1 hq] at ep; cases ep
      cases e2 : ds[k]? with
      | none =>
        simp only [e2] at h1
        refine .inl ⟨⟨xs, hs, ?_⟩, fin_ref rl1 (get_pre p1 hp) h1⟩
        rw [rr.length]
        exact List.getElem?_eq_none_iff.mp e2
      | some d =>
        simp only [e2] at h1
        obtain ⟨v, ev, rv⟩ := rr.get e2
        refine .inr ⟨⟨xs, v, hs, ev⟩, fun H2 => ∃ ρ2 S2, ρ <+: ρ2 ∧ Rel Γ ρ2 H2 σ L S2 ∧ Post Γ W (Rep Γ) ρ2 H2 σ L (M.bind (cLoopL (cStep i (tgSet t) ft fe (wipeL L own)) j m (k + 1)) (fun _ => M.pure (.ref i)) S2) Q, fun H' z => ⟨m, Nat.lt_succ_self m, z⟩, fun x H' y => ?_⟩
        obtain ⟨rfl, y⟩ := y
        have ex : x = v := Option.some.inj ((y xs hs).symm.trans ev)
        subst ex
        have h1 : Post Γ W (Rep Γ) ρ1 H' σ L (M.bind (cStep i (tgSet t) ft fe (wipeL L own) d) (fun _ => M.bind (cLoopL (cStep i (tgSet t) ft fe (wipeL L own)) j m (k + 1)) (fun _ => M.pure (.ref i))) S1) Q := by
          rw [← M.assoc]
          exact h1
        exact comp_turn hh tk rl1 (get_pre p1 hp) rv h1 fun ρ2 H2 S2 p2 x2 rl2 h2 => ⟨ρ2, S2, p1.trans p2, rl2, h2⟩
end
section
variable {ρ : List Addr} {H : Hp} {σ : L2.St} {L : Loc} {S : Sto} {g : TG} {t : Tg} {own : List Nat} {ft : F Bool} {fe fs : F D} {Q : VK}
/-- the new list, then the loop -/
theorem comp_new {p : Addr} (rl : Rel Γ ρ H σ L S) (hp : H p = none) : Rel Γ (ρ ++ [p]) (upd H p (.lst [])) σ L (S ++ [.lst []]) ∧ (ρ ++ [p])[S.length]? = some p ∧ ρ <+: ρ ++ [p] ∧ Ext H (upd H p (.lst [])) := by
  have pre : ρ <+: ρ ++ [p] := List.prefix_append _ _
  have ex : Ext H (upd H p (.lst [])) := Ext.new hp
  refine ⟨⟨rl.s.new hp ⟨[], upd_same, by simp only [Reps]⟩, rl.l.mono pre ex⟩, ?_, pre, ex⟩
  rw [← rl.s.len, List.getElem?_append_right (Nat.le_refl _), Nat.sub_self]
  rfl
theorem w_compR (hh : Γ.hot = none) (tk : TgW Γ g t own) (h : tD Γ W (fComp true (tgSet t) own fs ft fe) σ H Q) : tLc (iRng1 (tCons (tD Γ W fs) tNil)) g (tBl Γ W0 ft) (tD Γ W0 fe) own σ H Q := by
  obtain ⟨ρ, L, S, rl, h⟩ := h
  refine ⟨ρ, L, S, rl, Post.bind h fun d S1 ρ1 H1 v p1 x1 rl1 r1 h1 => ?_⟩
  cases d with
  | int j =>
    rw [rep_int] at r1; subst r1
    have h1 : Post Γ W (Rep Γ) ρ1 H1 σ L (M.bind (cOver (cStep S1.length (tgSet t) ft fe (wipeL L own)) true (.int j)) (fun _ => M.pure (.ref S1.length)) (S1 ++ [.lst []])) Q := h1
    unfold cOver at h1
    by_cases hn : near j = true
    · simp only [if_pos hn] at h1
      unfold near at hn
      obtain ⟨n1, n2⟩ := of_decide_eq_true hn
      refine ⟨j, rfl, n1, n2, fun D hD => ?_⟩
      obtain ⟨rl2, hp2, pre, ex⟩ := comp_new rl1 hD
      have hl : (rangeD 0 j.toNat).length = j.toNat := by simp [rangeD]
      refine comp_items hh tk (fun k ρ' H' _ _ hi => by rw [hl] at hi; exact hi) (fun k ρ' H' _ _ hi => by rw [hl] at hi; exact hi) (fun k d ρ' H' x H2 _ _ hd y => ?_) rl2 hp2 (Post.mono pre ex h1)
      obtain ⟨rfl, rfl⟩ := y
      refine ⟨rfl, ?_⟩
      unfold rangeD at hd
      rw [List.getElem?_map] at hd
      cases e : (List.range j.toNat)[k]? with
      | none => rw [e] at hd; cases hd
      | some k' =>
        rw [e] at hd
        have ek : k' = k := by
          obtain ⟨q1, q2⟩ := List.getElem?_eq_some_iff.mp e
          simpa using q2.symm
        subst ek
        have : Bv.D.int (0 + k') = d := by simpa using hd
        subst this
        exact rep_int.mpr rfl
    · simp only [if_neg hn] at h1
      exact h1.elim
  | _ => exact h1.elim
theorem w_compS (hh : Γ.hot = none) (tk : TgW Γ g t own) (h : tD Γ W (fComp false (tgSet t) own fs ft fe) σ H Q) : tLc (iAny Γ.K (tD Γ W fs)) g (tBl Γ W0 ft) (tD Γ W0 fe) own σ H Q := by
  obtain ⟨ρ, L, S, rl, h⟩ := h
  have h0 := h
  unfold fComp M.bind at h0
  cases e : fs L S with
  | exc x S1 =>
    refine .inl (.inl ⟨ρ, L, S, rl, ?_⟩)
    rw [e] at h0 ⊢
    exact h0
  | bad =>
    rw [e] at h0
    exact h0.elim
  | ok d S1 =>
    rw [e] at h0
    have h1 : Post Γ W (Rep Γ) ρ H σ L (M.bind (cOver (cStep S1.length (tgSet t) ft fe (wipeL L own)) false d) (fun _ => M.pure (.ref S1.length)) (S1 ++ [.lst []])) Q := h0
    cases d with
    | tup ds =>
      refine .inl (.inr ⟨ρ, L, S, rl, ?_⟩)
      rw [e]
      intro ρ' H' v p x rl' r
      simp only [Rep] at r
      obtain ⟨q, xs, rfl, hq, rr⟩ := r
      refine ⟨q, rfl, ⟨xs, hq⟩, fun D hD => ?_⟩
      obtain ⟨rl2, hp2, pre, ex⟩ := comp_new rl' hD
      have hs : ∀ {H2 : Hp}, Ext (upd H' D (.lst [])) H2 → SqT Γ.K H2 q xs := fun x2 => (ex.trans x2).sqT hq
      refine comp_items (items := ds) hh tk (fun i ρ2 H2 p2 x2 hi => ?_) (fun i ρ2 H2 p2 x2 hi => ?_) (fun i d ρ2 H2 z H3 p2 x2 hd y => ?_) rl2 hp2 (Post.mono (p.trans pre) (x.trans ex) h1)
      · exact ⟨xs, hs x2, by rw [rr.length]; exact hi⟩
      · obtain ⟨v, ev, _⟩ := rr.get (List.getElem?_eq_getElem hi)
        exact ⟨xs, v, hs x2, ev⟩
      · obtain ⟨rfl, y⟩ := y
        obtain ⟨v, ev, rv⟩ := rr.get hd
        have : z = v := Option.some.inj ((y xs (hs x2)).symm.trans ev)
        subst this
        exact ⟨rfl, Rep.mono (pre.trans p2) (ex.trans x2) d rv⟩
    | str s =>
      refine .inr ⟨ρ, L, S, rl, ?_⟩
      rw [e]
      intro ρ' H' v p x rl' r
      rw [rep_str] at r
      obtain ⟨rfl, hc⟩ := r
      refine ⟨_, rfl, fun D hD => ?_⟩
      obtain ⟨rl2, hp2, pre, ex⟩ := comp_new rl' hD
      by_cases hl : s.length ≤ 16000000
      · simp only [cOver, if_pos hl] at h1
        refine comp_items (items := s.map fun c => Bv.D.str [c]) hh tk (fun i ρ2 H2 p2 x2 hi => ?_) (fun i ρ2 H2 p2 x2 hi => ?_) (fun i d ρ2 H2 z H3 p2 x2 hd y => ?_) rl2 hp2 (Post.mono (p.trans pre) (x.trans ex) h1)
        · show s.toArray.size ≤ i
          simpa using hi
        · show i < s.toArray.size
          simpa using hi
        · obtain ⟨rfl, c, y, rfl⟩ := y
          refine ⟨rfl, ?_⟩
          rw [List.getElem?_map] at hd
          have y : s[i]? = some c := by simpa using y
          rw [y] at hd
          have : Bv.D.str [c] = d := by simpa using hd
          subst this
          exact rep_str.mpr ⟨rfl, fun c' h' => by rw [List.mem_singleton.mp h']; exact hc c (List.mem_of_getElem? y)⟩
      · simp only [cOver, if_neg hl] at h1
        exact h1.elim
    | ref j =>
      refine .inl (.inl ⟨ρ, L, S, rl, ?_⟩)
      rw [e]
      intro ρ' H' v p x rl' r
      simp only [Rep] at r
      obtain ⟨q, rfl, ea⟩ := r
      have h1 : Post Γ W (Rep Γ) ρ H σ L (M.bind (fun S => (match seqOf S (.ref j) with
        | none => R.bad
        | some xs => cLoopL (cStep S1.length (tgSet t) ft fe (wipeL L own)) j (xs.length + 1) 0 S)) (fun _ => M.pure (.ref S1.length)) (S1 ++ [.lst []])) Q := h1
      unfold M.bind at h1
      cases e1 : seqOf (S1 ++ [.lst []]) (.ref j) with
      | none => simp only [e1] at h1; exact h1.elim
      | some ds =>
        simp only [e1] at h1
        have hj : j < S1.length := by
          rw [← rl'.s.len]
          exact (List.getElem?_eq_some_iff.mp ea).1
        have e2 : seqOf S1 (.ref j) = some ds := by
          simp only [seqOf] at e1 ⊢
          rw [List.getElem?_append_left hj] at e1
          exact e1
        obtain ⟨p', xs, ep, hs, rr⟩ := rl'.s.seq e2
        rw [ea] at ep; cases ep
        refine ⟨q, rfl, ⟨xs, hs⟩, fun D hD => ?_⟩
        obtain ⟨rl2, hp2, pre, ex⟩ := comp_new rl' hD
        exact comp_list hh tk (get_pre pre ea) rl2 hp2 (Post.mono (p.trans pre) (x.trans ex) h1)
    | _ => exact h1.elim
end
end Bv
end
section
/-! B1z: own errors with one field, over ValueError or Exception; made and raised; their field read -/
namespace PySem
namespace OneX
open PySem.W PySem.Calls PyProof.Rows PySem.HandSPX Builtin Builtin.ObjectAttr
/-- own classes, then a tail -/
def refsT (t : List Value) : List Value → Bool
  | .ref c :: r => refsT t r
  | l => l == t
theorem refsT_cases {t : List Value} : ∀ l : List Value, refsT t l = true → (∃ c r, l = .ref c :: r ∧ refsT t r = true) ∨ l = t
  | [], e => .inr (beq_iff_eq.mp e)
  | .ref c :: r, e => .inl ⟨c, r, rfl, e⟩
  | .none :: _, e => .inr (beq_iff_eq.mp e)
  | .ellipsis :: _, e => .inr (beq_iff_eq.mp e)
  | .notImplemented :: _, e => .inr (beq_iff_eq.mp e)
  | .bool _ :: _, e => .inr (beq_iff_eq.mp e)
  | .int _ _ :: _, e => .inr (beq_iff_eq.mp e)
  | .float _ _ :: _, e => .inr (beq_iff_eq.mp e)
  | .str _ _ :: _, e => .inr (beq_iff_eq.mp e)
  | .bytes _ _ :: _, e => .inr (beq_iff_eq.mp e)
  | .type _ :: _, e => .inr (beq_iff_eq.mp e)
  | .builtin _ :: _, e => .inr (beq_iff_eq.mp e)
/-- what is known of the tail -/
structure TailOk (t : List Value) : Prop where
  pass : ∀ self, refuseLoop self "__setattr__" t = pure ()
  obj : t.contains (.type "object") = true
  ne : t ≠ []
theorem tail_ve : TailOk [.type "ValueError", .type "Exception", .type "BaseException", .type "object"] := ⟨fun self => F.store_ValueError.passes self, by decide +kernel, by simp⟩
theorem tail_ex : TailOk [.type "Exception", .type "BaseException", .type "object"] := ⟨fun self => F.store_Exception.passes self, by decide +kernel, by simp⟩
theorem refsT_pass {t : List Value} (T : TailOk t) (self : Value) : ∀ l : List Value, refsT t l = true → refuseLoop self "__setattr__" l = pure () := by
  intro l
  induction l with
  | nil =>
    intro e
    have : [] = t := beq_iff_eq.mp e
    exact absurd this.symm T.ne
  | cons a r ih =>
    intro e
    rcases refsT_cases (a :: r) e with ⟨c, r', q, h⟩ | q
    · obtain ⟨rfl, rfl⟩ := List.cons.inj q
      rw [refuseLoop_ref]; exact ih h
    · rw [q]; exact T.pass self
theorem refsT_obj {t : List Value} (T : TailOk t) : ∀ l : List Value, refsT t l = true → l.contains (.type "object") = true := by
  intro l
  induction l with
  | nil =>
    intro e
    have : [] = t := beq_iff_eq.mp e
    exact absurd this.symm T.ne
  | cons a r ih =>
    intro e
    rcases refsT_cases (a :: r) e with ⟨c, r', q, h⟩ | q
    · obtain ⟨rfl, rfl⟩ := List.cons.inj q
      rw [List.contains_cons, ih h, Bool.or_true]
    · rw [q]; exact T.obj
theorem refsT_ne {t l : List Value} (T : TailOk t) (e : refsT t l = true) : l.isEmpty = false := by
  cases l with
  | nil =>
    have : [] = t := beq_iff_eq.mp e
    exact absurd this.symm T.ne
  | cons _ _ => rfl
section
variable {prog : Program} {w : World} {A : Around} {E : Value → Shared → Prop} {R : Result → Shared → Prop} {hp : Heap} {g : Array GenState} {d : Drawn} {t : Nat} {os : OsState}
/-- the first field of a new exception -/
theorem osa1 {K : W.Frag} {name : Str} {tk : Tok} {v : Value} {x C : Addr} {fv : Array Value} {cd : ClassData} {tl : List Value} (T : TailOk tl)
    (X : K.In hp) (hx : hp.get? x = some { cls := .ref C, data := .fields fv }) (hcd : W.clsIn K C = some cd) (hm : refsT tl cd.mro = true) (hh : cd.hasDict = true) (ha : W.findIn K (.ref C) name = some none)
    (hq : ∀ h' tk' dx, (∀ b o, b ≠ x → hp.get? b = some o → h'.get? b = some o) → hp.objs.size ≤ dx → dx ≠ x → h'.get? x = some { cls := .ref C, dict := some dx, data := .fields fv } →
      h'.Ns1 dx (fun y => if y = name then some v else none) → R (.ok (.ret .none)) ⟨h', g, d, tk', os⟩) :
    codeAny (model prog w) A (.call (.builtin "object.__setattr__") ⟨[.ref x, .str name tk, v], []⟩) R ⟨hp, g, d, t, os⟩ := by
  have I : W.InstAt hp x { cls := .ref C, data := .fields fv } C none := ⟨hx, rfl, rfl, trivial⟩
  have SF := F.store_object
  have ne := refsT_ne T hm
  have hob : cd.mro.contains (.type "object") = true := refsT_obj T _ hm
  have hxs : x ≠ hp.objs.size := Nat.ne_of_lt (Heap.lt_size hx)
  have sub : W.Looks (model prog w) hp (isInstance (.ref x) (.type "object")) true := I.type.andThen (W.looks_mroIn X (by unfold W.mroIn; rw [hcd, Option.bind_some, if_neg (by rw [ne]; decide), hob]))
  refine codeAny_call_builtin SF.slot.plain SF.entry (@W.check_slot (model prog w) _ _ ⟨hp, g, d, t, os⟩ "object.__setattr__" "object" "__setattr__" (.ref x) [.str name tk, v] [] _ SF.kind SF.split sub (SF.args (.ref x) (.str name tk) v) ?_)
  have hmr : W.Looks (model prog w) hp (mroOf (.ref C)) cd.mro := (W.looks_clsIn X hcd).andThen .now
  have L3 : W.Looks (model prog w) hp (storeTaker? none) none := .now
  have hcls : W.Looks (model prog w) hp (classData C) cd := W.looks_clsIn X hcd
  rw [W.osa_eq, refuse_eq]
  refine wpAny_bind (wpAny_bind (I.type.at (wpAny_bind (hmr.at ?_))))
  rw [refsT_pass T _ _ hm]
  refine wpAny_pure (wpAny_bind (I.type.at (wpAny_bind ((W.looks_findIn X ha).at (wpAny_bind (L3.at ?_))))))
  show wpAny _ _ (storeInOwnDict (.ref x) (.ref C) (.str name tk) name v false) _ _ _
  obtain ⟨nm, bs, mro, ns, qn, hd, sn, sb, ab, col, del⟩ := cd
  dsimp only at hh
  subst hh
  unfold storeInOwnDict ownDictForStores
  repeat (first | with_reducible refine store_in_new ?_ ?_ | with_reducible refine wpAny_loadPart_at hx ?_ | with_reducible refine hcls.at ?_ | wp_step)
  · exact ⟨_, #[], _, (Heap.get?_update_ne _ _ _ _ hxs.symm).trans (Heap.get?_push_at rfl rfl), rfl, fun e he => absurd he (by simp), fun _ => rfl⟩
  · intro h' tk' hn' hs
    have hx₁ : (hp.push { cls := .type "dict", data := .dict #[] }).get? x = some { cls := .ref C, data := .fields fv } := Heap.get?_push_of_some _ hx
    refine hq h' tk' hp.objs.size (fun b o hb ho => ?_) (Nat.le_refl _) hxs.symm ?_ hn'
    · exact (hs.2 b (Nat.ne_of_lt (Heap.lt_size ho))).trans ((Heap.get?_update_ne _ _ _ _ hb).trans (Heap.get?_push_of_some _ ho))
    · exact (hs.2 x hxs).trans (Heap.get?_update_self _ hx₁ rfl)
end
/-! ### the text of __init__ -/
def iA (f : Str) (p1 p2 : Pos) : Arguments := { posonlyargs := [], args := [{ arg := "self", annotation := none, pos := p1 }, { arg := f, annotation := none, pos := p2 }], vararg := none, kwonlyargs := [], kw_defaults := [], kwarg := none, defaults := [] }
def iB (f : Str) (q1 q2 q3 q4 : Pos) : List Stmt := [.Assign [.Attribute (.Name "self" q1) f q2] (.Name f q3) q4]
def iS (f : Str) : Scope := { kind := .function, names := [(PySem.Str.ofString "self", .local), (f, .local)], isGenerator := false, isCoroutine := false, more := [] }
/-- what the written part says of such a class, at C, its field f, and its __init__, at fI -/
structure Txt (K : Frag) (C fI : Addr) (f q : Str) (B newId initId : String) (bmB : List Value) : Prop where
  base : ExcBaseFacts B newId initId bmB
  tail : TailOk bmB
  ei : excInitIn K C bmB newId = true
  cd : ∃ cd, clsIn K C = some cd ∧ refsT bmB cd.mro = true ∧ cd.hasDict = true
  sa : findIn K (.ref C) "__setattr__" = some (some (.builtin "object.__setattr__"))
  noN : findIn K (.ref C) f = some none
  iC : findIn K (.ref C) "__init__" = some (some (.ref fI))
  tC : typeIn K (.ref fI) = some (.type "function")
  kC : keepIn K (.ref C) = true
  exC : subIn K (.ref C) (.type "BaseException") = some true
  tyC : typeIn K (.ref C) = some (.type "type")
  fn : ∃ (oc : Value) (od : Option Addr) (doc pm : Value) (an : Option Addr) (cdv ct : Value) (osl : Array (Option Value)) (p1 p2 q1 q2 q3 q4 : Pos),
    K.lookup fI = some ⟨oc, od, .func (fnOf "__init__" q (iA f p1 p2) (iB f q1 q2 q3 q4) (iS f) .none .none doc pm an cdv ct), osl⟩ ∧ codeIn K cdv q = true
  hf : f = "thing" ∨ f = "word" ∨ f = "fault"
theorem one_size (v : Value) : [v].length ≤ sizeLine := by
  rw [sizeLine_eq]
  exact (by decide : 1 ≤ 16777216)
theorem ldC {M : Model} {s : Shared} {name : Str} {scope : Scope} {L a : Addr} {cd : Value} {m : Str → Option Value} {x : Str} {pos : Pos} {v : Value} {Q : Value → Shared → Prop} {A : Around} {E : Value → Shared → Prop} (hn : s.heap.Ns L m) (hv : m x = some v) (h : Q v s)
    (hk : scope.kind = .function) (hl : (envOfC name scope L a cd).kindOf x = some .local) (hd : (x == ("__debug__" : Str)) = false) :
    wpAny M A (eval (.Name x pos) (envOfC name scope L a cd)) Q E s := wpAny_Name (wpAny_loadName_local hk hl hn hv h) hd
/-- what __init__ leaves of a fresh exception at x -/
structure InitEnd (h h' : Heap) (x C dx t1 : Addr) (f : Str) (v : Value) : Prop where
  keep : ∀ b o, b ≠ x → h.get? b = some o → h'.get? b = some o
  obj : h'.get? x = some { cls := .ref C, dict := some dx, data := .fields #[.ref t1, .none, .none, .none, .bool false, .none] }
  dbig : h.objs.size ≤ dx
  dne : dx ≠ x
  ns : h'.Ns1 dx (fun y => if y = f then some v else none)
/-- a made one -/
structure Made (h h' : Heap) (e C d : Addr) (f : Str) (v : Value) : Prop where
  keep : ∀ b o, h.get? b = some o → h'.get? b = some o
  new : h.objs.size ≤ e
  obj : ∃ oe t1, h'.get? e = some oe ∧ oe.cls = .ref C ∧ oe.dict = some d ∧ oe.data = .fields #[.ref t1, .none, .none, .none, .bool false, .none]
  dbig : h.objs.size ≤ d
  dne : d ≠ e
  ns : h'.Ns1 d (fun y => if y = f then some v else none)
section
variable {prog : Program} {w : World} {A : Around} {E : Value → Shared → Prop} {R : Result → Shared → Prop} {s : Shared} {K : Frag} {C fI : Addr} {f q : Str} {B newId initId : String} {bmB : List Value}
theorem init1 (T : Txt K C fI f q B newId initId bmB) {x t0 : Addr} {v : Value} (X : K.In s.heap) (hlim : s.heap.NoLimit) (hx : s.heap.get? x = some (excO C t0)) (hroom : A.depth < recursionLimit)
    (hq : ∀ h' tk dx, InitEnd s.heap h' x C dx t0 f v → R (.ok (.ret .none)) { s with heap := h', toks := tk }) :
    codeAny (model prog w) A (.call (.ref fI) ⟨[.ref x, v], []⟩) R s := by
  obtain ⟨oc, od, doc, pm, an, cdv, ct, osl, p1, p2, q1, q2, q3, q4, ho, hcd⟩ := T.fn
  obtain ⟨cd, hcl, hmr, hhd⟩ := T.cd
  have hlook : (iS f).names.lookup f = some .local := by rcases T.hf with rfl | rfl | rfl <;> decide +kernel
  have hdb : (f == ("__debug__" : Str)) = false := by rcases T.hf with rfl | rfl | rfl <;> decide +kernel
  refine Att.call_fn (binds := [("self", .ref x), (f, v)]) X hlim ho hcd hroom (BindsTo.of_eq ?_) ?_ (fun s₁ IC => ?_) rfl rfl rfl
  · rcases T.hf with rfl | rfl | rfl <;> first | rfl | with_unfolding_all rfl
  · rcases T.hf with rfl | rfl | rfl <;> first | rfl | decide | with_unfolding_all rfl
  obtain ⟨h₁, tk₁, rfl⟩ := IC.toInCall.same
  have k : ∀ b o, s.heap.get? b = some o → h₁.get? b = some o := IC.toInCall.keep
  have hn := IC.toInCall.ns
  have hxL : s.heap.objs.size ≠ x := Nat.ne_of_gt (Heap.lt_size hx)
  have X₁ : K.In h₁ := X.keeps k
  have hx₁ := k _ _ hx
  show wpAny _ _ (execs _ _) _ _ _
  refine wpAny_execs_cons (plainObj_wpAny_Assign_Attribute ?_)
  refine ldC (v := v) hn (by rcases T.hf with rfl | rfl | rfl <;> first | rfl | with_unfolding_all rfl | kernel_rfl) (ldC (v := .ref x) hn (by rcases T.hf with rfl | rfl | rfl <;> first | rfl | with_unfolding_all rfl | kernel_rfl) ?_ rfl rfl (by decide)) rfl hlook hdb
  refine set_plain X₁ (ox := excO C t0) (od := none) ⟨hx₁, rfl, rfl, trivial⟩ T.sa ?_
  refine osa1 T.tail X₁ hx₁ hcl hmr hhd T.noN (fun h₃ tk₃ dx k₃ dn dne hx₃ hn₃ => ?_)
  show wpAny _ _ (execs _ _) _ _ _
  have z : s.heap.objs.size < h₁.objs.size := hn.lt
  exact wpAny_execs_nil (hq h₃ tk₃ dx ⟨fun b o hb e => k₃ b o hb (k b o e), hx₃, Nat.le_of_lt (Nat.lt_of_lt_of_le z dn), dne, hn₃⟩)
theorem made1 (T : Txt K C fI f q B newId initId bmB) {v : Value} (X : K.In s.heap) (hlim : s.heap.NoLimit) (hroom : A.depth + 1 < recursionLimit)
    (hq : ∀ h' tk e d, Made s.heap h' e C d f v → R (.ok (.ret (.ref e))) { s with heap := h', toks := tk }) :
    codeAny (model prog w) A (.call (.ref C) ⟨[v], []⟩) R s := by
  obtain ⟨nm, N, qn, bs, bm, hdct, sn, sub, ab, col, dd, k0, k1, k2, k3, k5, hC, hct⟩ := excInit_of X T.ei
  obtain ⟨hp, g, dr, tk, os⟩ := s
  have k : ∀ b o, hp.get? b = some o → ((hp.push (kdv_tup [v])).push (excO C hp.objs.size)).get? b = some o := fun b o e => Heap.get?_push_of_some _ (Heap.get?_push_of_some _ e)
  have hget : ((hp.push (kdv_tup [v])).push (excO C hp.objs.size)).get? (hp.objs.size + 1) = some (excO C hp.objs.size) := by heap_get
  refine call_own T.base hct hC (looks_findIn X T.iC) (fun self => bind_fn X self T.tC) (one_size v) ?_
  refine init1 (s := ⟨(hp.push (kdv_tup [v])).push (excO C hp.objs.size), g, dr, tk, os⟩) T (X.keeps k) (hlim.keeps k) hget ?_ fun h' tk' dx ⟨k', hx, dn, dne, hns⟩ => ?_
  · show A.depth + 1 < recursionLimit
    exact hroom
  · have old : ∀ b o, hp.get? b = some o → h'.get? b = some o := fun b o e => k' b o (Nat.ne_of_lt (Nat.lt_succ_of_lt (Heap.lt_size e))) (k b o e)
    have z : hp.objs.size + 1 + 1 ≤ dx := by
      first
        | (simpa only [Heap.size_push] using dn)
        | exact dn
        | (have q := dn; rw [Heap.size_push, Heap.size_push] at q; exact q)
    exact ⟨rfl, hq h' tk' (hp.objs.size + 1) dx ⟨old, Nat.le_succ _, ⟨_, _, hx, rfl, rfl, rfl⟩, Nat.le_trans (Nat.le_trans (Nat.le_succ _) (Nat.le_succ _)) z, dne, hns⟩⟩
end
end OneX
end PySem
namespace Bv
open PySem PySem.Spec L2 PyProof.Rows
theorem relO_one {v : V} {v' : Value} {g : PySem.Str} (r : RelV v v') (f : PySem.Str) : RelO (List.lookup f [(g, v)]) (if f = g then some v' else none) := by
  by_cases hw : f = g
  · subst hw
    rw [if_pos rfl]
    have q : List.lookup f [(f, v)] = some v := by simp [List.lookup]
    rw [q]
    exact r
  · rw [if_neg hw]
    have qw : (f == g) = false := by simpa using hw
    have q2 : List.lookup f [(g, v)] = none := by simp [List.lookup, qw]
    rw [q2]
    trivial
section
variable {X : Cx} {C fI : Addr} {f q : PySem.Str} {B newId initId : String} {bmB : List Value}
/-- X(e) -/
def tMk1 (C : Addr) (f : PySem.Str) (ta : TA) : L2.St → Hp → XK → Prop := fun σ H Q => ta σ H fun vs H1 => ∃ v, vs = [v] ∧ ∀ d, H1 d = none → Q (.ref C) (some d) (upd H1 d (.xd [(f, v)]))
theorem pmk1 {a : Expr} {ta : TA} {x : PySem.Str} {p pos : Pos} {k : Nat} (T : PySem.OneX.Txt X.K C fI f q B newId initId bmB) (gC : X.mg x = some (.ref C)) (hr : L2H.RoomH k X.A) (ha : PA X [a] ta) (hg : Gl X x) (hdb : (x == ("__debug__" : PySem.Str)) = false)
    (he : starEach (a :: []) X.env = (false, eval a X.env) :: starEach [] X.env) :
    L2N.PMk X (.Call (.Name x p) [a] [] pos) (tMk1 C f ta) := by
  intro pins s σ H Q I h
  refine wpAny_Call_Name_kw (ld_glob I hg gC ?_ hdb)
  refine PySem.W.callWith_K (h₀ := X.base) I.ok.mod.kin T.kC (thn (ha.run pos pins s σ H _ I h) fun us s1 hh => ?_) he rfl
  obtain ⟨vs, H1, I1, r1, v, ev, q1⟩ := hh
  subst ev
  refine ⟨I1.kIn, ?_⟩
  cases r1 with
  | cons rv rn =>
    rename_i v' us'
    cases rn
    show wpAny _ _ (call (.ref C) [v']) _ _ _
    have hlim := I1.nolimit
    obtain ⟨hp, g, dr, tk, os⟩ := s1
    refine wpAny_call (PySem.OneX.made1 T I1.kIn hlim (by have := hr.dp; omega) fun h' tk' e d M => ?_)
    show L2N.MkP X pins σ Q (.ref e) ⟨h', g, dr, tk', os⟩
    obtain ⟨oe, t1, hoe, hc, hd, hdat⟩ := M.obj
    have hns := M.ns
    obtain ⟨G', g1, g2⟩ := restrict h' fun b => decide (b ≠ e)
    have gk : ∀ b, b ≠ e → G'.get? b = h'.get? b := fun b hb => g1 b (decide_eq_true hb)
    have ge : G'.get? e = none := g2 e (by simp)
    have old : ∀ b o, hp.get? b = some o → G'.get? b = some o := fun b o q => (gk b (Nat.ne_of_lt (Nat.lt_of_lt_of_le (Heap.lt_size q) M.new))).trans (M.keep b o q)
    have ob : ObjOk X.prog X.w (upd H1 d (.xd [(f, v)])) G' d (.xd [(f, v)]) :=
      ⟨_, hns.at (fun o q => (gk d M.dne).trans q), fun f => relO_one rv f⟩
    have J : Inv X pins σ (upd H1 d (.xd [(f, v)])) ⟨G', g, dr, tk', os⟩ := I1.laid (t' := tk') old M.dbig ob
    refine ⟨e, oe, _, ⟨G', g, dr, tk', os⟩, _, .ref C, some d, rfl, J, fun b o q => ?_, ge, hoe, ⟨hc, hd, fun vs hv => ?_⟩, hdat, rfl, ?_, rfl, I1.bare, raises_own T.exC T.tyC, q1 d (I1.hok.fresh M.dbig)⟩
    · by_cases hb : b = e
      · have q' : G'.get? b = some o := q
        rw [hb, ge] at q'; cases q'
      · exact (gk b hb).symm.trans q
    · rw [hdat] at hv
      cases hv
      rfl
    · rw [upd_ne (Ne.symm M.dne)]
      exact I1.hok.fresh M.new
end
end Bv
end
section
/-! B1t: a try of any clauses: with names or without, suites that raise -/
namespace Bv
open PySem PySem.Spec L2 PyProof.Rows
/-- a clause: its class, its name's place, its suite's reading -/
structure Cz where
  c : Value
  o : Option Nat
  ts : Addr → Value → Option Addr → TS
def endsO : Option Nat → Ends → Ends
  | none, D => D
  | some i, D => { nx := fun σ' H' => D.nx (σ'.set i none) H', rt := D.rt, bk := fun σ' H' => D.bk (σ'.set i none) H', ct := fun σ' H' => D.ct (σ'.set i none) H' }
def startO : Option Nat → Addr → L2.St → L2.St
  | none, _, σ => σ
  | some i, a, σ => σ.set i (some (.ref a))
/-- what the clauses wish, one behind the other -/
def wAll (K : PySem.W.Frag) (Wout : WX) (D : Ends) : List Cz → WX
  | [] => Wout
  | z :: r => fun cls d σ H => ∃ b, PySem.W.exmOne K cls z.c = some b ∧ (b = true → ∀ a, H a = none → z.ts a cls d (endsO z.o D) (startO z.o a σ) H) ∧ (b = false → wAll K Wout D r cls d σ H)
/-- the clauses as they are written; Zp: what is known of the exception; Wl: what a suite may raise -/
inductive HdsM (X : Cx) (Zp : Value → Option Addr → Obj → Prop) (Wl : WX) : List ExceptHandler → List Cz → Prop
  | nil : HdsM X Zp Wl [] []
  | bare {x : PySem.Str} {c : Value} {ts : Addr → Value → Option Addr → TS} {b₀ : Stmt} {suite : List Stmt} {np pos' : Pos} {hds : List ExceptHandler} {l : List Cz} (hc : Names X x c)
      (hsu : ∀ (a : Addr) (oe : Obj) (cls : Value) (d : Option Addr) (pn : List (Addr × Obj)), Zp cls d oe → (∃ vs, oe.data = .fields vs) → PSs (X.suite a ((a, oe) :: pn)) (b₀ :: suite) (ts a cls d)) (r : HdsM X Zp Wl hds l) :
      HdsM X Zp Wl (.ExceptHandler (some (.Name x np)) none (b₀ :: suite) pos' :: hds) (⟨c, none, ts⟩ :: l)
  | named {x n : PySem.Str} {i : Nat} {c : Value} {ts : Addr → Value → Option Addr → TS} {b₀ : Stmt} {suite : List Stmt} {np pos' : Pos} {hds : List ExceptHandler} {l : List Cz} (hc : Names X x c) (hi : X.N[i]? = some n) (hln : X.env.kindOf n = some .local)
      (hsu : ∀ (a : Addr) (oe : Obj) (cls : Value) (d : Option Addr) (pn : List (Addr × Obj)), Zp cls d oe → (∃ vs, oe.data = .fields vs) → PSs (X.suite a ((a, oe) :: pn)) (b₀ :: suite) (ts a cls d)) (r : HdsM X Zp Wl hds l) :
      HdsM X Zp Wl (.ExceptHandler (some (.Name x np)) (some n) (b₀ :: suite) pos' :: hds) (⟨c, some i, ts⟩ :: l)
  | raising {x : PySem.Str} {c : Value} {ts : Addr → Value → Option Addr → TS} {b₀ : Stmt} {suite : List Stmt} {np pos' : Pos} {hds : List ExceptHandler} {l : List Cz} (hc : Names X x c) (hn : ∀ cls d o, Zp cls d o → L2N.Zn cls d o)
      (hsu : ∀ (a : Addr) (oe : Obj) (cls : Value) (d : Option Addr) (pn : List (Addr × Obj)), Zp cls d oe → (∃ vs, oe.data = .fields vs) → L2.Takes (L2H.suiteX X a ((a, oe) :: pn)) Wl → L2H.HotC (L2H.suiteX X a ((a, oe) :: pn)) → PSs (L2H.suiteX X a ((a, oe) :: pn)) (b₀ :: suite) (ts a cls d)) (r : HdsM X Zp Wl hds l) :
      HdsM X Zp Wl (.ExceptHandler (some (.Name x np)) none (b₀ :: suite) pos' :: hds) (⟨c, none, ts⟩ :: l)
theorem zc_steady {cls : Value} {d : Option Addr} : PXN.Steady1 (Zc cls d) := fun o v h => ⟨PXN.steady_cls o v h.1, PXN.steady_dict o v h.2⟩
section
variable {X : Cx} {pins : List (Addr × Obj)}
/-- a flying exception, taken by the clauses -/
theorem hds_go {Zp : Value → Option Addr → Obj → Prop} {Wl Wout : WX} {D : Ends} {B : Heap} {a : Addr} {cls : Value} {d : Option Addr} {sI s' : Shared} {σ' : L2.St} {H' : Hp} {h3 : Heap} (hzc : ∀ o, Zp cls d o → Zc cls d o)
    (hs : X.stack = X.env :: X.outer) (hf : X.env.frame = some X.env.locals) (hN : X.N.Nodup) (hpa : ∀ hd : Option Value, PassesOwnAt (model X.prog X.w) (X.A.mark hd) X.A X.env X.xe) (ok : X.Ok) (tkl : L2.Takes X Wl)
    (J : Inv X pins σ' H' sI) (nb : ∀ b o, sI.heap.get? b = some o → b ∉ frs X.stack → B.get? b = some o) (up : sI.heap.UpToSlots h3) (fl3 : HandSPX.FlyingZ B (X.env :: X.outer) a (Zp cls d) h3) (na : H' a = none) (os : s'.os = sI.os) (ag : AllBare s'.gens)
    (out : ∀ h4, HandSPX.HeldZ B (X.env :: X.outer) a (Zp cls d) X.env.locals h4 → sI.heap.UpToSlots h4 → Wout cls d σ' H' → X.xe (.ref a) { s' with heap := h4 }) :
    ∀ {hds : List ExceptHandler} {l : List Cz}, HdsM X Zp Wl hds l → wAll X.K Wout D l cls d σ' H' → wpAny (model X.prog X.w) X.A (handleBy (.ref a) X.env hds) (SP X pins D) X.xe { s' with heap := h3 } := by
  have J3 : Inv X pins σ' H' { s' with heap := h3 } := J.landed nb fl3.1 up os ag
  obtain ⟨oe3, vs3, he3, hz3, hd3⟩ := fl3.there
  have notFr : ∀ {h : Heap} {o : Obj} {vs : Array Value}, h.FunFrames B (X.env :: X.outer) → h.get? a = some o → o.data = .fields vs → a ∉ frs (X.env :: X.outer) := fun {h o vs} ff e dd hm => by
    obtain ⟨_, o', e', hnf⟩ := ff.mem hm
    rw [e] at e'; cases e'
    exact hnf _ dd
  have nfr := notFr fl3.2.2.1 he3 hd3
  have nL : a ≠ X.env.locals := fun z => nfr (List.mem_filterMap.mpr ⟨X.env, List.mem_cons_self, by rw [hf, z]⟩)
  have nF : a ∉ X.fs := fun hm => by
    obtain ⟨e, he, q⟩ := List.mem_filterMap.mp hm
    exact nfr (List.mem_filterMap.mpr ⟨e, List.mem_cons_of_mem _ he, q⟩)
  have S3 := J3.suite he3 hd3 na nL nF
  have LT : PySem.W.Looks (model X.prog X.w) h3 (typeOf (.ref a)) cls := fun A Q E s k q => wpAny_typeOf_ref (k _ _ he3) (by rw [(hzc _ hz3).1]; exact q)
  have test : ∀ {x : PySem.Str} {np : Pos} {c : Value} {Q : Value → Shared → Prop} {E : Value → Shared → Prop}, Names X x c → Q c { s' with heap := h3 } → wpAny (model X.prog X.w) (X.A.mark (some (.ref a))) (eval (.Name x np) X.env) Q E { s' with heap := h3 } := fun {x np c Q E} hc q => by
    obtain ⟨hg, hdbg, hm | ⟨hm, hv, hnn⟩⟩ := hc
    · exact ld_glob (X := X.suite a ((a, oe3) :: (X.pn ++ pins))) S3 hg hm q hdbg
    · exact ld_blt (X := X.suite a ((a, oe3) :: (X.pn ++ pins))) S3 hg hm hv q hnn hdbg
  intro hds l hk
  induction hk with
  | nil =>
    intro w
    refine wpAny_handleBy_nil ?_
    obtain ⟨k1, k2, k3, oe, vs, T, oT, ts', he, hz, hd, h1, hr⟩ := id fl3
    unfold PySem.passOn
    refine wpAny_bind (wpAny_field he hd h1 ?_)
    rw [if_neg (show ¬ ((Value.ref T == Value.none) = true) from by simp)]
    have fin : wpAny (model X.prog X.w) X.A (setFlight (.ref a) X.env.frame) (fun _ s4 => wpAny (model X.prog X.w) X.A (throw (.ref a) : Sem Flow) (SP X pins D) X.xe s4) X.xe { s' with heap := h3 } := by
      rw [hf]
      exact HandSPX.setFlight_upZ fl3 fun h4 hh4 up4 => wpAny_throw (out h4 hh4 (up.trans up4) w)
    first
      | exact wpAny_bind (wpAny_pure (wpAny_bind fin))
      | exact wpAny_bind fin
  | @bare x c ts b₀ suite np pos' hds2 l2 hc hsu r ih =>
    intro w
    obtain ⟨b, hb1, hyes, hno⟩ := w
    refine wpAny_handleBy_cons (codeAny_handlers_test ?_) (by intro q; cases q)
    have LM := PySem.W.exm_one (M := model X.prog X.w) (J3.kIn) LT hb1
    refine test hc (LM.here ?_)
    cases b with
    | true =>
      refine codeAny_handlers_suite ?_
      refine HandSPX.lands_againZ fl3 fun h4 fl4 up4 => ?_
      have J4 : Inv X pins σ' H' { s' with heap := h4 } := J.landed nb fl4.1 (up.trans up4) os ag
      obtain ⟨oe4, vs4, he4, hz4, hd4⟩ := fl4.there
      have S4 := J4.suite he4 hd4 na nL nF
      refine wpAny_mono ((hsu a oe4 cls d (X.pn ++ pins) hz4 ⟨_, hd4⟩).run [] _ _ H' _ S4 (hyes rfl a na)) (fun f s6 hsp => ?_) (fun _ _ z => False.elim z)
      cases f with
      | next =>
        obtain ⟨σ6, H6, S6, q6⟩ := hsp
        exact ⟨_, _, S6.unsuite ok, q6⟩
      | brk =>
        obtain ⟨σ6, H6, S6, q6⟩ := hsp
        exact ⟨_, _, S6.unsuite ok, q6⟩
      | cont =>
        obtain ⟨σ6, H6, S6, q6⟩ := hsp
        exact ⟨_, _, S6.unsuite ok, q6⟩
      | ret u =>
        obtain ⟨v6, σ6, H6, S6, r6, q6⟩ := hsp
        exact ⟨_, _, _, S6.unsuite ok, r6, q6⟩
    | false =>
      show wpAny _ X.A (handleBy (.ref a) X.env hds2) _ _ _
      exact ih (hno rfl)
  | @named x n i c ts b₀ suite np pos' hds2 l2 hc hi hln hsu r ih =>
    intro w
    obtain ⟨b, hb1, hyes, hno⟩ := w
    refine wpAny_handleBy_cons (codeAny_handlers_test ?_) (by intro q; cases q)
    have LM := PySem.W.exm_one (M := model X.prog X.w) (J3.kIn) LT hb1
    refine test hc (LM.here ?_)
    cases b with
    | true =>
      refine codeAny_handlers_suite_as ?_
      refine HandSPX.lands_againZ fl3 fun h4 fl4 up4 => ?_
      have J4 : Inv X pins σ' H' { s' with heap := h4 } := J.landed nb fl4.1 (up.trans up4) os ag
      obtain ⟨oe4, vs4, he4, hz4, hd4⟩ := fl4.there
      have S4 := J4.suite he4 hd4 na nL nF
      refine store_ok (X := X.suite a ((a, oe4) :: (X.pn ++ pins))) (v := .ref a) S4 hN hi (.inl hln) rfl (fun s5 S5 => ?_) (.inr hln)
      refine wpAny_mono ((hsu a oe4 cls d (X.pn ++ pins) hz4 ⟨_, hd4⟩).run [] s5 _ H' _ S5 (hyes rfl a na)) (fun f s6 hsp => ?_) (fun _ _ z => False.elim z)
      have end_ : ∀ {σ6 : L2.St} {H6 : Hp} {Q : Shared → Prop}, Inv (X.suite a ((a, oe4) :: (X.pn ++ pins))) [] σ6 H6 s6 → (∀ s7, Inv X pins (σ6.set i none) H6 s7 → Q s7) →
          wpAny (model X.prog X.w) X.A (do bindName X.env n .none; unbindBehindTheSuite X.env n pos') (fun _ s7 => Q s7) X.xe s6 := fun {σ6 H6 Q} S6 hq => gone_ok (S6.unsuite ok) hN hi hln hq
      cases f with
      | next =>
        obtain ⟨σ6, H6, S6, q6⟩ := hsp
        exact end_ S6 fun s7 J7 => ⟨_, _, J7, q6⟩
      | brk =>
        obtain ⟨σ6, H6, S6, q6⟩ := hsp
        exact end_ S6 fun s7 J7 => ⟨_, _, J7, q6⟩
      | cont =>
        obtain ⟨σ6, H6, S6, q6⟩ := hsp
        exact end_ S6 fun s7 J7 => ⟨_, _, J7, q6⟩
      | ret u =>
        obtain ⟨v6, σ6, H6, S6, r6, q6⟩ := hsp
        exact end_ S6 fun s7 J7 => ⟨_, _, _, J7, r6, q6⟩
    | false =>
      show wpAny _ X.A (handleBy (.ref a) X.env hds2) _ _ _
      exact ih (hno rfl)
  | @raising x c ts b₀ suite np pos' hds2 l2 hc hn hsu r ih =>
    intro w
    obtain ⟨b, hb1, hyes, hno⟩ := w
    refine wpAny_handleBy_cons (codeAny_handlers_test ?_) (by intro q; cases q)
    have LM := PySem.W.exm_one (M := model X.prog X.w) (J3.kIn) LT hb1
    refine test hc (LM.here ?_)
    cases b with
    | true =>
      refine codeAny_handlers_suite ?_
      refine HandSPX.lands_againZ fl3 fun h4 fl4 up4 => ?_
      have J4 : Inv X pins σ' H' { s' with heap := h4 } := J.landed nb fl4.1 (up.trans up4) os ag
      obtain ⟨oe4, vs4, he4, hz4, hd4⟩ := fl4.there
      have S4 := J4.suite he4 hd4 na nL nF
      have tkS : L2.Takes (L2H.suiteX X a ((a, oe4) :: (X.pn ++ pins))) Wl := fun u2 s2 x2 => by
        obtain ⟨a2, B2, sI2, pn2, σ2, H2, cls2, d2, e2, I2, nb2, up2, sky2, na2, os2, ag2, w2⟩ := x2
        exact tkl u2 s2 ⟨a2, B2, sI2, pins, σ2, H2, cls2, d2, e2, L2H.unsuiteX I2 ok, nb2, up2, sky2, na2, os2, ag2, w2⟩
      have hot : L2H.HotC (L2H.suiteX X a ((a, oe4) :: (X.pn ++ pins))) := ⟨(a, oe4), ⟨rfl, vs4, hd4, (hn _ _ _ hz4).2.2 vs4 hd4⟩, List.mem_cons_self⟩
      refine wpAny_mono ((hsu a oe4 cls d (X.pn ++ pins) hz4 ⟨_, hd4⟩ tkS hot).run [] _ _ H' _ (L2H.suiteX_of S4) (hyes rfl a na)) (fun f s6 hsp => ?_) (fun e6 s6 z => hpa (some (.ref a)) e6 s6 z)
      cases f with
      | next =>
        obtain ⟨σ6, H6, S6, q6⟩ := hsp
        exact ⟨_, _, L2H.unsuiteX S6 ok, q6⟩
      | brk =>
        obtain ⟨σ6, H6, S6, q6⟩ := hsp
        exact ⟨_, _, L2H.unsuiteX S6 ok, q6⟩
      | cont =>
        obtain ⟨σ6, H6, S6, q6⟩ := hsp
        exact ⟨_, _, L2H.unsuiteX S6 ok, q6⟩
      | ret u =>
        obtain ⟨v6, σ6, H6, S6, r6, q6⟩ := hsp
        exact ⟨_, _, _, L2H.unsuiteX S6 ok, r6, q6⟩
    | false =>
      show wpAny _ X.A (handleBy (.ref a) X.env hds2) _ _ _
      exact ih (hno rfl)
end
section
variable {X : Cx} {body : List Stmt} {h₀ : ExceptHandler} {hds : List ExceptHandler} {ln ll : List Cz} {pos : Pos} {tb : WX → WX → TS} {Wn Wl : WX}
theorem ps_tryM (hs : X.stack = X.env :: X.outer) (hf : X.env.frame = some X.env.locals) (hN : X.N.Nodup) (hpa : ∀ hd : Option Value, PassesOwnAt (model X.prog X.w) (X.A.mark hd) X.A X.env X.xe) (tkn : L2N.Takes X Wn) (tkl : L2.Takes X Wl)
    (hb : ∀ (W W' : WX) (pn : List (Addr × Obj)) (xe : Value → Shared → Prop), L2N.Takes (X.tr pn xe) W → L2.Takes (X.tr pn xe) W' → PassesOwn (model X.prog X.w) X.A X.env xe → (∀ hd : Option Value, PassesOwnAt (model X.prog X.w) (X.A.mark hd) X.A X.env xe) → PSs (X.tr pn xe) body (tb W W'))
    (hn : HdsM X L2N.Zn Wl (h₀ :: hds) ln) (hl : HdsM X Zc Wl (h₀ :: hds) ll) : PS X (.Try body (h₀ :: hds) [] [] pos) (fun D σ H => tb (wAll X.K Wn D ln) (wAll X.K Wl D ll) D σ H) := by
  refine ⟨fun pins s σ H D I h => ?_⟩
  have ok := I.ok
  have hfr : X.A.frames = some (X.env :: X.outer) := by rw [ok.frames, hs]
  refine wpAny_Try_except ?_
  refine wpAny_mono ((hb (wAll X.K Wn D ln) (wAll X.K Wl D ll) (X.pn ++ pins) (fun e s₁ => wpAny (model X.prog X.w) X.A (noteFrame e X.env) (fun _ s₂ => wpAny (model X.prog X.w) X.A (setFlight e none) (fun _ s₃ =>
    wpAny (model X.prog X.w) X.A (handleBy e X.env (h₀ :: hds)) (SP X pins D) X.xe s₃) X.xe s₂) X.xe s₁) (fun u s' xx => ?_) (fun u s' xx => ?_) PassesOwn.looking (fun hd => PassesOwnAt.looking)).run [] s σ H D (I.toTry _) h) (fun f s1 hsp => ?_) (fun e s1 he => he)
  · obtain ⟨a, B, sI, pins', σ', H', cls, d, rfl, J', nb, up, sky, na, os, ag, w⟩ := xx
    have J : Inv X pins σ' H' sI := J'.ofTry ok
    have sky' : Sky B (X.env :: X.outer) a (L2N.Zn cls d) X.env.locals s'.heap := by rw [← hs]; exact sky
    show wpAny (model X.prog X.w) X.A (noteFrame (.ref a) X.env) _ _ _
    refine L2N.Sky.land L2N.Zn.steady hfr hf sky' fun h3 fl3 up3 => ?_
    exact hds_go (fun o z => z.zc) hs hf hN hpa ok tkl J nb (up.trans up3) fl3 na os ag (fun h4 hh4 up4 w4 => tkn _ _ ⟨a, B, sI, pins, σ', H', cls, d, rfl, J, nb, up4, .inr (.inr (by rw [hs]; exact hh4)), na, os, ag, w4⟩) hn w
  · obtain ⟨a, B, sI, pins', σ', H', cls, d, rfl, J', nb, up, sky, na, os, ag, w⟩ := xx
    have J : Inv X pins σ' H' sI := J'.ofTry ok
    have sky' : Sky B (X.env :: X.outer) a (Zc cls d) X.env.locals s'.heap := by rw [← hs]; exact sky
    show wpAny (model X.prog X.w) X.A (noteFrame (.ref a) X.env) _ _ _
    refine L2N.Sky.land zc_steady hfr hf sky' fun h3 fl3 up3 => ?_
    exact hds_go (fun o z => z) hs hf hN hpa ok tkl J nb (up.trans up3) fl3 na os ag (fun h4 hh4 up4 w4 => tkl _ _ ⟨a, B, sI, pins, σ', H', cls, d, rfl, J, nb, up4, .inr (.inr (by rw [hs]; exact hh4)), na, os, ag, w4⟩) hl w
  · cases f with
    | next =>
      obtain ⟨σ', H', J', q⟩ := hsp
      exact wpAny_execs_nil ⟨σ', H', J'.ofTry ok, q⟩
    | brk =>
      obtain ⟨σ', H', J', q⟩ := hsp
      exact ⟨σ', H', J'.ofTry ok, q⟩
    | cont =>
      obtain ⟨σ', H', J', q⟩ := hsp
      exact ⟨σ', H', J'.ofTry ok, q⟩
    | ret u =>
      obtain ⟨v, σ', H', J', r, q⟩ := hsp
      exact ⟨v, σ', H', J'.ofTry ok, r, q⟩
end
/-! ### the tongue's try -/
section
variable {Γ : Gm} {X : Cx} {W : WX}
/-- what may leave a suite -/
abbrev Wlo (Γ : Gm) (W : WX) : WX := fun cls d σ H => looseV Γ cls ∧ W cls d σ H
inductive HdR (Γ : Gm) (X : Cx) (W : WX) : List ExceptHandler → List (Nat × Option Nat × Bool) → List SF → Prop
  | nil {ss : List SF} : HdR Γ X W [] [] ss
  | bare {x : PySem.Str} {j : Nat} {fs : SF} {b₀ : Stmt} {suite : List Stmt} {np pos' : Pos} {hds : List ExceptHandler} {cl : List (Nat × Option Nat × Bool)} {ss : List SF} (hc : Names X x (.ref (Γ.ca j))) (hex : ∀ c, Γ.cl c = true → PySem.W.exmOne X.K (.ref (Γ.ca c)) (.ref (Γ.ca j)) = some (subC c j))
      (hsu : ∀ (a : Addr) (oe : Obj) (cls : Value) (d : Option Addr) (pn : List (Addr × Obj)), Zc cls d oe → (∃ vs, oe.data = .fields vs) → PSs (X.suite a ((a, oe) :: pn)) (b₀ :: suite) (tSt Γ W0 fs)) (r : HdR Γ X W hds cl ss) :
      HdR Γ X W (.ExceptHandler (some (.Name x np)) none (b₀ :: suite) pos' :: hds) ((j, none, false) :: cl) (fs :: ss)
  | raising {x : PySem.Str} {j : Nat} {fs : SF} {b₀ : Stmt} {suite : List Stmt} {np pos' : Pos} {hds : List ExceptHandler} {cl : List (Nat × Option Nat × Bool)} {ss : List SF} (hc : Names X x (.ref (Γ.ca j))) (hex : ∀ c, Γ.cl c = true → PySem.W.exmOne X.K (.ref (Γ.ca c)) (.ref (Γ.ca j)) = some (subC c j))
      (hsu : ∀ (a : Addr) (oe : Obj) (cls : Value) (d : Option Addr) (pn : List (Addr × Obj)), L2N.Zn cls d oe → (∃ vs, oe.data = .fields vs) → L2.Takes (L2H.suiteX X a ((a, oe) :: pn)) (Wlo Γ W) → L2H.HotC (L2H.suiteX X a ((a, oe) :: pn)) → PSs (L2H.suiteX X a ((a, oe) :: pn)) (b₀ :: suite) (tSt Γ (Wlo Γ W) fs)) (r : HdR Γ X W hds cl ss) :
      HdR Γ X W (.ExceptHandler (some (.Name x np)) none (b₀ :: suite) pos' :: hds) ((j, none, true) :: cl) (fs :: ss)
  | named {x n : PySem.Str} {i j : Nat} {nn : Bool} {fs : SF} {b₀ : Stmt} {suite : List Stmt} {np pos' : Pos} {hds : List ExceptHandler} {cl : List (Nat × Option Nat × Bool)} {ss : List SF} (hc : Names X x (.ref (Γ.ca j))) (hi : X.N[i]? = some n) (hln : X.env.kindOf n = some .local) (hex : ∀ c, Γ.cl c = true → PySem.W.exmOne X.K (.ref (Γ.ca c)) (.ref (Γ.ca j)) = some (subC c j))
      (hsu : ∀ (a : Addr) (oe : Obj) (c : Nat) (d : Option Addr) (pn : List (Addr × Obj)), Γ.cl c = true → Zc (.ref (Γ.ca c)) d oe → (nn = true → L2N.Zn (.ref (Γ.ca c)) d oe) → (∃ vs, oe.data = .fields vs) → PSs (X.suite a ((a, oe) :: pn)) (b₀ :: suite) (tSt (Γ.held ⟨i, a, c, d⟩) W0 fs)) (r : HdR Γ X W hds cl ss) :
      HdR Γ X W (.ExceptHandler (some (.Name x np)) (some n) (b₀ :: suite) pos' :: hds) ((j, some i, nn) :: cl) (fs :: ss)
/-- a clause's reading -/
def tsC (Γ : Gm) (W : WX) (o : Option Nat) (n : Bool) (f : SF) : Addr → Value → Option Addr → TS := match o with
  | none => fun _ _ _ => if n = true then tSt Γ (Wlo Γ W) f else tSt Γ W0 f
  | some i => fun a cls d D σ H => ∃ c, Γ.cl c = true ∧ cls = .ref (Γ.ca c) ∧ tSt (Γ.held ⟨i, a, c, d⟩) W0 f D σ H
def lnOf (Γ : Gm) (W : WX) : List (Nat × Option Nat × Bool) → List SF → List Cz
  | (j, o, n) :: r, f :: fs => ⟨.ref (Γ.ca j), o, tsC Γ W o n f⟩ :: lnOf Γ W r fs
  | _, _ => []
def llOf (Γ : Gm) (W : WX) : List (Nat × Option Nat × Bool) → List SF → List Cz
  | (j, o, n) :: r, f :: fs => ⟨.ref (Γ.ca j), o, if n = true then fun _ _ _ _ _ _ => False else tsC Γ W o n f⟩ :: llOf Γ W r fs
  | _, _ => []
theorem hdr_n {hds : List ExceptHandler} {cl : List (Nat × Option Nat × Bool)} {ss : List SF} (h : HdR Γ X W hds cl ss) : HdsM X L2N.Zn (Wlo Γ W) hds (lnOf Γ W cl ss) := by
  induction h with
  | nil => exact .nil
  | bare hc hex hsu r ih => exact .bare hc (fun a oe cls d pn z v => hsu a oe cls d pn z.zc v) ih
  | raising hc hex hsu r ih => exact .raising hc (fun _ _ _ z => z) hsu ih
  | named hc hi hln hex hsu r ih =>
    refine .named hc hi hln (fun a oe cls d pn z v => ⟨fun pins s σ H D I q => ?_⟩) ih
    obtain ⟨c, ok, rfl, q⟩ := q
    exact (hsu a oe c d pn ok z.zc (fun _ => z) v).run pins s σ H D I q
theorem hdr_l {hds : List ExceptHandler} {cl : List (Nat × Option Nat × Bool)} {ss : List SF} (h : HdR Γ X W hds cl ss) : HdsM X Zc (Wlo Γ W) hds (llOf Γ W cl ss) := by
  induction h with
  | nil => exact .nil
  | bare hc hex hsu r ih => exact .bare hc hsu ih
  | raising hc hex hsu r ih => exact .bare hc (fun a oe cls d pn z v => ⟨fun _ _ _ _ _ _ q => q.elim⟩) ih
  | @named x n i j nn fs b₀ suite np pos' hds cl ss hc hi hln hex hsu r ih =>
    refine .named hc hi hln (fun a oe cls d pn z v => ⟨fun pins s σ H D I q => ?_⟩) ih
    cases nn with
    | true => exact q.elim
    | false =>
      obtain ⟨c, ok, rfl, q⟩ := q
      exact (hsu a oe c d pn ok z (fun z => nomatch z) v).run pins s σ H D I q
theorem post_loose {D : Ends} {ρ : List Addr} {H : Hp} {r : R Fl} {n : Bool} (q : PostF Γ W D ρ H (looseOut n r)) : if n = true then PostF Γ (Wlo Γ W) D ρ H r else PostF Γ W0 D ρ H r := by
  cases r with
  | ok fl S' =>
    cases fl with
    | thr e L' =>
      have q : PostF Γ W D ρ H (if n = true ∧ looseC e.c = true then R.ok (.thr e L') S' else .bad) := q
      by_cases hl : n = true ∧ looseC e.c = true
      · rw [if_pos hl] at q
        rw [if_pos hl.1]
        exact fun ρ2 H2 σ2 dx p2 x2 rl r => ⟨⟨e.c, hl.2, rfl⟩, q ρ2 H2 σ2 dx p2 x2 rl r⟩
      · rw [if_neg hl] at q; exact q.elim
    | next L' => cases n <;> simp only [if_true, Bool.false_eq_true, if_false] <;> exact q
    | ret d => cases n <;> simp only [if_true, Bool.false_eq_true, if_false] <;> exact q
    | brk L' => cases n <;> simp only [if_true, Bool.false_eq_true, if_false] <;> exact q
    | cont L' => cases n <;> simp only [if_true, Bool.false_eq_true, if_false] <;> exact q
  | exc _ _ => exact q.elim
  | bad => exact q.elim
theorem wall_ok {D : Ends} (hh : Γ.hot = none) {ρ ρ1 : List Addr} {H H1 : Hp} {S' : Sto} {L1 : Loc} {σ1 : L2.St} {dx : Option Addr} {c : Nat} {f : Option Bv.D} (ok : Γ.cl c = true) (p1 : ρ <+: ρ1) (x1 : Ext H H1) (rl1 : Rel Γ ρ1 H1 σ1 L1 S') (xr : XRep Γ ρ1 H1 ⟨c, f⟩ dx) (inj : ∀ c', looseC c' = true → Γ.ca c' = Γ.ca c → looseC c = true)
    {hds : List ExceptHandler} {cl : List (Nat × Option Nat × Bool)} {ss : List SF} (h : HdR Γ X W hds cl ss) : ∀ (q : PostF Γ W D ρ H (match pickC c cl ss with
      | some (o, n, s) => if n = true ∧ looseC c = true then R.bad else sAs o n ⟨c, f⟩ s L1 S'
      | none => .ok (.thr ⟨c, f⟩ L1) S')),
    wAll X.K W D (lnOf Γ W cl ss) (.ref (Γ.ca c)) dx σ1 H1 ∧ (looseV Γ (.ref (Γ.ca c)) → wAll X.K (Wlo Γ W) D (llOf Γ W cl ss) (.ref (Γ.ca c)) dx σ1 H1) := by
  have clause : ∀ {o : Option Nat} {n : Bool} {s : SF}, PostF Γ W D ρ H (if n = true ∧ looseC c = true then R.bad else sAs o n ⟨c, f⟩ s L1 S') → (∀ a, H1 a = none → tsC Γ W o n s a (.ref (Γ.ca c)) dx (endsO o D) (startO o a σ1) H1) ∧ (looseV Γ (.ref (Γ.ca c)) → n = false) := by
    intro o n s q
    have hn : looseV Γ (.ref (Γ.ca c)) → n = false := fun hl => by
      obtain ⟨c', h1, h2⟩ := hl
      have lc := inj c' h1 (Value.ref.inj h2).symm
      cases n with
      | false => rfl
      | true => rw [if_pos ⟨rfl, lc⟩] at q; exact q.elim
    refine ⟨fun a ha => ?_, hn⟩
    have q : PostF Γ W D ρ H (sAs o n ⟨c, f⟩ s L1 S') := by
      by_cases z : n = true ∧ looseC c = true
      · rw [if_pos z] at q; exact q.elim
      · rw [if_neg z] at q; exact q
    cases o with
    | none =>
      have q2 := post_loose (r := s L1 S') q
      unfold tsC
      cases n with
      | true => exact ⟨ρ1, L1, S', rl1, PostF.mono p1 x1 q2⟩
      | false => exact ⟨ρ1, L1, S', rl1, PostF.mono p1 x1 q2⟩
    | some i =>
      unfold sAs at q
      by_cases hlen : i < L1.length
      · simp only [if_pos hlen] at q
        exact ⟨c, ok, rfl, ρ1, L1.set i (some (exnD c f)), S', ⟨rl1.s.held, rl1.l.held (h := ⟨i, a, c, dx⟩) hh hlen xr⟩, Ends_gone (h := ⟨i, a, c, dx⟩) hh (PostF.mono p1 x1 q)⟩
      · simp only [if_neg hlen] at q
        exact q.elim
  induction h with
  | nil =>
    intro q
    have q : PostF Γ W D ρ H (.ok (.thr ⟨c, f⟩ L1) S') := q
    have w := q ρ1 H1 σ1 dx p1 x1 rl1 xr
    exact ⟨w, fun hl => ⟨hl, w⟩⟩
  | bare hc hex hsu r ih =>
    intro q
    unfold pickC at q
    refine ⟨⟨_, hex c ok, fun hs => ?_, fun hs => ?_⟩, fun hl => ⟨_, hex c ok, fun hs => ?_, fun hs => ?_⟩⟩
    · rw [if_pos hs] at q; exact (clause q).1
    · rw [if_neg (by rw [hs]; exact fun z => nomatch z)] at q; exact (ih q).1
    · rw [if_pos hs] at q; exact (clause q).1
    · rw [if_neg (by rw [hs]; exact fun z => nomatch z)] at q; exact (ih q).2 hl
  | raising hc hex hsu r ih =>
    intro q
    unfold pickC at q
    refine ⟨⟨_, hex c ok, fun hs => ?_, fun hs => ?_⟩, fun hl => ⟨_, hex c ok, fun hs => ?_, fun hs => ?_⟩⟩
    · rw [if_pos hs] at q; exact (clause q).1
    · rw [if_neg (by rw [hs]; exact fun z => nomatch z)] at q; exact (ih q).1
    · rw [if_pos hs] at q; exact nomatch (clause q).2 hl
    · rw [if_neg (by rw [hs]; exact fun z => nomatch z)] at q; exact (ih q).2 hl
  | @named x n i j nn fs b₀ suite np pos' hds cl ss hc hi hln hex hsu r ih =>
    intro q
    unfold pickC at q
    refine ⟨⟨_, hex c ok, fun hs => ?_, fun hs => ?_⟩, fun hl => ⟨_, hex c ok, fun hs => ?_, fun hs => ?_⟩⟩
    · rw [if_pos hs] at q; exact (clause q).1
    · rw [if_neg (by rw [hs]; exact fun z => nomatch z)] at q; exact (ih q).1
    · rw [if_pos hs] at q
      have := (clause q).2 hl
      subst this
      exact (clause q).1
    · rw [if_neg (by rw [hs]; exact fun z => nomatch z)] at q; exact (ih q).2 hl
theorem s_try {body : List Stmt} {h₀ : ExceptHandler} {hds : List ExceptHandler} {cl : List (Nat × Option Nat × Bool)} {ss : List SF} {fb : SF} {pos : Pos} (hh : Γ.hot = none) (hs : X.stack = X.env :: X.outer) (hf : X.env.frame = some X.env.locals) (hN : X.N.Nodup) (hpa : ∀ hd : Option Value, PassesOwnAt (model X.prog X.w) (X.A.mark hd) X.A X.env X.xe) (tk : TkM Γ X W) (inj : ∀ c c', Γ.cl c = true → looseC c' = true → Γ.ca c' = Γ.ca c → looseC c = true)
    (hb : ∀ (W' : WX) (pn : List (Addr × Obj)) (xe : Value → Shared → Prop), TkM Γ (X.tr pn xe) W' → PassesOwn (model X.prog X.w) X.A X.env xe → (∀ hd : Option Value, PassesOwnAt (model X.prog X.w) (X.A.mark hd) X.A X.env xe) → PSs (X.tr pn xe) body (tSt Γ W' fb))
    (h : HdR Γ X W (h₀ :: hds) cl ss) : PS X (.Try body (h₀ :: hds) [] [] pos) (tSt Γ W (sTry fb cl ss)) := by
  have key := ps_tryM (X := X) (body := body) (pos := pos) (tb := fun Wa Wb => tSt Γ (fun cls d σ H => Wa cls d σ H ∧ (looseV Γ cls → Wb cls d σ H)) fb) hs hf hN hpa tk.n tk.l
    (fun Wa Wb pn xe t1 t2 p pa => hb _ pn xe ⟨L2N.Takes.imp t1 fun _ _ _ _ q => q.1, L2.Takes.imp t2 fun _ _ _ _ q => q.2.2 q.1⟩ p pa) (hdr_n h) (hdr_l h)
  refine PS.weak key fun D σ H q => ?_
  obtain ⟨ρ, L, S, rl, q⟩ := q
  refine ⟨ρ, L, S, rl, ?_⟩
  unfold sTry at q
  cases e : fb L S with
  | exc _ _ => rw [e] at q; exact q.elim
  | bad => rw [e] at q; exact q.elim
  | ok fl S' =>
    rw [e] at q
    cases fl with
    | next L' => exact q
    | ret d => exact q
    | brk L' => exact q
    | cont L' => exact q
    | thr ex L1 =>
      intro ρ1 H1 σ1 dx p1 x1 rl1 xr
      obtain ⟨c, f⟩ := ex
      exact wall_ok hh xr.1 p1 x1 rl1 xr (fun c' h1 h2 => inj c c' xr.1 h1 h2) h q
end
end Bv
end
section
/-! B1u: errors with a field raised; the field of the held one; calls of values; a, *b = e -/
namespace Bv
open PySem PySem.Spec L2 PyProof.Rows
variable {Γ : Gm} {X : Cx} {W : WX} {a : Expr} {fa : F D}
/-! ### raise X(e) -/
theorem raise1_w {c : Nat} {σ : L2.St} {H : Hp} {D : Ends} (ok : Γ.cl c = true) (h : tSt Γ W (sB fa fun d L => M.pure (.thr ⟨c, some d⟩ L)) D σ H) : tMk1 (Γ.ca c) (Γ.fld c) (tCons (tD Γ W fa) tNil) σ H fun cls d H' => W cls d σ H' := by
  refine tM_of h fun d L S' ρ' H' v rl r h' => ?_
  refine ⟨v, rfl, fun dd hd => ?_⟩
  have ex : Ext H' (upd H' dd (.xd [(Γ.fld c, v)])) := Ext.new hd
  exact h' ρ' _ σ (some dd) (List.prefix_refl _) ex ⟨rl.s.keep ex fun a ha => upd_ne fun z => ha (by rw [z]; exact hd), rl.l.mono (List.prefix_refl _) ex⟩ ⟨ok, dd, v, rfl, upd_same, Rep.mono (List.prefix_refl _) ex d r⟩
section
variable {c : Nat} {x : PySem.Str} {p pos pos' : Pos} {k : Nat} {fI : Addr} {q : PySem.Str} {B newId initId : String} {bmB : List Value}
theorem s_raise1 (hc : X.calm = true) (tk : TkM Γ X W) (ok : Γ.cl c = true) (T : PySem.OneX.Txt X.K (Γ.ca c) fI (Γ.fld c) q B newId initId bmB) (gC : X.mg x = some (.ref (Γ.ca c))) (hr : L2H.RoomH k X.A) (ha : PE X a (tD Γ W fa)) (hg : Gl X x) (hdb : (x == ("__debug__" : PySem.Str)) = false) (hs : starEach [a] X.env = [(false, eval a X.env)]) :
    PS X (.Raise (some (.Call (.Name x p) [a] [] pos)) none pos') (tSt Γ W (sB fa fun d L => M.pure (.thr ⟨c, some d⟩ L))) :=
  PS.weak (L2N.ps_raise hc tk.n (pmk1 T gC hr (pa_cons ha pa_nil hs) hg hdb hs)) fun D σ H h => raise1_w ok h
theorem s_raise1H (hc : L2H.HotC X) (tk : L2.Takes X W) (ok : Γ.cl c = true) (T : PySem.OneX.Txt X.K (Γ.ca c) fI (Γ.fld c) q B newId initId bmB) (gC : X.mg x = some (.ref (Γ.ca c))) (hr : L2H.RoomH k X.A) (ha : PE X a (tD Γ W fa)) (hg : Gl X x) (hdb : (x == ("__debug__" : PySem.Str)) = false) (hs : starEach [a] X.env = [(false, eval a X.env)]) :
    PS X (.Raise (some (.Call (.Name x p) [a] [] pos)) none pos') (tSt Γ W (sB fa fun d L => M.pure (.thr ⟨c, some d⟩ L))) :=
  PS.weak (L2H.ps_raiseH hc tk (pmk1 T gC hr (pa_cons ha pa_nil hs) hg hdb hs)) fun D σ H h => raise1_w ok h
end
/-! ### e.f, e the held exception -/
theorem g_xf {hx : Hx} {oe : Obj} {n f : PySem.Str} {p1 pos : Pos} (hh : Γ.hot = some hx) (hp : (hx.a, oe) ∈ X.pn) (hz : Zc (.ref (Γ.ca hx.c)) hx.dx oe) (hf : ∃ vs, oe.data = .fields vs) (T : ∀ k, hx.c = k → Γ.fld k = f → XfC X.K (Γ.ca k) ∧ PySem.W.findIn X.K (.ref (Γ.ca k)) f = some none)
    (hN : X.N[hx.sl]? = some n) (hv : Vis X.env.scope n) (h1 : (n == ("__debug__" : PySem.Str)) = false) (h2 : (n == ("__classdict__" : PySem.Str)) = false) {k : Nat} (hk : Γ.fld k = f) : PE X (.Attribute (.Name n p1) f pos) (tD Γ W (fXf hx.sl k)) := by
  refine ⟨fun pins s σ H Q I h => ?_⟩
  obtain ⟨ρ, L, S, rl, h⟩ := h
  obtain ⟨fo, l1, l2, l3⟩ := rl.l.hot hx hh
  cases fo with
  | none =>
    simp only [fXf, List.getD_eq_getElem?_getD, l1, exnD] at h
    exact h.elim
  | some d =>
    simp only [fXf, List.getD_eq_getElem?_getD, l1, exnD, Option.getD_some] at h
    by_cases hck : hx.c = k
    · rw [if_pos hck] at h
      obtain ⟨ok, dd, v, e1, e2, r⟩ := l3
      subst hck
      obtain ⟨XC, hno⟩ := T _ rfl hk
      have key : ∀ u, u = Value.ref hx.a → EP X pins σ (fun x H1 => x = .ref hx.a ∧ H1 = H) u s := fun u e => ⟨.ref hx.a, H, I, e, rfl, rfl⟩
      refine attr_of (s := s) rfl (thn ((pe_var hN hv h1 h2).run pins s σ H (fun x H1 => x = .ref hx.a ∧ H1 = H) I ⟨_, l2, rfl, rfl⟩) fun u s1 hh2 => ?_)
      obtain ⟨y, H1, I1, ry, ey, eH⟩ := hh2
      subst ey eH
      obtain rfl : u = Value.ref hx.a := ry
      obtain ⟨ha, _⟩ := I1.pin (hx.a, oe) (List.mem_append_left _ hp)
      obtain ⟨vs, hd⟩ := hf
      have e2' : H1 dd = some (.xd [(Γ.fld hx.c, v)]) := e2
      have hxd : ObjOk X.prog X.w H1 s1.heap dd (.xd [(Γ.fld hx.c, v)]) := I1.hok dd _ e2'
      obtain ⟨mA, hns, hr⟩ := hxd
      obtain ⟨od, ho, hl⟩ := lookIn_ns hns
      have l : List.lookup f [(Γ.fld hx.c, v)] = some v := by rw [hk]; simp [List.lookup]
      obtain ⟨u, hu, ru⟩ := RelO.some_of (v := v) (o := mA f) (by rw [← l]; exact hr f)
      have J : PySem.W.InstAt s1.heap hx.a oe (Γ.ca hx.c) (some od) := ⟨ha, hz.1, by unfold PySem.W.notCls; rw [hd] <;> rfl, by rw [hz.2, e1]; exact ho⟩
      exact HandSPX.exc_get I1.kIn J XC.ga XC.gg XC.exC (PySem.W.findObj_own XC.hdC hno rfl (by rw [hl, hu])) (handed_of ru) ⟨v, H1, I1.tok _, ru, h ρ H1 v (List.prefix_refl _) (Ext.refl _) rl r⟩
    · rw [if_neg hck] at h
      exact h.elim
/-! ### calls of values -/
section
variable {CX : CXT} {k : Nat} {E : L2.St → XK} {fe e : Expr} {es : List Expr} {t : TA} {tf : TE} {pos : Pos}
/-- f by its value -/
theorem pe_callV {R : Addr → Sp → Prop} (hf : PE X fe tf) (F : ∀ f sp, R f sp → ∃ fd ps, FnOk X.prog X.w X.K X.mg X.base CX k f fd ps sp ∧ Binds X.K fd ps [] ∧ PySem.W.keepIn X.K (.ref f) = true) (hr : Room k X.A) (hx : ∀ σ, PassesAt CX X σ (E σ)) (ha : PA X (e :: es) t)
    (ht : eval (.Call fe (e :: es) [] pos) X.env = (do callWith pos (← eval fe X.env) [] (backTo pos (starEach (e :: es) X.env)) (backToKw pos (keywordEach [] X.env))))
    (he : starEach (e :: es) X.env = (false, eval e X.env) :: starEach es X.env) (hpl : (backTo pos (starEach es X.env)).any (·.1) = false) :
    PE X (.Call fe (e :: es) [] pos) (fun σ H Q => tf σ H fun y H1 => ∃ f sp, y = .ref f ∧ R f sp ∧ t σ H1 fun vs H2 => sp vs H2 Q (E σ)) := by
  refine ⟨fun pins s σ H Q I h => ?_⟩
  refine Call_ (thn (hf.run pins s σ H _ I h) fun u s1 ⟨y, H1, I1, ry, f, sp, ey, ef, q⟩ => ?_) ht
  subst ey
  obtain rfl : u = Value.ref f := ry
  obtain ⟨fd, ps, F1, hb, kp⟩ := F f sp ef
  refine PySem.W.callWith_K (h₀ := X.base) I1.ok.mod.kin kp (thn (ha.run pos pins s1 σ H1 _ I1 q) fun us s2 ⟨vs, H2, I2, r, q2⟩ => ⟨I2.kIn, ?_⟩) he hpl
  exact run_fnSD (ds := []) (dvs := []) F1 hr hb .nil (hx σ) I2 r (by rw [List.append_nil]; exact q2)
/-- .. of a name -/
theorem pe_callVN {R : Addr → Sp → Prop} {x : PySem.Str} {p : Pos} (hf : PE X (.Name x p) tf) (F : ∀ f sp, R f sp → ∃ fd ps, FnOk X.prog X.w X.K X.mg X.base CX k f fd ps sp ∧ Binds X.K fd ps [] ∧ PySem.W.keepIn X.K (.ref f) = true) (hr : Room k X.A) (hx : ∀ σ, PassesAt CX X σ (E σ)) (ha : PA X (e :: es) t)
    (he : starEach (e :: es) X.env = (false, eval e X.env) :: starEach es X.env) (hpl : (backTo pos (starEach es X.env)).any (·.1) = false) :
    PE X (.Call (.Name x p) (e :: es) [] pos) (fun σ H Q => tf σ H fun y H1 => ∃ f sp, y = .ref f ∧ R f sp ∧ t σ H1 fun vs H2 => sp vs H2 Q (E σ)) := by
  refine ⟨fun pins s σ H Q I h => ?_⟩
  refine wpAny_Call_Name_kw (thn (hf.run pins s σ H _ I h) fun u s1 ⟨y, H1, I1, ry, f, sp, ey, ef, q⟩ => ?_)
  subst ey
  obtain rfl : u = Value.ref f := ry
  obtain ⟨fd, ps, F1, hb, kp⟩ := F f sp ef
  refine PySem.W.callWith_K (h₀ := X.base) I1.ok.mod.kin kp (thn (ha.run pos pins s1 σ H1 _ I1 q) fun us s2 ⟨vs, H2, I2, r, q2⟩ => ⟨I2.kIn, ?_⟩) he hpl
  exact run_fnSD (ds := []) (dvs := []) F1 hr hb .nil (hx σ) I2 r (by rw [List.append_nil]; exact q2)
end
end Bv
end
section
/-! B1v: a, *b = a list -/
namespace PySem.W
open PySem PySem.Spec PySem.Calls PyProof.Rows
section
variable {prog : Program} {w : World} {A : Around} {E : Value → Shared → Prop} {s : Shared}
theorem kun_starG {l : Addr} {items : Array Value} {i : Nat} {Q : List Value → Shared → Prop} (hl : s.heap.IsList l items) (hh : A.handled = none) (hi : i ≤ items.size) (hz : items.size ≤ 16384)
    (h : ∀ (h' : Heap) (tk : Nat), (∀ b o, s.heap.get? b = some o → h'.get? b = some o) → Q (items.toList.take i ++ [.ref h'.objs.size]) { s with heap := h'.push { cls := .type "list", data := .seq (items.toList.drop i).toArray }, toks := tk }) : wpAny (model prog w) A (unpackItems (.ref l) (i + 1) (some i)) Q E s := by
  have hlt : l ≠ s.heap.objs.size := by obtain ⟨o, ho, _⟩ := hl; exact Nat.ne_of_lt (Heap.lt_size ho)
  have hll : l < s.heap.objs.size := by obtain ⟨o, ho, _⟩ := hl; exact Heap.lt_size ho
  unfold unpackItems
  refine wpAny_bind ?_
  unfold notIterableAtAll
  refine wpAny_bind (wpAny_specialOf hl.typeIs F.slot_list_iter.lookup ?_)
  refine wpAny_pure ?_
  simp only [Bool.false_eq_true, if_false]
  refine wpAny_bind (wpAny_holding (wpAny_pyIter_list hl ?_))
  refine wpAny_bind (wpAny_holding (kun_draw hlt i 0 _ _ ⟨_, Heap.get?_push_size _ rfl, rfl, rfl⟩ (hl.push _) (by omega) fun h₁ hit₁ hs₁ => ?_))
  have hl₁ : h₁.IsList l items := (hl.push _).extBut hs₁.extBut hlt
  rw [Nat.zero_add] at hit₁
  have hit₁' := hit₁
  obtain ⟨oi, hoi, _⟩ := hit₁'
  have hl₁' := hl₁
  obtain ⟨ol, hol, _⟩ := hl₁'
  rw [List.drop_zero]
  have hfl : (items.toList.take i).length = i := by rw [List.length_take, Array.length_toList]; omega
  rw [if_neg (show ¬ ((items.toList.take i).length < i) by rw [hfl]; omega)]
  refine wpAny_bind (wpAny_holding (kun_collect (s := { s with heap := h₁ }) (T := "list_iterator") (.inr (.inr (.inl rfl))) (Walks.list (A := A.in1) hh s.heap.objs.size l hlt items) (fun j u st => st.1.typeIs) (k := i) (by omega) ⟨hit₁, hl₁⟩ (Heap.lt_size hoi) (Heap.lt_size hol) (fun h₂ tk hk => ?_) (by rw [sizeLine_eq]; omega)))
  have hrl : (items.toList.drop i).length = items.size - i := by rw [List.length_drop, Array.length_toList]
  have hmid : (items.toList.drop i).length - (i + 1 - 1 - i) = (items.toList.drop i).length := by omega
  show wpAny _ _ (if (items.toList.drop i).length < i + 1 - 1 - i then _ else _) _ _ _
  rw [if_neg (by omega)]
  show wpAny _ _ (newList ((items.toList.drop i).take ((items.toList.drop i).length - (i + 1 - 1 - i))) >>= fun d => pure (items.toList.take i ++ [d] ++ (items.toList.drop i).drop ((items.toList.drop i).length - (i + 1 - 1 - i)))) _ _ _
  rw [hmid, List.take_length, List.drop_length]
  have he : ∀ b o, s.heap.get? b = some o → h₂.get? b = some o := fun b o e => hk b o (Nat.ne_of_lt (Heap.lt_size e)) (hs₁.extBut b o (Nat.ne_of_lt (Heap.lt_size e)) (Heap.get?_push_of_some _ e))
  refine wpAny_bind (wpAny_newObj_type (wpAny_pure ?_) (show (items.toList.drop i).toArray.size ≤ sizeLine by rw [List.size_toArray, hrl, sizeLine_eq]; omega))
  rw [List.append_nil]
  exact h h₂ tk he
theorem kun_starGT {l : Addr} {items : Array Value} {i : Nat} {Q : List Value → Shared → Prop} (ht : IsTup s.heap l items) (hh : A.handled = none) (hi : i ≤ items.size) (hz : items.size ≤ 16384)
    (h : ∀ (h' : Heap) (tk : Nat), (∀ b o, s.heap.get? b = some o → h'.get? b = some o) → Q (items.toList.take i ++ [.ref h'.objs.size]) { s with heap := h'.push { cls := .type "list", data := .seq (items.toList.drop i).toArray }, toks := tk }) : wpAny (model prog w) A (unpackItems (.ref l) (i + 1) (some i)) Q E s := by
  have nel : l ≠ s.heap.objs.size := by
    obtain ⟨o, ho, _⟩ := ht
    exact Nat.ne_of_lt (Heap.lt_size ho)
  unfold unpackItems
  refine wpAny_bind ?_
  unfold notIterableAtAll
  refine wpAny_bind (wpAny_specialOf ht.typeIs slot_tuple_iter.lookup (wpAny_pure ?_))
  simp only [Bool.false_eq_true, if_false]
  refine wpAny_bind (wpAny_holding (iter_tuple ht (wpAny_bind (wpAny_holding (draw_tuple nel i 0 _ _ ⟨_, Heap.get?_push_size _ rfl, rfl, rfl⟩ (ht.push _) (by omega) fun h₁ it1 sb => ?_)))))
  have ht1 : IsTup h₁ l items := (ht.push _).extBut sb.extBut nel
  rw [Nat.zero_add] at it1
  obtain ⟨oi, hoi, _⟩ := id it1
  obtain ⟨ol, hol, _⟩ := id ht1
  rw [List.drop_zero]
  have tl : (items.toList.take i).length = i := by
    rw [List.length_take, Array.length_toList]
    omega
  rw [if_neg (show ¬ ((items.toList.take i).length < i) by rw [tl]; omega)]
  refine wpAny_bind (wpAny_holding (kun_collect (s := { s with heap := h₁ }) (T := "tuple_iterator") (.inr (.inr (.inr rfl))) (Walks.tuple (A := A.in1) hh s.heap.objs.size l nel items) (fun j u st => st.1.typeIs) (k := i) (by omega) ⟨it1, ht1⟩ (Heap.lt_size hoi) (Heap.lt_size hol) (fun h₂ tk hk => ?_) (by rw [sizeLine_eq]; omega)))
  have dl : (items.toList.drop i).length = items.size - i := by rw [List.length_drop, Array.length_toList]
  have ml : (items.toList.drop i).length - (i + 1 - 1 - i) = (items.toList.drop i).length := by omega
  show wpAny _ _ (if (items.toList.drop i).length < i + 1 - 1 - i then _ else _) _ _ _
  rw [if_neg (by omega)]
  show wpAny _ _ (newList ((items.toList.drop i).take ((items.toList.drop i).length - (i + 1 - 1 - i))) >>= fun d => pure (items.toList.take i ++ [d] ++ (items.toList.drop i).drop ((items.toList.drop i).length - (i + 1 - 1 - i)))) _ _ _
  rw [ml, List.take_length, List.drop_length]
  refine wpAny_bind (wpAny_newObj_type (wpAny_pure ?_) (show (items.toList.drop i).toArray.size ≤ sizeLine by rw [List.size_toArray, dl, sizeLine_eq]; omega))
  rw [List.append_nil]
  exact h h₂ tk fun b o e => hk b o (Nat.ne_of_lt (Heap.lt_size e)) (sb.extBut b o (Nat.ne_of_lt (Heap.lt_size e)) (Heap.get?_push_of_some _ e))
end
end PySem.W
namespace Bv
open PySem PySem.Spec L2 PyProof.Rows
section
variable {X : Cx}
def gStar (K : PySem.W.Frag) (i : Nat) (t : TGs) : TG := fun v σ H Q => ∃ a xs, v = .ref a ∧ (SqL K H a xs ∨ SqT K H a xs) ∧ i ≤ xs.length ∧ xs.length ≤ 16384 ∧ ∀ D, H D = none → t (xs.take i ++ [.ref D]) σ (upd H D (.lst (xs.drop i))) Q
theorem pg_starL {es : List Expr} {k i : Nat} {t : TGs} {pos : Pos} (hc : X.calm = true) (h : PGs X es t) (hn : (assignEach es X.env).length = i + 1) (hst : (assignEach es X.env).findIdx? (·.1) = some i) : PG X (.Tuple es k pos) (gStar X.K i t) := by
  refine ⟨fun pins s σ H v u Q I r hw => ?_⟩
  obtain ⟨l, xs, e1, hq, hi, hz, hw⟩ := hw
  subst e1
  cases r
  rw [PyProof.Rows.assign_Tuple]
  refine wpAny_bind (wpAny_standAt ?_)
  unfold unpack
  rw [hn, hst]
  have fin : ∀ (its : List Value), Vals xs its → ∀ (h' : Heap) (tk : Nat), (∀ b o, s.heap.get? b = some o → h'.get? b = some o) → wpAny (model X.prog X.w) X.A (assignInOrder ((assignEach es X.env).map (·.2)) (its.toArray.toList.take i ++ [.ref h'.objs.size])) (fun _ s2 => ∃ σ2 H2, Inv X pins σ2 H2 s2 ∧ Q σ2 H2) X.xe { s with heap := h'.push { cls := .type "list", data := .seq (its.toArray.toList.drop i).toArray }, toks := tk } := fun its rv h' tk he => by
    have I1 : Inv X pins σ H { s with heap := h', toks := tk } := I.kept (t' := tk) he
    have fr := I1.hok.fresh (Nat.le_refl _)
    have I2 : Inv X pins σ (upd H h'.objs.size (.lst (xs.drop i))) { s with heap := h'.push { cls := .type "list", data := .seq (its.toArray.toList.drop i).toArray }, toks := tk } := I1.laid (t' := tk) (fun b u q => Heap.get?_push_of_some _ q) (Nat.le_refl _) ⟨by rw [List.length_drop, sizeLine_eq]; omega, its.drop i, _, rv.drop i, Heap.get?_push_size _ rfl⟩
    exact h.run pins _ σ _ (xs.take i ++ [.ref h'.objs.size]) _ Q I2 ((rv.take i).append (Paired.cons (show RelV (.ref h'.objs.size) (Value.ref h'.objs.size) from rfl) .nil)) (hw _ fr)
  rcases hq with hq | hq
  · obtain ⟨its, rv, pl, hzz⟩ := I.list hq
    have hsz : its.toArray.size = xs.length := by simp [rv.length]
    exact wpAny_bind (wpAny_holding (PySem.W.kun_starG pl.isList (I.ok.hd hc) (by omega) (by omega) (fin its rv)))
  · obtain ⟨its, rv, pl, hzz⟩ := I.tuple hq
    have hsz : its.toArray.size = xs.length := by simp [rv.length]
    exact wpAny_bind (wpAny_holding (PySem.W.kun_starGT pl (I.ok.hd hc) (by omega) (by omega) (fin its rv)))
theorem pgs_star {e : Expr} {es : List Expr} {t : TG} {u : TGs} {p : Pos} (h1 : PG X e t) (h2 : PGs X es u) : PGs X (.Starred e p :: es) (gCons t u) := by
  refine ⟨fun pins s σ H vs us Q I r h => ?_⟩
  obtain ⟨v, vr, e1, h⟩ := h
  subst e1
  cases r with
  | cons r rr =>
    show wpAny _ _ (assignInOrder (assign e X.env :: (assignEach es X.env).map (·.2)) _) _ _ _
    refine assignInOrder_cons (thn (h1.run pins s σ H _ _ _ I r h) fun _ s1 ⟨σ1, H1, I1, q1⟩ => ?_)
    exact h2.run pins s1 σ1 H1 _ _ Q I1 rr q1
end
/-- the names, then the rest as a list -/
theorem star_w {Γ : Gm} {W : WX} {i j : Nat} {ρ : List Addr} {H : Hp} {σ : L2.St} {L : Loc} {S : Sto} {v : V} {a : D} {ds : List D} {x : D} {Q : L2.St → Hp → Prop} (hh : Γ.hot = none) (rl : Rel Γ ρ H σ L S) (r : Rep Γ ρ H v a) (e : seqOf S a = some (x :: ds)) (hz : (x :: ds).length ≤ 16000)
    (q : ∀ ρ' H' σ', ρ <+: ρ' → Ext H H' → Rel Γ ρ' H' σ' ((L.set i (some x)).set j (some (.ref S.length))) (S ++ [.lst ds]) → Q σ' H') : gStar Γ.K 1 (gCons (gName i) (gCons (gName j) gNil)) v σ H Q := by
  obtain ⟨p, xs, rfl, h2, h3⟩ := rl.s.seqD r e
  cases xs with
  | nil => simp only [Reps] at h3
  | cons y ys =>
    simp only [Reps] at h3
    obtain ⟨ry, rys⟩ := h3
    have hl := rys.length
    refine ⟨p, y :: ys, rfl, h2, by simp, by simp only [List.length_cons] at *; omega, fun D hD => ?_⟩
    have pre : ρ <+: ρ ++ [D] := List.prefix_append _ _
    have ex : Ext H (upd H D (.lst ys)) := Ext.new hD
    have s2 : SRel Γ (ρ ++ [D]) (upd H D (.lst ys)) (S ++ [.lst ds]) := rl.s.new hD ⟨ys, upd_same, Reps.mono pre ex ds rys⟩
    have l2 : LRel Γ (ρ ++ [D]) (upd H D (.lst ys)) σ L := rl.l.mono pre ex
    have hs : ∀ n, Γ.hs ≠ some n := fun n => by unfold Gm.hs; rw [hh]; exact fun z => nomatch z
    refine ⟨y, [.ref D], rfl, ?_⟩
    refine ⟨.ref D, [], rfl, rfl, ?_⟩
    refine q (ρ ++ [D]) _ _ pre ex ⟨s2, (l2.set (hs i) (Rep.mono pre ex x ry)).set (hs j) ?_⟩
    simp only [Rep]
    refine ⟨D, rfl, ?_⟩
    rw [← rl.s.len, List.getElem?_append_right (Nat.le_refl _), Nat.sub_self]
    rfl
end Bv
end
section
/-! B1w: instances, their fields and methods; dicts asked and stored to; a[::-1]; comprehensions of dicts; stores -/
namespace Bv
open PySem PySem.Spec L2 PyProof.Rows
variable {Γ : Gm} {X : Cx} {W : WX} {a b c e o : Expr} {pos : Pos} {fa fb fc fe fo : F D}
/-! ### fields -/
section
variable {ρ : List Addr} {H : Hp} {S : Sto}
theorem FReps.get {f : Nat} (hf : f < 18) : ∀ {vs : List (PySem.Str × V)} {fs : List (Nat × D)} {d : D}, FReps Γ ρ H vs fs → getF f fs = some d → ∃ v, vs.lookup (ifl f) = some v ∧ Rep Γ ρ H v d
  | [], [], _, _, h => by simp [getF] at h
  | p :: r, q :: r', d, h, e => by
    simp only [FReps] at h
    obtain ⟨h1, h2, h3, h4⟩ := h
    obtain ⟨n, v⟩ := p
    obtain ⟨g, x⟩ := q
    simp only [getF] at e
    by_cases eg : g = f
    · rw [if_pos eg] at e
      cases e
      refine ⟨v, ?_, h3⟩
      have : n = ifl f := by rw [← eg]; exact h1
      simp [List.lookup, this]
    · rw [if_neg eg] at e
      obtain ⟨w, w1, w2⟩ := FReps.get hf h4 e
      refine ⟨w, ?_, w2⟩
      have : ¬ (ifl f = n) := fun z => eg (ifl_inj h2 hf (by rw [← (show n = ifl g from h1)]; exact z.symm))
      rw [List.lookup_cons, beq_eq_false_iff_ne.mpr this]
      exact w1
  | [], _ :: _, _, h, _ => by simp only [FReps] at h
  | _ :: _, [], _, h, _ => by simp only [FReps] at h
theorem FReps.put {f : Nat} {v : V} {d : D} (hf : f < 18) (r : Rep Γ ρ H v d) : ∀ {vs : List (PySem.Str × V)} {fs : List (Nat × D)}, FReps Γ ρ H vs fs → FReps Γ ρ H (putF (ifl f) v vs) (putI f d fs)
  | [], [], _ => by
    simp only [putF, putI, FReps]
    exact ⟨trivial, hf, r, trivial⟩
  | p :: t, q :: t', h => by
    simp only [FReps] at h
    obtain ⟨h1, h2, h3, h4⟩ := h
    obtain ⟨n, x⟩ := p
    obtain ⟨g, y⟩ := q
    simp only [putF, putI]
    by_cases eg : g = f
    · have : n = ifl f := by rw [← eg]; exact h1
      rw [if_pos eg, if_pos this]
      simp only [FReps]
      exact ⟨h1, h2, r, h4⟩
    · have : ¬ (n = ifl f) := fun z => eg (ifl_inj h2 hf (by rw [← (show n = ifl g from h1)]; exact z))
      rw [if_neg eg, if_neg this]
      simp only [FReps]
      exact ⟨h1, h2, h3, FReps.put hf r h4⟩
  | [], _ :: _, h => by simp only [FReps] at h
  | _ :: _, [], h => by simp only [FReps] at h
theorem FReps.length : ∀ {vs : List (PySem.Str × V)} {fs : List (Nat × D)}, FReps Γ ρ H vs fs → vs.length = fs.length
  | [], [], _ => rfl
  | _ :: _, _ :: _, h => by
    simp only [FReps] at h
    simp [FReps.length h.2.2.2]
  | [], _ :: _, h => by simp only [FReps] at h
  | _ :: _, [], h => by simp only [FReps] at h
/-- no field has such a name -/
theorem FReps.no {m : PySem.Str} (hm : m ∉ iflNames) : ∀ {vs : List (PySem.Str × V)} {fs : List (Nat × D)}, FReps Γ ρ H vs fs → vs.lookup m = none
  | [], [], _ => rfl
  | p :: r, q :: r', h => by
    simp only [FReps] at h
    obtain ⟨h1, h2, h3, h4⟩ := h
    obtain ⟨n, v⟩ := p
    have : ¬ (m = n) := fun z => hm (by
      rw [z, show n = ifl q.1 from h1]
      unfold ifl
      rw [List.getD_eq_getElem?_getD, List.getElem?_eq_getElem (show q.1 < iflNames.length from h2)]
      exact List.getElem_mem _)
    rw [List.lookup_cons, beq_eq_false_iff_ne.mpr this]
    exact FReps.no hm h4
  | [], _ :: _, h => by simp only [FReps] at h
  | _ :: _, [], h => by simp only [FReps] at h
theorem ins_at {x : V} {i k : Nat} {fs : List (Nat × D)} (rs : SRel Γ ρ H S) (r : Rep Γ ρ H x (.ref i)) (e : S[i]? = some (.ins k fs)) : ∃ p dx vs, x = .ref p ∧ ρ[i]? = some p ∧ H p = some (.ins (Γ.ka k) dx vs) ∧ FReps Γ ρ H vs fs ∧ Γ.kl k = true := by
  simp only [Rep] at r
  obtain ⟨p, e1, e2⟩ := r
  obtain ⟨p', e3, h1, dx, vs, h2, h3⟩ := rs.at e
  rw [e2] at e3; cases e3
  exact ⟨p, dx, vs, e1, e2, h2, h3, h1⟩
theorem ins_put {i k f : Nat} {p : Addr} {dx : Addr} {vs : List (PySem.Str × V)} {fs : List (Nat × D)} {v : V} {d : D} {σ : L2.St} {L : Loc} (rl : Rel Γ ρ H σ L S) (hp : ρ[i]? = some p) (e : S[i]? = some (.ins k fs)) (hH : H p = some (.ins (Γ.ka k) dx vs)) (hr : FReps Γ ρ H vs fs) (hk : Γ.kl k = true) (hf : f < 18) (rv : Rep Γ ρ H v d) :
    Ext H (upd H p (.ins (Γ.ka k) dx (putF (ifl f) v vs))) ∧ Rel Γ ρ (upd H p (.ins (Γ.ka k) dx (putF (ifl f) v vs))) σ L (S.set i (.ins k (putI f d fs))) := by
  have ex : Ext H (upd H p (.ins (Γ.ka k) dx (putF (ifl f) v vs))) := Ext.put (fun xs z => by rw [hH] at z; cases z) (fun o u z => by rw [hH] at z; cases z) (fun fs z => by rw [hH] at z; cases z)
  refine ⟨ex, rl.s.put hp e rfl ex ⟨hk, dx, _, upd_same, ?_⟩ rfl, rl.l.mono (List.prefix_refl _) ex⟩
  exact (FReps.put hf rv hr).mono (List.prefix_refl _) ex
end
/-- what is known of the own classes -/
def KlsOk (Γ : Gm) (K : PySem.W.Frag) : Prop := ∀ k, Γ.kl k = true → Cls K (Γ.ka k) ∧ ∀ f, f < 18 → NoAttr K (Γ.ka k) (ifl f)
theorem g_fld {f : Nat} (kl : KlsOk Γ X.K) (hf : f < 18) (ha : PE X a (tD Γ W fa)) (hb : attributeBase a (ifl f) X.env (eval a X.env) = eval a X.env) : PE X (.Attribute a (ifl f) pos) (tD Γ W (fFld fa f)) :=
  PE.weak (pe_fld ha hb) fun σ H Q h => by
    obtain ⟨ρ, L, S, rl, h⟩ := h
    refine ⟨ρ, L, S, rl, Post.bind h fun d S1 ρ1 H1 v p1 e1 rl1 r1 h1 => ?_⟩
    have h1 : Post Γ W (Rep Γ) ρ1 H1 σ L (fldD f d S1) Q := h1
    cases d with
    | ref i =>
      simp only [fldD] at h1
      cases e : S1[i]? with
      | none => simp only [e] at h1; exact h1.elim
      | some o =>
        cases o with
        | ins k fs =>
          simp only [e] at h1
          cases e2 : getF f fs with
          | none => simp only [e2] at h1; exact h1.elim
          | some d' =>
            simp only [e2] at h1
            obtain ⟨p, dx, vs, rfl, hp, hH, hr, hk⟩ := ins_at rl1.s r1 e
            obtain ⟨w, w1, w2⟩ := hr.get hf e2
            obtain ⟨c1, c2⟩ := kl k hk
            exact ⟨p, _, dx, vs, w, rfl, hH, c1, c2 f hf, w1, post_here h1 rl1 w2⟩
        | _ => simp only [e] at h1; exact h1.elim
    | _ => exact h1.elim
/-! ### methods -/
/-- o.m(..), o of any of the text's classes -/
theorem wpAny_Call_methI {prog : Program} {w : World} {A : Around} {E : Value → Shared → Prop} {s : Shared} {env : Env} {o : Expr} {name : PySem.Str} {apos pos : Pos} {args : List Expr} {Q : Value → Shared → Prop}
    (hbase : attributeBase o name env (eval o env) = eval o env)
    (hfew : ((backTo pos (starEach args env)).all (fun x => !x.1) && (backToKw pos (keywordEach [] env)).all (fun x => x.1.isSome)
      && decide (args.length + ([] : List Keyword).length + (if ([] : List Keyword).isEmpty then 0 else 1) < 30)) = true)
    (hline : (apos.endLine == pos.line) = true)
    (h : wpAny (model prog w) A (eval o env) (fun ov s₁ => ∀ pl, wpAny (model prog w) A (getMethod ov name pl) (fun fx s₂ => wpAny (model prog w) A (callWith pos fx.1 fx.2 (backTo pos (starEach args env)) []) Q E s₂) E s₁) E s) :
    wpAny (model prog w) A (eval (.Call (.Attribute o name apos) args [] pos) env) Q E s := by
  rw [arm_eval_Call, hbase]
  refine wpAny_bind (wpAny_mono h (fun ov s₁ h₁ => ?_) fun _ _ e => e)
  refine wpAny_bind (wpAny_standAt ?_)
  have hform : methodCallForm (args.length + ([] : List Keyword).length) (backTo pos (starEach args env)) (backToKw pos (keywordEach [] env)) = true := hfew
  have hpos : methodCallPos true o env apos pos = pure pos := by unfold methodCallPos; simp [hline]
  unfold methodCall
  rw [hform]
  refine wpAny_bind (wpAny_holding (wpAny_mono (h₁ _) (fun fx s₂ h₂ => ?_) fun _ _ e => e))
  exact wpAny_bind (wpAny_of_eq hpos h₂)

section
variable {CX : CXT} {k : Nat} {E : L2.St → XK} {m : PySem.Str} {apos : Pos} {es : List Expr} {t : TA} {ta : TE}
/-- R: the class, the method's place, its promise -/
def tMeths (R : Addr → Addr → Sp → Prop) (m : PySem.Str) (E : L2.St → XK) (ta : TE) (t : TA) : TE := fun σ H Q => ta σ H fun x H1 => ∃ p C dx fs f sp, x = .ref p ∧ H1 p = some (.ins C dx fs) ∧ fs.lookup m = none ∧ R C f sp ∧ t σ H1 fun vs H2 => sp (x :: vs) H2 Q (E σ)
theorem pe_meths {R : Addr → Addr → Sp → Prop} (he : PE X o ta) (hR : ∀ C f sp, R C f sp → ∃ fd ps, Cls X.K C ∧ Meth X.K C m f ∧ FnOk X.prog X.w X.K X.mg X.base CX k f fd ps sp ∧ Binds X.K fd ps []) (hr : Room k X.A) (hx : ∀ σ, PassesAt CX X σ (E σ)) (ha : PA X (e :: es) t)
    (hst : starEach (e :: es) X.env = (false, eval e X.env) :: starEach es X.env) (hpl : (backTo pos (starEach es X.env)).any (·.1) = false)
    (hbase : attributeBase o m X.env (eval o X.env) = eval o X.env)
    (hfew : ((backTo pos (starEach (e :: es) X.env)).all (fun x => !x.1) && (backToKw pos (keywordEach [] X.env)).all (fun x => x.1.isSome)
      && decide ((e :: es).length + ([] : List Keyword).length + (if ([] : List Keyword).isEmpty then 0 else 1) < 30)) = true)
    (hline : (apos.endLine == pos.line) = true) :
    PE X (.Call (.Attribute o m apos) (e :: es) [] pos) (tMeths R m E ta t) := by
  refine ⟨fun pins s σ H Q I h => ?_⟩
  refine wpAny_Call_methI hbase hfew hline (thn (he.run pins s σ H _ I h) fun u s1 ⟨x, H1, I1, rx, p, C, dx, fs, f, sp, ex, ea, l, r, q⟩ => fun pl => ?_)
  subst ex
  obtain rfl : u = Value.ref p := rx
  obtain ⟨fd, ps, c, hm, F, hb⟩ := hR C f sp r
  refine getmeth_ok I1 ea c hm l ?_
  refine PySem.W.callWith_K (first := [.ref p]) (h₀ := X.base) I.ok.mod.kin hm.kp (thn (ha.run pos pins s1 σ H1 _ I1 q) fun us s2 ⟨vs, H2, I2, r, q2⟩ => ⟨I2.kIn, ?_⟩) hst hpl
  exact run_fnSD (us := .ref p :: us) (vs := .ref p :: vs) (ds := []) (dvs := []) F hr hb .nil (hx σ) I2 (.cons rfl r) (by rw [List.append_nil]; exact q2)
theorem pe_meths0 {R : Addr → Addr → Sp → Prop} (he : PE X o ta) (hR : ∀ C f sp, R C f sp → ∃ fd ps, Cls X.K C ∧ Meth X.K C m f ∧ FnOk X.prog X.w X.K X.mg X.base CX k f fd ps sp ∧ Binds X.K fd ps []) (hr : Room k X.A) (hx : ∀ σ, PassesAt CX X σ (E σ))
    (hbase : attributeBase o m X.env (eval o X.env) = eval o X.env) (hline : (apos.endLine == pos.line) = true) :
    PE X (.Call (.Attribute o m apos) [] [] pos) (tMeths R m E ta tNil) := by
  refine ⟨fun pins s σ H Q I h => ?_⟩
  refine wpAny_Call_methI hbase rfl hline (thn (he.run pins s σ H _ I h) fun u s1 ⟨x, H1, I1, rx, p, C, dx, fs, f, sp, ex, ea, l, r, q⟩ => fun pl => ?_)
  subst ex
  obtain rfl : u = Value.ref p := rx
  obtain ⟨fd, ps, c, hm, F, hb⟩ := hR C f sp r
  refine getmeth_ok I1 ea c hm l ?_
  exact PySem.W.callWith_K0 (first := [.ref p]) I1.kIn hm.kp (run_fnSD (us := [.ref p]) (vs := [.ref p]) (ds := []) (dvs := []) F hr hb .nil (hx σ) I1 (.cons rfl .nil) (by rw [List.append_nil]; exact q))
end

/-! ### instances made -/
section
variable {CX : CXT} {k n : Nat} {E : L2.St → XK} {x : PySem.Str} {f C : Addr} {fd : FuncData} {ps : List PySem.Str} {sp : Sp} {dvs : List V} {ds : List Value} {p : Pos} {es : List Expr} {t tk : TA}
theorem run_makeS {pins : List (Addr × Obj)} {σ : L2.St} {H : Hp} {s : Shared} {Q : VK} {us : List Value} {vs : List V} (M : Mk X.K C f) (F : FnOk X.prog X.w X.K X.mg X.base CX k f fd ps sp) (hr : Room (k + 1) X.A) (hb : Binds X.K fd ps ds) (hd : Vals dvs ds)
    (hx : PassesAt CX X σ (E σ)) (I : Inv X pins σ H s) (r : Vals vs us)
    (h : ∀ x dx, H x = none → H dx = none → dx ≠ x → sp (.ref x :: (vs ++ dvs)) (upd (upd H dx (.own x)) x (.ins C dx [])) (fun v H2 => v = .non ∧ Q (.ref x) H2) (E σ)) :
    wpAny (model X.prog X.w) X.A (call (.ref C) us) (EP X pins σ Q) X.xe s := by
  have hq := h (s.heap.objs.size + 1) s.heap.objs.size (I.hok.fresh (Nat.le_succ _)) (I.hok.fresh (Nat.le_refl _)) (Nat.ne_of_lt (Nat.lt_succ_self _))
  have I2 := Inv.made (C := C) I
  have r2 : Vals (V.ref (s.heap.objs.size + 1) :: (vs ++ dvs)) (Value.ref (s.heap.objs.size + 1) :: (us ++ ds)) := .cons rfl (r.append hd)
  have hl : (Value.ref (s.heap.objs.size + 1) :: us ++ ds).length = ps.length := by
    have e := r2.length
    rw [F.len _ _ _ _ hq] at e
    exact e.symm
  refine wpAny_call (make_map (f := f) I.kIn M.makes M.init (beq_iff_eq.mp M.fn) (codeAny_mono (F.run _ X.stack _ _ ⟨Value.ref (s.heap.objs.size + 1) :: us, []⟩ (Value.ref (s.heap.objs.size + 1) :: (us ++ ds)) _ _ (E σ) (hr.make C us [])
    (I2.env0.make C us []) (hb _ (Value.ref (s.heap.objs.size + 1) :: us) I2.kIn hl) r2 hq) fun r s' hq' => ?_))
  cases r with
  | error e => exact hx pins _ _ e s' I2 hq'
  | ok fl =>
    cases fl with
    | ret u =>
      obtain ⟨v, H', I3, rv, ev, q3⟩ := I2.after hq'
      subst ev
      exact ⟨rv, ⟨V.ref (s.heap.objs.size + 1), H', I3, rfl, q3⟩⟩
    | next => exact False.elim hq'
    | brk => exact False.elim hq'
    | cont => exact False.elim hq'
theorem run_makeKS {pins : List (Addr × Obj)} {σ : L2.St} {H : Hp} {s : Shared} {Q : VK} {us ws : List Value} {vs zs : List V} {ks : List PySem.Str} {g : List Value → List Value → List Value} {gV : List V → List V → List V} (M : Mk X.K C f) (F : FnOk X.prog X.w X.K X.mg X.base CX k f fd ps sp) (hr : Room (k + 1) X.A) (hb : KBn X.K fd ps (n + 1) ks g gV) (hx : PassesAt CX X σ (E σ))
    (I : Inv X pins σ H s) (r : Vals vs us) (rz : Vals zs ws) (l1 : vs.length = n) (l2 : zs.length = ks.length)
    (h : ∀ x dx, H x = none → H dx = none → dx ≠ x → sp (gV (.ref x :: vs) zs) (upd (upd H dx (.own x)) x (.ins C dx [])) (fun v H2 => v = .non ∧ Q (.ref x) H2) (E σ)) :
    wpAny (model X.prog X.w) X.A (call (.ref C) us (ks.zip ws)) (EP X pins σ Q) X.xe s := by
  have hq := h (s.heap.objs.size + 1) s.heap.objs.size (I.hok.fresh (Nat.le_succ _)) (I.hok.fresh (Nat.le_refl _)) (Nat.ne_of_lt (Nat.lt_succ_self _))
  have I2 := Inv.made (C := C) I
  have r1 : Vals (V.ref (s.heap.objs.size + 1) :: vs) (Value.ref (s.heap.objs.size + 1) :: us) := .cons rfl r
  have r2 := hb.rel r1 rz
  have n1 : (Value.ref (s.heap.objs.size + 1) :: us).length = n + 1 := by
    rw [List.length_cons, ← r.length, l1]
  refine wpAny_call (make_map (f := f) I.kIn M.makes M.init (beq_iff_eq.mp M.fn) (codeAny_mono (F.run _ X.stack _ _ ⟨Value.ref (s.heap.objs.size + 1) :: us, ks.zip ws⟩ (g (Value.ref (s.heap.objs.size + 1) :: us) ws) _ _ (E σ) (hr.make C us (ks.zip ws))
    (I2.env0.make C us (ks.zip ws)) (hb.to _ (Value.ref (s.heap.objs.size + 1) :: us) ws I2.kIn n1 (rz.length.symm.trans l2)) r2 hq) fun r s' hq' => ?_))
  cases r with
  | error e => exact hx pins _ _ e s' I2 hq'
  | ok fl =>
    cases fl with
    | ret u =>
      obtain ⟨v, H', I3, rv, ev, q3⟩ := I2.after hq'
      subst ev
      exact ⟨rv, ⟨V.ref (s.heap.objs.size + 1), H', I3, rfl, q3⟩⟩
    | next => exact False.elim hq'
    | brk => exact False.elim hq'
    | cont => exact False.elim hq'
def tMakeS (C : Addr) (sp : Sp) (dvs : List V) (E : L2.St → XK) (t : TA) : TE := fun σ H Q => t σ H fun vs H1 => ∀ x dx, H1 x = none → H1 dx = none → dx ≠ x →
  sp (.ref x :: (vs ++ dvs)) (upd (upd H1 dx (.own x)) x (.ins C dx [])) (fun v H2 => v = .non ∧ Q (.ref x) H2) (E σ)
theorem pe_makeS (M : Mk X.K C f) (F : FnOk X.prog X.w X.K X.mg X.base CX k f fd ps sp) (hr : Room (k + 1) X.A) (hg : Gl X x) (hm : X.mg x = some (.ref C)) (hb : Binds X.K fd ps ds) (hd : Vals dvs ds) (hx : ∀ σ, PassesAt CX X σ (E σ))
    (ha : PA X (e :: es) t) (hdb : (x == ("__debug__" : PySem.Str)) = false) (he : starEach (e :: es) X.env = (false, eval e X.env) :: starEach es X.env) (hpl : (backTo pos (starEach es X.env)).any (·.1) = false) :
    PE X (.Call (.Name x p) (e :: es) [] pos) (tMakeS C sp dvs E t) := by
  refine ⟨fun pins s σ H Q I h => ?_⟩
  refine wpAny_Call_Name_kw (ld_glob I hg hm ?_ hdb)
  refine PySem.W.callWith_K (h₀ := X.base) I.ok.mod.kin M.kp (thn (ha.run pos pins s σ H _ I h) fun us s1 ⟨vs, H1, I1, r, q⟩ => ⟨I1.kIn, ?_⟩) he hpl
  exact run_makeS M F hr hb hd (hx σ) I1 r q
theorem pe_makeS0 (M : Mk X.K C f) (F : FnOk X.prog X.w X.K X.mg X.base CX k f fd ps sp) (hr : Room (k + 1) X.A) (hg : Gl X x) (hm : X.mg x = some (.ref C)) (hb : Binds X.K fd ps ds) (hd : Vals dvs ds) (hx : ∀ σ, PassesAt CX X σ (E σ)) (hdb : (x == ("__debug__" : PySem.Str)) = false) :
    PE X (.Call (.Name x p) [] [] pos) (tMakeS C sp dvs E tNil) := by
  refine ⟨fun pins s σ H Q I h => ?_⟩
  refine wpAny_Call_Name_kw (ld_glob I hg hm ?_ hdb)
  exact PySem.W.callWith_K0 I.kIn M.kp (run_makeS (us := []) M F hr hb hd (hx σ) I .nil h)
theorem pe_makeK0S {kn : PySem.Str} {v : Expr} {kpos : Pos} {g : List Value → List Value → List Value} {gV : List V → List V → List V} (M : Mk X.K C f) (F : FnOk X.prog X.w X.K X.mg X.base CX k f fd ps sp) (hr : Room (k + 1) X.A) (hg : Gl X x) (hm : X.mg x = some (.ref C)) (hb : KBn X.K fd ps 1 [kn] g gV) (hx : ∀ σ, PassesAt CX X σ (E σ)) (hkw : PK X [⟨some kn, v, kpos⟩] tk) (hdb : (x == ("__debug__" : PySem.Str)) = false) :
    PE X (.Call (.Name x p) [] [⟨some kn, v, kpos⟩] pos) (fun σ H Q => tk σ H fun zs H2 => zs.length = 1 ∧ ∀ x dx, H2 x = none → H2 dx = none → dx ≠ x → sp (gV [.ref x] zs) (upd (upd H2 dx (.own x)) x (.ins C dx [])) (fun v H3 => v = .non ∧ Q (.ref x) H3) (E σ)) := by
  refine ⟨fun pins s σ H Q I h => ?_⟩
  refine wpAny_Call_Name_kw (ld_glob I hg hm ?_ hdb)
  refine PySem.W.callWith_KW0 (h₀ := X.base) I.ok.mod.kin M.kp rfl ?_ rfl
  refine thn (hkw.run pos pins s σ H _ I h) fun ws s2 ⟨zs, H2, I2, rz, l2, q2⟩ => ⟨I2.kIn, ?_⟩
  exact run_makeKS (us := []) (vs := []) (n := 0) M F hr hb (hx σ) I2 .nil rz rfl l2 q2
/-- f() -/
theorem pe_call0S (F : FnOk X.prog X.w X.K X.mg X.base CX k f fd ps sp) (hr : Room k X.A) (hg : Gl X x) (hm : X.mg x = some (.ref f)) (hk : PySem.W.keepIn X.K (.ref f) = true) (hb : Binds X.K fd ps ds) (hd : Vals dvs ds) (hx : ∀ σ, PassesAt CX X σ (E σ))
    (hdb : (x == ("__debug__" : PySem.Str)) = false) : PE X (.Call (.Name x p) [] [] pos) (tCallSD sp dvs E tNil) := by
  refine ⟨fun pins s σ H Q I h => ?_⟩
  refine wpAny_Call_Name_kw (ld_glob I hg hm ?_ hdb)
  exact PySem.W.callWith_K0 I.kIn hk (run_fnSD (us := []) F hr hb hd (hx σ) I .nil h)
end
/-- a new instance stands there -/
theorem new_ins {ρ : List Addr} {H : Hp} {σ : L2.St} {L : Loc} {S : Sto} {x dx : Addr} {k : Nat} (hk : Γ.kl k = true) (rl : Rel Γ ρ H σ L S) (hx : H x = none) (hdx : H dx = none) (ne : dx ≠ x) :
    Rel Γ (ρ ++ [x]) (upd (upd H dx (.own x)) x (.ins (Γ.ka k) dx [])) σ L (S ++ [.ins k []]) ∧ ρ <+: ρ ++ [x] ∧ Ext H (upd (upd H dx (.own x)) x (.ins (Γ.ka k) dx [])) ∧ (ρ ++ [x])[S.length]? = some x := by
  have e1 : Ext H (upd H dx (.own x)) := Ext.new hdx
  have hx1 : upd H dx (.own x) x = none := by rw [upd_ne (Ne.symm ne)]; exact hx
  have e2 : Ext (upd H dx (.own x)) (upd (upd H dx (.own x)) x (.ins (Γ.ka k) dx [])) := Ext.new hx1
  have s1 : SRel Γ ρ (upd H dx (.own x)) S := rl.s.keep e1 fun a ha => upd_ne fun z => ha (by rw [z]; exact hdx)
  have pre : ρ <+: ρ ++ [x] := List.prefix_append _ _
  refine ⟨⟨s1.new hx1 ⟨hk, dx, [], upd_same, by simp only [FReps]⟩, rl.l.mono pre (e1.trans e2)⟩, pre, e1.trans e2, ?_⟩
  rw [← rl.s.len, List.getElem?_append_right (Nat.le_refl _), Nat.sub_self]
  rfl
/-- what a class's call does -/
def mkM (np k : Nat) (c0 : List D → M D) (vs : List D) : M D := fun S => if vs.length = np then M.bind (c0 (.ref S.length :: vs)) (fun d => match d with
  | .non => M.pure (.ref S.length)
  | _ => M.bad) (S ++ [O.ins k []]) else .bad
theorem post_make {ρ : List Addr} {H : Hp} {σ : L2.St} {L : Loc} {S : Sto} {np k : Nat} {c0 : List D → M D} {vs : List V} {ds : List D} {Q : VK} (hk : Γ.kl k = true) (rl : Rel Γ ρ H σ L S) (r : Reps Γ ρ H vs ds) (h : Post Γ W (Rep Γ) ρ H σ L (mkM np k c0 ds S) Q) :
    ∀ x dx, H x = none → H dx = none → dx ≠ x → spF Γ (np + 1) c0 (.ref x :: vs) (upd (upd H dx (.own x)) x (.ins (Γ.ka k) dx [])) (fun v H2 => v = .non ∧ Q (.ref x) H2) (WE W σ) := by
  intro x dx hx hdx ne
  unfold mkM at h
  by_cases hl : ds.length = np
  · rw [if_pos hl] at h
    obtain ⟨rl2, pre, ex, at_⟩ := new_ins hk rl hx hdx ne
    refine ⟨ρ ++ [x], S ++ [.ins k []], .ref S.length :: ds, rl2.s, ?_, by simp [hl], ?_⟩
    · rw [Reps.cons_iff]
      exact ⟨_, _, rfl, by simp only [Rep]; exact ⟨x, rfl, at_⟩, Reps.mono pre ex ds r⟩
    · refine Post.toC rl2.l (Post.bind (Post.mono pre ex h) fun d S' ρ' H' v p' e' rl' r' h' => ?_)
      cases d with
      | non =>
        rw [rep_non] at r'
        refine ⟨r', ?_⟩
        exact h' ρ' H' (.ref x) (List.prefix_refl _) (Ext.refl _) rl' (by simp only [Rep]; exact ⟨x, rfl, get_pre p' at_⟩)
      | _ => exact h'.elim
  · rw [if_neg hl] at h
    exact h.elim
/-! ### a[::-1] -/
theorem Reps.reverse {ρ : List Addr} {H : Hp} : ∀ {vs : List V} {ds : List D}, Reps Γ ρ H vs ds → Reps Γ ρ H vs.reverse ds.reverse
  | [], [], h => by simpa using h
  | v :: vs, d :: ds, h => by
    simp only [Reps] at h
    rw [List.reverse_cons, List.reverse_cons]
    exact Reps.append (Reps.reverse h.2) (by simp only [Reps]; exact ⟨h.1, trivial⟩)
  | [], _ :: _, h => by simp only [Reps] at h
  | _ :: _, [], h => by simp only [Reps] at h
theorem g_rev {j : Nat} {p1 p2 p3 : Pos} (hK : X.K = Γ.K) (ha : PE X a (tD Γ W fa)) : PE X (.Subscript a (.Slice none none (some (.UnaryOp .USub (.Constant (.int 1) j p1) p2)) p3) pos) (tD Γ W (fRev fa)) :=
  PE.weak (pe_revL ha) fun σ H Q h => by
    obtain ⟨ρ, L, S, rl, h⟩ := h
    refine ⟨ρ, L, S, rl, Post.bind h fun d S1 ρ1 H1 v p1 e1 rl1 r1 h1 => ?_⟩
    have h1 : Post Γ W (Rep Γ) ρ1 H1 σ L (revD d S1) Q := h1
    cases d with
    | ref i =>
      simp only [revD] at h1
      cases e : S1[i]? with
      | none => simp only [e] at h1; exact h1.elim
      | some o =>
        cases o with
        | lst ds =>
          simp only [e] at h1
          obtain ⟨p, xs, rfl, hp, hH, hr⟩ := lst_at (d := .ref i) rl1 r1 e
          exact ⟨p, xs, rfl, SqL.of hH, fun q hq => new_list rl1 hr.reverse hq h1⟩
        | _ => simp only [e] at h1; exact h1.elim
    | _ => exact h1.elim
/-! ### d.get -/
theorem getK_none {d : D} : ∀ {kd : List (D × D)}, getK d kd = none → (kd.any fun p => eqKey p.1 d) = false
  | [], _ => rfl
  | z :: zs, eg => by
    obtain ⟨k, v⟩ := z
    simp only [getK] at eg
    split at eg
    · cases eg
    · rename_i hne
      simp only [List.any_cons, Bool.or_eq_false_iff]
      exact ⟨by simpa using hne, getK_none eg⟩
section
variable {ρ : List Addr} {H : Hp} {σ : L2.St} {L : Loc} {S : Sto}
theorem isDct_w {α β : Type} {rep : List Addr → Hp → β → α → Prop} {d : D} {v : V} {k : Unit → M α} {Q : β → Hp → Prop} (rl : Rel Γ ρ H σ L S) (r : Rep Γ ρ H v d) (h : Post Γ W rep ρ H σ L (M.bind (isDct d) k S) Q) : ∃ i p kv, d = .ref i ∧ v = .ref p ∧ ρ[i]? = some p ∧ H p = some (.dK kv) ∧ Post Γ W rep ρ H σ L (k () S) Q := by
  cases d with
  | ref i =>
    unfold M.bind at h
    simp only [isDct] at h
    cases e : S[i]? with
    | none => simp only [e] at h; exact h.elim
    | some o =>
      cases o with
      | dct kd =>
        simp only [e] at h
        obtain ⟨p, kv, rfl, hp, hH, _⟩ := dct_at rl.s r e
        exact ⟨i, p, kv, rfl, rfl, hp, hH, h⟩
      | _ => simp only [e] at h; exact h.elim
  | _ => exact h.elim
theorem dget_w {α β : Type} {rep : List Addr → Hp → β → α → Prop} {i : Nat} {p : Addr} {d : D} {y : V} {k : Option D → M α} {Q : β → Hp → Prop} (hp : ρ[i]? = some p) (rl : Rel Γ ρ H σ L S) (r : Rep Γ ρ H y d) (h : Post Γ W rep ρ H σ L (M.bind (dgetD d (.ref i)) k S) Q) : ∃ o od, DGet H p y o ∧ (match o, od with
    | some v, some e => Rep Γ ρ H v e
    | none, none => True
    | _, _ => False) ∧ Post Γ W rep ρ H σ L (k od S) Q := by
  unfold M.bind at h
  simp only [dgetD] at h
  cases e : S[i]? with
  | none => simp only [e] at h; exact h.elim
  | some o =>
    cases o with
    | dct kd =>
      simp only [e] at h
      obtain ⟨p', kv, ev, hp', hH, hr⟩ := dct_at (x := .ref p) rl.s (by simp only [Rep]; exact ⟨p, rfl, hp⟩) e
      cases ev
      by_cases hk : isKey d = true
      · simp only [if_pos hk] at h
        obtain ⟨q, hq⟩ := isKey_kD hk
        have := rep_key r hq
        subst this
        refine ⟨_, getK d kd, DGet.k hH, ?_, h⟩
        cases eg : getK d kd with
        | some x =>
          obtain ⟨w, w1, w2⟩ := hr.get hq eg
          simp only [w1]
          exact w2
        | none =>
          have : valV kv q = none := by
            have h1 := valV_any q kv
            rw [← hr.any hq] at h1
            have h2 : (kd.any fun p => eqKey p.1 d) = false := getK_none eg
            rw [h2] at h1
            cases ev : valV kv q with
            | none => rfl
            | some _ => rw [ev] at h1; cases h1
          simp only [this]
      · simp only [if_neg hk] at h
        exact h.elim
    | _ => simp only [e] at h; exact h.elim
end
theorem g_dget2 {f : Expr} {ff : F D} {apos : Pos} (hu : X.A.units + 1 < cLine) (ho : PE X o (tD Γ W fo)) (he : PE X e (tD Γ W fe)) (hf : PE X f (tD Γ W ff)) (m : M2 X o "get" apos e f pos) : PE X (.Call (.Attribute o "get" apos) [e, f] [] pos) (tD Γ W (fDget2 fo fe ff)) :=
  PE.weak (pe_dget2 hu ho he hf m) fun σ H Q h => by
    obtain ⟨ρ, L, S, rl, h⟩ := h
    refine ⟨ρ, L, S, rl, Post.bind h fun d S1 ρ1 H1 v p1 e1 rl1 r1 h1 => ?_⟩
    obtain ⟨i, p, kv, rfl, rfl, hp, hH, h1⟩ := isDct_w rl1 r1 h1
    refine ⟨p, rfl, .inl ⟨kv, .inl hH⟩, ρ1, L, S1, rl1, Post.bind h1 fun y S2 ρ2 H2 yv p2 e2 rl2 r2 h2 => ⟨ρ2, L, S2, rl2, Post.bind h2 fun z S3 ρ3 H3 zv p3 e3 rl3 r3 h3 => ?_⟩⟩
    obtain ⟨o, od, g1, g2, g3⟩ := dget_w (get_pre p3 (get_pre p2 hp)) rl3 (Rep.mono p3 e3 y r2) h3
    refine ⟨o, g1, ?_⟩
    cases o with
    | some w =>
      cases od with
      | some e' => exact post_here g3 rl3 g2
      | none => exact g2.elim
    | none =>
      cases od with
      | some e' => exact g2.elim
      | none => exact post_here g3 rl3 r3
theorem g_dget1 {apos : Pos} (hu : X.A.units + 1 < cLine) (ho : PE X o (tD Γ W fo)) (he : PE X e (tD Γ W fe)) (m : M1 X o "get" apos e pos) : PE X (.Call (.Attribute o "get" apos) [e] [] pos) (tD Γ W (fDget1 fo fe)) :=
  PE.weak (pe_dget1 hu ho he m) fun σ H Q h => by
    obtain ⟨ρ, L, S, rl, h⟩ := h
    refine ⟨ρ, L, S, rl, Post.bind h fun d S1 ρ1 H1 v p1 e1 rl1 r1 h1 => ?_⟩
    obtain ⟨i, p, kv, rfl, rfl, hp, hH, h1⟩ := isDct_w rl1 r1 h1
    refine ⟨p, rfl, .inl ⟨kv, .inl hH⟩, ρ1, L, S1, rl1, Post.bind h1 fun y S2 ρ2 H2 yv p2 e2 rl2 r2 h2 => ?_⟩
    obtain ⟨o, od, g1, g2, g3⟩ := dget_w (get_pre p2 hp) rl2 r2 h2
    refine ⟨o, g1, ?_⟩
    cases o with
    | some w =>
      cases od with
      | some e' => exact post_here g3 rl2 g2
      | none => exact g2.elim
    | none =>
      cases od with
      | some e' => exact g2.elim
      | none => exact post_here g3 rl2 (rep_non.mpr rfl)

/-! ### stores -/
section
variable {ρ : List Addr} {H : Hp} {σ : L2.St} {L : Loc} {S : Sto}
theorem setF_w {α β : Type} {rep : List Addr → Hp → β → α → Prop} {f : Nat} {d x : D} {v xv : V} {k : Unit → M α} {Q : β → Hp → Prop} (hf : f < 18) (rl : Rel Γ ρ H σ L S) (rv : Rep Γ ρ H v d) (r : Rep Γ ρ H xv x) (h : Post Γ W rep ρ H σ L (M.bind (setFD f d x) k S) Q) :
    ∃ p kk dx fs S', xv = .ref p ∧ H p = some (.ins (Γ.ka kk) dx fs) ∧ Γ.kl kk = true ∧ fs.length < 1000 ∧ Ext H (upd H p (.ins (Γ.ka kk) dx (putF (ifl f) v fs))) ∧ Rel Γ ρ (upd H p (.ins (Γ.ka kk) dx (putF (ifl f) v fs))) σ L S' ∧ Post Γ W rep ρ (upd H p (.ins (Γ.ka kk) dx (putF (ifl f) v fs))) σ L (k () S') Q := by
  cases x with
  | ref i =>
    unfold M.bind at h
    simp only [setFD] at h
    cases e : S[i]? with
    | none => simp only [e] at h; exact h.elim
    | some o =>
      cases o with
      | ins kk fs =>
        simp only [e] at h
        by_cases hl : fs.length < 900
        · simp only [if_pos hl] at h
          obtain ⟨p, dx, vs, rfl, hp, hH, hr, hk⟩ := ins_at rl.s r e
          obtain ⟨ex, rl'⟩ := ins_put rl hp e hH hr hk hf rv
          exact ⟨p, kk, dx, vs, _, rfl, hH, hk, by rw [hr.length]; omega, ex, rl', Post.mono (List.prefix_refl _) ex h⟩
        · simp only [if_neg hl] at h; exact h.elim
      | _ => simp only [e] at h; exact h.elim
  | _ => exact h.elim
theorem dput_w {α β : Type} {rep : List Addr → Hp → β → α → Prop} {y d x : D} {yv v xv : V} {k : Unit → M α} {Q : β → Hp → Prop} (rl : Rel Γ ρ H σ L S) (ry : Rep Γ ρ H yv y) (rv : Rep Γ ρ H v d) (r : Rep Γ ρ H xv x) (h : Post Γ W rep ρ H σ L (M.bind (dputD y d x) k S) Q) :
    ∃ p H' S', xv = .ref p ∧ DPut H p yv v H' ∧ Ext H H' ∧ Rel Γ ρ H' σ L S' ∧ Post Γ W rep ρ H' σ L (k () S') Q := by
  cases x with
  | ref i =>
    unfold M.bind at h
    simp only [dputD] at h
    cases e : S[i]? with
    | none => simp only [e] at h; exact h.elim
    | some o =>
      cases o with
      | dct kd =>
        simp only [e] at h
        by_cases hl : isKey y = true ∧ kd.length < 16000000
        · simp only [if_pos hl] at h
          obtain ⟨p, kv, rfl, hp, hH, hr⟩ := dct_at rl.s r e
          obtain ⟨q, hq⟩ := isKey_kD hl.1
          have := rep_key ry hq
          subst this
          have ex : Ext H (upd H p (.dK (L2.putK kv q v))) := Ext.put (fun xs z => by rw [hH] at z; cases z) (fun o u z => by rw [hH] at z; cases z) (fun fs z => by rw [hH] at z; cases z)
          refine ⟨p, _, S.set i (.dct (putK y d kd)), rfl, DPut.k hH (by rw [hr.length]; exact Nat.lt_of_lt_of_le hl.2 (by decide)), ex, ⟨rl.s.put hp e rfl ex ⟨_, upd_same, ?_⟩ rfl, rl.l.mono (List.prefix_refl _) ex⟩, Post.mono (List.prefix_refl _) ex h⟩
          exact (KReps.put hq rv hr).mono (List.prefix_refl _) ex
        · simp only [if_neg hl] at h; exact h.elim
      | _ => simp only [e] at h; exact h.elim
  | _ => exact h.elim
end
/-- the reading of a store -/
def gTx (Γ : Gm) (W : WX) (f : D → SF) : TG := fun v σ H Q => ∃ ρ L S d, Rel Γ ρ H σ L S ∧ Rep Γ ρ H v d ∧ PostF Γ W { nx := Q, rt := fun _ _ => False } ρ H (f d L S)
theorem pg_nameX {C : Nat → List D → M D} {i : Nat} {x : PySem.Str} (hh : Γ.hs ≠ some i) (h : PG X (.Name x pos) (gName i)) : PG X (.Name x pos) (gTx Γ W (sTx C (.name i))) :=
  ⟨fun pins s σ H v u Q I r ⟨ρ, L, S, d, rl, rv, q⟩ => h.run pins s σ H v u Q I r (by
    show Q (σ.set i (some v)) H
    exact postF_next (D := { nx := Q, rt := fun _ _ => False }) q ⟨rl.s, rl.l.set hh rv⟩)⟩
theorem pg_fldX {C : Nat → List D → M D} {oe : E} {f : Nat} (kl : KlsOk Γ X.K) (hf : f < 18) (ho : PE X o (tD Γ W (ev C oe).e)) : PG X (.Attribute o (ifl f) pos) (gTx Γ W (sTx C (.fld oe f))) := by
  refine ⟨fun pins s σ H v u Q I r ⟨ρ, L, S, d, rl, rv, q⟩ => ?_⟩
  rw [assign_Attribute]
  have q : PostF Γ W { nx := Q, rt := fun _ _ => False } ρ H (sB (fun L => M.bind ((ev C oe).e L) fun x => M.bind (setFD f d x) fun _ => M.pure L) (fun L' _ => M.pure (.next L')) L S) := q
  have q2 : tD Γ W (ev C oe).e σ H fun x H1 => ∃ p kk dx fs, x = .ref p ∧ H1 p = some (.ins (Γ.ka kk) dx fs) ∧ Γ.kl kk = true ∧ fs.length < 1000 ∧ Q σ (upd H1 p (.ins (Γ.ka kk) dx (putF (ifl f) v fs))) := by
    refine ⟨ρ, L, S, rl, ?_⟩
    have q3 := PostF.bnd (rep := fun ρ' H' (_ : Unit) (L' : Loc) => L' = L) (Q := fun _ H' => Q σ H') rl q fun L' S' ρ' H' _ p' e' rl' hL h' => by
      subst hL
      exact postF_next (D := { nx := Q, rt := fun _ _ => False }) h' rl'
    refine Post.bind q3 fun x S1 ρ1 H1 xv p1 e1 rl1 r1 h1 => ?_
    obtain ⟨p, kk, dx, fs, S', ex, hH, hk, hl, _, rl', h2⟩ := setF_w hf rl1 (Rep.mono p1 e1 d rv) r1 h1
    exact ⟨p, kk, dx, fs, ex, hH, hk, hl, post_here (v := ()) h2 rl' rfl⟩
  refine wpAny_bind (wpAny_holding (thn (ho.run pins s σ H _ I q2) fun ov s1 ⟨x, H1, I1, rx, p, kk, dx, fs, ex, hH, hk, hl, q3⟩ => ?_))
  subst ex
  obtain rfl : ov = Value.ref p := rx
  obtain ⟨c1, c2⟩ := kl kk hk
  refine wpAny_bind (wpAny_standAt (wpAny_bind (wpAny_holding (setattr_ok I1 hH c1 (c2 f hf) hl r fun s3 I3 => ?_))))
  exact wpAny_release ⟨σ, _, I3, q3⟩
theorem pg_subX {C : Nat → List D → M D} {oe ke : E} {i : Expr} (hu : X.A.units + 1 < cLine) (ho : PE X o (tD Γ W (ev C oe).e)) (hi : PE X i (tD Γ W (ev C ke).e))
    (ha : ∀ v, assign (.Subscript o i pos) X.env v = (do
      let ov ← holding [v] (eval o X.env)
      let iv ← holding [v, ov] (eval i X.env)
      standAt pos
      holding [v, ov, iv] (setItem ov iv v)
      release [v, ov, iv] [])) : PG X (.Subscript o i pos) (gTx Γ W (sTx C (.sub oe ke))) := by
  have key := pg_sub ho hi (set_dict hu) ha
  refine ⟨fun pins s σ H v u Q I r ⟨ρ, L, S, d, rl, rv, q⟩ => key.run pins s σ H v u Q I r ?_⟩
  have q : PostF Γ W { nx := Q, rt := fun _ _ => False } ρ H (sB (fun L => M.bind ((ev C oe).e L) fun x => M.bind ((ev C ke).e L) fun y => M.bind (dputD y d x) fun _ => M.pure L) (fun L' _ => M.pure (.next L')) L S) := q
  refine ⟨ρ, L, S, rl, ?_⟩
  have q3 := PostF.bnd (rep := fun ρ' H' (_ : Unit) (L' : Loc) => L' = L) (Q := fun _ H' => Q σ H') rl q fun L' S' ρ' H' _ p' e' rl' hL h' => by
    subst hL
    exact postF_next (D := { nx := Q, rt := fun _ _ => False }) h' rl'
  refine Post.bind q3 fun x S1 ρ1 H1 xv p1 e1 rl1 r1 h1 => ⟨ρ1, L, S1, rl1, Post.bind h1 fun y S2 ρ2 H2 yv p2 e2 rl2 r2 h2 => ?_⟩
  obtain ⟨p, H', S', ex, hd, _, rl', h3⟩ := dput_w rl2 r2 (Rep.mono (p1.trans p2) (e1.trans e2) d rv) (Rep.mono p2 e2 x r1) h2
  exact ⟨p, H', ex, hd, post_here (v := ()) h3 rl' rfl⟩

/-! several stores -/
def gTxs (Γ : Gm) (W : WX) (C : Nat → List D → M D) (ts : List Tx) : TGs := fun vs σ H Q => ∃ ρ L S ds, Rel Γ ρ H σ L S ∧ Reps Γ ρ H vs ds ∧ PostF Γ W { nx := Q, rt := fun _ _ => False } ρ H (sTxs C ts ds L S)
theorem pgs_nilX {C : Nat → List D → M D} : PGs X [] (gTxs Γ W C []) :=
  ⟨fun pins s σ H vs us Q I r ⟨ρ, L, S, ds, rl, rv, q⟩ => pgs_nil.run pins s σ H vs us Q I r (by
    cases ds with
    | nil =>
      rw [Reps.nil_iff] at rv
      exact ⟨rv, postF_next (D := { nx := Q, rt := fun _ _ => False }) q rl⟩
    | cons d ds => exact q.elim)⟩
theorem pgs_consX {C : Nat → List D → M D} {es : List Expr} {t : Tx} {ts : List Tx} (h1 : PG X e (gTx Γ W (sTx C t))) (h2 : PGs X es (gTxs Γ W C ts)) (hs : (assignEach (e :: es) X.env).map (·.2) = assign e X.env :: (assignEach es X.env).map (·.2)) : PGs X (e :: es) (gTxs Γ W C (t :: ts)) :=
  ⟨fun pins s σ H vs us Q I r ⟨ρ, L, S, ds, rl, rv, q⟩ => (pgs_cons h1 h2 hs).run pins s σ H vs us Q I r (by
    cases ds with
    | nil => exact q.elim
    | cons d ds =>
      rw [Reps.cons_iff] at rv
      obtain ⟨v, vr, rfl, r1, r2⟩ := rv
      refine ⟨v, vr, rfl, ρ, L, S, d, rl, r1, ?_⟩
      have q : PostF Γ W { nx := Q, rt := fun _ _ => False } ρ H (sThen (sTx C t d) (sTxs C ts ds) L S) := q
      unfold sThen at q
      cases hr : sTx C t d L S with
      | ok fl S' =>
        rw [hr] at q
        cases fl with
        | next L' => exact fun ρ2 H2 σ2 p2 x2 rl2 => ⟨ρ2, L', S', ds, rl2, Reps.mono p2 x2 ds r2, PostF.mono p2 x2 q⟩
        | ret d => exact q
        | brk L' => exact q
        | cont L' => exact q
        | thr e L' => exact q
      | exc _ _ => rw [hr] at q; exact q
      | bad => rw [hr] at q; exact q)⟩
theorem s_asg1 {C : Nat → List D → M D} {t : Tx} {tg : Expr} (he : PE X e (tD Γ W fe)) (hg : PG X tg (gTx Γ W (sTx C t))) (hs : swapsWithSole [tg] e pos.line X.env = pure false) (hw : swappedStores [tg] e X.env = pure none) (h1 : (assignEach [tg] X.env).map (·.2) = [assign tg X.env]) : PS X (.Assign [tg] e pos) (tSt Γ W (sAsg1 C t fe)) :=
  PS.weak (ps_asg he hg hs hw h1) fun D σ H h => tM_of h fun d L S' ρ' H' v rl r h' => ⟨ρ', L, S', d, rl, r, by
    cases hr : sTx C t d L S' with
    | ok fl S2 =>
      rw [hr] at h'
      cases fl with
      | next L' => exact h'
      | ret d => exact absurd hr (by unfold sTx sB; intro z; split at z <;> simp at z)
      | brk L' => exact absurd hr (by unfold sTx sB; intro z; split at z <;> simp at z)
      | cont L' => exact absurd hr (by unfold sTx sB; intro z; split at z <;> simp at z)
      | thr e L' => exact h'
    | exc _ _ => rw [hr] at h'; exact h'
    | bad => rw [hr] at h'; exact h'⟩
theorem sTxs_ends {C : Nat → List D → M D} : ∀ {ts : List Tx} {ds : List D} {L : Loc} {S : Sto}, (∀ d S', sTxs C ts ds L S ≠ .ok (.ret d) S') ∧ (∀ L' S', sTxs C ts ds L S ≠ .ok (.brk L') S') ∧ ∀ L' S', sTxs C ts ds L S ≠ .ok (.cont L') S'
  | [], [], L, S => ⟨(fun _ _ z => nomatch z), (fun _ _ z => nomatch z), (fun _ _ z => nomatch z)⟩
  | [], _ :: _, L, S => ⟨(fun _ _ z => nomatch z), (fun _ _ z => nomatch z), (fun _ _ z => nomatch z)⟩
  | _ :: _, [], L, S => ⟨(fun _ _ z => nomatch z), (fun _ _ z => nomatch z), (fun _ _ z => nomatch z)⟩
  | t :: ts, d :: ds, L, S => by
    show (∀ d' S', sThen (sTx C t d) (sTxs C ts ds) L S ≠ .ok (.ret d') S') ∧ (∀ L' S', sThen (sTx C t d) (sTxs C ts ds) L S ≠ .ok (.brk L') S') ∧ ∀ L' S', sThen (sTx C t d) (sTxs C ts ds) L S ≠ .ok (.cont L') S'
    unfold sThen sTx sB
    cases fTx C t d L S with
    | ok a S1 => exact sTxs_ends
    | exc x S1 => exact ⟨(fun _ _ z => nomatch z), (fun _ _ z => nomatch z), (fun _ _ z => nomatch z)⟩
    | bad => exact ⟨(fun _ _ z => nomatch z), (fun _ _ z => nomatch z), (fun _ _ z => nomatch z)⟩
theorem s_asgs {C : Nat → List D → M D} {ts : List Tx} {es : List Expr} {kt : Nat} {pt : Pos} (hK : X.K = Γ.K) (hc : X.calm = true) (he : PE X e (tD Γ W fe)) (hg : PGs X es (gTxs Γ W C ts)) (hn : (assignEach es X.env).length = ts.length) (hst : (assignEach es X.env).findIdx? (·.1) = none) (hw : swappedStores [.Tuple es kt pt] e X.env = pure none) : PS X (.Assign [.Tuple es kt pt] e pos) (tSt Γ W (sAsgs C ts fe)) := by
  have sw : swapsWith e (some (.Tuple es kt pt)) pos.line X.env = pure false := by cases e <;> rfl
  have pg : PG X (.Tuple es kt pt) (fun v σ H Q => gTup X.K ts.length (gTxs Γ W C ts) v σ H Q ∨ gLst X.K ts.length (gTxs Γ W C ts) v σ H Q) := ⟨fun pins s σ H v u Q I r q => q.elim ((pg_tup hc hg hn hst).run pins s σ H v u Q I r) ((pg_lst hc hg hn hst).run pins s σ H v u Q I r)⟩
  refine PS.weak (ps_asg he pg sw hw rfl) fun D σ H h => tM_of h fun d L S' ρ' H' v rl r h' => ?_
  cases e1 : seqOf S' d with
  | none => simp only [e1] at h'; exact h'.elim
  | some ds =>
    simp only [e1] at h'
    obtain ⟨p, xs, rfl, hs, rr⟩ := rl.s.seqD r e1
    by_cases hl : ds.length = ts.length
    case neg => rw [if_neg hl] at h'; exact h'.elim
    rw [if_pos hl] at h'
    have go : gTxs Γ W C ts xs σ H' D.nx := ⟨ρ', L, S', ds, rl, rr, by
      obtain ⟨z1, z2, z3⟩ := sTxs_ends (C := C) (ts := ts) (ds := ds) (L := L) (S := S')
      cases hr : sTxs C ts ds L S' with
      | ok fl S2 =>
        rw [hr] at h'
        cases fl with
        | next L' => exact h'
        | ret d => exact absurd hr (z1 _ _)
        | brk L' => exact absurd hr (z2 _ _)
        | cont L' => exact absurd hr (z3 _ _)
        | thr e L' => exact h'
      | exc _ _ => rw [hr] at h'; exact h'
      | bad => rw [hr] at h'; exact h'⟩
    rw [hK]
    rcases hs with hs | hs
    · exact .inr ⟨p, xs, rfl, hs, rr.length.trans hl, go⟩
    · exact .inl ⟨p, xs, rfl, hs, rr.length.trans hl, go⟩

/-! o.f op= e -/
section
variable {ρ : List Addr} {H : Hp} {σ : L2.St} {L : Loc} {S : Sto}
theorem cls_w {α β : Type} {rep : List Addr → Hp → β → α → Prop} {d : D} {k : Nat → M α} {Q : β → Hp → Prop} (h : Post Γ W rep ρ H σ L (M.bind (clsD d) k S) Q) : ∃ i c fs, d = .ref i ∧ S[i]? = some (.ins c fs) ∧ Post Γ W rep ρ H σ L (k c S) Q := by
  cases d with
  | ref i =>
    unfold M.bind at h
    simp only [clsD] at h
    cases e : S[i]? with
    | none => simp only [e] at h; exact h.elim
    | some o =>
      cases o with
      | ins c fs => simp only [e] at h; exact ⟨i, c, fs, rfl, e, h⟩
      | _ => simp only [e] at h; exact h.elim
  | _ => exact h.elim
end
theorem s_augF {op : Operator} {o2 : Op2} {f : Nat} {ti : TIp} {tpos : Pos} (kl : KlsOk Γ X.K) (hf : f < 18) (hop : PIp X op ti) (sp : Spec2 Γ (Rep Γ) ti (aug2 o2)) (ho : PE X o (tD Γ W fo)) (he : PE X e (tD Γ W fe)) : PS X (.AugAssign (.Attribute o (ifl f) tpos) op e pos) (tSt Γ W (sAugF fo f o2 fe)) := by
  refine PS.weak (ps_fldaug (rd := ti) ho he hop) fun D σ H h => ?_
  have h := tM_of (rep := fun _ _ (_ : Unit) (_ : Unit) => True) (Q := fun _ H' => D.nx σ H') h fun d L S' ρ' H' v rl r h' => postF_next h' rl
  obtain ⟨ρ, L, S, rl, h⟩ := h
  refine ⟨ρ, L, S, rl, Post.bind h fun d S1 ρ1 H1 v p1 e1 rl1 r1 h1 => ?_⟩
  obtain ⟨i, c, fs, rfl, ei, h1⟩ := cls_w h1
  obtain ⟨p, dx, vs, rfl, hp, hH, hr, hk⟩ := ins_at rl1.s r1 ei
  obtain ⟨c1, c2⟩ := kl c hk
  unfold F.bind M.bind at h1
  simp only [fldD, ei] at h1
  cases e2 : getF f fs with
  | none => simp only [e2] at h1; exact h1.elim
  | some d' =>
    simp only [e2] at h1
    obtain ⟨w, w1, w2⟩ := hr.get hf e2
    refine ⟨p, _, dx, vs, w, rfl, hH, c1, c2 f hf, w1, ρ1, L, S1, rl1, ?_⟩
    have h1 : Post Γ W (fun _ _ (_ : Unit) (_ : Unit) => True) ρ1 H1 σ L (M.bind (fe L) (fun y => M.bind (aug2 o2 d' y) fun z => M.bind (clsD (.ref i)) fun c' => (if c' = c then fun _ => setFD f z (.ref i) else FBad) L) S1) fun _ H' => D.nx σ H' := h1
    refine Post.bind h1 fun y S2 ρ2 H2 yv p2 e2 rl2 r2 h2 => ?_
    refine sp W ρ2 H2 σ L S2 w yv d' y _ rl2 (Rep.mono p2 e2 d' w2) r2 (Post.bind h2 fun z S3 ρ3 H3 zv p3 e3 rl3 r3 h3 => ?_)
    obtain ⟨i', c', fs', ei', es3, h3⟩ := cls_w h3
    cases ei'
    by_cases hc : c' = c
    · subst hc
      simp only [if_pos] at h3
      have rr : Rep Γ ρ3 H3 (.ref p) (.ref i) := by simp only [Rep]; exact ⟨p, rfl, get_pre p3 (get_pre p2 hp)⟩
      have h3 : Post Γ W (fun _ _ (_ : Unit) (_ : Unit) => True) ρ3 H3 σ L (M.bind (setFD f z (.ref i)) (fun u => M.pure u) S3) fun _ H' => D.nx σ H' := by
        unfold M.bind
        cases hq : setFD f z (.ref i) S3 with
        | ok u S4 => rw [hq] at h3; exact h3
        | exc _ _ => rw [hq] at h3; exact h3
        | bad => rw [hq] at h3; exact h3
      obtain ⟨p', kk, dx', fs2, S', ex, hH2, hk2, hl, _, rl', h4⟩ := setF_w hf rl3 r3 rr h3
      cases ex
      obtain ⟨p2', dx2, vs2, ev, hp2, hH3, _, _⟩ := ins_at rl3.s rr es3
      cases ev
      rw [hH2] at hH3
      injection hH3 with hH3
      injection hH3 with q1 q2 q3
      rw [q1] at hH2 h4 rl'
      exact ⟨dx', fs2, hH2, hl, post_here (v := ()) h4 rl' trivial⟩
    · simp only [if_neg hc] at h3
      exact h3.elim
end Bv
end
section
/-! B1w2: comprehensions by any step; of dicts -/
namespace Bv
open PySem PySem.Spec L2 PyProof.Rows
variable {Γ : Gm} {X : Cx} {W : WX}
/-- a turn keeps what it should -/
def TurnOk (Γ : Gm) (W : WX) (σ : L2.St) (L : Loc) (Q : VK) (ρ0 : List Addr) (sf : D → M Unit) (G : V → Hp → (Hp → Prop) → Prop) : Prop := ∀ ρ H S x d (k : Unit → M D) Nx, ρ0 <+: ρ → Rel Γ ρ H σ L S → Rep Γ ρ H x d → Post Γ W (Rep Γ) ρ H σ L (M.bind (sf d) k S) Q → (∀ ρ' H' S', ρ <+: ρ' → Ext H H' → Rel Γ ρ' H' σ L S' → Post Γ W (Rep Γ) ρ' H' σ L (k () S') Q → Nx H') → G x H Nx
/-- the loop -/
abbrev OverW (J : It) (G : V → Hp → (Hp → Prop) → Prop) (Q : VK) (D : Addr) (H0 : Hp) : Prop := ∃ W : Nat → Nat → Hp → Prop, (∃ m, W 0 m H0) ∧ ∀ i m H, W i m H →
  (J.stop i H ∧ Q (.ref D) H) ∨ (J.go i H ∧ ∃ Nx : Hp → Prop, (∀ H', Nx H' → ∃ m', m' < m ∧ W (i + 1) m' H') ∧ ∀ x H', J.yld i H x H' → G x H' Nx)
section
variable {ρ : List Addr} {H : Hp} {σ : L2.St} {L : Loc} {S : Sto} {Q : VK} {i : Nat} {p : Addr} {sf : D → M Unit} {G : V → Hp → (Hp → Prop) → Prop}
theorem over_items {J : It} {items : List D} (tk : TurnOk Γ W σ L Q ρ sf G) (stop : ∀ k ρ' H', ρ <+: ρ' → Ext H H' → items.length ≤ k → J.stop k H') (go : ∀ k ρ' H', ρ <+: ρ' → Ext H H' → k < items.length → J.go k H') (yld : ∀ k d ρ' H' x H2, ρ <+: ρ' → Ext H H' → items[k]? = some d → J.yld k H' x H2 → H2 = H' ∧ Rep Γ ρ' H' x d)
    (rl : Rel Γ ρ H σ L S) (hp : ρ[i]? = some p) (h : Post Γ W (Rep Γ) ρ H σ L (M.bind (cLoop sf items) (fun _ => M.pure (.ref i)) S) Q) : OverW J G Q p H := by
  let Pv : Nat → Hp → Prop := fun k H1 => ∃ ρ1 S1, ρ <+: ρ1 ∧ Ext H H1 ∧ Rel Γ ρ1 H1 σ L S1 ∧ Post Γ W (Rep Γ) ρ1 H1 σ L (M.bind (cLoop sf (items.drop k)) (fun _ => M.pure (.ref i)) S1) Q
  refine ⟨fun k m H1 => m = items.length - k ∧ k ≤ items.length ∧ Pv k H1, ⟨items.length, by simp, Nat.zero_le _, ρ, S, List.prefix_refl _, Ext.refl _, rl, h⟩, ?_⟩
  rintro k m H1 ⟨rfl, hk, ρ1, S1, p1, x1, rl1, h1⟩
  by_cases hlt : k < items.length
  · have e : items.drop k = items[k] :: items.drop (k + 1) := List.drop_eq_getElem_cons hlt
    rw [e] at h1
    refine .inr ⟨go k ρ1 H1 p1 x1 hlt, Pv (k + 1), fun H' q => ⟨items.length - (k + 1), by omega, rfl, hlt, q⟩, fun x H' y => ?_⟩
    obtain ⟨rfl, r⟩ := yld k items[k] ρ1 H1 x H' p1 x1 (List.getElem?_eq_getElem hlt) y
    have h1 : Post Γ W (Rep Γ) ρ1 H' σ L (M.bind (sf items[k]) (fun _ => M.bind (cLoop sf (items.drop (k + 1))) (fun _ => M.pure (.ref i))) S1) Q := by
      rw [← M.assoc]
      exact h1
    exact tk ρ1 H' S1 x items[k] _ _ p1 rl1 r h1 fun ρ2 H2 S2 p2 x2 rl2 h2 => ⟨ρ2, S2, p1.trans p2, x1.trans x2, rl2, h2⟩
  · have e : items.drop k = [] := List.drop_eq_nil_of_le (by omega)
    rw [e] at h1
    exact .inl ⟨stop k ρ1 H1 p1 x1 (by omega), fin_ref rl1 (get_pre p1 hp) h1⟩
theorem over_list {j n : Nat} {q : Addr} (tk : TurnOk Γ W σ L Q ρ sf G) (hq : ρ[j]? = some q) (rl : Rel Γ ρ H σ L S) (hp : ρ[i]? = some p) (h : Post Γ W (Rep Γ) ρ H σ L (M.bind (cLoopL sf j n 0) (fun _ => M.pure (.ref i)) S) Q) : OverW (Itl Γ.K q) G Q p H := by
  refine ⟨fun k m H1 => ∃ ρ1 S1, ρ <+: ρ1 ∧ Rel Γ ρ1 H1 σ L S1 ∧ Post Γ W (Rep Γ) ρ1 H1 σ L (M.bind (cLoopL sf j m k) (fun _ => M.pure (.ref i)) S1) Q, ⟨n, ρ, S, List.prefix_refl _, rl, h⟩, ?_⟩
  rintro k m H1 ⟨ρ1, S1, p1, rl1, h1⟩
  cases m with
  | zero => exact h1.elim
  | succ m =>
    unfold M.bind at h1
    simp only [cLoopL] at h1
    cases e1 : seqOf S1 (.ref j) with
    | none => simp only [e1] at h1; exact h1.elim
    | some ds =>
      simp only [e1] at h1
      obtain ⟨p', xs, ep, hs, rr⟩ := rl1.s.seq e1
      rw [get_pre p1 hq] at ep; cases ep
      cases e2 : ds[k]? with
      | none =>
        simp only [e2] at h1
        refine .inl ⟨⟨xs, hs, ?_⟩, fin_ref rl1 (get_pre p1 hp) h1⟩
        rw [rr.length]
        exact List.getElem?_eq_none_iff.mp e2
      | some d =>
        simp only [e2] at h1
        obtain ⟨v, ev, rv⟩ := rr.get e2
        refine .inr ⟨⟨xs, v, hs, ev⟩, fun H2 => ∃ ρ2 S2, ρ <+: ρ2 ∧ Rel Γ ρ2 H2 σ L S2 ∧ Post Γ W (Rep Γ) ρ2 H2 σ L (M.bind (cLoopL sf j m (k + 1)) (fun _ => M.pure (.ref i)) S2) Q, fun H' z => ⟨m, Nat.lt_succ_self m, z⟩, fun x H' y => ?_⟩
        obtain ⟨rfl, y⟩ := y
        have ex : x = v := Option.some.inj ((y xs hs).symm.trans ev)
        subst ex
        have h1 : Post Γ W (Rep Γ) ρ1 H' σ L (M.bind (sf d) (fun _ => M.bind (cLoopL sf j m (k + 1)) (fun _ => M.pure (.ref i))) S1) Q := by
          rw [← M.assoc]
          exact h1
        exact tk ρ1 H' S1 x d _ _ p1 rl1 rv h1 fun ρ2 H2 S2 p2 x2 rl2 h2 => ⟨ρ2, S2, p1.trans p2, rl2, h2⟩
end
/-- what is made is new -/
def NewOk (Γ : Gm) (σ : L2.St) (L : Loc) (o : O) (ho : HO) : Prop := ∀ ρ H S p, Rel Γ ρ H σ L S → H p = none → Rel Γ (ρ ++ [p]) (upd H p ho) σ L (S ++ [o]) ∧ (ρ ++ [p])[S.length]? = some p ∧ ρ <+: ρ ++ [p] ∧ Ext H (upd H p ho)
theorem newOk_lst {σ : L2.St} {L : Loc} : NewOk Γ σ L (.lst []) (.lst []) := fun ρ H S p rl hp => comp_new rl hp
theorem newOk_dct {σ : L2.St} {L : Loc} : NewOk Γ σ L (.dct []) (.dK []) := fun ρ H S p rl hp => dct_new rl hp
section
variable {H : Hp} {σ : L2.St} {Q : VK} {fs : F D} {o : O} {ho : HO} {sf : Nat → Loc → D → M Unit} {G : Addr → V → Hp → (Hp → Prop) → Prop}
theorem over_rng (nw : ∀ L, NewOk Γ σ L o ho) (tk : ∀ L i p ρ, ρ[i]? = some p → TurnOk Γ W σ L Q ρ (sf i L) (G p)) (h : tD Γ W (fun L => M.bind (fs L) fun d => fun S => M.bind (cOver (sf S.length L) true d) (fun _ => M.pure (.ref S.length)) (S ++ [o])) σ H Q) : iRng1 (tCons (tD Γ W fs) tNil) σ H fun J H1 => ∀ D, H1 D = none → OverW J (G D) Q D (upd H1 D ho) := by
  obtain ⟨ρ, L, S, rl, h⟩ := h
  refine ⟨ρ, L, S, rl, Post.bind h fun d S1 ρ1 H1 v p1 x1 rl1 r1 h1 => ?_⟩
  cases d with
  | int j =>
    rw [rep_int] at r1; subst r1
    have h1 : Post Γ W (Rep Γ) ρ1 H1 σ L (M.bind (cOver (sf S1.length L) true (.int j)) (fun _ => M.pure (.ref S1.length)) (S1 ++ [o])) Q := h1
    unfold cOver at h1
    by_cases hn : near j = true
    · simp only [if_pos hn] at h1
      unfold near at hn
      obtain ⟨n1, n2⟩ := of_decide_eq_true hn
      refine ⟨j, rfl, n1, n2, fun D hD => ?_⟩
      obtain ⟨rl2, hp2, pre, ex⟩ := nw L _ _ _ _ rl1 hD
      have hl : (rangeD 0 j.toNat).length = j.toNat := by simp [rangeD]
      refine over_items (tk L _ _ _ hp2) (fun k ρ' H' _ _ hi => by rw [hl] at hi; exact hi) (fun k ρ' H' _ _ hi => by rw [hl] at hi; exact hi) (fun k d ρ' H' x H2 _ _ hd y => ?_) rl2 hp2 (Post.mono pre ex h1)
      obtain ⟨rfl, rfl⟩ := y
      refine ⟨rfl, ?_⟩
      unfold rangeD at hd
      rw [List.getElem?_map] at hd
      cases e : (List.range j.toNat)[k]? with
      | none => rw [e] at hd; cases hd
      | some k' =>
        rw [e] at hd
        have ek : k' = k := by
          obtain ⟨q1, q2⟩ := List.getElem?_eq_some_iff.mp e
          simpa using q2.symm
        subst ek
        have : Bv.D.int (0 + k') = d := by simpa using hd
        subst this
        exact rep_int.mpr rfl
    · simp only [if_neg hn] at h1
      exact h1.elim
  | _ => exact h1.elim
theorem over_any (nw : ∀ L, NewOk Γ σ L o ho) (tk : ∀ L i p ρ, ρ[i]? = some p → TurnOk Γ W σ L Q ρ (sf i L) (G p)) (h : tD Γ W (fun L => M.bind (fs L) fun d => fun S => M.bind (cOver (sf S.length L) false d) (fun _ => M.pure (.ref S.length)) (S ++ [o])) σ H Q) : iAny Γ.K (tD Γ W fs) σ H fun J H1 => ∀ D, H1 D = none → OverW J (G D) Q D (upd H1 D ho) := by
  obtain ⟨ρ, L, S, rl, h⟩ := h
  have h0 : Post Γ W (Rep Γ) ρ H σ L (M.bind (fs L) (fun d => fun S => M.bind (cOver (sf S.length L) false d) (fun _ => M.pure (.ref S.length)) (S ++ [o])) S) Q := h
  unfold M.bind at h0
  cases e : fs L S with
  | exc x S1 =>
    refine .inl (.inl ⟨ρ, L, S, rl, ?_⟩)
    rw [e] at h0 ⊢
    exact h0
  | bad =>
    rw [e] at h0
    exact h0.elim
  | ok d S1 =>
    rw [e] at h0
    have h1 : Post Γ W (Rep Γ) ρ H σ L (M.bind (cOver (sf S1.length L) false d) (fun _ => M.pure (.ref S1.length)) (S1 ++ [o])) Q := h0
    cases d with
    | tup ds =>
      refine .inl (.inr ⟨ρ, L, S, rl, ?_⟩)
      rw [e]
      intro ρ' H' v p x rl' r
      simp only [Rep] at r
      obtain ⟨q, xs, rfl, hq, rr⟩ := r
      refine ⟨q, rfl, ⟨xs, hq⟩, fun D hD => ?_⟩
      obtain ⟨rl2, hp2, pre, ex⟩ := nw L _ _ _ _ rl' hD
      have hs : ∀ {H2 : Hp}, Ext (upd H' D ho) H2 → SqT Γ.K H2 q xs := fun x2 => (ex.trans x2).sqT hq
      refine over_items (items := ds) (tk L _ _ _ hp2) (fun i ρ2 H2 p2 x2 hi => ?_) (fun i ρ2 H2 p2 x2 hi => ?_) (fun i d ρ2 H2 z H3 p2 x2 hd y => ?_) rl2 hp2 (Post.mono (p.trans pre) (x.trans ex) h1)
      · exact ⟨xs, hs x2, by rw [rr.length]; exact hi⟩
      · obtain ⟨v, ev, _⟩ := rr.get (List.getElem?_eq_getElem hi)
        exact ⟨xs, v, hs x2, ev⟩
      · obtain ⟨rfl, y⟩ := y
        obtain ⟨v, ev, rv⟩ := rr.get hd
        have : z = v := Option.some.inj ((y xs (hs x2)).symm.trans ev)
        subst this
        exact ⟨rfl, Rep.mono (pre.trans p2) (ex.trans x2) d rv⟩
    | str s =>
      refine .inr ⟨ρ, L, S, rl, ?_⟩
      rw [e]
      intro ρ' H' v p x rl' r
      rw [rep_str] at r
      obtain ⟨rfl, hc⟩ := r
      refine ⟨_, rfl, fun D hD => ?_⟩
      obtain ⟨rl2, hp2, pre, ex⟩ := nw L _ _ _ _ rl' hD
      by_cases hl : s.length ≤ 16000000
      · simp only [cOver, if_pos hl] at h1
        refine over_items (items := s.map fun c => Bv.D.str [c]) (tk L _ _ _ hp2) (fun i ρ2 H2 p2 x2 hi => ?_) (fun i ρ2 H2 p2 x2 hi => ?_) (fun i d ρ2 H2 z H3 p2 x2 hd y => ?_) rl2 hp2 (Post.mono (p.trans pre) (x.trans ex) h1)
        · show s.toArray.size ≤ i
          simpa using hi
        · show i < s.toArray.size
          simpa using hi
        · obtain ⟨rfl, c, y, rfl⟩ := y
          refine ⟨rfl, ?_⟩
          rw [List.getElem?_map] at hd
          have y : s[i]? = some c := by simpa using y
          rw [y] at hd
          have : Bv.D.str [c] = d := by simpa using hd
          subst this
          exact rep_str.mpr ⟨rfl, fun c' h' => by rw [List.mem_singleton.mp h']; exact hc c (List.mem_of_getElem? y)⟩
      · simp only [cOver, if_neg hl] at h1
        exact h1.elim
    | ref j =>
      refine .inl (.inl ⟨ρ, L, S, rl, ?_⟩)
      rw [e]
      intro ρ' H' v p x rl' r
      simp only [Rep] at r
      obtain ⟨q, rfl, ea⟩ := r
      have h1 : Post Γ W (Rep Γ) ρ H σ L (M.bind (fun S => (match seqOf S (.ref j) with
        | none => R.bad
        | some xs => cLoopL (sf S1.length L) j (xs.length + 1) 0 S)) (fun _ => M.pure (.ref S1.length)) (S1 ++ [o])) Q := h1
      unfold M.bind at h1
      cases e1 : seqOf (S1 ++ [o]) (.ref j) with
      | none => simp only [e1] at h1; exact h1.elim
      | some ds =>
        simp only [e1] at h1
        have hj : j < S1.length := by
          rw [← rl'.s.len]
          exact (List.getElem?_eq_some_iff.mp ea).1
        have e2 : seqOf S1 (.ref j) = some ds := by
          simp only [seqOf] at e1 ⊢
          rw [List.getElem?_append_left hj] at e1
          exact e1
        obtain ⟨p', xs, ep, hs, rr⟩ := rl'.s.seq e2
        rw [ea] at ep; cases ep
        refine ⟨q, rfl, ⟨xs, hs⟩, fun D hD => ?_⟩
        obtain ⟨rl2, hp2, pre, ex⟩ := nw L _ _ _ _ rl' hD
        exact over_list (tk L _ _ _ hp2) (get_pre pre ea) rl2 hp2 (Post.mono (p.trans pre) (x.trans ex) h1)
    | _ => exact h1.elim
end
/-! ### of dicts -/
section
variable {ρ : List Addr} {H : Hp} {σ : L2.St} {L : Loc} {S : Sto} {g : TG} {t : Tg} {own : List Nat} {ft : F Bool} {fk fe fs : F D} {Q : VK}
theorem dct_turn (hh : Γ.hot = none) (tk : TgW Γ g t own) (L : Loc) (i : Nat) (p : Addr) (ρ0 : List Addr) (hp : ρ0[i]? = some p) : TurnOk Γ W σ L Q ρ0 (dStep i (tgSet t) ft fk fe (wipeL L own)) fun x H Nx =>
    g x (wipe σ own) H fun σ2 H2 => wipe σ2 own = wipe σ own ∧ tBl Γ W0 ft σ2 H2 fun b H3 => if b = true then tD Γ W0 fk σ2 H3 fun y H4 => tD Γ W0 fe σ2 H4 fun z H5 => ∃ kvs k, y = kV k ∧ H5 p = some (.dK kvs) ∧ kvs.length < sizeLine ∧ Nx (upd H5 p (.dK (L2.putK kvs k z))) else Nx H3 := by
  intro ρ H S x d k Nx pre0 rl r h hN
  unfold dStep at h
  cases e : tgSet t d (wipeL L own) with
  | none => rw [e] at h; exact h.elim
  | some L1 =>
    rw [e] at h
    refine tk x d ρ H (wipe σ own) (wipeL L own) S L1 _ ⟨rl.s, rl.l.wipe hh own⟩ r e fun σ' rl' hw => ?_
    have hw2 : wipe σ' own = wipe σ own := by
      rw [hw]
      exact wipe_same (wipe_length _ _) fun j hj => by rw [wipe_at, if_neg (fun z => hj z.1)]
    refine ⟨hw2, ρ, L1, S, rl', ?_⟩
    have h : Post Γ W (Rep Γ) ρ H σ L (M.bind (M.calm (ft L1)) (fun b S1 => M.bind (if b = true then M.bind (M.calm (fk L1)) fun y => M.bind (M.calm (fe L1)) fun z => dputD y z (.ref i) else M.pure ()) k S1) S) Q := by
      rw [← M.assoc]
      exact h
    refine calm_post rl.l h fun b S1 ρ1 H1 v p1 x1 rl1 rl1' rv h1 => ?_
    subst rv
    cases v with
    | false =>
      refine iteF (hN ρ1 H1 S1 p1 x1 rl1 ?_)
      exact h1
    | true =>
      refine iteT ⟨ρ1, L1, S1, rl1', ?_⟩
      have h1 : Post Γ W (Rep Γ) ρ1 H1 σ L (M.bind (M.calm (fk L1)) (fun y S2 => M.bind (M.bind (M.calm (fe L1)) fun z => dputD y z (.ref i)) k S2) S1) Q := by
        rw [← M.assoc]
        exact h1
      refine calm_post rl1.l h1 fun y S2 ρ2 H2 w p2 x2 rl2 rl2' rw_ h2 => ⟨ρ2, L1, S2, rl2', ?_⟩
      have h2 : Post Γ W (Rep Γ) ρ2 H2 σ L (M.bind (M.calm (fe L1)) (fun z S3 => M.bind (dputD y z (.ref i)) k S3) S2) Q := by
        rw [← M.assoc]
        exact h2
      refine calm_post rl2.l h2 fun z S3 ρ3 H3 u p3 x3 rl3 rl3' ru h3 => ?_
      have hp3 := get_pre p3 (get_pre p2 (get_pre p1 (get_pre pre0 hp)))
      obtain ⟨p', H', S', ep, hd, ex, rl', h4⟩ := dput_w rl3 (Rep.mono p3 x3 y rw_) ru (xv := .ref p) (by simp only [Rep]; exact ⟨p, rfl, hp3⟩) h3
      cases ep
      rcases hd with ⟨kvs, q, h5, h6, h7, rfl⟩ | ⟨kvs, q, bb, h5, _⟩
      · exact ⟨kvs, q, h6, h5, h7, hN ρ3 _ S' (p1.trans (p2.trans p3)) (x1.trans (x2.trans (x3.trans ex))) rl' h4⟩
      · exfalso
        unfold dputD M.bind at h3
        cases e5 : S3[i]? with
        | none => simp [e5, Post] at h3
        | some o =>
          cases o with
          | dct kd =>
            obtain ⟨p2, kv, ev, hp', hH, _⟩ := dct_at (x := .ref p) rl3.s (by simp only [Rep]; exact ⟨p, rfl, hp3⟩) e5
            cases ev
            rw [hH] at h5; cases h5
          | _ => simp [e5, Post] at h3
theorem w_dcompR (hh : Γ.hot = none) (tk : TgW Γ g t own) (h : tD Γ W (fDcomp true (tgSet t) own fs ft fk fe) σ H Q) : tDc (iRng1 (tCons (tD Γ W fs) tNil)) g (tBl Γ W0 ft) (tD Γ W0 fk) (tD Γ W0 fe) own σ H Q :=
  over_rng (sf := fun i L => dStep i (tgSet t) ft fk fe (wipeL L own)) (fun L => newOk_dct) (fun L i p ρ hp => dct_turn hh tk L i p ρ hp) h
theorem w_dcompS (hh : Γ.hot = none) (tk : TgW Γ g t own) (h : tD Γ W (fDcomp false (tgSet t) own fs ft fk fe) σ H Q) : tDc (iAny Γ.K (tD Γ W fs)) g (tBl Γ W0 ft) (tD Γ W0 fk) (tD Γ W0 fe) own σ H Q :=
  over_any (sf := fun i L => dStep i (tgSet t) ft fk fe (wipeL L own)) (fun L => newOk_dct) (fun L i p ρ hp => dct_turn hh tk L i p ρ hp) h
end
end Bv
end
section
/-! B1j: f-strings of texts -/
namespace Bv
open PySem PySem.Spec L2 PyProof.Rows
section
variable {Γ : Gm} {X : Cx} {W : WX}
/-- the parts: written texts, values -/
inductive JPs (Γ : Gm) (X : Cx) (W : WX) : List Expr → List (F D) → List TE → Prop
  | nil : JPs Γ X W [] [] []
  | con {e : Expr} {f : F D} {es : List Expr} {fs : List (F D)} {ts : List TE} (h : PE X e (tD Γ W f)) (r : JPs Γ X W es fs ts) : JPs Γ X W (e :: es) (f :: fs) (tD Γ W f :: ts)
  | fmt {e : Expr} {p : Pos} {f : F D} {es : List Expr} {fs : List (F D)} {ts : List TE} (h : PE X e (tD Γ W f)) (r : JPs Γ X W es fs ts) : JPs Γ X W (.FormattedValue e (-1) none p :: es) (f :: fs) (tFmt (tD Γ W f) :: ts)
theorem JPs.pj {es : List Expr} {fs : List (F D)} {ts : List TE} (h : JPs Γ X W es fs ts) : PJ X es ts := by
  induction h with
  | nil => exact .nil
  | con h _ ih => exact .cons h ih
  | fmt h _ ih => exact .cons (pe_fmt h) ih
/-- one behind the other -/
def foldJ (m : F D) : List (F D) → F D
  | [] => m
  | f :: fs => foldJ (fOp .add m f) fs
theorem str_of_add {s : List Nat} {d d' : D} {S S' : Sto} (h : op2 .add (.str s) d S = .ok d' S') : ∃ t, d = .str t ∧ d' = .str (s ++ t) ∧ s.length + t.length ≤ 16000000 ∧ S' = S := by
  cases d <;> simp only [op2, M.bad] at h <;> try cases h
  rename_i t
  split at h
  · rename_i c
    cases h
    exact ⟨t, rfl, rfl, c, rfl⟩
  · cases h
theorem w_foldJ {es : List Expr} {fs : List (F D)} {ts : List TE} (j : JPs Γ X W es fs ts) : ∀ (m : F D), (∀ L S d S', m L S = .ok d S' → ∃ s, d = .str s) → ∀ {ρ : List Addr} {H : Hp} {σ : L2.St} {L : Loc} {S : Sto} {Q : VK}, Rel Γ ρ H σ L S → Post Γ W (Rep Γ) ρ H σ L (foldJ m fs L S) Q →
    Post Γ W (Rep Γ) ρ H σ L (m L S) (fun v H1 => ∃ z : PySem.Str, v = .str z ∧ tJs ts z σ H1 fun out H2 => Q (.str out) H2) := by
  induction j with
  | nil =>
    intro m hm ρ H σ L S Q rl h
    have h : Post Γ W (Rep Γ) ρ H σ L (m L S) Q := h
    cases e : m L S with
    | ok d S' =>
      rw [e] at h
      obtain ⟨s, rfl⟩ := hm L S d S' e
      intro ρ' H' v p x rl' r
      obtain ⟨rfl, hs⟩ := rep_str.mp r
      exact ⟨_, rfl, h ρ' H' _ p x rl' r⟩
    | exc x S' => rw [e] at h; exact h
    | bad => rw [e] at h; exact h
  | @con e f es fs ts he r ih =>
    intro m hm ρ H σ L S Q rl h
    have hm2 : ∀ L S d S', fOp .add m f L S = .ok d S' → ∃ s, d = .str s := fun L S d S' e => by
      have e : M.bind (m L) (fun x => M.bind (f L) fun y => op2 .add x y) S = .ok d S' := e
      unfold M.bind at e
      cases e1 : m L S with
      | ok x S1 =>
        rw [e1] at e
        obtain ⟨s, rfl⟩ := hm L S x S1 e1
        simp only at e
        cases e2 : f L S1 with
        | ok y S2 =>
          rw [e2] at e
          obtain ⟨t, _, hd, _⟩ := str_of_add e
          exact ⟨_, hd⟩
        | exc _ _ => rw [e2] at e; cases e
        | bad => rw [e2] at e; cases e
      | exc _ _ => rw [e1] at e; cases e
      | bad => rw [e1] at e; cases e
    have g := ih (fOp .add m f) hm2 rl h
    refine Post.bindE g fun d S1 ρ1 H1 v e1 p1 x1 rl1 r1 h1 => ?_
    obtain ⟨s, rfl⟩ := hm L S d S1 e1
    obtain ⟨rfl, hs⟩ := rep_str.mp r1
    refine ⟨_, rfl, ρ1, L, S1, rl1, Post.bindE h1 fun d2 S2 ρ2 H2 v2 e2 p2 x2 rl2 r2 h2 => ?_⟩
    have h2 : Post Γ W (Rep Γ) ρ2 H2 σ L (op2 .add (.str s) d2 S2) (fun v H1 => ∃ z : PySem.Str, v = .str z ∧ tJs ts z σ H1 fun out H2 => Q (.str out) H2) := h2
    cases e3 : op2 .add (.str s) d2 S2 with
    | ok d3 S3 =>
      obtain ⟨t, rfl, rfl, hl, rfl⟩ := str_of_add e3
      obtain ⟨rfl, ht⟩ := rep_str.mp r2
      rw [e3] at h2
      obtain ⟨z, ez, q⟩ := post_here h2 rl2 (v := .str ⟨(s ++ t).toArray⟩) (rep_str.mpr ⟨rfl, fun c hc => (List.mem_append.mp hc).elim (hs c) (ht c)⟩)
      cases ez
      refine ⟨_, rfl, ?_, ?_⟩
      · rw [str_app]
        show (s ++ t).toArray.size ≤ sizeLine
        rw [List.size_toArray, List.length_append]
        exact line16 hl
      · rw [str_app]; exact q
    | exc _ _ =>
      exfalso
      cases d2 <;> simp only [op2, M.bad] at e3 <;> try cases e3
      split at e3 <;> cases e3
    | bad => rw [e3] at h2; exact h2.elim
  | @fmt e p f es fs ts he r ih =>
    intro m hm ρ H σ L S Q rl h
    have hm2 : ∀ L S d S', fOp .add m f L S = .ok d S' → ∃ s, d = .str s := fun L S d S' e => by
      have e : M.bind (m L) (fun x => M.bind (f L) fun y => op2 .add x y) S = .ok d S' := e
      unfold M.bind at e
      cases e1 : m L S with
      | ok x S1 =>
        rw [e1] at e
        obtain ⟨s, rfl⟩ := hm L S x S1 e1
        simp only at e
        cases e2 : f L S1 with
        | ok y S2 =>
          rw [e2] at e
          obtain ⟨t, _, hd, _⟩ := str_of_add e
          exact ⟨_, hd⟩
        | exc _ _ => rw [e2] at e; cases e
        | bad => rw [e2] at e; cases e
      | exc _ _ => rw [e1] at e; cases e
      | bad => rw [e1] at e; cases e
    have g := ih (fOp .add m f) hm2 rl h
    refine Post.bindE g fun d S1 ρ1 H1 v e1 p1 x1 rl1 r1 h1 => ?_
    obtain ⟨s, rfl⟩ := hm L S d S1 e1
    obtain ⟨rfl, hs⟩ := rep_str.mp r1
    refine ⟨_, rfl, ρ1, L, S1, rl1, Post.bindE h1 fun d2 S2 ρ2 H2 v2 e2 p2 x2 rl2 r2 h2 => ?_⟩
    have h2 : Post Γ W (Rep Γ) ρ2 H2 σ L (op2 .add (.str s) d2 S2) (fun v H1 => ∃ z : PySem.Str, v = .str z ∧ tJs ts z σ H1 fun out H2 => Q (.str out) H2) := h2
    cases e3 : op2 .add (.str s) d2 S2 with
    | ok d3 S3 =>
      obtain ⟨t, rfl, rfl, hl, rfl⟩ := str_of_add e3
      obtain ⟨rfl, ht⟩ := rep_str.mp r2
      rw [e3] at h2
      obtain ⟨z, ez, q⟩ := post_here h2 rl2 (v := .str ⟨(s ++ t).toArray⟩) (rep_str.mpr ⟨rfl, fun c hc => (List.mem_append.mp hc).elim (hs c) (ht c)⟩)
      cases ez
      refine .inl ⟨_, rfl, ?_, _, rfl, ?_, ?_⟩
      · show t.toArray.size ≤ sizeLine
        rw [List.size_toArray]
        exact line16 (by omega)
      · rw [str_app]
        show (s ++ t).toArray.size ≤ sizeLine
        rw [List.size_toArray, List.length_append]
        exact line16 hl
      · rw [str_app]; exact q
    | exc _ _ =>
      exfalso
      cases d2 <;> simp only [op2, M.bad] at e3 <;> try cases e3
      split at e3 <;> cases e3
    | bad => rw [e3] at h2; exact h2.elim
/-- f'..' -/
theorem g_fstr {v1 v2 : Expr} {rest : List Expr} {fs : List (F D)} {ts : List TE} {pos : Pos} (j : JPs Γ X W (v1 :: v2 :: rest) fs ts) : PE X (.JoinedStr (v1 :: v2 :: rest) pos) (tD Γ W (foldJ (fun _ => M.pure (.str [])) fs)) :=
  PE.weak (pe_joined j.pj) fun σ H Q h => by
    obtain ⟨ρ, L, S, rl, h⟩ := h
    have g := w_foldJ j (fun _ => M.pure (.str [])) (fun L S d S' e => by cases e; exact ⟨[], rfl⟩) rl h
    obtain ⟨z, ez, q⟩ := post_here g rl (v := .str ⟨#[]⟩) (rep_str.mpr ⟨rfl, fun c hc => absurd hc (by simp)⟩)
    cases ez
    exact q
end
/-! a comprehension over zip of two tuples -/
section
variable {Γ : Gm} {W : WX} {σ : L2.St} {H : Hp} {g : TG} {t : Tg} {own : List Nat} {ft : F Bool} {fe fa fb : F D} {Q : VK}
theorem zip_get (xs ys : List D) (i : Nat) (d : D) (h : ((xs.zip ys).map fun p => D.tup [p.1, p.2])[i]? = some d) : ∃ x y, xs[i]? = some x ∧ ys[i]? = some y ∧ d = .tup [x, y] := by
  rw [List.getElem?_map] at h
  cases e : (xs.zip ys)[i]? with
  | none => rw [e] at h; cases h
  | some p =>
    rw [e] at h
    cases h
    have := List.getElem?_zip_eq_some.mp e
    exact ⟨p.1, p.2, this.1, this.2, rfl⟩
theorem w_compZ (hh : Γ.hot = none) (tk : TgW Γ g t own) (h : tD Γ W (fComp false (tgSet t) own (fZip fa fb) ft fe) σ H Q) : tLc (RZ.iZipA Γ.K (tCons (tD Γ W fa) (tCons (tD Γ W fb) tNil))) g (tBl Γ W0 ft) (tD Γ W0 fe) own σ H Q := by
  obtain ⟨ρ, L, S, rl, h⟩ := h
  have h : Post Γ W (Rep Γ) ρ H σ L (M.bind (fa L) (fun x => M.bind (fun S => M.bind (fb L) (fun y => zipD x y) S) (fun d => fun S => M.bind (cOver (cStep S.length (tgSet t) ft fe (wipeL L own)) false d) (fun _ => M.pure (.ref S.length)) (S ++ [.lst []]))) S) Q := by
    rw [← M.assoc]
    exact h
  refine ⟨ρ, L, S, rl, Post.bind h fun x S1 ρ1 H1 v p1 x1 rl1 r1 h1 => ?_⟩
  have h1 : Post Γ W (Rep Γ) ρ1 H1 σ L (M.bind (fb L) (fun y => M.bind (zipD x y) (fun d => fun S => M.bind (cOver (cStep S.length (tgSet t) ft fe (wipeL L own)) false d) (fun _ => M.pure (.ref S.length)) (S ++ [.lst []]))) S1) Q := by
    rw [← M.assoc]
    exact h1
  refine ⟨ρ1, L, S1, rl1, Post.bind h1 fun y S2 ρ2 H2 w p2 x2 rl2 r2 h2 => ?_⟩
  cases x with
  | tup xs =>
    cases y with
    | tup ys =>
      have h2 : Post Γ W (Rep Γ) ρ2 H2 σ L (M.bind (cLoop (cStep S2.length (tgSet t) ft fe (wipeL L own)) ((xs.zip ys).map fun p => D.tup [p.1, p.2])) (fun _ => M.pure (.ref S2.length)) (S2 ++ [.lst []])) Q := h2
      have r1 := Rep.mono p2 x2 _ r1
      simp only [Rep] at r1 r2
      obtain ⟨q1, us, rfl, hq1, rr1⟩ := r1
      obtain ⟨q2, ws, rfl, hq2, rr2⟩ := r2
      refine ⟨q1, q2, us, ws, rfl, .inr ⟨hq1, hq2, fun A hA => ?_⟩⟩
      obtain ⟨rl3, hp3, pre, ex⟩ := comp_new rl2 hA
      have s1 : ∀ {H3 : Hp}, Ext (upd H2 A (.lst [])) H3 → SqT Γ.K H3 q1 us := fun z => (ex.trans z).sqT hq1
      have s2 : ∀ {H3 : Hp}, Ext (upd H2 A (.lst [])) H3 → SqT Γ.K H3 q2 ws := fun z => (ex.trans z).sqT hq2
      have lz : ((xs.zip ys).map fun p => D.tup [p.1, p.2]).length = min us.length ws.length := by
        rw [List.length_map, List.length_zip, rr1.length, rr2.length]
      refine comp_itemsX (items := (xs.zip ys).map fun p => D.tup [p.1, p.2]) hh tk (fun i ρ3 H3 p3 x3 hi => ?_) (fun i ρ3 H3 p3 x3 hi => ?_) (fun i d ρ3 H3 z H4 p3 x3 hd y => ?_) rl3 hp3 (Post.mono pre ex h2)
      · exact ⟨us, ws, s1 x3, s2 x3, by rw [lz] at hi; omega⟩
      · obtain ⟨a, b, ea, eb, _⟩ := zip_get xs ys i _ (List.getElem?_eq_getElem hi)
        obtain ⟨va, e1, _⟩ := rr1.get ea
        obtain ⟨vb, e2, _⟩ := rr2.get eb
        exact ⟨us, ws, va, vb, s1 x3, s2 x3, e1, e2⟩
      · obtain ⟨T, va, vb, rfl, hT, rfl, ya, yb⟩ := y
        obtain ⟨a, b, ea, eb, rfl⟩ := zip_get xs ys i d hd
        obtain ⟨va', e1, ra⟩ := rr1.get ea
        obtain ⟨vb', e2, rb⟩ := rr2.get eb
        obtain rfl : va = va' := Option.some.inj ((ya us (s1 x3)).symm.trans e1)
        obtain rfl : vb = vb' := Option.some.inj ((yb ws (s2 x3)).symm.trans e2)
        have eT : Ext H3 (upd H3 T (.tup [va, vb])) := Ext.new hT
        refine ⟨eT, fun c hc => upd_ne (fun z => hc (by rw [z]; exact hT)), ?_⟩
        simp only [Rep]
        refine ⟨T, [va, vb], rfl, .inl (.inl upd_same), ?_⟩
        have m : ∀ {u : V} {e : D}, Rep Γ ρ2 H2 u e → Rep Γ ρ3 (upd H3 T (.tup [va, vb])) u e := fun {u e} r => Rep.mono (pre.trans p3) (ex.trans (x3.trans eT)) e r
        simp only [Reps]
        exact ⟨m ra, m rb, trivial⟩
    | _ => exact h2.elim
  | _ =>
    cases y <;> exact h2.elim
end
end Bv
end
section
/-! B2: from the text to the tongue -/
namespace Bv
open PySem L2 PyProof.Rows
/-- what a global name is: a def (its place, how many parameters, what fills up, its keyword), a constant, a built-in -/
inductive Gv where
  | fn (i np : Nat) (dds : List D) (kn : Option PySem.Str) | con (d : D) | blt | cls (j : Nat) (fl : Bool) | fnH (i : Nat)
  /-- an own class: the place of its making -/
  | mk (i np : Nat) (dds : List D) (kn : Option PySem.Str)
/-- the errors' fields, by the class's number -/
def fldName : Nat → PySem.Str
  | 1 => "thing"
  | 6 => "word"
  | _ => "fault"
def fldCls (x : PySem.Str) : Option Nat := if x = "thing" then some 1 else if x = "word" then some 6 else if x = "fault" then some 14 else none
structure CE where
  N : List PySem.Str
  sc : List (PySem.Str × NameKind)
  G : List (PySem.Str × Gv)
  /-- within an except suite: the place of the exception's name -/
  md : Option (Option Nat)
  /-- within a comprehension's block: its names as written -/
  raw : Option (List (PySem.Str × NameKind)) := none
  /-- has the held exception no context -/
  zn : Bool := true
  /-- methods: name, class, def, how many parameters -/
  ms : List (PySem.Str × Nat × Nat × Nat) := []
def CE.cold (c : CE) : Bool := c.md.isNone
def CE.hs (c : CE) : Option Nat := c.md.getD none
def idx (x : PySem.Str) : List PySem.Str → Nat → Option Nat
  | [], _ => none
  | y :: r, i => if x = y then some i else idx x r (i + 1)
theorem idx_ok {x : PySem.Str} : ∀ {l : List PySem.Str} {i j : Nat}, idx x l i = some j → i ≤ j ∧ l[j - i]? = some x
  | [], _, _, h => by simp [idx] at h
  | y :: r, i, j, h => by
    simp only [idx] at h
    by_cases e : x = y
    · rw [if_pos e] at h
      have : i = j := by simpa using h
      subst this
      exact ⟨Nat.le_refl _, by simp [e]⟩
    · rw [if_neg e] at h
      obtain ⟨h1, h2⟩ := idx_ok h
      refine ⟨by omega, ?_⟩
      rw [show j - i = (j - (i + 1)) + 1 by omega]
      simpa using h2
section
variable (c : CE)
/-- a name's place -/
def slotOf (x : PySem.Str) : Option Nat := match c.sc.lookup x with
  | some .local => idx x c.N 0
  | some .cell => idx x c.N 0
  | _ => none
def oddName (x : PySem.Str) : Bool := (x == ("__debug__" : PySem.Str)) || (x == ("__classdict__" : PySem.Str)) || decide (x = "__name__")
def glob (x : PySem.Str) : Option Gv := if c.sc.lookup x = some .globalImplicit ∧ oddName x = false then c.G.lookup x else none
def isStar : Expr → Bool
  | .Starred _ _ => true
  | _ => false
def isSlice : Expr → Bool
  | .Slice _ _ _ _ => true
  | _ => false
def isSet : Expr → Bool
  | .Set _ _ _ => true
  | _ => false
def isComp : Expr → Bool
  | .ListComp _ _ _ _ => true
  | .SetComp _ _ _ _ => true
  | .DictComp _ _ _ _ _ => true
  | _ => false
/-- whose truth as a test is its value's -/
def isPlainT : Expr → Bool
  | .UnaryOp .Not _ _ => false
  | .BoolOp _ _ _ => false
  | .IfExp _ _ _ _ => false
  | .Compare _ _ _ _ => false
  | _ => true
def binOf : Operator → Option Op2
  | .Add => some .add
  | .Sub => some .sub
  | .Mult => some .mul
  | .FloorDiv => some .fdiv
  | .Mod => some .mod
  | .Pow => some .pow
  | .LShift => some .shl
  | _ => none
def cmpOf : CmpOp → Option Cm
  | .Eq => some .eq
  | .NotEq => some .ne
  | .Lt => some .lt
  | .LtE => some .le
  | .Gt => some .gt
  | .GtE => some .ge
  | .In => some .isIn
  | .NotIn => some .notIn
  | .Is => some .is
  | .IsNot => some .isnt
/-- built-ins by name and number of arguments -/
def primOf2 (x : PySem.Str) (n : Nat) : Option Pr :=
  if x = "all" ∧ n = 1 then some .all1 else if x = "any" ∧ n = 1 then some .any1 else if x = "list" ∧ n = 1 then some .list1 else if x = "tuple" ∧ n = 1 then some .tuple1 else if x = "int" ∧ n = 2 then some .int2 else none
def primOf (x : PySem.Str) (n : Nat) : Option Pr :=
  if x = "len" ∧ n = 1 then some .len else if x = "abs" ∧ n = 1 then some .abs else if x = "max" ∧ n = 2 then some .max2 else if x = "max" ∧ n = 3 then some .max3
  else if x = "min" ∧ n = 2 then some .min2 else if x = "int" ∧ n = 1 then some .int1 else if x = "str" ∧ n = 1 then some .str1 else if x = "divmod" ∧ n = 2 then some .divmod
  else if x = "isinstance" ∧ n = 2 then some .isinst else primOf2 x n
def tyOf (x : PySem.Str) : Option Nat :=
  if x = "int" then some 0 else if x = "bool" then some 1 else if x = "str" then some 2 else if x = "tuple" then some 3 else if x = "list" then some 4 else none
def kwNames : List Keyword → List (Option PySem.Str)
  | [] => []
  | ⟨n, _, _⟩ :: r => n :: kwNames r
def noStar : List Expr → Bool
  | [] => true
  | e :: es => !isStar e && noStar es
def compRow (f : Expr → E) : List Expr → E
  | [] => .nil
  | e :: es => .cons (f e) (compRow f es)
def compEs (f : Expr → E) (es : List Expr) : E := if noStar es = true then compRow f es else .bad
def compAnd (f : Expr → E) : List Expr → E
  | [] => .bad
  | e :: es => match es with
    | [] => f e
    | _ :: _ => .and (f e) (compAnd f es)
def compOr (f : Expr → E) : List Expr → E
  | [] => .bad
  | e :: es => match es with
    | [] => f e
    | _ :: _ => .or (f e) (compOr f es)
def compO (f : Expr → E) : Option Expr → E
  | none => .none
  | some e => f e
def compName (x : PySem.Str) : E := match slotOf c x with
  | some i => if oddName x = false ∧ c.hs ≠ some i then .var i else .bad
  | none => match glob c x with
    | some (.con d) => .con d
    | some (.fn i _ _ _) => if c.cold = true then .con (.fn i) else .bad
    | some .blt => (match tyOf x with
      | some t => .con (.ty t)
      | none => .bad)
    | _ => .bad
def compCon : Const → E
  | .int i => .con (.int i)
  | .bool b => .con (.bl b)
  | .none => .con .non
  | .str x => if (x.cps.toList.all fun k => decide (k < 1114112)) = true then .con (.str x.cps.toList) else .bad
  | _ => .bad
def compCmp (f : Expr → E) (a : Expr) (ops : List CmpOp) (cs : List Expr) : E := match ops, cs with
  | [op], [b] => (match cmpOf op with
    | some o => if isSet b = false then .cmp o (f a) (f b) else .bad
    | none => .bad)
  | [op, op'], [b, d] => (match cmpOf op, cmpOf op' with
    | some o, some o' => if isSet d = false then .chain o o' (f a) (f b) (f d) else .bad
    | _, _ => .bad)
  | _, _ => .bad
def compSub (f : Expr → E) (a s : Expr) : E := match s with
  | .Slice lo hi none _ => .sl (f a) (compO f lo) (compO f hi)
  | .Slice none none (some (.UnaryOp .USub (.Constant (.int 1) _ _) _)) _ => .rev (f a)
  | s => if isSlice s = false then .ix (f a) (f s) else .bad
/-- a call of a name -/
def primCold : Pr → Bool
  | .max2 => true
  | .max3 => true
  | .min2 => true
  | .all1 => true
  | .any1 => true
  | .list1 => true
  | _ => false
/-- which class is asked: of the text, or ValueError -/
def clsOf (y : PySem.Str) : Option Nat := match glob c y with
  | some (.cls j _) => some j
  | some .blt => if y = "ValueError" then some 100 else none
  | _ => none
/-- the held exception's name -/
def isHeld (n : PySem.Str) : Option Nat := match slotOf c n with
  | some i => if oddName n = false ∧ c.hs = some i then some i else none
  | none => none
/-- the held exception's field -/
def compXf (n f : PySem.Str) : E := match isHeld c n, fldCls f with
  | some i, some k => .xf i k
  | _, _ => .bad
/-- an instance's field -/
def fieldOf (x : PySem.Str) : Option Nat := idx x iflNames 0
/-- whose attribute is asked plainly -/
def isBase : Expr → Bool
  | .Call (.Name id _) [] [] _ => decide (id ≠ "super")
  | _ => true
def compFld (f : Expr → E) (o : Expr) (x : PySem.Str) : E := match fieldOf x with
  | some i => if isBase o = true then .fld (f o) i else .bad
  | none => .bad
def compAttr (f : Expr → E) (o : Expr) (x : PySem.Str) : E := match o with
  | .Name n _ => if (isHeld c n).isSome = true then compXf c n x else compFld f o x
  | o => compFld f o x
def compPrim (f : Expr → E) (x : PySem.Str) (es : List Expr) : E := match primOf x es.length with
  | some p => if c.cold = true ∨ primCold p = false then .prim p (compEs f es) else .bad
  | none => .bad
def compIsi (f : Expr → E) (x : PySem.Str) (es : List Expr) : E := match es with
  | [.Name n _, .Name y _] => (match isHeld c n with
    | some i => (match clsOf c y with
      | some j => if x = "isinstance" ∧ c.zn = true then .xis i j else .bad
      | none => .bad)
    | none => compPrim c f x es)
  | es => compPrim c f x es
def compHot (i : Nat) (es : List Expr) : E := match es with
  | [.Name n _] => (match isHeld c n with
    | some j => if c.zn = true then .xcall i j else .bad
    | none => .bad)
  | _ => .bad
/-- the defs that may be called so -/
def okV (n : Nat) : List Nat := c.G.filterMap fun p => match c.G.lookup p.1 with
  | some (.fn i np [] _) => if np = n then some i else none
  | _ => none
def okVK (n : Nat) (k : PySem.Str) : List Nat := c.G.filterMap fun p => match c.G.lookup p.1 with
  | some (.fn i np _ (some kn)) => if np = n + 1 ∧ kn = k then some i else none
  | _ => none
/-- a call of what a name holds -/
def compCallL (f : Expr → E) (x : PySem.Str) (es : List Expr) : E := if (slotOf c x).isSome = true ∧ es.isEmpty = false ∧ noStar es = true ∧ c.cold = true then .callV (okV c es.length) (compName c x) (compEs f es) else .bad
def compCallN (f : Expr → E) (x : PySem.Str) (es : List Expr) (kws : List Keyword) : E := match glob c x, kws with
  | some (.fn i _ dds _), [] => if c.cold = true then .call i (compEs f es) dds else .bad
  | some (.mk i _ dds _), [] => if c.cold = true then .call i (compEs f es) dds else .bad
  | some (.mk i np _ (some kn)), [⟨some k, v, _⟩] => if k = kn ∧ np = 1 ∧ es.isEmpty = true ∧ c.cold = true then .callK i 0 .nil (f v) else .bad
  | some .blt, [] => compIsi c f x es
  | some (.fnH i), [] => compHot c i es
  | some (.fn i np _ (some kn)), [⟨some k, v, _⟩] => if k = kn ∧ es.length + 1 = np ∧ es.isEmpty = false ∧ c.cold = true then .callK i (np - 1) (compEs f es) (f v) else .bad
  | none, [] => compCallL c f x es
  | _, _ => .bad
def isTruth : List Expr → Bool
  | [.Constant (.bool _) _ _] => true
  | _ => false
def methOf (m : PySem.Str) (es : List Expr) : Option Mt :=
  if m = "append" ∧ es.length = 1 then some .append else if m = "extend" ∧ es.length = 1 then some .extend else if m = "count" ∧ es.length = 1 then some .count else if m = "index" ∧ es.length = 1 ∧ isTruth es = true then some .index else if m = "pop" ∧ es.length = 0 then some .pop
  else if m = "split" ∧ es.length = 1 then some .split else if m = "join" ∧ es.length = 1 then some .join else if m = "index" ∧ es.length = 1 ∧ isTruth es = false then some .sindex else if m = "find" ∧ es.length = 2 then some .find2 else none
/-- the classes that have such a method -/
def msOf (m : PySem.Str) (n : Nat) : List (Nat × Nat) := c.ms.filterMap fun p => if p.1 = m ∧ p.2.2.2 = n + 1 then some (p.2.1, p.2.2.1) else none
def compCallI (f : Expr → E) (o : Expr) (m : PySem.Str) (es : List Expr) : E := match es with
  | [e] => if m = "get" then .dget1 (f o) (f e) else if m ∉ iflNames ∧ c.cold = true then .mcall (msOf c m 1) (f o) (compEs f [e]) else .bad
  | [e, e'] => if m = "get" then .dget2 (f o) (f e) (f e') else if m ∉ iflNames ∧ c.cold = true then .mcall (msOf c m 2) (f o) (compEs f [e, e']) else .bad
  | es => if m ∉ iflNames ∧ c.cold = true ∧ es.length < 20 then .mcall (msOf c m es.length) (f o) (compEs f es) else .bad
def compCallM (f : Expr → E) (o : Expr) (m : PySem.Str) (apos : Pos) (es : List Expr) (kws : List Keyword) (pos : Pos) : E := match kws with
  | [] => if isBase o = true ∧ (apos.endLine == pos.line) = true then (match methOf m es with
    | some mt => if noStar es = true then .meth mt (f o) (compEs f es) else .bad
    | none => if noStar es = true then compCallI c f o m es else .bad) else .bad
  | _ => .bad
/-! calls of values -/
def isSubscript : Expr → Bool
  | .Subscript _ _ _ => true
  | _ => false
def compCallV (f : Expr → E) (fe : Expr) (es : List Expr) (kws : List Keyword) : E := match kws with
  | [] => if isSubscript fe = true ∧ es.isEmpty = false ∧ noStar es = true ∧ c.cold = true then .callV (okV c es.length) (f fe) (compEs f es) else .bad
  | [⟨some k, v, _⟩] => if isSubscript fe = true ∧ es.isEmpty = false ∧ noStar es = true ∧ c.cold = true then .callVK (okVK c es.length k) (f fe) (compEs f es) (f v) else .bad
  | _ => .bad
/-! dicts written -/
def keyOf : Option Expr → Option Key
  | some (.Constant (.int i) _ _) => some (.inl i)
  | some (.UnaryOp .USub (.Constant (.int i) _ _) _) => some (.inl (-i))
  | some (.Constant (.str x) _ _) => if (x.cps.toList.all fun k => decide (k < 1114112)) = true then some (.inr x) else none
  | _ => none
def keysOf : List (Option Expr) → Option (List Key)
  | [] => some []
  | e :: es => match keyOf e, keysOf es with
    | some k, some ks => some (k :: ks)
    | _, _ => none
def dK : Key → D
  | .inl i => .int i
  | .inr x => .str x.cps.toList
def compDct (f : Expr → E) (ks : List (Option Expr)) (vs : List Expr) : E := match keysOf ks with
  | some kk => if kk.length = vs.length ∧ kk.length ≤ 15 then .dct (kk.map dK) (compRow f vs) else .bad
  | none => .bad
/-! targets -/
/-- may it be stored to -/
def canSt (x : PySem.Str) : Bool := match c.raw with
  | none => true
  | some r => decide (c.sc.lookup x = some .local) || decide (r.lookup x = some .cell)
def slotsOf : List Expr → Option (List Nat)
  | [] => some []
  | .Name x _ :: r => (match slotOf c x, slotsOf r with
    | some i, some is => if canSt c x = true then some (i :: is) else none
    | _, _ => none)
  | _ => none
def tgOf : Expr → Option Tg
  | .Name x _ => if canSt c x = true then (slotOf c x).map Tg.name else none
  | .Tuple ts _ _ => (slotsOf c ts).map Tg.names
  | _ => none
def isBlt : Option Gv → Bool
  | some .blt => true
  | _ => false
def srcOf (f : Expr → E) (it : Expr) : Option Src := match it with
  | .Call (.Name r _) [a] [] _ => if r = "range" ∧ isBlt (glob c r) = true ∧ isStar a = false then some (.range1 (f a)) else some (.seq (f it))
  | .Call (.Name r _) [a, b] [] _ => if r = "range" ∧ isBlt (glob c r) = true ∧ isStar a = false ∧ isStar b = false then some (.range2 (f a) (f b)) else some (.seq (f it))
  | it => if isSet it = false then some (.seq (f it)) else none
/-! comprehensions -/
def relab (sc names : List (PySem.Str × NameKind)) : List (PySem.Str × NameKind) := names.map fun (n, k) => if (k == .free && sc.lookup n == some .cell) then (n, .cell) else (n, k)
def CE.blk (c : CE) (scope : Scope) : CE := { c with sc := relab c.sc scope.names, raw := some scope.names }
def ownOf (scope : Scope) : List (PySem.Str × Nat) := scope.names.filterMap fun y => match y.2 with
  | .local => (idx y.1 c.N 0).map fun i => (y.1, i)
  | .cell => (idx y.1 c.N 0).map fun i => (y.1, i)
  | _ => none
def tgIn (own : List Nat) : Tg → Bool
  | .name i => decide (i ∈ own)
  | .names is => is.all fun i => decide (i ∈ own)
def compIfs (f : Expr → E) : List Expr → E
  | [] => .con (.bl true)
  | [e] => f e
  | _ => .bad
def compLC1 (f g : Expr → E) (elt : Expr) (gs : List Comprehension) (scope : Scope) : E := match gs with
  | [⟨tg, iter, ifs, 0⟩] => if c.cold = true ∧ blkC c.N { scope with names := c.sc } scope (ownOf c scope) = true then (match tgOf (c.blk scope) tg, srcOf c f iter with
    | some t, some (.range1 e) => if tgIn ((ownOf c scope).map (·.2)) t = true then .comp true t ((ownOf c scope).map (·.2)) e (compIfs g ifs) (g elt) else .bad
    | some t, some (.seq e) => if tgIn ((ownOf c scope).map (·.2)) t = true then .comp false t ((ownOf c scope).map (·.2)) e (compIfs g ifs) (g elt) else .bad
    | _, _ => .bad) else .bad
  | _ => .bad
/-- over zip of two tuples -/
def compLCz (f g : Expr → E) (elt : Expr) (tg a b : Expr) (ifs : List Expr) (scope : Scope) : E :=
  if c.cold = true ∧ blkC c.N { scope with names := c.sc } scope (ownOf c scope) = true then (match tgOf (c.blk scope) tg with
    | some t => if tgIn ((ownOf c scope).map (·.2)) t = true then .comp false t ((ownOf c scope).map (·.2)) (.zip (f a) (f b)) (compIfs g ifs) (g elt) else .bad
    | none => .bad) else .bad
def compLC (f g : Expr → E) (elt : Expr) (gs : List Comprehension) (scope : Scope) : E := match gs with
  | [⟨.Tuple ts kt pt, .Call (.Name r pr) [a, b] [] pc, ifs, 0⟩] => if r = "zip" ∧ isBlt (glob c r) = true ∧ isStar a = false ∧ isStar b = false then compLCz c f g elt (.Tuple ts kt pt) a b ifs scope else compLC1 c f g elt [⟨.Tuple ts kt pt, .Call (.Name r pr) [a, b] [] pc, ifs, 0⟩] scope
  | gs => compLC1 c f g elt gs scope
def compDC (f g : Expr → E) (key val : Expr) (gs : List Comprehension) (scope : Scope) : E := match gs with
  | [⟨tg, iter, ifs, 0⟩] => if c.cold = true ∧ blkC c.N { scope with names := c.sc } scope (ownOf c scope) = true then (match tgOf (c.blk scope) tg, srcOf c f iter with
    | some t, some (.range1 e) => if tgIn ((ownOf c scope).map (·.2)) t = true then .dcomp true t ((ownOf c scope).map (·.2)) e (compIfs g ifs) (g key) (g val) else .bad
    | some t, some (.seq e) => if tgIn ((ownOf c scope).map (·.2)) t = true then .dcomp false t ((ownOf c scope).map (·.2)) e (compIfs g ifs) (g key) (g val) else .bad
    | _, _ => .bad) else .bad
  | _ => .bad
end
/-! f-strings -/
def partsJ (f : Expr → E) : List Expr → Option (List E)
  | [] => some []
  | .Constant (.str s) _ _ :: r => (partsJ f r).map fun l => compCon (.str s) :: l
  | .FormattedValue e k none _ :: r => if k = -1 then (partsJ f r).map fun l => f e :: l else none
  | _ => none
def chainJ (a : E) : List E → E
  | [] => a
  | p :: ps => chainJ (.op .add a p) ps
def compFS (f : Expr → E) (es : List Expr) : E := match es with
  | a :: b :: r => (match partsJ f (a :: b :: r) with
    | some ps => chainJ (.con (.str [])) ps
    | none => .bad)
  | _ => .bad
def compE : Nat → CE → Expr → E
  | 0, _, _ => .bad
  | n + 1, c, e => match e with
    | .Name x _ => compName c x
    | .Constant k _ _ => compCon k
    | .Tuple es _ _ => .tup (compEs (compE n c) es)
    | .List es _ => .lst (compEs (compE n c) es)
    | .BinOp a op b _ => (match binOf op with
      | some o => .op o (compE n c a) (compE n c b)
      | none => .bad)
    | .UnaryOp .USub a _ => .neg (compE n c a)
    | .UnaryOp .Not a _ => .not (compE n c a)
    | .Compare a ops cs _ => compCmp (compE n c) a ops cs
    | .BoolOp .And (a :: b :: es) _ => compAnd (compE n c) (a :: b :: es)
    | .BoolOp .Or (a :: b :: es) _ => compOr (compE n c) (a :: b :: es)
    | .IfExp t a b _ => .ite (compE n c t) (compE n c a) (compE n c b)
    | .Subscript a s _ => compSub (compE n c) a s
    | .Call (.Name x _) es kws _ => compCallN c (compE n c) x es kws
    | .Call (.Attribute o m apos) es kws pos => compCallM c (compE n c) o m apos es kws pos
    | .Call fe es kws _ => compCallV c (compE n c) fe es kws
    | .Attribute o m _ => compAttr c (compE n c) o m
    | .Dict ks vs _ => compDct (compE n c) ks vs
    | .JoinedStr es _ => compFS (compE n c) es
    | .ListComp elt gs scope _ => compLC c (compE n c) (compE n (c.blk scope)) elt gs scope
    | .DictComp key val gs scope _ => compDC c (compE n c) (compE n (c.blk scope)) key val gs scope
    | _ => .bad
end Bv
end
section
namespace Bv
open PySem L2 PyProof.Rows
/-- what is known of the text's classes of errors -/
structure ClsOk (Γ : Gm) : Prop where
  exm : ∀ c j, Γ.cl c = true → Γ.cl j = true → PySem.W.exmOne Γ.K (.ref (Γ.ca c)) (.ref (Γ.ca j)) = some (subC c j)
  inj : ∀ c c', Γ.cl c = true → looseC c' = true → Γ.ca c' = Γ.ca c → looseC c = true
  exc : ∀ c, Γ.cl c = true → ExcC Γ.K (Γ.ca c)
  kit : ∀ c j, Γ.cl c = true → Γ.cl j = true → PySem.W.kitOne Γ.K (.ref (Γ.ca c)) (.ref (Γ.ca j)) = some (subC c j)
  kiv : ∀ c, Γ.cl c = true → PySem.W.kitOne Γ.K (.ref (Γ.ca c)) (.type "ValueError") = some (subC c 100)
  fln : Γ.fld = fldName
  xfc : ∀ c, (c = 1 ∨ c = 6 ∨ c = 14) → Γ.cl c = true → XfC Γ.K (Γ.ca c) ∧ PySem.W.findIn Γ.K (.ref (Γ.ca c)) (Γ.fld c) = some none
/-- a class with one field -/
def OneC (Γ : Gm) (j : Nat) : Prop := ∃ fI q B newId initId bmB, PySem.OneX.Txt Γ.K (Γ.ca j) fI (Γ.fld j) q B newId initId bmB
/-- a class without an __init__ of its own -/
structure PlainC (K : PySem.W.Frag) (C : Addr) : Prop where
  ei : PySem.W.excIn K C He.veBase "ValueError.__new__" = true
  kp : PySem.W.keepIn K (.ref C) = true
  sb : PySem.W.subIn K (.ref C) (.type "BaseException") = some true
  ty : PySem.W.typeIn K (.ref C) = some (.type "type")
/-- what is known of a def of the text, for calls at level k -/
structure FnFact (Γ : Gm) (X : Cx) (C : Nat → List D → M D) (k : Nat) (x : PySem.Str) (i np : Nat) (dds : List D) (kn : Option PySem.Str) : Prop where
  ex : ∃ (fd : FuncData) (ps : List PySem.Str), X.mg x = some (.ref (Γ.fa i)) ∧ PySem.W.keepIn X.K (.ref (Γ.fa i)) = true ∧ FnOk X.prog X.w X.K X.mg X.base (CXm Γ X.prog X.w) k (Γ.fa i) fd ps (spF Γ np (C i)) ∧
    (∃ dvs ds, Vals dvs ds ∧ Binds X.K fd ps ds ∧ ∀ ρ H, Reps Γ ρ H dvs dds) ∧ ∀ k', kn = some k' → KBn X.K fd ps (np - 1) [k'] (fun us ws => us ++ ws) (fun vs zs => vs ++ zs)
  len : ∀ ds S, C i ds S ≠ .bad → ds.length = np
/-- a def's promise, called with the held exception -/
def spX (Γ : Gm) (h : Hx) (c : List D → M D) : Sp := fun vs H Q E => ∃ ρ S f, SRel Γ ρ H S ∧ vs = [.ref h.a] ∧ XRep Γ ρ H ⟨h.c, f⟩ h.dx ∧ PostC Γ ρ H (c [exnD h.c f] S) Q E
/-- what is known of such a def -/
structure HotFact (Γ : Gm) (P : Program) (w : World) (mg : PySem.Str → Option Value) (base : Heap) (C : Nat → List D → M D) (k : Nat) (x : PySem.Str) (i : Nat) : Prop where
  ex : ∃ (f : Addr) (fd : FuncData) (ps : List PySem.Str), mg x = some (.ref f) ∧ PySem.W.keepIn Γ.K (.ref f) = true ∧ ps.length = 1 ∧ Binds Γ.K fd ps [] ∧
    ∀ (h : Hx) (oe : Obj), Γ.cl h.c = true → L2N.Zn (.ref (Γ.ca h.c)) h.dx oe → (∃ vs, oe.data = .fields vs) → FnP P w Γ.K mg base k f fd ps (h.a, oe) (spX Γ h (C i))
/-- a method of an own class -/
structure MethFact (Γ : Gm) (X : Cx) (C : Nat → List D → M D) (k : Nat) (m : PySem.Str) (kk i np : Nat) : Prop where
  ex : ∃ (fd : FuncData) (ps : List PySem.Str), Γ.kl kk = true ∧ Meth X.K (Γ.ka kk) m (Γ.fa i) ∧ FnOk X.prog X.w X.K X.mg X.base (CXm Γ X.prog X.w) k (Γ.fa i) fd ps (spF Γ np (C i)) ∧ Binds X.K fd ps []
  len : ∀ ds S, C i ds S ≠ .bad → ds.length = np
/-- an own class that is made -/
structure MkFact (Γ : Gm) (X : Cx) (C : Nat → List D → M D) (k : Nat) (x : PySem.Str) (i np : Nat) (dds : List D) (kn : Option PySem.Str) : Prop where
  ex : ∃ (kk : Nat) (f : Addr), X.mg x = some (.ref (Γ.ka kk)) ∧ Γ.kl kk = true ∧ Mk X.K (Γ.ka kk) f ∧ ((∀ vs S, C i vs S = .bad) ∨ ∃ (k' : Nat) (fd : FuncData) (ps : List PySem.Str) (c0 : List D → M D), k = k' + 1 ∧ FnOk X.prog X.w X.K X.mg X.base (CXm Γ X.prog X.w) k' f fd ps (spF Γ (np + 1) c0) ∧ (∀ vs, C i vs = mkM np kk c0 vs) ∧
    (∃ dvs ds, Vals dvs ds ∧ Binds X.K fd ps ds ∧ ∀ ρ H, Reps Γ ρ H dvs dds) ∧ ∀ k'', kn = some k'' → KBn X.K fd ps np [k''] (fun us ws => us ++ ws) (fun vs zs => vs ++ zs))
/-- the text without a held exception -/
abbrev Gm.bare (Γ : Gm) : Gm := { Γ with hot := none }
structure Ctx (Γ : Gm) (X : Cx) (W : WX) (c : CE) (C : Nat → List D → M D) (k : Nat) : Prop where
  K : X.K = Γ.K
  N : X.N = c.N
  sc : X.env.scope.names = c.sc
  nd : X.N.Nodup
  hs : Γ.hs = c.hs
  room : L2H.RoomH k X.A
  calm : c.cold = true → X.calm = true
  rom : c.cold = true → Room k X.A
  pass : c.cold = true → PassesOwn (model X.prog X.w) X.A X.env X.xe
  pat : c.cold = true → ∀ hd : Option Value, PassesOwnAt (model X.prog X.w) (X.A.mark hd) X.A X.env X.xe
  tk : c.cold = true → TkM Γ X W
  frm : c.cold = true → c.raw = none → X.stack = X.env :: X.outer ∧ X.env.frame = some X.env.locals
  fn : ∀ x, canSt c x = true → X.fn x = true ∨ X.env.scope.names.lookup x = some .local
  kind : X.env.scope.kind = .function
  blt : ∀ x, c.G.lookup x = some .blt → X.mg x = none
  con : ∀ x d, c.G.lookup x = some (.con d) → ∃ v u, X.mg x = some u ∧ RelV v u ∧ ∀ ρ H, Rep Γ ρ H v d
  fns : c.cold = true → ∀ x i np dds kn, c.G.lookup x = some (.fn i np dds kn) → FnFact Γ X C k x i np dds kn
  cls : ∀ x j fl, c.G.lookup x = some (.cls j fl) → X.mg x = some (.ref (Γ.ca j)) ∧ Γ.cl j = true ∧ (fl = false → PlainC Γ.K (Γ.ca j)) ∧ (fl = true → OneC Γ j)
  clf : ClsOk Γ
  pin : ∀ h, Γ.hot = some h → ∃ oe, (h.a, oe) ∈ X.pn ∧ Zc (.ref (Γ.ca h.c)) h.dx oe ∧ (c.zn = true → L2N.Zn (.ref (Γ.ca h.c)) h.dx oe) ∧ (∃ vs, oe.data = .fields vs) ∧ Γ.cl h.c = true ∧ X.A.handled = some (.ref h.a)
  hfn : ∀ x i, c.G.lookup x = some (.fnH i) → HotFact Γ.bare X.prog X.w X.mg X.base C k x i
  hw : Γ.hot ≠ none → ∀ u d σ H, ¬ W u d σ H
  kls : KlsOk Γ X.K
  mth : c.cold = true → ∀ m kk i np, (m, kk, i, np) ∈ c.ms → MethFact Γ X C k m kk i np
  mks : c.cold = true → ∀ x i np dds kn, c.G.lookup x = some (.mk i np dds kn) → MkFact Γ X C k x i np dds kn
theorem bare_held {Γ : Gm} {h : Hx} (e : Γ.hot = some h) : Γ.bare.held h = Γ := by
  cases Γ
  cases e
  rfl
theorem cold_hot {Γ : Gm} {X : Cx} {W : WX} {c : CE} {C : Nat → List D → M D} {k : Nat} (x : Ctx Γ X W c C k) (h : c.cold = true) : Γ.hot = none := by
  have := x.hs
  unfold CE.cold at h
  unfold CE.hs at this
  rw [Option.isNone_iff_eq_none] at h
  rw [h] at this
  unfold Gm.hs at this
  cases e : Γ.hot with
  | none => rfl
  | some z => rw [e] at this; cases this
/-- nothing is raised within a block -/
theorem tk_none {Γ : Gm} {X : Cx} : TkM Γ X W0 := ⟨fun u s' ⟨_, _, _, _, _, _, _, _, _, _, _, _, _, _, _, _, w⟩ => w.elim, fun u s' ⟨_, _, _, _, _, _, _, _, _, _, _, _, _, _, _, _, w⟩ => w.2.elim⟩
theorem Ctx.blk {Γ : Gm} {X : Cx} {W : WX} {c : CE} {C : Nat → List D → M D} {k : Nat} (x : Ctx Γ X W c C k) (hcold : c.cold = true) {scope : Scope} (hk : scope.kind = .function) (s : Shared) (H : Hp) (A : Addr) (cl : List (PySem.Str × Addr)) (fp : List Addr) : Ctx Γ (X.blk s H scope (compEnvC scope cl A X.env) fp) W0 (c.blk scope) C k := by
  have hh := cold_hot x hcold
  have esc : (compEnvC scope cl A X.env).scope.names = relab c.sc scope.names := by
    show scope.names.map _ = scope.names.map _
    unfold Env.kindOf
    rw [x.kind, x.sc]
    refine List.map_congr_left fun y _ => ?_
    obtain ⟨n, q⟩ := y
    simp
  refine ⟨x.K, x.N, esc, x.nd, x.hs, x.room, fun _ => x.calm hcold, fun _ => x.rom hcold, fun _ => PassesOwn.never, fun _ _ => PassesOwnAt.never, fun _ => tk_none, (fun _ z => nomatch z), fun y hy => ?_, hk, x.blt, x.con, fun _ y i np dds kn e => ?_, x.cls, x.clf, fun h e => absurd (hh.symm.trans e) (fun z => nomatch z), x.hfn, fun h => absurd hh h, x.kls, fun _ m kk i np e => ?_, fun _ y i np dds kn e => ?_⟩
  · have hy : (decide ((relab c.sc scope.names).lookup y = some .local) || decide (scope.names.lookup y = some .cell)) = true := hy
    simp only [Bool.or_eq_true, decide_eq_true_eq] at hy
    rcases hy with hy | hy
    · exact .inr (by rw [esc]; exact hy)
    · exact .inl (by show (scope.names.lookup y == some .cell) = true; rw [hy]; rfl)
  · obtain ⟨h1, h2⟩ := x.fns hcold y i np dds kn e
    exact ⟨h1, h2⟩
  · obtain ⟨h1, h2⟩ := x.mth hcold m kk i np e
    exact ⟨h1, h2⟩
  · obtain ⟨h1⟩ := x.mks hcold y i np dds kn e
    exact ⟨h1⟩
section
variable {Γ : Gm} {X : Cx} {W : WX} {c : CE} {C : Nat → List D → M D} {k : Nat}
abbrev OkE (Γ : Gm) (X : Cx) (W : WX) (C : Nat → List D → M D) (e : Expr) (m : E) : Prop := PE X e (tD Γ W (ev C m).e) ∧ PT X e (tBl Γ W (ev C m).t) ∧ PO X (some e) (tOi Γ W (ev C m).p)
theorem PO.no {o : Option Expr} : PO X o (tOi Γ W FBad) := ⟨fun _ _ _ _ _ _ ⟨_, _, _, _, h⟩ => h.elim⟩
theorem ok_bad (e : Expr) : OkE Γ X W C e .bad := ⟨PE.no, PT.no, PO.no⟩
theorem ok3 {e : Expr} {f : F D} {t : F Bool} (h : PE X e (tD Γ W f) ∧ PT X e (tBl Γ W t)) : PE X e (tD Γ W f) ∧ PT X e (tBl Γ W t) ∧ PO X (some e) (tOi Γ W (partOf f)) := ⟨h.1, h.2, g_po1 h.1⟩
theorem plain_test {e : Expr} (h : isPlainT e = true) : ∀ whole, isTrue e X.env whole = (do let v ← whole; standAt e.pos; holding [v] (truthy v)) := by
  intro whole
  cases e <;> first
    | rfl
    | (simp [isPlainT] at h)
    | skip
  case UnaryOp op a pos => cases op <;> first | rfl | (simp [isPlainT] at h)
theorem ok_of (x : Ctx Γ X W c C k) {e : Expr} {f : F D} (h : PE X e (tD Γ W f)) (hp : isPlainT e = true) : PE X e (tD Γ W (mkE f).e) ∧ PT X e (tBl Γ W (mkE f).t) ∧ PO X (some e) (tOi Γ W (mkE f).p) := ⟨h, g_truth x.K h (plain_test hp), g_po1 h⟩
theorem star_each {e : Expr} (h : isStar e = false) (es : List Expr) (env : Env) : starEach (e :: es) env = (false, eval e env) :: starEach es env := by
  cases e <;> first | rfl | (simp [isStar] at h)
theorem glob_ok {x : PySem.Str} {g : Gv} (h : glob c x = some g) : c.sc.lookup x = some .globalImplicit ∧ c.G.lookup x = some g ∧ (x == ("__debug__" : PySem.Str)) = false ∧ x ≠ "__name__" := by
  unfold glob at h
  split at h
  · rename_i hc
    obtain ⟨h1, h2⟩ := hc
    unfold oddName at h2
    simp only [Bool.or_eq_false_iff, decide_eq_false_iff_not] at h2
    exact ⟨h1, h, h2.1.1, h2.2⟩
  · cases h
theorem gl_of (x : Ctx Γ X W c C k) {y : PySem.Str} (h : c.sc.lookup y = some .globalImplicit) : Gl X y := by
  show X.env.scope.names.lookup y = some .globalImplicit
  rw [x.sc]; exact h
theorem slot_ok (x : Ctx Γ X W c C k) {y : PySem.Str} {i : Nat} (h : slotOf c y = some i) : X.N[i]? = some y ∧ L2.Loc X.env.scope y := by
  unfold slotOf at h
  have key : ∀ nk, c.sc.lookup y = some nk → (nk = .local ∨ nk = .cell) → idx y c.N 0 = some i → X.N[i]? = some y ∧ L2.Loc X.env.scope y := fun nk h1 h2 h3 => by
    obtain ⟨_, h4⟩ := idx_ok h3
    refine ⟨by rw [x.N]; simpa using h4, ?_⟩
    unfold L2.Loc
    rw [x.sc, h1]
    rcases h2 with rfl | rfl
    · exact .inl rfl
    · exact .inr rfl
  split at h
  · exact key _ (by assumption) (.inl rfl) h
  · exact key _ (by assumption) (.inr rfl) h
  · cases h
theorem ok_name (x : Ctx Γ X W c C k) (y : PySem.Str) (pos : Pos) : OkE Γ X W C (.Name y pos) (compName c y) := by
  unfold compName
  split
  · rename_i i hi
    split
    · rename_i ho
      obtain ⟨ho, hn⟩ := ho
      obtain ⟨h1, h2⟩ := slot_ok x hi
      unfold oddName at ho
      simp only [Bool.or_eq_false_iff] at ho
      refine ok_of x (g_var (by rw [x.hs]; exact hn) h1 ?_ ho.1.1 ho.1.2) rfl
      rcases h2 with h | h
      · exact .inl h
      · exact .inr (.inl h)
    · exact ok_bad _
  · split
    · rename_i d hg
      obtain ⟨h1, h2, h3, h4⟩ := glob_ok hg
      obtain ⟨v, u, e1, e2, e3⟩ := x.con y d h2
      exact ok_of x (g_con (pe_glob (gl_of x h1) e1 e2 h3) e3) rfl
    · rename_i i np dds kn hg
      split
      · rename_i hcold
        obtain ⟨h1, h2, h3, h4⟩ := glob_ok hg
        obtain ⟨⟨fd, ps, m1, _⟩, _⟩ := x.fns hcold y i np dds kn h2
        exact ok_of x (g_con (v := .ref (Γ.fa i)) (pe_glob (gl_of x h1) m1 rfl h3) fun ρ H => by simp only [Rep]) rfl
      · exact ok_bad _
    · rename_i hg
      obtain ⟨h1, h2, h3, h4⟩ := glob_ok hg
      have hm := x.blt y h2
      split
      · rename_i t ht
        have all : bootBuiltins y = some (.type (tnOf t)) := by
          unfold tyOf at ht
          split at ht
          · rename_i e; subst e; cases ht; decide +kernel
          · split at ht
            · rename_i e; subst e; cases ht; decide +kernel
            · split at ht
              · rename_i e; subst e; cases ht; decide +kernel
              · split at ht
                · rename_i e; subst e; cases ht; decide +kernel
                · split at ht
                  · rename_i e; subst e; cases ht; decide +kernel
                  · cases ht
        exact ok_of x (g_con (v := .ty (tnOf t)) (pe_bltn (gl_of x h1) hm all rfl h4 h3) fun ρ H => by simp only [Rep]) rfl
      · exact ok_bad _
    · exact ok_bad _
theorem ok_con (x : Ctx Γ X W c C k) (q : Const) (j : Nat) (pos : Pos) : OkE Γ X W C (.Constant q j pos) (compCon q) := by
  cases q with
  | int i => exact ok_of x (g_con pe_int fun ρ H => rep_int.mpr rfl) rfl
  | bool b => exact ok_of x (g_con pe_bl fun ρ H => rep_bl.mpr rfl) rfl
  | none => exact ok_of x (g_con pe_non fun ρ H => rep_non.mpr rfl) rfl
  | str s =>
    simp only [compCon]
    split
    · rename_i h
      refine ok_of x (g_con pe_str fun ρ H => rep_str.mpr ⟨by simp, fun c hc => ?_⟩) rfl
      have := List.all_eq_true.mp h c hc
      simpa using this
    · exact ok_bad _
  | float _ => exact ok_bad _
  | complex _ _ => exact ok_bad _
  | bytes _ => exact ok_bad _
  | ellipsis => exact ok_bad _
theorem no_star : ∀ {es : List Expr}, noStar es = true → ∀ env pos, (backTo pos (starEach es env)).any (·.1) = false
  | [], _, _, _ => rfl
  | e :: es, h, env, pos => by
    simp only [noStar, Bool.and_eq_true, Bool.not_eq_true'] at h
    rw [star_each h.1]
    show (false || (backTo pos (starEach es env)).any (·.1)) = false
    rw [no_star h.2 env pos]; rfl
theorem star_cons {e : Expr} {es : List Expr} (h : noStar (e :: es) = true) : isStar e = false ∧ noStar es = true := by
  simpa only [noStar, Bool.and_eq_true, Bool.not_eq_true'] using h
theorem ok_row (f : Expr → E) (ih : ∀ e, OkE Γ X W C e (f e)) : ∀ es : List Expr, noStar es = true → PA X es (tDs Γ W (ev C (compRow f es)).s)
  | [], _ => g_nil
  | e :: es, h => g_cons (ih e).1 (ok_row f ih es (star_cons h).2) (star_each (star_cons h).1 es _)
theorem PA.no {es : List Expr} : PA X es (tDs Γ W FBad) := ⟨fun _ _ _ _ _ _ _ ⟨_, _, _, _, h⟩ => h.elim⟩
theorem ok_es (f : Expr → E) (ih : ∀ e, OkE Γ X W C e (f e)) (es : List Expr) : PA X es (tDs Γ W (ev C (compEs f es)).s) := by
  unfold compEs
  split
  · rename_i h; exact ok_row f ih es h
  · exact PA.no
theorem no_set {op : CmpOp} {b : Expr} (h : isSet b = false) : behindInMarks op b = false := by
  cases b <;> first | rfl | (simp [isSet] at h)
theorem op_of (x : Ctx Γ X W c C k) : ∀ {op : Operator} {o : Op2}, binOf op = some o → ∃ r, OpR X (binaryOp op) r ∧ Spec2 Γ (Rep Γ) r (op2 o)
  | .Add, _, h => by cases h; exact ⟨_, or_addA, x.K ▸ sp_add⟩
  | .Sub, _, h => by cases h; exact ⟨_, op_sub, sp_sub⟩
  | .Mult, _, h => by cases h; exact ⟨_, or_mulA, x.K ▸ sp_mul⟩
  | .FloorDiv, _, h => by cases h; exact ⟨_, op_fdivW, sp_fdiv⟩
  | .Mod, _, h => by cases h; exact ⟨_, op_mod, sp_mod⟩
  | .Pow, _, h => by cases h; exact ⟨_, op_pow, sp_pow⟩
  | .LShift, _, h => by cases h; exact ⟨_, op_shl, sp_shl⟩
  | .MatMult, _, h => by cases h
  | .Div, _, h => by cases h
  | .RShift, _, h => by cases h
  | .BitOr, _, h => by cases h
  | .BitXor, _, h => by cases h
  | .BitAnd, _, h => by cases h
theorem cmp_of (x : Ctx Γ X W c C k) : ∀ {op : CmpOp} {o : Cm}, cmpOf op = some o → ∃ r, OpR X (compareOp op) r ∧ SpecC Γ r (cmp2 o)
  | .Eq, _, h => by cases h; exact ⟨_, op_eqD (by have := x.room.un; omega), x.K ▸ sp_eq⟩
  | .NotEq, _, h => by cases h; exact ⟨_, op_neD (by have := x.room.un; omega), x.K ▸ sp_ne⟩
  | .Lt, _, h => by cases h; exact ⟨_, op_lt, sp_lt⟩
  | .LtE, _, h => by cases h; exact ⟨_, op_le, sp_le⟩
  | .Gt, _, h => by cases h; exact ⟨_, op_gt, sp_gt⟩
  | .GtE, _, h => by cases h; exact ⟨_, op_ge, sp_ge⟩
  | .In, _, h => by cases h; exact ⟨_, or_in, x.K ▸ sp_in⟩
  | .NotIn, _, h => by cases h; exact ⟨_, or_nin, x.K ▸ sp_nin⟩
  | .Is, _, h => by cases h; exact ⟨_, or_is, sp_is⟩
  | .IsNot, _, h => by cases h; exact ⟨_, or_isnt, sp_isnt⟩
theorem ok_cmp (x : Ctx Γ X W c C k) (f : Expr → E) (ih : ∀ e, OkE Γ X W C e (f e)) (a : Expr) (ops : List CmpOp) (cs : List Expr) (pos : Pos) : OkE Γ X W C (.Compare a ops cs pos) (compCmp f a ops cs) := by
  unfold compCmp
  split
  · rename_i op b
    split
    · rename_i o ho
      split
      · rename_i hs
        obtain ⟨r, h1, h2⟩ := cmp_of x ho
        exact ok3 (g_cmp h1 h2 (no_set hs) (ih a).1 (ih b).1)
      · exact ok_bad _
    · exact ok_bad _
  · rename_i op op' b d
    split
    · rename_i o o' ho ho'
      split
      · rename_i hs
        obtain ⟨r, h1, h2⟩ := cmp_of x ho
        obtain ⟨r', h1', h2'⟩ := cmp_of x ho'
        exact ok3 (g_chain h1 h1' h2 h2' (no_set (op := op') hs) (ih a).1 (ih b).1 (ih d).1)
      · exact ok_bad _
    · exact ok_bad _
  · exact ok_bad _
theorem ok_sub (x : Ctx Γ X W c C k) (f : Expr → E) (ih : ∀ e, OkE Γ X W C e (f e)) (a s : Expr) (pos : Pos) : OkE Γ X W C (.Subscript a s pos) (compSub f a s) := by
  have po : ∀ o : Option Expr, PO X o (tOi Γ W (ev C (compO f o)).p) := fun o => by
    cases o with
    | none => exact g_po0
    | some e => exact (ih e).2.2
  unfold compSub
  split
  · exact ok_of x (g_sl x.K (ih a).1 (po _) (po _)) rfl
  · exact ok_of x (g_rev x.K (ih a).1) rfl
  · split
    · rename_i hs
      refine ok_of x (g_ix x.K (by have := x.room.un; omega) (ih a).1 (ih s).1 ?_) rfl
      intro o i
      cases s <;> first | rfl | (simp [isSlice] at hs)
    · exact ok_bad _
theorem ok_and (x : Ctx Γ X W c C k) (f : Expr → E) (ih : ∀ e, OkE Γ X W C e (f e)) (pos : Pos) : ∀ es : List Expr, PE X (.BoolOp .And es pos) (tD Γ W (ev C (compAnd f es)).e) ∧ PW X (.BoolOp .And es pos) (tBl Γ W (ev C (compAnd f es)).t)
  | [] => ⟨PE.no, ⟨fun _ _ _ _ _ _ _ ⟨_, _, _, _, h⟩ => h.elim⟩⟩
  | [e] => ⟨g_and1 (ih e).1, pw_and1 (ih e).2.1⟩
  | e :: e' :: es => by
    obtain ⟨h1, h2⟩ := ok_and x f ih pos (e' :: es)
    exact ⟨g_and x.K (ih e).1 h1, g_andT (ih e).2.1 h2⟩
theorem ok_or (x : Ctx Γ X W c C k) (f : Expr → E) (ih : ∀ e, OkE Γ X W C e (f e)) (pos : Pos) : ∀ es : List Expr, PE X (.BoolOp .Or es pos) (tD Γ W (ev C (compOr f es)).e) ∧ PW X (.BoolOp .Or es pos) (tBl Γ W (ev C (compOr f es)).t)
  | [] => ⟨PE.no, ⟨fun _ _ _ _ _ _ _ ⟨_, _, _, _, h⟩ => h.elim⟩⟩
  | [e] => ⟨g_and1 (ih e).1, pw_or1 (ih e).2.1⟩
  | e :: e' :: es => by
    obtain ⟨h1, h2⟩ := ok_or x f ih pos (e' :: es)
    exact ⟨g_or x.K (ih e).1 h1, g_orT (ih e).2.1 h2⟩
/-! calls -/
theorem run_fnNS {CX : CXT} {n k : Nat} {f : Addr} {fd : FuncData} {ps ks : List PySem.Str} {sp : Sp} {E : XK} {g : List Value → List Value → List Value} {gV : List V → List V → List V} {pins : List (Addr × Obj)} {σ : L2.St} {H : Hp} {s : Shared} {Q : VK} {us ws : List Value} {vs zs : List V} (F : FnOk X.prog X.w X.K X.mg X.base CX k f fd ps sp) (hr : Room k X.A) (hb : KBn X.K fd ps n ks g gV) (hx : PassesAt CX X σ E)
    (I : Inv X pins σ H s) (r : Vals vs us) (rz : Vals zs ws) (l1 : vs.length = n) (l2 : zs.length = ks.length) (h : sp (gV vs zs) H Q E) : wpAny (model X.prog X.w) X.A (call (.ref f) us (ks.zip ws)) (EP X pins σ Q) X.xe s := by
  have r2 := hb.rel r rz
  refine wpAny_call (codeAny_mono (F.run X.A X.stack s H ⟨us, ks.zip ws⟩ (g us ws) (gV vs zs) Q E hr I.env0 (hb.to s us ws I.kIn (r.length.symm.trans l1) (rz.length.symm.trans l2)) r2 h) fun r s' hq => ?_)
  cases r with
  | error e => exact hx pins H s e s' I hq
  | ok fl =>
    cases fl with
    | ret u => exact I.after hq
    | next => exact False.elim hq
    | brk => exact False.elim hq
    | cont => exact False.elim hq
theorem pe_callNS {CX : CXT} {n k : Nat} {f : Addr} {fd : FuncData} {ps : List PySem.Str} {kn x : PySem.Str} {sp : Sp} {E : L2.St → XK} {p pos kpos : Pos} {e v : Expr} {es : List Expr} {t tk : TA} {g : List Value → List Value → List Value} {gV : List V → List V → List V} (F : FnOk X.prog X.w X.K X.mg X.base CX k f fd ps sp) (hr : Room k X.A) (hg : Gl X x) (hm : X.mg x = some (.ref f)) (hk : PySem.W.keepIn X.K (.ref f) = true) (hb : KBn X.K fd ps n [kn] g gV) (hx : ∀ σ, PassesAt CX X σ (E σ))
    (ha : PA X (e :: es) t) (hkw : PK X [⟨some kn, v, kpos⟩] tk) (hdb : (x == ("__debug__" : PySem.Str)) = false) (he : noStar (e :: es) = true) :
    PE X (.Call (.Name x p) (e :: es) [⟨some kn, v, kpos⟩] pos) (fun σ H Q => t σ H fun vs H1 => tk σ H1 fun zs H2 => vs.length = n ∧ zs.length = 1 ∧ sp (gV vs zs) H2 Q (E σ)) := by
  refine ⟨fun pins s σ H Q I h => ?_⟩
  refine wpAny_Call_Name_kw (ld_glob I hg hm ?_ hdb)
  refine PySem.W.callWith_KW (h₀ := X.base) I.ok.mod.kin hk (by rfl) (thn (ha.run pos pins s σ H _ I h) fun us s1 ⟨vs, H1, I1, r, q⟩ => ?_) ?_ (star_each (star_cons he).1 es _)
  · refine thn (hkw.run pos pins s1 σ H1 _ I1 q) fun ws s2 ⟨zs, H2, I2, rz, l1, l2, q2⟩ => ⟨I2.kIn, ?_⟩
    exact run_fnNS F hr hb (hx σ) I2 r rz l1 l2 q2
  · rw [no_star he]; rfl
theorem prim_ok2 (x : Ctx Γ X W c C k) {y : PySem.Str} {n : Nat} {p : Pr} (hp : primOf2 y n = some p) (hcd : c.cold = true ∨ primCold p = false) : ∃ r, SpecN Γ r (prim p) ∧ ((∃ id, bootBuiltins y = some (.builtin id) ∧ CallR X (.builtin id) r) ∨ ∃ T, bootBuiltins y = some (.type T) ∧ CallR X (.type T) r) := by
  have hK := x.K
  unfold primOf2 at hp
  split at hp
  · rename_i h; obtain ⟨rfl, rfl⟩ := h; cases hp
    exact ⟨_, sp_all, .inl ⟨"all", by decide +kernel, hK ▸ cr_all (x.calm (hcd.resolve_right (by decide)))⟩⟩
  split at hp
  · rename_i h; obtain ⟨rfl, rfl⟩ := h; cases hp
    exact ⟨_, sp_any, .inl ⟨"any", by decide +kernel, hK ▸ cr_any (x.calm (hcd.resolve_right (by decide)))⟩⟩
  split at hp
  · rename_i h; obtain ⟨rfl, rfl⟩ := h; cases hp
    exact ⟨_, sp_list1, .inr ⟨"list", by decide +kernel, hK ▸ CallR.or call_list_of (call_list_text (x.calm (hcd.resolve_right (by decide))))⟩⟩
  split at hp
  · rename_i h; obtain ⟨rfl, rfl⟩ := h; cases hp
    exact ⟨_, sp_tuple1, .inr ⟨"tuple", by decide +kernel, hK ▸ call_tuple_of⟩⟩
  split at hp
  · rename_i h; obtain ⟨rfl, rfl⟩ := h; cases hp
    exact ⟨_, sp_int2, .inr ⟨"int", by decide +kernel, call_int2⟩⟩
  · cases hp
theorem prim_ok (x : Ctx Γ X W c C k) {y : PySem.Str} {n : Nat} {p : Pr} (hp : primOf y n = some p) (hcd : c.cold = true ∨ primCold p = false) : ∃ r, SpecN Γ r (prim p) ∧ ((∃ id, bootBuiltins y = some (.builtin id) ∧ CallR X (.builtin id) r) ∨ ∃ T, bootBuiltins y = some (.type T) ∧ CallR X (.type T) r) := by
  have hK := x.K
  unfold primOf at hp
  split at hp
  · rename_i h; obtain ⟨rfl, rfl⟩ := h; cases hp
    exact ⟨_, sp_len, .inl ⟨"len", by decide +kernel, hK ▸ call_len⟩⟩
  split at hp
  · rename_i h; obtain ⟨rfl, rfl⟩ := h; cases hp
    exact ⟨_, sp_abs, .inl ⟨"abs", by decide +kernel, call_abs⟩⟩
  split at hp
  · rename_i h; obtain ⟨rfl, rfl⟩ := h; cases hp
    exact ⟨_, sp_max2, .inl ⟨"max", by decide +kernel, call_max2 (x.calm (hcd.resolve_right (by decide)))⟩⟩
  split at hp
  · rename_i h; obtain ⟨rfl, rfl⟩ := h; cases hp
    exact ⟨_, sp_max3, .inl ⟨"max", by decide +kernel, call_max3 (x.calm (hcd.resolve_right (by decide)))⟩⟩
  split at hp
  · rename_i h; obtain ⟨rfl, rfl⟩ := h; cases hp
    exact ⟨_, sp_min2, .inl ⟨"min", by decide +kernel, call_min2 (x.calm (hcd.resolve_right (by decide)))⟩⟩
  split at hp
  · rename_i h; obtain ⟨rfl, rfl⟩ := h; cases hp
    exact ⟨_, sp_int, .inr ⟨"int", by decide +kernel, or_int⟩⟩
  split at hp
  · rename_i h; obtain ⟨rfl, rfl⟩ := h; cases hp
    exact ⟨_, sp_str, .inr ⟨"str", by decide +kernel, call_str_int⟩⟩
  split at hp
  · rename_i h; obtain ⟨rfl, rfl⟩ := h; cases hp
    exact ⟨_, sp_divmod, .inl ⟨"divmod", by decide +kernel, call_divmodW⟩⟩
  split at hp
  · rename_i h; obtain ⟨rfl, rfl⟩ := h; cases hp
    exact ⟨_, sp_isinst, .inl ⟨"isinstance", by decide +kernel, hK ▸ call_isi⟩⟩
  · exact prim_ok2 x hp hcd
theorem ok_prim (x : Ctx Γ X W c C k) (f : Expr → E) (ih : ∀ e, OkE Γ X W C e (f e)) {y : PySem.Str} (py : Pos) (es : List Expr) (pos : Pos) (hg : glob c y = some .blt) : OkE Γ X W C (.Call (.Name y py) es [] pos) (compPrim c f y es) := by
  obtain ⟨h1, h2, h3, h4⟩ := glob_ok hg
  have hm := x.blt y h2
  unfold compPrim
  split
  · rename_i p hp
    split
    · rename_i hcd
      cases es with
      | nil =>
        exfalso
        unfold primOf primOf2 at hp
        simp at hp
      | cons e es =>
        by_cases hs : noStar (e :: es) = true
        · obtain ⟨r, sp, hc⟩ := prim_ok x hp hcd
          rcases hc with ⟨id, hv, hc⟩ | ⟨T, hv, hc⟩
          · exact ok_of x (g_prim sp (pe_callB hc (gl_of x h1) hm hv (ok_es f ih _) h4 h3 (star_each (star_cons hs).1 es _) (no_star (star_cons hs).2 _ _))) rfl
          · exact ok_of x (g_prim sp (pe_callTy hc (gl_of x h1) hm hv (ok_es f ih _) h4 h3 (star_each (star_cons hs).1 es _) (no_star (star_cons hs).2 _ _))) rfl
        · refine ok_of x (PE.weak (t := fun _ _ _ => False) ⟨fun _ _ _ _ _ _ h => h.elim⟩ fun σ H Q h => ?_) rfl
          obtain ⟨ρ, L, S, rl, h⟩ := h
          unfold compEs at h
          rw [if_neg hs] at h
          exact h
    · exact ok_bad _
  · exact ok_bad _
theorem held_ok (x : Ctx Γ X W c C k) {n : PySem.Str} {i : Nat} (h : isHeld c n = some i) : ∃ hx, Γ.hot = some hx ∧ hx.sl = i ∧ X.N[i]? = some n ∧ Vis X.env.scope n ∧ (n == ("__debug__" : PySem.Str)) = false ∧ (n == ("__classdict__" : PySem.Str)) = false := by
  unfold isHeld at h
  split at h
  · rename_i j hj
    split at h
    · rename_i ho
      cases h
      obtain ⟨ho, hn⟩ := ho
      obtain ⟨h1, h2⟩ := slot_ok x hj
      unfold oddName at ho
      simp only [Bool.or_eq_false_iff] at ho
      rw [← x.hs] at hn
      unfold Gm.hs at hn
      obtain ⟨hx, e1, e2⟩ := Option.map_eq_some_iff.mp hn
      refine ⟨hx, e1, e2, h1, ?_, ho.1.1, ho.1.2⟩
      rcases h2 with h | h
      · exact .inl h
      · exact .inr (.inl h)
    · cases h
  · cases h
/-- isinstance(e, C) -/
theorem g_xis {hx : Hx} {oe : Obj} {n y : PySem.Str} {py p1 p2 pos : Pos} {j : Nat} {cv : V} {u : Value} (hh : Γ.hot = some hx) (hp : (hx.a, oe) ∈ X.pn) (hz : L2N.Zn (.ref (Γ.ca hx.c)) hx.dx oe) (hf : ∃ vs, oe.data = .fields vs) (C : ExcC X.K (Γ.ca hx.c))
    (hN : X.N[hx.sl]? = some n) (hv : Vis X.env.scope n) (h1 : (n == ("__debug__" : PySem.Str)) = false) (h2 : (n == ("__classdict__" : PySem.Str)) = false) (hy : PE X (.Name y p2) (tC cv)) (hu : ∀ w, RelV cv w → w = u) (hk : PySem.W.kitOne X.K (.ref (Γ.ca hx.c)) u = some (subC hx.c j))
    (hg : Gl X "isinstance") (hm : X.mg "isinstance" = none) : PE X (.Call (.Name "isinstance" py) [.Name n p1, .Name y p2] [] pos) (tD Γ W (fXis hx.sl j)) := by
  refine ⟨fun pins s σ H Q I h => ?_⟩
  obtain ⟨ρ, L, S, rl, h⟩ := h
  obtain ⟨f, l1, l2, l3⟩ := rl.l.hot hx hh
  cases f with
  | some d =>
    simp only [fXis, List.getD_eq_getElem?_getD, l1, exnD] at h
    exact h.elim
  | none =>
    simp only [fXis, List.getD_eq_getElem?_getD, l1, exnD] at h
    have hd : hx.dx = none := l3.2
    have key := pe_callB (call_held hp C ⟨hz.1, hz.2.1.trans hd⟩ hf) (pos := pos) (p := py) (e := .Name n p1) hg hm (by decide +kernel) (pa_cons (pe_var hN hv h1 h2) (pa_cons hy pa_nil)) (by decide) (by decide)
    refine key.run pins s σ H Q I ⟨.ref hx.a, l2, cv, u, subC hx.c j, rfl, hu, hk, ?_⟩
    exact h ρ H (.bl (subC hx.c j)) (List.prefix_refl _) (Ext.refl _) rl (rep_bl.mpr rfl)
theorem ok_isi (x : Ctx Γ X W c C k) (f : Expr → E) (ih : ∀ e, OkE Γ X W C e (f e)) {y : PySem.Str} (py : Pos) (es : List Expr) (pos : Pos) (hg : glob c y = some .blt) : OkE Γ X W C (.Call (.Name y py) es [] pos) (compIsi c f y es) := by
  unfold compIsi
  split
  · rename_i n pn z pz
    split
    · rename_i i hi
      split
      · rename_i j hj
        split
        · rename_i hy
          obtain ⟨hy, hzn⟩ := hy
          subst hy
          obtain ⟨h1, h2, h3, h4⟩ := glob_ok hg
          obtain ⟨hx, e1, rfl, e3, e4, e5, e6⟩ := held_ok x hi
          obtain ⟨oe, p1, _, p2, p3, p4, p5⟩ := x.pin hx e1
          have p2 := p2 hzn
          unfold clsOf at hj
          split at hj
          · rename_i j' fl hz
            cases hj
            obtain ⟨g1, g2, g3, g4⟩ := glob_ok hz
            obtain ⟨c1, c2, c3, _⟩ := x.cls z j fl g2
            exact ok_of x (g_xis (cv := .ref (Γ.ca j)) (u := .ref (Γ.ca j)) e1 p1 p2 p3 (by rw [x.K]; exact x.clf.exc _ p4) e3 e4 e5 e6 (pe_glob (gl_of x g1) c1 rfl g3) (fun w r => by cases r; rfl) (by rw [x.K]; exact x.clf.kit _ _ p4 c2) (gl_of x h1) (x.blt _ h2)) rfl
          · rename_i hz
            split at hj
            · rename_i e
              subst e
              cases hj
              obtain ⟨g1, g2, g3, g4⟩ := glob_ok hz
              exact ok_of x (g_xis (cv := .ty "ValueError") (u := .type "ValueError") e1 p1 p2 p3 (by rw [x.K]; exact x.clf.exc _ p4) e3 e4 e5 e6 (pe_bltn (gl_of x g1) (x.blt _ g2) (by decide +kernel) rfl g4 g3) (fun w r => by cases r; rfl) (by rw [x.K]; exact x.clf.kiv _ p4) (gl_of x h1) (x.blt _ h2)) rfl
            · cases hj
          · cases hj
        · exact ok_bad _
      · exact ok_bad _
    · exact ok_prim x f ih py _ pos hg
  · exact ok_prim x f ih py _ pos hg
/-- its field -/
theorem ok_xf (x : Ctx Γ X W c C k) (n m : PySem.Str) (pn pos : Pos) : OkE Γ X W C (.Attribute (.Name n pn) m pos) (compXf c n m) := by
  unfold compXf
  split
  · rename_i i j hi hj
    obtain ⟨hx, e1, rfl, e3, e4, e5, e6⟩ := held_ok x hi
    obtain ⟨oe, p1, p2, _, p3, p4, p5⟩ := x.pin hx e1
    have hk : Γ.fld j = m ∧ (j = 1 ∨ j = 6 ∨ j = 14) := by
      rw [x.clf.fln]
      unfold fldCls at hj
      split at hj
      · rename_i e; cases hj; exact ⟨e.symm, .inl rfl⟩
      · split at hj
        · rename_i e; cases hj; exact ⟨e.symm, .inr (.inl rfl)⟩
        · split at hj
          · rename_i e; cases hj; exact ⟨e.symm, .inr (.inr rfl)⟩
          · cases hj
    by_cases hc : hx.c = j
    · refine ok_of x (g_xf e1 p1 p2 p3 (fun q hq hf => ?_) e3 e4 e5 e6 hk.1) rfl
      subst hq
      rw [x.K, ← hf]
      exact x.clf.xfc _ (hc ▸ hk.2) p4
    · refine ok_of x (PE.weak (t := fun _ _ _ => False) ⟨fun _ _ _ _ _ _ h => h.elim⟩ fun σ H Q h => ?_) rfl
      obtain ⟨ρ, L, S, rl, h⟩ := h
      obtain ⟨f', l1, l2, l3⟩ := rl.l.hot hx e1
      cases f' with
      | none =>
        simp only [fXf, List.getD_eq_getElem?_getD, l1, exnD] at h
        exact h
      | some d =>
        simp only [fXf, List.getD_eq_getElem?_getD, l1, exnD, Option.getD_some, if_neg hc] at h
        exact h
  · exact ok_bad _
/-- a def called with the held exception -/
theorem ok_hot (x : Ctx Γ X W c C k) {y : PySem.Str} (py : Pos) (es : List Expr) (pos : Pos) {i : Nat} (hg : glob c y = some (.fnH i)) : OkE Γ X W C (.Call (.Name y py) es [] pos) (compHot c i es) := by
  unfold compHot
  split
  · rename_i n pn
    split
    · rename_i j hj
      split
      case isFalse => exact ok_bad _
      rename_i hzn
      obtain ⟨h1, h2, h3, h4⟩ := glob_ok hg
      obtain ⟨hx, e1, rfl, e3, e4, e5, e6⟩ := held_ok x hj
      obtain ⟨oe, p1, _, p2, p3, p4, p5⟩ := x.pin hx e1
      have p2 := p2 hzn
      obtain ⟨f, fd, ps, m1, m2, m3, m4, m5⟩ := (x.hfn y i h2).ex
      have F := m5 hx oe p4 p2 p3
      rw [show Γ.bare.K = X.K from x.K.symm] at F m2 m4
      obtain ⟨fs, hfs⟩ := p3
      refine ok_of x (PE.weak (pe_held F x.room ⟨p5, fs, hfs, p2.2.2 fs hfs⟩ p1 (gl_of x h1) m1 m2 m4 m3 e3 e4 e5 e6 h3) fun σ H Q h => ?_) rfl
      obtain ⟨ρ, L, S, rl, h⟩ := h
      obtain ⟨f', l1, l2, l3⟩ := rl.l.hot hx e1
      simp only [fXcall, List.getD_eq_getElem?_getD, l1] at h
      have h : Post Γ W (Rep Γ) ρ H σ L (C i [exnD hx.c f'] S) Q := h
      have eb := bare_held e1
      have s0 : SRel Γ.bare ρ H S := SRel.free (h := hx) (by rw [eb]; exact rl.s)
      have x0 : XRep Γ.bare ρ H ⟨hx.c, f'⟩ hx.dx := xrep_held.mp (show XRep (Γ.bare.held hx) ρ H _ _ by rw [eb]; exact l3)
      refine ⟨.ref hx.a, l2, ρ, S, f', s0, rfl, x0, ?_⟩
      cases r : C i [exnD hx.c f'] S with
      | ok d S' =>
        rw [r] at h
        intro ρ' H' v p' x' s' r'
        refine h ρ' H' v p' x' ⟨?_, rl.l.mono p' x'⟩ ?_
        · rw [← eb]; exact s'.held
        · rw [← eb]; exact (rep_held d).mpr r'
      | exc z S' =>
        rw [r] at h
        intro ρ' H' dx p' x' s' r'
        refine x.hw (by rw [e1]; exact fun z => nomatch z) _ _ _ _ (h ρ' H' dx p' x' ?_ ?_)
        · rw [← eb]; exact s'.held
        · rw [← eb]; exact xrep_held.mpr r'
      | bad => rw [r] at h; exact h.elim
    · exact ok_bad _
  · exact ok_bad _
/-- no arguments -/
theorem nil_w {σ : L2.St} {H : Hp} {Q : List V → Hp → Prop} (h : tDs Γ W (fun _ => M.pure []) σ H Q) : tNil σ H Q := by
  obtain ⟨ρ, L, S, rl, h⟩ := h
  exact post_here (v := []) h rl (by simp only [Reps])
/-- an own class made -/
theorem pe_makeB {f : Addr} {Cc : Addr} {y : PySem.Str} {e : Expr} {es : List Expr} {py pos : Pos} {t : TA} (M : Mk X.K Cc f) (hg : Gl X y) (hm : X.mg y = some (.ref Cc)) (ha : PA X (e :: es) t) (hdb : (y == ("__debug__" : PySem.Str)) = false) (he : starEach (e :: es) X.env = (false, eval e X.env) :: starEach es X.env) (hpl : (backTo pos (starEach es X.env)).any (·.1) = false) :
    PE X (.Call (.Name y py) (e :: es) [] pos) (fun σ H Q => t σ H fun _ _ => False) := by
  refine ⟨fun pins s σ H Q I h => ?_⟩
  refine wpAny_Call_Name_kw (ld_glob I hg hm ?_ hdb)
  exact PySem.W.callWith_K (h₀ := X.base) I.ok.mod.kin M.kp (thn (ha.run pos pins s σ H _ I h) fun us s1 ⟨vs, H1, I1, r, q⟩ => q.elim) he hpl
theorem pe_makeBK {f : Addr} {Cc : Addr} {y kn : PySem.Str} {v : Expr} {kpos py pos : Pos} {tk : TA} (M : Mk X.K Cc f) (hg : Gl X y) (hm : X.mg y = some (.ref Cc)) (hkw : PK X [⟨some kn, v, kpos⟩] tk) (hdb : (y == ("__debug__" : PySem.Str)) = false) :
    PE X (.Call (.Name y py) [] [⟨some kn, v, kpos⟩] pos) (fun σ H Q => tk σ H fun _ _ => False) := by
  refine ⟨fun pins s σ H Q I h => ?_⟩
  refine wpAny_Call_Name_kw (ld_glob I hg hm ?_ hdb)
  refine PySem.W.callWith_KW0 (h₀ := X.base) I.ok.mod.kin M.kp rfl ?_ rfl
  exact thn (hkw.run pos pins s σ H _ I h) fun ws s2 ⟨zs, H2, I2, rz, q2⟩ => q2.elim
theorem ok_mk (x : Ctx Γ X W c C k) (f : Expr → E) (ih : ∀ e, OkE Γ X W C e (f e)) {y : PySem.Str} (py : Pos) (es : List Expr) (pos : Pos) {i np : Nat} {dds : List D} {kn : Option PySem.Str} (hg : glob c y = some (.mk i np dds kn)) : OkE Γ X W C (.Call (.Name y py) es [] pos) (if c.cold = true then .call i (compEs f es) dds else .bad) := by
  split
  · rename_i hcold
    obtain ⟨h1, h2, h3, h4⟩ := glob_ok hg
    have nost : ∀ {e : Expr} {es : List Expr}, ¬ noStar (e :: es) = true → OkE Γ X W C (.Call (.Name y py) (e :: es) [] pos) (.call i (compEs f (e :: es)) dds) := fun {e es} hs => by
      refine ok_of x (PE.weak (t := fun _ _ _ => False) ⟨fun _ _ _ _ _ _ h => h.elim⟩ fun σ H Q h => ?_) rfl
      obtain ⟨ρ, L, S, rl, h⟩ := h
      unfold compEs at h
      rw [if_neg hs] at h
      exact h
    obtain ⟨kk, fa, m1, m2, m3, hx⟩ := (x.mks hcold y i np dds kn h2).ex
    rcases hx with hb | ⟨k', fd, ps, c0, rfl, F, hC, ⟨dvs, ds, b1, b2, b3⟩, _⟩
    · cases es with
      | nil =>
        refine ok_of x (PE.weak (t := fun _ _ _ => False) ⟨fun _ _ _ _ _ _ h => h.elim⟩ fun σ H Q h => ?_) rfl
        obtain ⟨ρ, L, S, rl, h⟩ := h
        have h : Post Γ W (Rep Γ) ρ H σ L (C i ([] ++ dds) S) Q := h
        rw [hb] at h
        exact h
      | cons e es =>
        by_cases hs : noStar (e :: es) = true
        · refine ok_of x (PE.weak (pe_makeB m3 (gl_of x h1) m1 (ok_es f ih _) h3 (star_each (star_cons hs).1 es _) (no_star (star_cons hs).2 _ _)) fun σ H Q h => ?_) rfl
          obtain ⟨ρ, L, S, rl, h⟩ := h
          refine ⟨ρ, L, S, rl, Post.bind h fun ds' S1 ρ1 H1 vs p1 e1 rl1 r1 h1 => ?_⟩
          have h1 : Post Γ W (Rep Γ) ρ1 H1 σ L (C i (ds' ++ dds) S1) Q := h1
          rw [hb] at h1
          exact h1
        · exact nost hs
    · have key : ∀ (σ : L2.St) (H : Hp) (Q : VK), tD Γ W (ev C (.call i (compEs f es) dds)).e σ H Q → tMakeS (Γ.ka kk) (spF Γ (np + 1) c0) dvs (WE W) (tDs Γ W (ev C (compEs f es)).s) σ H Q := fun σ H Q h => by
        obtain ⟨ρ, L, S, rl, h⟩ := h
        refine ⟨ρ, L, S, rl, Post.bind h fun ds' S1 ρ1 H1 vs p1 e1 rl1 r1 h1 => ?_⟩
        have h1 : Post Γ W (Rep Γ) ρ1 H1 σ L (C i (ds' ++ dds) S1) Q := h1
        rw [hC] at h1
        exact post_make m2 rl1 (Reps.append r1 (b3 _ _)) h1
      cases es with
      | nil => exact ok_of x (PE.weak (pe_makeS0 m3 F (x.rom hcold) (gl_of x h1) m1 b2 b1 (fun σ => passM (x.tk hcold) σ) h3) fun σ H Q h => nil_w (key σ H Q h)) rfl
      | cons e es =>
        by_cases hs : noStar (e :: es) = true
        · exact ok_of x (PE.weak (pe_makeS m3 F (x.rom hcold) (gl_of x h1) m1 b2 b1 (fun σ => passM (x.tk hcold) σ) (ok_es f ih _) h3 (star_each (star_cons hs).1 es _) (no_star (star_cons hs).2 _ _)) key) rfl
        · exact nost hs
  · exact ok_bad _
theorem ok_mkK (x : Ctx Γ X W c C k) (f : Expr → E) (ih : ∀ e, OkE Γ X W C e (f e)) {y : PySem.Str} (py : Pos) (es : List Expr) (pos : Pos) {i np : Nat} {dds : List D} {kn k' : PySem.Str} {v : Expr} {kpos : Pos} (hg : glob c y = some (.mk i np dds (some kn))) : OkE Γ X W C (.Call (.Name y py) es [⟨some k', v, kpos⟩] pos) (if k' = kn ∧ np = 1 ∧ es.isEmpty = true ∧ c.cold = true then .callK i 0 .nil (f v) else .bad) := by
  split
  · rename_i hh
    obtain ⟨rfl, rfl, he, hcold⟩ := hh
    obtain ⟨h1, h2, h3, h4⟩ := glob_ok hg
    cases es with
    | cons _ _ => cases he
    | nil =>
      have pre : ∀ {σ : L2.St} {H : Hp} {Q : VK}, tD Γ W (ev C (.callK i 0 .nil (f v))).e σ H Q → ∃ ρ L S, Rel Γ ρ H σ L S ∧ Post Γ W (Rep Γ) ρ H σ L (M.bind ((ev C (f v)).e L) (fun w => C i ([] ++ [w])) S) Q := fun h => h
      obtain ⟨kk, fa, m1, m2, m3, hx⟩ := (x.mks hcold y i 1 dds _ h2).ex
      rcases hx with hb | ⟨k'', fd, ps, c0, rfl, F, hC, _, hK⟩
      · refine ok_of x (PE.weak (pe_makeBK m3 (gl_of x h1) m1 (pk_cons (ih v).1 pk_nil) h3) fun σ H Q h => ?_) rfl
        obtain ⟨ρ, L, S, rl, h⟩ := pre h
        refine ⟨ρ, L, S, rl, Post.bind h fun w S2 ρ2 H2 z p2 e2 rl2 r2 h2 => ?_⟩
        rw [hb] at h2
        exact h2
      · refine ok_of x (PE.weak (pe_makeK0S m3 F (x.rom hcold) (gl_of x h1) m1 (hK _ rfl) (fun σ => passM (x.tk hcold) σ) (pk_cons (ih v).1 pk_nil) h3) fun σ H Q h => ?_) rfl
        obtain ⟨ρ, L, S, rl, h⟩ := pre h
        refine ⟨ρ, L, S, rl, Post.bind h fun w S2 ρ2 H2 z p2 e2 rl2 r2 h2 => ?_⟩
        rw [hC] at h2
        exact ⟨rfl, post_make (vs := [z]) m2 rl2 (by simp only [List.nil_append, Reps]; exact ⟨r2, trivial⟩) h2⟩
  · exact ok_bad _
theorem okV_ok {n i : Nat} (h : i ∈ okV c n) : ∃ y kn, c.G.lookup y = some (.fn i n [] kn) := by
  unfold okV at h
  obtain ⟨p, _, e⟩ := List.mem_filterMap.mp h
  split at e
  · rename_i j np kn hg
    split at e
    · rename_i hn
      cases e
      exact ⟨p.1, kn, hn ▸ hg⟩
    · cases e
  · cases e
theorem fnIn_w {ok : List Nat} {d : D} {ρ : List Addr} {H : Hp} {σ : L2.St} {L : Loc} {S : Sto} {v : V} {k : Nat → M D} {Q : VK} (r : Rep Γ ρ H v d) (h : Post Γ W (Rep Γ) ρ H σ L (M.bind (fnIn ok d) k S) Q) : ∃ i, i ∈ ok ∧ v = .ref (Γ.fa i) ∧ Post Γ W (Rep Γ) ρ H σ L (k i S) Q := by
  cases d with
  | fn i =>
    unfold fnIn at h
    by_cases hi : i ∈ ok
    · simp only [if_pos hi] at h
      exact ⟨i, hi, by simpa only [Rep] using r, h⟩
    · simp only [if_neg hi] at h
      exact h.elim
  | _ => exact h.elim
theorem ok_callL (x : Ctx Γ X W c C k) (f : Expr → E) (ih : ∀ e, OkE Γ X W C e (f e)) (y : PySem.Str) (py : Pos) (es : List Expr) (pos : Pos) : OkE Γ X W C (.Call (.Name y py) es [] pos) (compCallL c f y es) := by
  unfold compCallL
  split
  · rename_i hh
    obtain ⟨hs, he, hn, hcold⟩ := hh
    cases es with
    | nil => cases he
    | cons e es =>
      refine ok_of x (PE.weak (pe_callVN (CX := CXm Γ X.prog X.w) (k := k) (E := WE W) (R := fun fa sp => ∃ i, i ∈ okV c (e :: es).length ∧ fa = Γ.fa i ∧ sp = spF Γ (e :: es).length (C i)) (ok_name x y py).1 (fun fa sp ⟨i, hi, e1, e2⟩ => ?_) (x.rom hcold) (fun σ => passM (x.tk hcold) σ) (ok_es f ih _) (star_each (star_cons hn).1 es _) (no_star (star_cons hn).2 _ _)) fun σ H Q h => ?_) rfl
      · subst e1 e2
        obtain ⟨y, kn, hy⟩ := okV_ok hi
        obtain ⟨⟨fd, ps, m1, m2, F, ⟨dvs, ds, b1, b2, b3⟩, _⟩, hl⟩ := x.fns hcold y i _ [] kn hy
        have b4 : dvs = [] := List.length_eq_zero_iff.mp (b3 [] (fun _ => none)).length
        subst b4
        cases b1
        exact ⟨fd, ps, F, b2, m2⟩
      · obtain ⟨ρ, L, S, rl, h⟩ := h
        refine ⟨ρ, L, S, rl, Post.bind h fun d S1 ρ1 H1 v p1 e1 rl1 r1 h1 => ?_⟩
        obtain ⟨i, hi, ev, h1⟩ := fnIn_w r1 h1
        obtain ⟨y, kn, hy⟩ := okV_ok hi
        obtain ⟨_, hl⟩ := x.fns hcold y i _ [] kn hy
        refine ⟨_, _, ev, ⟨i, hi, rfl, rfl⟩, ρ1, L, S1, rl1, Post.bind h1 fun ds S2 ρ2 H2 vs p2 e2 rl2 r2 h2 => ?_⟩
        have h2 : Post Γ W (Rep Γ) ρ2 H2 σ L (C i ds S2) Q := h2
        exact ⟨ρ2, S2, ds, rl2.s, r2, hl _ S2 (fun z => by rw [z] at h2; exact h2.elim), Post.toC rl2.l h2⟩
  · exact ok_bad _
theorem ok_callN (x : Ctx Γ X W c C k) (f : Expr → E) (ih : ∀ e, OkE Γ X W C e (f e)) (y : PySem.Str) (py : Pos) (es : List Expr) (kws : List Keyword) (pos : Pos) : OkE Γ X W C (.Call (.Name y py) es kws pos) (compCallN c f y es kws) := by
  unfold compCallN
  split
  · rename_i i np dds kn hg
    split
    · rename_i hcold
      obtain ⟨h1, h2, h3, h4⟩ := glob_ok hg
      obtain ⟨⟨fd, ps, m1, m2, F, ⟨dvs, ds, b1, b2, b3⟩, _⟩, hl⟩ := x.fns hcold y i np dds kn h2
      cases es with
      | nil => exact ok_of x (g_call (C := C i) hl b3 (PE.weak (pe_call0S F (x.rom hcold) (gl_of x h1) m1 m2 b2 b1 (fun σ => passM (x.tk hcold) σ) h3) fun σ H Q h => nil_w h)) rfl
      | cons e es =>
        by_cases hs : noStar (e :: es) = true
        · refine ok_of x (g_call (C := C i) hl b3 (pe_callSD F (x.rom hcold) (gl_of x h1) m1 m2 b2 b1 (fun σ => passM (x.tk hcold) σ) (ok_es f ih _) h3 (star_each (star_cons hs).1 es _) (no_star (star_cons hs).2 _ _))) rfl
        · refine ok_of x (PE.weak (t := fun _ _ _ => False) ⟨fun _ _ _ _ _ _ h => h.elim⟩ fun σ H Q h => ?_) rfl
          obtain ⟨ρ, L, S, rl, h⟩ := h
          unfold compEs at h
          rw [if_neg hs] at h
          exact h
    · exact ok_bad _
  · rename_i i np dds kn hg
    exact ok_mk x f ih py es pos hg
  · rename_i i np dds kn k' v kpos hg
    exact ok_mkK x f ih py es pos hg
  · rename_i hg
    exact ok_isi x f ih py es pos hg
  · rename_i i hg
    exact ok_hot x py es pos hg
  · rename_i i np dds kn k' v kpos hg
    split
    · rename_i hh
      obtain ⟨rfl, hn, he, hcold⟩ := hh
      obtain ⟨h1, h2, h3, h4⟩ := glob_ok hg
      obtain ⟨⟨fd, ps, m1, m2, F, _, hb⟩, hl⟩ := x.fns hcold y i np dds _ h2
      cases es with
      | nil => cases he
      | cons e es =>
        by_cases hs : noStar (e :: es) = true
        · refine ok_of x (PE.weak (pe_callNS F (x.rom hcold) (gl_of x h1) m1 m2 (hb _ rfl) (fun σ => passM (x.tk hcold) σ) (ok_es f ih _) (pk_cons (ih v).1 pk_nil) h3 hs) fun σ H Q h => ?_) rfl
          obtain ⟨ρ, L, S, rl, h⟩ := h
          refine ⟨ρ, L, S, rl, Post.bind h fun ds S1 ρ1 H1 vs p1 e1 rl1 r1 h1 => ⟨ρ1, L, S1, rl1, Post.bind h1 fun w S2 ρ2 H2 z p2 e2 rl2 r2 h2 => ?_⟩⟩
          have h2 : Post Γ W (Rep Γ) ρ2 H2 σ L (C i (ds ++ [w]) S2) Q := h2
          have hlen : (ds ++ [w]).length = np := hl _ S2 fun z => by rw [z] at h2; exact h2.elim
          have r1' := Reps.mono p2 e2 ds r1
          refine ⟨?_, rfl, ρ2, S2, ds ++ [w], rl2.s, Reps.append r1' (by simp only [Reps]; exact ⟨r2, trivial⟩), hlen, Post.toC rl2.l h2⟩
          rw [r1.length]
          simp at hlen
          omega
        · refine ok_of x (PE.weak (t := fun _ _ _ => False) ⟨fun _ _ _ _ _ _ h => h.elim⟩ fun σ H Q h => ?_) rfl
          obtain ⟨ρ, L, S, rl, h⟩ := h
          unfold compEs at h
          rw [if_neg hs] at h
          exact h
    · exact ok_bad _
  · exact ok_callL x f ih y py es pos
  · exact ok_bad _
theorem base_ok {o : Expr} {name : PySem.Str} (hb : isBase o = true) (env : Env) : attributeBase o name env (eval o env) = eval o env := by
  unfold attributeBase
  cases o <;> first | rfl | skip
  rename_i f2 a2 k2 p2
  cases f2 <;> first | rfl | skip
  cases a2 <;> first | rfl | skip
  cases k2 <;> first | rfl | skip
  simp only [isBase, decide_eq_true_eq] at hb
  exact if_pos (by simp [hb])
theorem lookN_mem {kk fi : Nat} : ∀ {l : List (Nat × Nat)}, lookN kk l = some fi → (kk, fi) ∈ l
  | [], h => by simp [lookN] at h
  | (d, f) :: r, h => by
    simp only [lookN] at h
    split at h
    · rename_i e
      cases h
      rw [e]
      exact List.mem_cons_self
    · exact List.mem_cons_of_mem _ (lookN_mem h)
theorem msOf_ok {m : PySem.Str} {n kk fi : Nat} (h : lookN kk (msOf c m n) = some fi) : (m, kk, fi, n + 1) ∈ c.ms := by
  obtain ⟨p, hp, e⟩ := List.mem_filterMap.mp (lookN_mem h)
  split at e
  · rename_i hh
    obtain ⟨q1, q2, q3, q4⟩ := p
    obtain ⟨rfl, rfl⟩ := hh
    cases e
    exact hp
  · cases e
/-- which method is meant -/
def MR (Γ : Gm) (c : CE) (C : Nat → List D → M D) (m : PySem.Str) (n : Nat) (K f : Addr) (sp : Sp) : Prop := ∃ kk i, (m, kk, i, n + 1) ∈ c.ms ∧ K = Γ.ka kk ∧ f = Γ.fa i ∧ sp = spF Γ (n + 1) (C i)
theorem mr_ok (x : Ctx Γ X W c C k) (hcold : c.cold = true) {m : PySem.Str} {n : Nat} (K f : Addr) (sp : Sp) (h : MR Γ c C m n K f sp) : ∃ fd ps, Cls X.K K ∧ Meth X.K K m f ∧ FnOk X.prog X.w X.K X.mg X.base (CXm Γ X.prog X.w) k f fd ps sp ∧ Binds X.K fd ps [] := by
  obtain ⟨kk, i, h1, rfl, rfl, rfl⟩ := h
  obtain ⟨⟨fd, ps, g1, g2, g3, g4⟩, _⟩ := x.mth hcold m kk i _ h1
  exact ⟨fd, ps, (x.kls kk g1).1, g2, g3, g4⟩
theorem w_mcall (x : Ctx Γ X W c C k) (hcold : c.cold = true) {m : PySem.Str} {n : Nat} (hm : m ∉ iflNames) {fo : F D} {fs : F (List D)} {σ : L2.St} {H : Hp} {Q : VK} (h : tD Γ W (fMcall C (msOf c m n) fo fs) σ H Q) : tMeths (MR Γ c C m n) m (WE W) (tD Γ W fo) (tDs Γ W fs) σ H Q := by
  obtain ⟨ρ, L, S, rl, h⟩ := h
  refine ⟨ρ, L, S, rl, Post.bind h fun d S1 ρ1 H1 v p1 e1 rl1 r1 h1 => ?_⟩
  obtain ⟨i, kk, fs', rfl, ei, h1⟩ := cls_w h1
  obtain ⟨p, dx, vs, rfl, hp, hH, hr, hk⟩ := ins_at rl1.s r1 ei
  cases e : lookN kk (msOf c m n) with
  | none => simp only [e] at h1; exact h1.elim
  | some fi =>
    simp only [e] at h1
    have hmem := msOf_ok e
    refine ⟨p, _, dx, vs, _, _, rfl, hH, hr.no hm, ⟨kk, fi, hmem, rfl, rfl, rfl⟩, ρ1, L, S1, rl1, Post.bind h1 fun ds S2 ρ2 H2 ws p2 e2 rl2 r2 h2 => ?_⟩
    have h2 : Post Γ W (Rep Γ) ρ2 H2 σ L (C fi (.ref i :: ds) S2) Q := h2
    have hl := (x.mth hcold m kk fi _ hmem).len (.ref i :: ds) S2 fun z => by rw [z] at h2; exact h2.elim
    refine ⟨ρ2, S2, .ref i :: ds, rl2.s, ?_, hl, Post.toC rl2.l h2⟩
    rw [Reps.cons_iff]
    exact ⟨_, _, rfl, Rep.mono p2 e2 _ r1, r2⟩
theorem few_ok {es : List Expr} {pos : Pos} (hs : noStar es = true) (hl : es.length < 25) : ((backTo pos (starEach es X.env)).all (fun x => !x.1) && (backToKw pos (keywordEach [] X.env)).all (fun x => x.1.isSome)
      && decide (es.length + ([] : List Keyword).length + (if ([] : List Keyword).isEmpty then 0 else 1) < 30)) = true := by
  have h1 : (backTo pos (starEach es X.env)).all (fun x => !x.1) = true := by
    have := no_star hs X.env pos
    rw [List.any_eq_false] at this
    rw [List.all_eq_true]
    intro y hy
    have := this y hy
    simpa using this
  rw [h1]
  simp only [Bool.true_and, Bool.and_eq_true, decide_eq_true_eq]
  refine ⟨rfl, ?_⟩
  simp
  omega
theorem ok_mcall (x : Ctx Γ X W c C k) (hcold : c.cold = true) (f : Expr → E) (ih : ∀ e, OkE Γ X W C e (f e)) (o : Expr) (m : PySem.Str) (apos : Pos) (es : List Expr) (pos : Pos) (hm : m ∉ iflNames) (hb : isBase o = true) (hl : (apos.endLine == pos.line) = true) (hs : noStar es = true) (hn : es.length < 25) : OkE Γ X W C (.Call (.Attribute o m apos) es [] pos) (.mcall (msOf c m es.length) (f o) (compEs f es)) := by
  cases es with
  | nil => exact ok_of x (PE.weak (pe_meths0 (ih o).1 (mr_ok x hcold) (x.rom hcold) (fun σ => passM (x.tk hcold) σ) (base_ok hb _) hl) fun σ H Q h => by
      have h := w_mcall x hcold hm h
      unfold tMeths at h ⊢
      obtain ⟨ρ, L, S, rl, h⟩ := h
      refine ⟨ρ, L, S, rl, h.imp fun v H' ⟨p, K, dx, fs, f, sp, h1, h2, h3, h4, h5⟩ => ⟨p, K, dx, fs, f, sp, h1, h2, h3, h4, nil_w h5⟩⟩) rfl
  | cons e es => exact ok_of x (PE.weak (pe_meths (ih o).1 (mr_ok x hcold) (x.rom hcold) (fun σ => passM (x.tk hcold) σ) (ok_es f ih _) (star_each (star_cons hs).1 es _) (no_star (star_cons hs).2 _ _) (base_ok hb _) (few_ok hs hn) hl) fun σ H Q h => w_mcall x hcold hm h) rfl
theorem ok_callI (x : Ctx Γ X W c C k) (f : Expr → E) (ih : ∀ e, OkE Γ X W C e (f e)) (o : Expr) (m : PySem.Str) (apos : Pos) (es : List Expr) (pos : Pos) (hb : isBase o = true) (hl : (apos.endLine == pos.line) = true) (hs : noStar es = true) : OkE Γ X W C (.Call (.Attribute o m apos) es [] pos) (compCallI c f o m es) := by
  have hu : X.A.units + 1 < cLine := by have := x.room.un; omega
  unfold compCallI
  split
  · rename_i e
    split
    · rename_i hm
      subst hm
      refine ok_of x (g_dget1 hu (ih o).1 (ih e).1 ⟨base_ok hb _, few_ok hs (by simp), hl, ?_⟩) rfl
      rw [star_each (star_cons hs).1]; rfl
    · split
      · rename_i hm
        exact ok_mcall x hm.2 f ih o m apos [e] pos hm.1 hb hl hs (by simp)
      · exact ok_bad _
  · rename_i e e'
    split
    · rename_i hm
      subst hm
      refine ok_of x (g_dget2 hu (ih o).1 (ih e).1 (ih e').1 ⟨base_ok hb _, few_ok hs (by simp), hl, ?_⟩) rfl
      rw [star_each (star_cons hs).1, star_each (star_cons (star_cons hs).2).1]; rfl
    · split
      · rename_i hm
        exact ok_mcall x hm.2 f ih o m apos [e, e'] pos hm.1 hb hl hs (by simp)
      · exact ok_bad _
  · split
    · rename_i hm
      exact ok_mcall x hm.2.1 f ih o m apos _ pos hm.1 hb hl hs (by omega)
    · exact ok_bad _
/-- an instance's field -/
theorem fieldOf_ok {y : PySem.Str} {i : Nat} (h : fieldOf y = some i) : i < 18 ∧ ifl i = y := by
  obtain ⟨h1, h2⟩ := idx_ok h
  rw [Nat.sub_zero] at h2
  refine ⟨(List.getElem?_eq_some_iff.mp h2).1, ?_⟩
  unfold ifl
  rw [List.getD_eq_getElem?_getD, h2]
  rfl
theorem ok_fld (x : Ctx Γ X W c C k) (f : Expr → E) (ih : ∀ e, OkE Γ X W C e (f e)) (o : Expr) (m : PySem.Str) (pos : Pos) : OkE Γ X W C (.Attribute o m pos) (compFld f o m) := by
  unfold compFld
  split
  · rename_i i hi
    split
    · rename_i hb
      obtain ⟨h1, rfl⟩ := fieldOf_ok hi
      exact ok_of x (g_fld x.kls h1 (ih o).1 (base_ok hb _)) rfl
    · exact ok_bad _
  · exact ok_bad _
theorem ok_attr (x : Ctx Γ X W c C k) (f : Expr → E) (ih : ∀ e, OkE Γ X W C e (f e)) (o : Expr) (m : PySem.Str) (pos : Pos) : OkE Γ X W C (.Attribute o m pos) (compAttr c f o m) := by
  unfold compAttr
  split
  · rename_i n pn
    split
    · exact ok_xf x n m pn pos
    · exact ok_fld x f ih _ m pos
  · exact ok_fld x f ih _ m pos
theorem chainJ_ev : ∀ (ps : List E) (a : E), (ev C (chainJ a ps)).e = foldJ (ev C a).e (ps.map fun p => (ev C p).e)
  | [], a => rfl
  | p :: ps, a => chainJ_ev ps (.op .add a p)
theorem parts_ok (x : Ctx Γ X W c C k) (f : Expr → E) (ih : ∀ e, OkE Γ X W C e (f e)) : ∀ (es : List Expr) (ps : List E), partsJ f es = some ps → ∃ ts, JPs Γ X W es (ps.map fun p => (ev C p).e) ts
  | [], ps, h => by cases h; exact ⟨[], .nil⟩
  | e :: es, ps, h => by
    unfold partsJ at h
    split at h
    · rename_i e0; cases e0
    · rename_i s j p r e0
      cases e0
      cases e1 : partsJ f es with
      | none => rw [e1] at h; cases h
      | some l =>
        rw [e1] at h
        cases h
        obtain ⟨ts, j⟩ := parts_ok x f ih es l e1
        exact ⟨_, .con (ok_con x _ _ _).1 j⟩
    · rename_i v q p r e0
      cases e0
      split at h
      · rename_i hk
        subst hk
        cases e1 : partsJ f es with
        | none => rw [e1] at h; cases h
        | some l =>
          rw [e1] at h
          cases h
          obtain ⟨ts, j⟩ := parts_ok x f ih es l e1
          exact ⟨_, .fmt (ih v).1 j⟩
      · cases h
    · cases h
theorem ok_fs (x : Ctx Γ X W c C k) (f : Expr → E) (ih : ∀ e, OkE Γ X W C e (f e)) (es : List Expr) (pos : Pos) : OkE Γ X W C (.JoinedStr es pos) (compFS f es) := by
  unfold compFS
  split
  · rename_i a b r
    split
    · rename_i ps hp
      obtain ⟨ts, j⟩ := parts_ok x f ih _ ps hp
      have g := g_fstr (pos := pos) j
      have e := chainJ_ev (C := C) ps (.con (.str []))
      have g2 : PE X (.JoinedStr (a :: b :: r) pos) (tD Γ W (ev C (chainJ (.con (.str [])) ps)).e) := by rw [e]; exact g
      have mk : ∀ (ps : List E) (a : E), (∃ f, ev C a = mkE f) → ∃ f, ev C (chainJ a ps) = mkE f := fun ps => by
        induction ps with
        | nil => intro a h; exact h
        | cons p ps ih => intro a _; exact ih (.op .add a p) ⟨_, rfl⟩
      obtain ⟨f, hf⟩ := mk ps (.con (.str [])) ⟨_, rfl⟩
      unfold OkE
      rw [hf] at g2 ⊢
      exact ok_of x g2 rfl
    · exact ok_bad _
  · exact ok_bad _
theorem ok_callM (x : Ctx Γ X W c C k) (f : Expr → E) (ih : ∀ e, OkE Γ X W C e (f e)) (o : Expr) (m : PySem.Str) (apos : Pos) (es : List Expr) (kws : List Keyword) (pos : Pos) : OkE Γ X W C (.Call (.Attribute o m apos) es kws pos) (compCallM c f o m apos es kws pos) := by
  unfold compCallM
  split
  · split
    · rename_i hh
      obtain ⟨hb, hl⟩ := hh
      split
      · rename_i mt hm
        split
        · rename_i hs
          have one : ∀ {r : V → List V → Hp → VK → Prop} {id : String}, es.length = 1 → PlainAttrs (tyM mt) → Slot (tyM mt) m id → typeOf (.builtin id) = pure (.type "method_descriptor") → MtR X id r → MSp Γ r mt → OkE Γ X W C (.Call (.Attribute o m apos) es [] pos) (.meth mt (f o) (compEs f es)) := fun {r id} hn pa sl ty hmt sp => by
            match es, hn, hs with
            | [e], _, hs =>
              refine ok_of x (g_meth x.K sp (pe_bm pa sl ty hmt (ih o).1 (ok_es f ih [e]) (base_ok hb _) ?_ hl (star_each (star_cons hs).1 [] _) rfl)) rfl
              rw [star_each (star_cons hs).1]; rfl
          unfold methOf at hm
          split at hm
          · rename_i h; obtain ⟨rfl, hn⟩ := h; cases hm
            exact one hn PySem.F.plainAttrs_list PySem.F.slot_list_append PySem.F.type_list_append mt_append sp_append
          split at hm
          · rename_i h; obtain ⟨rfl, hn⟩ := h; cases hm
            exact one hn PySem.F.plainAttrs_list PySem.F.slot_list_extend PySem.F.type_list_extend mt_extend sp_extend
          split at hm
          · rename_i h; obtain ⟨rfl, hn⟩ := h; cases hm
            exact one hn PySem.F.plainAttrs_list PySem.F.slot_list_count PySem.F.type_list_count mt_cntF (x.K ▸ sp_count)
          split at hm
          · rename_i h; obtain ⟨rfl, hn, _⟩ := h; cases hm
            exact one hn PySem.F.plainAttrs_list PySem.F.slot_list_index PySem.F.type_list_index mt_index (x.K ▸ sp_index)
          split at hm
          · rename_i h; obtain ⟨rfl, hn⟩ := h; cases hm
            match es, hn with
            | [], _ => exact ok_of x (g_meth0 x.K sp_pop (pe_bm0 PySem.F.plainAttrs_list PySem.F.slot_list_pop PySem.F.type_list_pop mt_pop (ih o).1 (base_ok hb _) hl)) rfl
          split at hm
          · rename_i h; obtain ⟨rfl, hn⟩ := h; cases hm
            exact one hn PySem.F.plainAttrs_str PySem.F.slot_str_split PySem.F.type_str_split mt_split sp_split
          split at hm
          · rename_i h; obtain ⟨rfl, hn⟩ := h; cases hm
            exact one hn PySem.F.plainAttrs_str PySem.F.slot_str_join PySem.F.type_str_join mt_join (x.K ▸ sp_join)
          split at hm
          · rename_i h; obtain ⟨rfl, hn, _⟩ := h; cases hm
            exact one hn PySem.F.plainAttrs_str PySem.F.slot_str_index PySem.F.type_str_index mt_sindex sp_sindex
          split at hm
          · rename_i h; obtain ⟨rfl, hn⟩ := h; cases hm
            match es, hn, hs with
            | [e, e'], _, hs =>
              refine ok_of x (g_meth x.K sp_find2 (pe_bm PySem.F.plainAttrs_str PySem.F.slot_str_find PySem.F.type_str_find mt_find3 (ih o).1 (ok_es f ih [e, e']) (base_ok hb _) ?_ hl (star_each (star_cons hs).1 [e'] _) (by rw [star_each (star_cons (star_cons hs).2).1]; rfl))) rfl
              rw [star_each (star_cons hs).1, star_each (star_cons (star_cons hs).2).1]; rfl
          · cases hm
        · exact ok_bad _
      · split
        · rename_i hs
          exact ok_callI x f ih o m apos es pos hb hl hs
        · exact ok_bad _
    · exact ok_bad _
  · exact ok_bad _
/-! calls of values -/
theorem okVK_ok {n i : Nat} {k' : PySem.Str} (h : i ∈ okVK c n k') : ∃ y dds, c.G.lookup y = some (.fn i (n + 1) dds (some k')) := by
  unfold okVK at h
  obtain ⟨p, _, e⟩ := List.mem_filterMap.mp h
  split at e
  · rename_i j np dds kn hg
    split at e
    · rename_i hn
      obtain ⟨rfl, rfl⟩ := hn
      cases e
      exact ⟨p.1, dds, hg⟩
    · cases e
  · cases e
theorem pe_callVK {CX : CXT} {n k : Nat} {E : L2.St → XK} {R : Addr → Sp → Prop} {kn : PySem.Str} {fe e v : Expr} {es : List Expr} {t tk : TA} {tf : TE} {pos kpos : Pos} (hf : PE X fe tf) (F : ∀ f sp, R f sp → ∃ fd ps g gV, FnOk X.prog X.w X.K X.mg X.base CX k f fd ps sp ∧ KBn X.K fd ps n [kn] g gV ∧ (∀ vs zs, gV vs zs = vs ++ zs) ∧ PySem.W.keepIn X.K (.ref f) = true) (hr : Room k X.A) (hx : ∀ σ, PassesAt CX X σ (E σ))
    (ha : PA X (e :: es) t) (hkw : PK X [⟨some kn, v, kpos⟩] tk) (he : noStar (e :: es) = true)
    (ht : eval (.Call fe (e :: es) [⟨some kn, v, kpos⟩] pos) X.env = (do callWith pos (← eval fe X.env) [] (backTo pos (starEach (e :: es) X.env)) (backToKw pos (keywordEach [⟨some kn, v, kpos⟩] X.env)))) :
    PE X (.Call fe (e :: es) [⟨some kn, v, kpos⟩] pos) (fun σ H Q => tf σ H fun y H1 => ∃ f sp, y = .ref f ∧ R f sp ∧ t σ H1 fun vs H2 => tk σ H2 fun zs H3 => vs.length = n ∧ zs.length = 1 ∧ sp (vs ++ zs) H3 Q (E σ)) := by
  refine ⟨fun pins s σ H Q I h => ?_⟩
  rw [ht]
  refine wpAny_bind (thn (hf.run pins s σ H _ I h) fun u s1 ⟨y, H1, I1, ry, f, sp, ey, ef, q⟩ => ?_)
  subst ey
  obtain rfl : u = Value.ref f := ry
  obtain ⟨fd, ps, g, gV, F1, hb, hgV, kp⟩ := F f sp ef
  refine PySem.W.callWith_KW (h₀ := X.base) I1.ok.mod.kin kp (by rfl) (thn (ha.run pos pins s1 σ H1 _ I1 q) fun us s1 ⟨vs, H1, I1, r, q⟩ => ?_) ?_ (star_each (star_cons he).1 es _)
  · refine thn (hkw.run pos pins s1 σ H1 _ I1 q) fun ws s2 ⟨zs, H2, I2, rz, l1, l2, q2⟩ => ⟨I2.kIn, ?_⟩
    exact run_fnNS F1 hr hb (hx σ) I2 r rz l1 l2 (by rw [hgV]; exact q2)
  · rw [no_star he]; rfl
theorem ok_callV (x : Ctx Γ X W c C k) (f : Expr → E) (ih : ∀ e, OkE Γ X W C e (f e)) (fe : Expr) (es : List Expr) (kws : List Keyword) (pos : Pos) : OkE Γ X W C (.Call fe es kws pos) (compCallV c f fe es kws) := by
  unfold compCallV
  split
  · split
    · rename_i hh
      obtain ⟨hs, he, hn, hcold⟩ := hh
      cases es with
      | nil => cases he
      | cons e es =>
        cases fe with
        | Subscript a b p =>
          refine ok_of x (PE.weak (pe_callV (CX := CXm Γ X.prog X.w) (k := k) (E := WE W) (R := fun fa sp => ∃ i, i ∈ okV c (e :: es).length ∧ fa = Γ.fa i ∧ sp = spF Γ (e :: es).length (C i)) (ih _).1 (fun fa sp ⟨i, hi, e1, e2⟩ => ?_) (x.rom hcold) (fun σ => passM (x.tk hcold) σ) (ok_es f ih _) rfl (star_each (star_cons hn).1 es _) (no_star (star_cons hn).2 _ _)) fun σ H Q h => ?_) rfl
          · subst e1 e2
            obtain ⟨y, kn, hy⟩ := okV_ok hi
            obtain ⟨⟨fd, ps, m1, m2, F, ⟨dvs, ds, b1, b2, b3⟩, _⟩, hl⟩ := x.fns hcold y i _ [] kn hy
            have b4 : dvs = [] := List.length_eq_zero_iff.mp (b3 [] (fun _ => none)).length
            subst b4
            cases b1
            exact ⟨fd, ps, F, b2, m2⟩
          · obtain ⟨ρ, L, S, rl, h⟩ := h
            refine ⟨ρ, L, S, rl, Post.bind h fun d S1 ρ1 H1 v p1 e1 rl1 r1 h1 => ?_⟩
            obtain ⟨i, hi, ev, h1⟩ := fnIn_w r1 h1
            obtain ⟨y, kn, hy⟩ := okV_ok hi
            obtain ⟨_, hl⟩ := x.fns hcold y i _ [] kn hy
            refine ⟨_, _, ev, ⟨i, hi, rfl, rfl⟩, ρ1, L, S1, rl1, Post.bind h1 fun ds S2 ρ2 H2 vs p2 e2 rl2 r2 h2 => ?_⟩
            have h2 : Post Γ W (Rep Γ) ρ2 H2 σ L (C i ds S2) Q := h2
            exact ⟨ρ2, S2, ds, rl2.s, r2, hl _ S2 (fun z => by rw [z] at h2; exact h2.elim), Post.toC rl2.l h2⟩
        | _ => cases hs
    · exact ok_bad _
  · rename_i kn v kpos
    split
    · rename_i hh
      obtain ⟨hs, he, hn, hcold⟩ := hh
      cases es with
      | nil => cases he
      | cons e es =>
        cases fe with
        | Subscript a b p =>
          refine ok_of x (PE.weak (pe_callVK (CX := CXm Γ X.prog X.w) (k := k) (n := (e :: es).length) (E := WE W) (R := fun fa sp => ∃ i, i ∈ okVK c (e :: es).length kn ∧ fa = Γ.fa i ∧ sp = spF Γ ((e :: es).length + 1) (C i)) (ih _).1 (fun fa sp ⟨i, hi, e1, e2⟩ => ?_) (x.rom hcold) (fun σ => passM (x.tk hcold) σ) (ok_es f ih _) (pk_cons (ih v).1 pk_nil) hn rfl) fun σ H Q h => ?_) rfl
          · subst e1 e2
            obtain ⟨y, dds, hy⟩ := okVK_ok hi
            obtain ⟨⟨fd, ps, m1, m2, F, _, hb⟩, hl⟩ := x.fns hcold y i _ dds _ hy
            exact ⟨fd, ps, _, _, F, hb _ rfl, fun _ _ => rfl, m2⟩
          · obtain ⟨ρ, L, S, rl, h⟩ := h
            refine ⟨ρ, L, S, rl, Post.bind h fun d S1 ρ1 H1 v p1 e1 rl1 r1 h1 => ?_⟩
            obtain ⟨i, hi, ev, h1⟩ := fnIn_w r1 h1
            obtain ⟨y, dds, hy⟩ := okVK_ok hi
            obtain ⟨_, hl⟩ := x.fns hcold y i _ dds _ hy
            refine ⟨_, _, ev, ⟨i, hi, rfl, rfl⟩, ρ1, L, S1, rl1, Post.bind h1 fun ds S2 ρ2 H2 vs p2 e2 rl2 r2 h2 => ⟨ρ2, L, S2, rl2, Post.bind h2 fun w S3 ρ3 H3 z p3 e3 rl3 r3 h3 => ?_⟩⟩
            have h3 : Post Γ W (Rep Γ) ρ3 H3 σ L (C i (ds ++ [w]) S3) Q := h3
            have hlen : (ds ++ [w]).length = (e :: es).length + 1 := hl _ S3 fun z => by rw [z] at h3; exact h3.elim
            have r2' := Reps.mono p3 e3 ds r2
            refine ⟨?_, rfl, ρ3, S3, ds ++ [w], rl3.s, Reps.append r2' (by simp only [Reps]; exact ⟨r3, trivial⟩), hlen, Post.toC rl3.l h3⟩
            rw [r2.length]
            simp at hlen
            simpa using hlen
        | _ => cases hs
    · exact ok_bad _
  · exact ok_bad _
/-! dicts written -/
theorem kD_dK {o : Option Expr} {q : Key} (h : keyOf o = some q) : kD (dK q) = some q := by
  unfold keyOf at h
  split at h
  · cases h; rfl
  · cases h; rfl
  · split at h
    · cases h
      simp [dK, kD]
    · cases h
  · cases h
theorem keys_map : ∀ {os : List (Option Expr)} {qs : List Key}, keysOf os = some qs → (qs.map dK).map kD = qs.map some
  | [], qs, h => by cases h; rfl
  | o :: os, qs, h => by
    simp only [keysOf] at h
    split at h
    · rename_i q qs' h1 h2
      cases h
      simp only [List.map_cons, keys_map h2, kD_dK h1]
    · cases h
theorem keys_len : ∀ {os : List (Option Expr)} {qs : List Key}, keysOf os = some qs → os.length = qs.length ∧ os.all (·.isSome) = true
  | [], qs, h => by cases h; exact ⟨rfl, rfl⟩
  | o :: os, qs, h => by
    simp only [keysOf] at h
    split at h
    · rename_i q qs' h1 h2
      cases h
      obtain ⟨l1, l2⟩ := keys_len h2
      refine ⟨by simp [l1], ?_⟩
      simp only [List.all_cons, l2, Bool.and_true]
      cases o with
      | none => simp [keyOf] at h1
      | some _ => rfl
    · cases h
theorem key_pe {e : Expr} {q : Key} (h : keyOf (some e) = some q) : PE X e (tC (kV q)) := by
  unfold keyOf at h
  split at h
  · rename_i i j p e1
    cases e1; cases h
    exact pe_int
  · rename_i i j p p' e1
    cases e1; cases h
    exact PE.weak (pe_un un_neg pe_int) fun σ H Q h => ⟨i, rfl, h⟩
  · rename_i s j p e1
    cases e1
    split at h
    · cases h
      exact pe_str
    · cases h
  · cases h
theorem ok_pps (f : Expr → E) (ih : ∀ e, OkE Γ X W C e (f e)) (pos : Pos) : ∀ {os : List (Option Expr)} {qs : List Key} {vs : List Expr}, keysOf os = some qs → qs.length = vs.length → PPs X pos os vs (trsOf Γ W qs (vs.map fun v => (ev C (f v)).e))
  | [], qs, [], h, _ => by cases h; exact pps_nil
  | o :: os, qs, vs, h, hl => by
    simp only [keysOf] at h
    split at h
    · rename_i q qs' h1 h2
      cases h
      cases vs with
      | nil => simp at hl
      | cons v vs =>
        cases o with
        | none => simp [keyOf] at h1
        | some e => exact pps_cons (key_pe h1) (ih v).1 (ok_pps f ih pos h2 (by simpa using hl))
    · cases h
  | [], qs, _ :: _, h, hl => by cases h; simp at hl
theorem row_seq (f : Expr → E) : ∀ vs : List Expr, (ev C (compRow f vs)).s = seqF (vs.map fun v => (ev C (f v)).e)
  | [] => rfl
  | v :: vs => by
    show fCons (ev C (f v)).e (ev C (compRow f vs)).s = fCons _ (seqF _)
    rw [row_seq f vs]
theorem ok_dct (x : Ctx Γ X W c C k) (f : Expr → E) (ih : ∀ e, OkE Γ X W C e (f e)) (os : List (Option Expr)) (vs : List Expr) (pos : Pos) : OkE Γ X W C (.Dict os vs pos) (compDct f os vs) := by
  unfold compDct
  split
  · rename_i qs hk
    split
    · rename_i hh
      obtain ⟨h1, h2⟩ := hh
      obtain ⟨l1, l2⟩ := keys_len hk
      have e0 : ev C (.dct (qs.map dK) (compRow f vs)) = mkE (fDct (qs.map dK) (seqF (vs.map fun v => (ev C (f v)).e))) := by
        rw [← row_seq f vs]; rfl
      unfold OkE
      rw [e0]
      cases os with
      | nil =>
        cases hk
        cases vs with
        | nil => exact ok_of x (PE.weak pe_dnewK fun σ H Q h => w_dct0 h) rfl
        | cons _ _ => simp at h1
      | cons o os =>
        exact ok_of x (PE.weak (pe_disp (ok_pps f ih pos hk h1) l2 (l1.trans h1) (by simp) (by rw [l1]; exact h2)) fun σ H Q h => w_dct (keys_map hk) (by simpa using h1) h2 h) rfl
    · exact ok_bad _
  · exact ok_bad _
/-! targets -/
theorem ok_slots (x : Ctx Γ X W c C k) : ∀ {ts : List Expr} {is : List Nat}, slotsOf c ts = some is → PGs X ts (gNames is) ∧ (assignEach ts X.env).length = is.length ∧ (assignEach ts X.env).findIdx? (·.1) = none
  | [], is, h => by
    simp only [slotsOf, Option.some.injEq] at h
    subst h
    exact ⟨pgs_nil, rfl, rfl⟩
  | t :: ts, is, h => by
    cases t with
    | Name y pos =>
      simp only [slotsOf] at h
      split at h
      · rename_i i is' h1 h2
        split at h
        · rename_i hc
          cases h
          obtain ⟨g1, g2, g3⟩ := ok_slots x h2
          obtain ⟨h3, h4⟩ := slot_ok x h1
          refine ⟨pgs_cons (pg_name x.nd h3 h4 (x.fn y hc)) g1 rfl, ?_, ?_⟩
          · show (assignEach ts X.env).length + 1 = is'.length + 1
            rw [g2]
          · show List.findIdx? (·.1) ((false, _) :: assignEach ts X.env) = none
            rw [List.findIdx?_cons]
            simp [g3]
        · cases h
      · cases h
    | _ => simp [slotsOf] at h
def gOf (Γ : Gm) : Tg → TG
  | .name i => gName i
  | .names is => gTup Γ.K is.length (gNames is)
theorem tg_pg (x : Ctx Γ X W c C k) (hcold : c.cold = true) {tg : Expr} {t : Tg} (h : tgOf c tg = some t) : PG X tg (gOf Γ t) := by
  cases tg with
  | Name y pos =>
    simp only [tgOf] at h
    split at h
    · rename_i hc
      rw [Option.map_eq_some_iff] at h
      obtain ⟨i, h1, rfl⟩ := h
      obtain ⟨h3, h4⟩ := slot_ok x h1
      exact pg_name x.nd h3 h4 (x.fn y hc)
    · cases h
  | Tuple ts j pos =>
    simp only [tgOf, Option.map_eq_some_iff] at h
    obtain ⟨is, h1, rfl⟩ := h
    obtain ⟨g1, g2, g3⟩ := ok_slots x h1
    show PG X _ (gTup Γ.K is.length (gNames is))
    rw [← x.K]
    exact pg_tup (x.calm hcold) g1 g2 g3
  | _ => simp [tgOf] at h
theorem tg_ok (hh : Γ.hot = none) : ∀ t : Tg, TgOk Γ (gOf Γ t) t
  | .name i => tg_name hh i
  | .names is => tg_names hh is
theorem tgw_ok (hh : Γ.hot = none) {own : List Nat} : ∀ {t : Tg}, tgIn own t = true → TgW Γ (gOf Γ t) t own
  | .name i, h => tgw_name hh (of_decide_eq_true h)
  | .names is, h => tgw_names hh fun i hm => of_decide_eq_true (List.all_eq_true.mp h i hm)
theorem ok_tgt (x : Ctx Γ X W c C k) (hcold : c.cold = true) {tg : Expr} {t : Tg} (h : tgOf c tg = some t) : ∃ g, PG X tg g ∧ TgOk Γ g t := ⟨_, tg_pg x hcold h, tg_ok (cold_hot x hcold) t⟩
theorem no_setIt {it : Expr} (h : isSet it = false) (env : Env) : ∀ y, foldedSetIterable it env y = pure y := by
  intro y
  cases it <;> first | rfl | (simp [isSet] at h)
theorem rg_ok (x : Ctx Γ X W c C k) {r : PySem.Str} (h : r = "range" ∧ isBlt (glob c r) = true) : Gl X "range" ∧ X.mg "range" = none := by
  obtain ⟨rfl, h⟩ := h
  cases e : glob c "range" with
  | none => rw [e] at h; cases h
  | some gv =>
    rw [e] at h
    cases gv with
    | blt =>
      obtain ⟨h1, h2, _, _⟩ := glob_ok e
      exact ⟨gl_of x h1, x.blt _ h2⟩
    | fn _ _ _ _ => cases h
    | con _ => cases h
    | cls _ _ => cases h
    | fnH _ => cases h
    | mk _ _ _ _ => cases h
/-- what a source is -/
theorem src_ok (x : Ctx Γ X W c C k) (f : Expr → E) (ih : ∀ e, OkE Γ X W C e (f e)) {it : Expr} {s : Src} (h : srcOf c f it = some s) :
    (∃ e, s = .range1 e ∧ (∀ tg, PI X tg it (iRng1 (tCons (tD Γ W (ev C e).e) tNil))) ∧ ∀ y, foldedSetIterable it X.env y = pure y) ∨ (∃ a b, s = .range2 a b ∧ (∀ tg, PI X tg it (iRng2 (tCons (tD Γ W (ev C a).e) (tCons (tD Γ W (ev C b).e) tNil)))) ∧ ∀ y, foldedSetIterable it X.env y = pure y) ∨
    (∃ e, s = .seq e ∧ (∀ tg, PI X tg it (iAny X.K (tD Γ W (ev C e).e))) ∧ ∀ y, foldedSetIterable it X.env y = pure y) := by
  unfold srcOf at h
  split at h
  · rename_i r pr a pos2
    by_cases hh : r = "range" ∧ isBlt (glob c r) = true ∧ isStar a = false
    · rw [if_pos hh] at h
      cases h
      obtain ⟨e1, e2⟩ := rg_ok x ⟨hh.1, hh.2.1⟩
      obtain ⟨rfl, _, h3⟩ := hh
      exact .inl ⟨_, rfl, fun tg => pi_range1 e1 e2 (pa_cons (ih a).1 pa_nil (star_each h3 [] _)) (star_each h3 [] _), fun _ => rfl⟩
    · rw [if_neg hh] at h
      cases h
      exact .inr (.inr ⟨_, rfl, fun tg => pi_any (ih _).1, fun _ => rfl⟩)
  · rename_i r pr a b' pos2
    by_cases hh : r = "range" ∧ isBlt (glob c r) = true ∧ isStar a = false ∧ isStar b' = false
    · rw [if_pos hh] at h
      cases h
      obtain ⟨e1, e2⟩ := rg_ok x ⟨hh.1, hh.2.1⟩
      obtain ⟨rfl, _, h3, h4⟩ := hh
      refine .inr (.inl ⟨_, _, rfl, fun tg => pi_range2 e1 e2 (pa_cons (ih a).1 (pa_cons (ih b').1 pa_nil (star_each h4 [] _)) (star_each h3 [b'] _)) ?_ (star_each h4 [] _), fun _ => rfl⟩)
      rw [star_each h3, star_each h4]; rfl
    · rw [if_neg hh] at h
      cases h
      exact .inr (.inr ⟨_, rfl, fun tg => pi_any (ih _).1, fun _ => rfl⟩)
  · split at h
    · rename_i hn
      cases h
      exact .inr (.inr ⟨_, rfl, fun tg => pi_any (ih _).1, no_setIt hn _⟩)
    · cases h
/-! comprehensions -/
theorem blk_ok (x : Ctx Γ X W c C k) {scope : Scope} (h : blkC c.N { scope with names := c.sc } scope (ownOf c scope) = true) : BlkOk X.N X.env.scope scope (ownOf c scope) := by
  obtain ⟨h1, h2, h3, h4, h5⟩ := blkOk_by h
  rw [← x.N] at h3 h5
  refine ⟨h1, h2, h3, fun y hy e => ?_, h5⟩
  have := h4 y hy e
  rw [x.sc]
  exact this
theorem ok_ifs {X : Cx} {c : CE} {W : WX} (x : Ctx Γ X W c C k) (g : Expr → E) (ih : ∀ e, OkE Γ X W C e (g e)) : ∀ ifs : List Expr, PTs X ifs (tBl Γ W (ev C (compIfs g ifs)).t)
  | [] => ⟨fun pins s σ H Q I ⟨ρ, L, S, rl, h⟩ => pts_nil.run pins s σ H Q I (post_here (d := true) (S := S) h rl rfl)⟩
  | [e] => pts_one (ih e).2.1
  | _ :: _ :: _ => ⟨fun _ _ _ _ _ _ ⟨_, _, _, _, h⟩ => h.elim⟩
/-- what a comprehension is -/
def LcD (Γ : Gm) (X : Cx) (W : WX) (elt tg iter : Expr) (ifs : List Expr) (scope : Scope) (own : List (PySem.Str × Nat)) (fc : F D) : Prop := ∃ wi gg tt te, PI X tg iter wi ∧ BlkOk X.N X.env.scope scope own ∧
  (∀ (s : Shared) (H : Hp) (A : Addr) (cl : List (PySem.Str × Addr)) (fp : List Addr), PG (X.blk s H scope (compEnvC scope cl A X.env) fp) tg gg) ∧ (∀ (s : Shared) (H : Hp) (A : Addr) (cl : List (PySem.Str × Addr)) (fp : List Addr), PTs (X.blk s H scope (compEnvC scope cl A X.env) fp) ifs tt) ∧
  (∀ (s : Shared) (H : Hp) (A : Addr) (cl : List (PySem.Str × Addr)) (fp : List Addr), PE (X.blk s H scope (compEnvC scope cl A X.env) fp) elt te) ∧ (∀ y, foldedSetIterable iter X.env y = pure y) ∧ ∀ σ H Q, tD Γ W fc σ H Q → tLc wi gg tt te (own.map (·.2)) σ H Q
theorem lc_data1 (x : Ctx Γ X W c C k) (f g : Expr → E) (ih : ∀ e, OkE Γ X W C e (f e)) (scope : Scope) (ig : ∀ (X' : Cx), Ctx Γ X' W0 (c.blk scope) C k → ∀ e, OkE Γ X' W0 C e (g e)) (elt : Expr) (gs : List Comprehension) :
    compLC1 c f g elt gs scope = .bad ∨ ∃ tg iter ifs fc, gs = [⟨tg, iter, ifs, 0⟩] ∧ c.cold = true ∧ ev C (compLC1 c f g elt gs scope) = mkE fc ∧ LcD Γ X W elt tg iter ifs scope (ownOf c scope) fc := by
  unfold compLC1
  split
  · rename_i tg iter ifs
    split
    · rename_i hh
      obtain ⟨hcold, hb⟩ := hh
      have ok := blk_ok x hb
      have hc0 : Γ.hot = none := cold_hot x hcold
      have xb := fun s H A cl fp => x.blk hcold ok.kind s H A cl fp
      split
      · rename_i t e ht hs
        split
        · rename_i hi
          rcases src_ok x f ih hs with ⟨e', q, h1, h2⟩ | ⟨_, _, q, _⟩ | ⟨_, q, _⟩
          · cases q
            exact .inr ⟨tg, iter, ifs, _, rfl, hcold, rfl, _, _, _, _, h1 tg, ok, fun s H A cl fp => tg_pg (xb s H A cl fp) hcold ht, fun s H A cl fp => ok_ifs (xb s H A cl fp) g (ig _ (xb s H A cl fp)) ifs, fun s H A cl fp => (ig _ (xb s H A cl fp) elt).1, h2, fun σ H Q h => w_compR hc0 (tgw_ok hc0 hi) h⟩
          · cases q
          · cases q
        · exact .inl rfl
      · rename_i t e ht hs
        split
        · rename_i hi
          rcases src_ok x f ih hs with ⟨_, q, _⟩ | ⟨_, _, q, _⟩ | ⟨e', q, h1, h2⟩
          · cases q
          · cases q
          · cases q
            exact .inr ⟨tg, iter, ifs, _, rfl, hcold, rfl, _, _, _, _, h1 tg, ok, fun s H A cl fp => tg_pg (xb s H A cl fp) hcold ht, fun s H A cl fp => ok_ifs (xb s H A cl fp) g (ig _ (xb s H A cl fp)) ifs, fun s H A cl fp => (ig _ (xb s H A cl fp) elt).1, h2, fun σ H Q h => by rw [x.K]; exact w_compS hc0 (tgw_ok hc0 hi) h⟩
        · exact .inl rfl
      · exact .inl rfl
    · exact .inl rfl
  · exact .inl rfl
theorem zp_ok (x : Ctx Γ X W c C k) {r : PySem.Str} (h : r = "zip" ∧ isBlt (glob c r) = true) : Gl X "zip" ∧ X.mg "zip" = none := by
  obtain ⟨rfl, h⟩ := h
  cases e : glob c "zip" with
  | none => rw [e] at h; cases h
  | some gv =>
    rw [e] at h
    cases gv with
    | blt =>
      obtain ⟨h1, h2, _, _⟩ := glob_ok e
      exact ⟨gl_of x h1, x.blt _ h2⟩
    | _ => cases h
theorem lc_data (x : Ctx Γ X W c C k) (f g : Expr → E) (ih : ∀ e, OkE Γ X W C e (f e)) (scope : Scope) (ig : ∀ (X' : Cx), Ctx Γ X' W0 (c.blk scope) C k → ∀ e, OkE Γ X' W0 C e (g e)) (elt : Expr) (gs : List Comprehension) :
    compLC c f g elt gs scope = .bad ∨ ∃ tg iter ifs fc, gs = [⟨tg, iter, ifs, 0⟩] ∧ c.cold = true ∧ ev C (compLC c f g elt gs scope) = mkE fc ∧ LcD Γ X W elt tg iter ifs scope (ownOf c scope) fc := by
  unfold compLC
  split
  · rename_i ts kt pt r pr a b pc ifs
    split
    · rename_i hz
      unfold compLCz
      split
      · rename_i hh
        obtain ⟨hcold, hb⟩ := hh
        have ok := blk_ok x hb
        have hc0 : Γ.hot = none := cold_hot x hcold
        have xb := fun s H A cl fp => x.blk hcold ok.kind s H A cl fp
        split
        · rename_i t ht
          split
          · rename_i hi
            obtain ⟨e1, e2⟩ := zp_ok x ⟨hz.1, hz.2.1⟩
            obtain ⟨rfl, _, h3, h4⟩ := hz
            refine .inr ⟨_, _, ifs, _, rfl, hcold, rfl, _, _, _, _, RZ.pi_zipA e1 e2 (pa_cons (ih a).1 (pa_cons (ih b).1 pa_nil (star_each h4 [] _)) (star_each h3 [b] _)) (star_each h3 [b] _) ?_, ok, fun s H A cl fp => tg_pg (xb s H A cl fp) hcold ht, fun s H A cl fp => ok_ifs (xb s H A cl fp) g (ig _ (xb s H A cl fp)) ifs, fun s H A cl fp => (ig _ (xb s H A cl fp) elt).1, fun _ => rfl, fun σ H Q h => by rw [x.K]; exact w_compZ hc0 (tgw_ok hc0 hi) h⟩
            rw [star_each h4]; rfl
          · exact .inl rfl
        · exact .inl rfl
      · exact .inl rfl
    · exact lc_data1 x f g ih scope ig elt _
  · exact lc_data1 x f g ih scope ig elt _
theorem ok_LC (x : Ctx Γ X W c C k) (f g : Expr → E) (ih : ∀ e, OkE Γ X W C e (f e)) (scope : Scope) (ig : ∀ (X' : Cx), Ctx Γ X' W0 (c.blk scope) C k → ∀ e, OkE Γ X' W0 C e (g e)) (elt : Expr) (gs : List Comprehension) (pos : Pos) : OkE Γ X W C (.ListComp elt gs scope pos) (compLC c f g elt gs scope) := by
  rcases lc_data x f g ih scope ig elt gs with e | ⟨tg, iter, ifs, fc, rfl, hcold, e, wi, gg, tt, te, h1, ok, h2, h3, h4, h5, h6⟩
  · rw [e]; exact ok_bad _
  · unfold OkE
    rw [e]
    exact ok_of x (PE.weak (pe_lc (x.calm hcold) x.nd h1 ok h2 h3 h4 h5) h6) rfl
theorem ok_DC (x : Ctx Γ X W c C k) (f g : Expr → E) (ih : ∀ e, OkE Γ X W C e (f e)) (scope : Scope) (ig : ∀ (X' : Cx), Ctx Γ X' W0 (c.blk scope) C k → ∀ e, OkE Γ X' W0 C e (g e)) (key val : Expr) (gs : List Comprehension) (pos : Pos) : OkE Γ X W C (.DictComp key val gs scope pos) (compDC c f g key val gs scope) := by
  unfold compDC
  split
  · rename_i tg iter ifs
    split
    · rename_i hh
      obtain ⟨hcold, hb⟩ := hh
      have ok := blk_ok x hb
      have hc0 : Γ.hot = none := cold_hot x hcold
      have xb := fun s H A cl fp => x.blk hcold ok.kind s H A cl fp
      split
      · rename_i t e ht hs
        split
        · rename_i hi
          rcases src_ok x f ih hs with ⟨e', q, h1, h2⟩ | ⟨_, _, q, _⟩ | ⟨_, q, _⟩
          · cases q
            exact ok_of x (PE.weak (pe_dc (x.calm hcold) x.nd (h1 tg) ok (fun s H A cl fp => tg_pg (xb s H A cl fp) hcold ht) (fun s H A cl fp => ok_ifs (xb s H A cl fp) g (ig _ (xb s H A cl fp)) ifs) (fun s H A cl fp => (ig _ (xb s H A cl fp) key).1) (fun s H A cl fp => (ig _ (xb s H A cl fp) val).1) h2) fun σ H Q h => w_dcompR hc0 (tgw_ok hc0 hi) h) rfl
          · cases q
          · cases q
        · exact ok_bad _
      · rename_i t e ht hs
        split
        · rename_i hi
          rcases src_ok x f ih hs with ⟨_, q, _⟩ | ⟨_, _, q, _⟩ | ⟨e', q, h1, h2⟩
          · cases q
          · cases q
          · cases q
            exact ok_of x (PE.weak (pe_dc (x.calm hcold) x.nd (h1 tg) ok (fun s H A cl fp => tg_pg (xb s H A cl fp) hcold ht) (fun s H A cl fp => ok_ifs (xb s H A cl fp) g (ig _ (xb s H A cl fp)) ifs) (fun s H A cl fp => (ig _ (xb s H A cl fp) key).1) (fun s H A cl fp => (ig _ (xb s H A cl fp) val).1) h2) fun σ H Q h => by rw [x.K]; exact w_dcompS hc0 (tgw_ok hc0 hi) h) rfl
        · exact ok_bad _
      · exact ok_bad _
    · exact ok_bad _
  · exact ok_bad _
theorem ok_E (C : Nat → List D → M D) (k : Nat) (Γ : Gm) : ∀ (n : Nat) {X : Cx} {W : WX} {c : CE} (x : Ctx Γ X W c C k) (e : Expr), OkE Γ X W C e (compE n c e)
  | 0, _, _, _, _, e => ok_bad e
  | n + 1, X, W, c, x, e => by
    have ih := ok_E C k Γ n x
    cases e with
    | Name y pos => exact ok_name x y pos
    | Constant q j pos => exact ok_con x q j pos
    | Tuple es j pos => exact ok_of x (g_tup (ok_es _ ih es)) rfl
    | List es pos => exact ok_of x (g_lst (ok_es _ ih es)) rfl
    | BinOp a op b pos =>
      simp only [compE]
      split
      · rename_i o ho
        obtain ⟨r, h1, h2⟩ := op_of x ho
        exact ok_of x (g_op2 h1 h2 (ih a).1 (ih b).1) rfl
      · exact ok_bad _
    | UnaryOp op a pos =>
      cases op with
      | USub => exact ok_of x (g_neg (ih a).1) rfl
      | Not => exact ok3 ⟨g_notV x.K (ih a).1, g_notT (ih a).2.1⟩
      | Invert => exact ok_bad _
      | UAdd => exact ok_bad _
    | Compare a ops cs pos => exact ok_cmp x _ ih a ops cs pos
    | BoolOp op es pos =>
      cases op with
      | And =>
        match es with
        | [] => exact ok_bad _
        | [_] => exact ok_bad _
        | e1 :: e2 :: es =>
          obtain ⟨h1, h2⟩ := ok_and x _ ih pos (e1 :: e2 :: es)
          exact ⟨h1, h2.pt, g_po1 h1⟩
      | Or =>
        match es with
        | [] => exact ok_bad _
        | [_] => exact ok_bad _
        | e1 :: e2 :: es =>
          obtain ⟨h1, h2⟩ := ok_or x _ ih pos (e1 :: e2 :: es)
          exact ⟨h1, h2.pt, g_po1 h1⟩
    | IfExp t a b pos => exact ok3 ⟨g_ite (ih t).2.1 (ih a).1 (ih b).1, PT.no⟩
    | Subscript a s pos => exact ok_sub x _ ih a s pos
    | ListComp elt gs scope pos => exact ok_LC x _ _ ih scope (fun X' x' e => ok_E C k Γ n x' e) elt gs pos
    | Call f es kws pos =>
      cases f with
      | Name y py => exact ok_callN x _ ih y py es kws pos
      | Attribute o m apos => exact ok_callM x _ ih o m apos es kws pos
      | _ => exact ok_callV x _ ih _ es kws pos
    | Dict os vs pos => exact ok_dct x _ ih os vs pos
    | JoinedStr es pos => exact ok_fs x _ ih es pos
    | Attribute o m pos => exact ok_attr x _ ih o m pos
    | DictComp key val gs scope pos => exact ok_DC x _ _ ih scope (fun X' x' e => ok_E C k Γ n x' e) key val gs pos
    | _ => exact ok_bad _
end
end Bv
end
section
/-! B3: statements from the text; defs; a law -/
namespace Bv
open PySem L2 PyProof.Rows
/-! ### stores of two or three names -/
def nmOf (sc : List (PySem.Str × NameKind)) (line : Nat) : Expr → Option PySem.Str
  | .Name id pos => if (sc.lookup id == some .local && pos.line == line) = true then some id else none
  | _ => none
def namesOf (sc : List (PySem.Str × NameKind)) (ts : List Expr) : List PySem.Str := ts.filterMap (nmOf sc ((ts.head?.map (·.pos.line)).getD 0))
def swapP (sc : List (PySem.Str × NameKind)) (ts vs : List Expr) : Option (Option (List PySem.Str)) :=
  if (!(ts.length == 2 || ts.length == 3) || vs.length != ts.length) = true then some none
  else if (vs.any isStar) = true then some none
  else if ((namesOf sc ts).length != ts.length || (namesOf sc ts).eraseDups.length != (namesOf sc ts).length) = true then some none
  else if (vs.all (foldedForSure 8)) = true then some none
  else if (vs.all (constantsAlone 8)) = true then none
  else some (some (namesOf sc ts))
theorem swapP_ok {env : Env} (hk : env.scope.kind = .function) {ts vs : List Expr} {kt k2 : Nat} {pt pt2 : Pos} {r : Option (List PySem.Str)} (h : swapP env.scope.names ts vs = some r) : swappedStores [.Tuple ts kt pt] (.Tuple vs k2 pt2) env = pure r := by
  have hb : env.blockKind = .function := by unfold Env.blockKind; rw [hk]; rfl
  unfold swapP at h
  show (if (!(ts.length == 2 || ts.length == 3) || vs.length != ts.length || env.blockKind != .function) = true then pure none
    else if (vs.any isStar) = true then pure none
    else if ((namesOf env.scope.names ts).length != ts.length || (namesOf env.scope.names ts).eraseDups.length != (namesOf env.scope.names ts).length) = true then pure none
    else if (vs.all (foldedForSure 8)) = true then pure none
    else if (vs.all (constantsAlone 8)) = true then (do unsupported "assign.tuple-of-constant-expressions:order-of-the-stores"; pure (some (namesOf env.scope.names ts)))
    else pure (some (namesOf env.scope.names ts))) = (pure r : Sem (Option (List PySem.Str)))
  rw [hb]
  simp only [bne_self_eq_false, Bool.or_false]
  by_cases h1 : (!(ts.length == 2 || ts.length == 3) || vs.length != ts.length) = true
  · rw [if_pos h1] at h ⊢
    cases h
    rfl
  · rw [if_neg h1] at h ⊢
    by_cases h2 : (vs.any isStar) = true
    · rw [if_pos h2] at h ⊢
      cases h
      rfl
    · rw [if_neg h2] at h ⊢
      by_cases h3 : ((namesOf env.scope.names ts).length != ts.length || (namesOf env.scope.names ts).eraseDups.length != (namesOf env.scope.names ts).length) = true
      · rw [if_pos h3] at h ⊢
        cases h
        rfl
      · rw [if_neg h3] at h ⊢
        by_cases h4 : (vs.all (foldedForSure 8)) = true
        · rw [if_pos h4] at h ⊢
          cases h
          rfl
        · rw [if_neg h4] at h ⊢
          by_cases h5 : (vs.all (constantsAlone 8)) = true
          · rw [if_pos h5] at h
            cases h
          · rw [if_neg h5] at h ⊢
            cases h
            rfl
/-! ### statements -/
section
variable (c : CE)
def isLoc (x : PySem.Str) : Bool := decide (c.sc.lookup x = some .local)
def isTuple : Expr → Bool
  | .Tuple _ _ _ => true
  | _ => false
/-- a, b = e -/
def compTup (f : Expr → E) (ts : List Expr) (v : Expr) : St := match v with
  | .Tuple vs _ _ => (match swapP c.sc ts vs with
    | some none => (match slotsOf c ts with
      | some is => .unp is (f v)
      | none => .bad)
    | some (some names) => (match ts, vs with
      | [.Name x _, .Name y _], [a, b] => (match slotOf c x, slotOf c y with
        | some i, some j => if names = [x, y] ∧ i ≠ j ∧ isLoc c x = true ∧ isLoc c y = true then .par [i, j] (compEs f [a, b]) else .bad
        | _, _ => .bad)
      | [.Name x _, .Name y _, .Name z _], [a, b, d] => (match slotOf c x, slotOf c y, slotOf c z with
        | some i, some j, some l => if names = [x, y, z] ∧ i ≠ j ∧ i ≠ l ∧ j ≠ l ∧ isLoc c x = true ∧ isLoc c y = true ∧ isLoc c z = true then .par [i, j, l] (compEs f [a, b, d]) else .bad
        | _, _, _ => .bad)
      | _, _ => .bad)
    | none => .bad)
  | v => if isTuple v = false then (match slotsOf c ts with
    | some is => .unp is (f v)
    | none => .bad) else .bad
/-- a, *b = e -/
def compStar (f : Expr → E) (x y : PySem.Str) (v : Expr) : St := match slotOf c x, slotOf c y with
  | some i, some j => if isTuple v = false ∧ isComp v = false ∧ canSt c x = true ∧ canSt c y = true then .unpS [i] j (f v) else .bad
  | _, _ => .bad
def augOf : Operator → Option Op2
  | .Add => some .add
  | .Sub => some .sub
  | .Mult => some .mul
  | _ => none
/-- x = [..] on one line, x a local that the block has not -/
def swOk (x : PySem.Str) (px : Pos) : Expr → Bool
  | .ListComp _ _ scope pos => decide (c.sc.lookup x = some .local) && (px.line == pos.line) && !(scope.names.any fun (n, k) => n == x && (k == .local || k == .cell))
  | _ => false
def isText : Expr → Bool
  | .Constant (.str _) _ _ => true
  | _ => false
def compSs (f : Stmt → St) : List Stmt → St
  | [] => .nil
  | s :: r => .cons (f s) (compSs f r)
/-- raise X(..) -/
def compRaise (f : Expr → E) (e : Expr) : St := match e with
  | .Call (.Name x _) [e'] [] _ => (match glob c x with
    | some (.cls j false) => if isText e' = true then .rai0 j else .bad
    | some (.cls j true) => if isStar e' = false then .rai1 j (f e') else .bad
    | _ => .bad)
  | _ => .bad
def isRaise : List Stmt → Bool
  | [.Raise _ _ _] => true
  | _ => false
/-- except X as n, except X -/
def handOf : ExceptHandler → Option (Nat × Option Nat × Bool × List Stmt)
  | .ExceptHandler (some (.Name x _)) (some n) (b :: bs) _ => (match glob c x, slotOf c n with
    | some (.cls j _), some i => if isLoc c n = true ∧ oddName n = false then some (j, some i, !looseC j, b :: bs) else none
    | _, _ => none)
  | .ExceptHandler (some (.Name x _)) none (b :: bs) _ => (match glob c x with
    | some (.cls j _) => some (j, none, isRaise (b :: bs), b :: bs)
    | _ => none)
  | _ => none
/-- a suite that raises a class with a field, of a text -/
def compHotR (f : Expr → E) : List Stmt → St
  | [.Raise (some (.Call (.Name x _) [e'] [] _)) none _] => (match glob c x with
    | some (.cls j true) => if looseC j = true ∧ isText e' = true then .cons (.rai1 j (f e')) .nil else .bad
    | _ => .bad)
  | _ => .bad
/-! stores -/
def isTx : Expr → Bool
  | .Attribute _ _ _ => true
  | .Subscript _ _ _ => true
  | _ => false
def txOf (f : Expr → E) : Expr → Option Tx
  | .Name x _ => (match slotOf c x with
    | some i => if c.hs ≠ some i ∧ canSt c x = true then some (.name i) else none
    | none => none)
  | .Attribute o x _ => (fieldOf x).map fun i => .fld (f o) i
  | .Subscript o i _ => if isSlice i = false then some (.sub (f o) (f i)) else none
  | _ => none
def txsOf (f : Expr → E) : List Expr → Option (List Tx)
  | [] => some []
  | e :: es => match txOf c f e, txsOf f es with
    | some t, some ts => some (t :: ts)
    | _, _ => none
def compAsgs (f : Expr → E) (ts : List Expr) (v : Expr) : St := match txsOf c f ts with
  | some txs => (match v with
    | .Tuple vs _ _ => if swapP c.sc ts vs = some none then .asgs txs (f v) else .bad
    | v => if isTuple v = false then .asgs txs (f v) else .bad)
  | none => .bad
def handsOf : List ExceptHandler → Option (List (Nat × Option Nat × Bool × List Stmt))
  | [] => some []
  | h :: hs => match handOf c h, handsOf hs with
    | some a, some r => some (a :: r)
    | _, _ => none
def compSuite (f : CE → Stmt → St) (h : Nat × Option Nat × Bool × List Stmt) : St := if h.2.1.isNone = true ∧ h.2.2.1 = true then compHotR c (compE 40 { c with md := some none }) h.2.2.2 else compSs (f { c with md := some h.2.1, zn := h.2.2.1 }) h.2.2.2
def sta (l : List St) (i : Nat) : St := l.getD i .bad
end
def compS : Nat → CE → Stmt → St
  | 0, _, _ => .bad
  | n + 1, c, st => match st with
    | .Expr e _ => if isComp e = false then .expr (compE 40 c e) else .bad
    | .Pass _ => .pass
    | .Return (some e) _ => .ret (compE 40 c e)
    | .Return none _ => .retN
    | .Assign [.Name x px] e _ => (match slotOf c x with
      | some i => if (isComp e = false ∨ swOk c x px e = true ∨ c.sc.lookup x = some .cell) ∧ c.hs ≠ some i ∧ canSt c x = true then .set i (compE 40 c e) else .bad
      | none => .bad)
    | .Assign [.Tuple [.Name x _, .Starred (.Name y _) _] _ _] v _ => if c.cold = true then compStar c (compE 40 c) x y v else .bad
    | .Assign [.Tuple ts _ _] v _ => if c.cold = true then (if (ts.any isTx) = true then compAsgs c (compE 40 c) ts v else compTup c (compE 40 c) ts v) else .bad
    | .Assign [.Attribute o x _] e _ => (match fieldOf x with
      | some i => .asg1 (.fld (compE 40 c o) i) (compE 40 c e)
      | none => .bad)
    | .Assign [.Subscript o i _] e _ => if isSlice i = false then .asg1 (.sub (compE 40 c o) (compE 40 c i)) (compE 40 c e) else .bad
    | .AugAssign (.Attribute o x _) op e _ => if c.cold = true then (match fieldOf x, augOf op with
      | some i, some op' => .augF (compE 40 c o) i op' (compE 40 c e)
      | _, _ => .bad) else .bad
    | .AugAssign (.Name x _) op e _ => if c.cold = true ∧ canSt c x = true then (match slotOf c x, augOf op with
      | some i, some o => .aug i o (compE 40 c e)
      | _, _ => .bad) else .bad
    | .If t a b _ => .ifS (compE 40 c t) (compSs (compS n c) a) (compSs (compS n c) b)
    | .While t b [] _ => if c.cold = true then .whileS (compE 40 c t) (compSs (compS n c) b) else .bad
    | .For tg it b [] _ => if c.cold = true then (match tgOf c tg, srcOf c (compE 40 c) it with
      | some t, some s => .forS t s (compSs (compS n c) b)
      | _, _ => .bad) else .bad
    | .Raise (some e) none _ => if c.cold = true then compRaise c (compE 40 c) e else .bad
    | .Try b hs [] [] _ => if c.cold = true ∧ c.raw = none then (match handsOf c hs with
      | some hh => if hh.isEmpty = false ∧ hh.length ≤ 5 then (let l := hh.map (compSuite c (compS n))
        .tryS (compSs (compS n c) b) (hh.map fun h => (h.1, h.2.1, h.2.2.1)) (sta l 0) (sta l 1) (sta l 2) (sta l 3) (sta l 4)) else .bad
      | none => .bad) else .bad
    | _ => .bad
section
variable {Γ : Gm} {X : Cx} {W : WX} {c : CE} {C : Nat → List D → M D} {k wf : Nat}
theorem no_comp {e : Expr} (h : isComp e = false) (t : Option Expr) (n : Nat) (env : Env) : swapsWith e t n env = pure false := by
  cases e <;> first | rfl | (simp [isComp] at h)
theorem sw_cell {e : Expr} {y : PySem.Str} {p : Pos} {n : Nat} {env : Env} (h : env.scope.names.lookup y = some .cell) : swapsWith e (some (.Name y p)) n env = pure false := by
  have hk : (env.kindOf y == some .local) = false := by unfold Env.kindOf; rw [h]; rfl
  cases e <;> first
    | rfl
    | (unfold swapsWith
       simp only [hk, Bool.and_false, Bool.false_and]
       all_goals rfl)
/-- a tuple or a list, taken apart -/
theorem pg_tl (x : Ctx Γ X W c C k) (hcold : c.cold = true) {ts : List Expr} {is : List Nat} {j : Nat} {pos : Pos} (h : slotsOf c ts = some is) : PG X (.Tuple ts j pos) (fun v σ H Q => gTup X.K is.length (gNames is) v σ H Q ∨ gLst X.K is.length (gNames is) v σ H Q) := by
  obtain ⟨g1, g2, g3⟩ := ok_slots x h
  exact ⟨fun pins s σ H v u Q I r q => q.elim ((pg_tup (x.calm hcold) g1 g2 g3).run pins s σ H v u Q I r) ((pg_lst (x.calm hcold) g1 g2 g3).run pins s σ H v u Q I r)⟩
theorem unp_w (hh : Γ.hot = none) {ρ : List Addr} {H : Hp} {σ : L2.St} {L L' : Bv.Loc} {S : Sto} {v : V} {d : Bv.D} {ds : List Bv.D} {is : List Nat} {Q : L2.St → Hp → Prop} (rl : Rel Γ ρ H σ L S) (r : Rep Γ ρ H v d) (e : seqOf S d = some ds) (e' : setAll is ds L = some L') (q : ∀ σ', Rel Γ ρ H σ' L' S → Q σ' H) :
    gTup Γ.K is.length (gNames is) v σ H Q ∨ gLst Γ.K is.length (gNames is) v σ H Q := by
  obtain ⟨p, xs, rfl, hs, rr⟩ := rl.s.seqD r e
  have go := gNames_ok hh (Q := Q) rl.l rr e' fun σ' h => q σ' ⟨rl.s, h⟩
  rcases hs with hs | hs
  · exact .inr ⟨p, xs, rfl, hs, rr.length.trans (setAll_len e'), go⟩
  · exact .inl ⟨p, xs, rfl, hs, rr.length.trans (setAll_len e'), go⟩
theorem ok_unp (x : Ctx Γ X W c C k) (hcold : c.cold = true) {ts : List Expr} {is : List Nat} {v : Expr} {kt : Nat} {pt pos : Pos} {f : F D} (hv : PE X v (tD Γ W f)) (h : slotsOf c ts = some is) (hw : swappedStores [.Tuple ts kt pt] v X.env = pure none) : PS X (.Assign [.Tuple ts kt pt] v pos) (tSt Γ W (sUnp is f)) := by
  have sw : swapsWith v (some (.Tuple ts kt pt)) pos.line X.env = pure false := by cases v <;> rfl
  refine PS.weak (ps_asg hv (pg_tl x hcold h) sw hw rfl) fun D σ H h => tM_of h fun d L S' ρ' H' v rl r h' => ?_
  cases e : seqOf S' d with
  | none => simp only [e] at h'; exact h'.elim
  | some ds =>
    simp only [e] at h'
    cases e2 : setAll is ds L with
    | none => rw [e2] at h'; exact h'.elim
    | some L' =>
      rw [e2] at h'
      rw [x.K]
      exact unp_w (cold_hot x hcold) rl r e e2 fun σ' rl' => postF_next h' rl'
theorem loc_ok (x : Ctx Γ X W c C k) {y : PySem.Str} (h : isLoc c y = true) : X.env.scope.names.lookup y = some .local := by
  rw [x.sc]; exact of_decide_eq_true h
theorem ok_tup (x : Ctx Γ X W c C k) (hcold : c.cold = true) (hk : X.env.scope.kind = .function) (f : Expr → E) (ih : ∀ e, OkE Γ X W C e (f e)) (ts : List Expr) (v : Expr) (kt : Nat) (pt pos : Pos) : PS X (.Assign [.Tuple ts kt pt] v pos) (tSt Γ W (xs C wf (compTup c f ts v))) := by
  unfold compTup
  split
  · rename_i vs k2 pt2
    split
    · rename_i hs
      rw [← x.sc] at hs
      split
      · rename_i is hi
        exact ok_unp x hcold (ih _).1 hi (swapP_ok hk hs)
      · exact PS.no
    · rename_i names hs
      rw [← x.sc] at hs
      split
      · rename_i y py z pz a b
        split
        · rename_i i j hi hj
          split
          · rename_i hh
            obtain ⟨rfl, hij, l1, l2⟩ := hh
            exact s_par2 (cold_hot x hcold) (ps_par (x.calm hcold) x.nd (slot_ok x hi).1 (slot_ok x hj).1 hij (loc_ok x l1) (loc_ok x l2) (ok_es f ih [a, b]) (swapP_ok hk hs) rfl)
          · exact PS.no
        · exact PS.no
      · rename_i y py z pz u pu a b d
        split
        · rename_i i j l hi hj hl
          split
          · rename_i hh
            obtain ⟨rfl, hij, hil, hjl, l1, l2, l3⟩ := hh
            exact s_par3 (cold_hot x hcold) (ps_par3 (x.calm hcold) x.nd (slot_ok x hi).1 (slot_ok x hj).1 (slot_ok x hl).1 hij hil hjl (loc_ok x l1) (loc_ok x l2) (loc_ok x l3) (ok_es f ih [a, b, d]) (swapP_ok hk hs) rfl)
          · exact PS.no
        · exact PS.no
      · exact PS.no
    · exact PS.no
  · split
    · rename_i hv
      split
      · rename_i is hi
        refine ok_unp x hcold (ih v).1 hi ?_
        have h1 := hv
        cases v <;> first | rfl | (simp [isTuple] at h1)
      · exact PS.no
    · exact PS.no
theorem ok_star (x : Ctx Γ X W c C k) (hcold : c.cold = true) (f : Expr → E) (ih : ∀ e, OkE Γ X W C e (f e)) (y z : PySem.Str) (v : Expr) (p1 p2 p3 : Pos) (kt : Nat) (pt pos : Pos) : PS X (.Assign [.Tuple [.Name y p1, .Starred (.Name z p2) p3] kt pt] v pos) (tSt Γ W (xs C wf (compStar c f y z v))) := by
  unfold compStar
  split
  · rename_i i j hi hj
    split
    · rename_i hh
      obtain ⟨h1, h2, h3, h4⟩ := hh
      obtain ⟨a1, a2⟩ := slot_ok x hi
      obtain ⟨b1, b2⟩ := slot_ok x hj
      have sw : swapsWith v (some (.Tuple [.Name y p1, .Starred (.Name z p2) p3] kt pt)) pos.line X.env = pure false := no_comp h2 _ _ _
      have hw : swappedStores [.Tuple [.Name y p1, .Starred (.Name z p2) p3] kt pt] v X.env = pure none := by
        cases v <;> first | rfl | (simp [isTuple] at h1)
      refine PS.weak (ps_asg (ih v).1 (pg_starL (i := 1) (x.calm hcold) (pgs_cons (pg_name x.nd a1 a2 (x.fn y h3)) (pgs_star (pg_name x.nd b1 b2 (x.fn z h4)) pgs_nil) rfl) rfl rfl) sw hw rfl) fun D σ H h => tM_of h fun d L S' ρ' H' v rl r h' => ?_
      cases e : seqOf S' d with
      | none => simp only [e] at h'; exact h'.elim
      | some ds =>
        simp only [e] at h'
        by_cases hz : [i].length ≤ ds.length ∧ ds.length ≤ 16000
        · rw [if_pos hz] at h'
          cases ds with
          | nil => simp at hz
          | cons d0 ds =>
            rw [x.K]
            exact star_w (W := W) (cold_hot x hcold) rl r e hz.2 fun ρ'' H'' σ'' p'' e'' rl'' => h' ρ'' H'' σ'' p'' e'' rl''
        · rw [if_neg hz] at h'
          exact h'.elim
    · exact PS.no
  · exact PS.no
theorem ok_for (x : Ctx Γ X W c C k) (hcold : c.cold = true) (f : Expr → E) (ih : ∀ e, OkE Γ X W C e (f e)) {tg it : Expr} {t : Tg} {s : Src} {bs : List Stmt} {b : St} {pos : Pos} (ht : tgOf c tg = some t) (hs : srcOf c f it = some s) (hb : PSs X bs (tSt Γ W (xs C wf b))) : PS X (.For tg it bs [] pos) (tSt Γ W (xs C wf (.forS t s b))) := by
  obtain ⟨q, h1, h2⟩ := ok_tgt x hcold ht
  rcases src_ok x f ih hs with ⟨e, rfl, g1, g2⟩ | ⟨e, e', rfl, g1, g2⟩ | ⟨e, rfl, g1, g2⟩
  · exact s_forR1 h2 (ps_for (x.pass hcold) (x.calm hcold) (g1 tg) h1 hb g2)
  · exact s_forR2 h2 (ps_for (x.pass hcold) (x.calm hcold) (g1 tg) h1 hb g2)
  · exact s_forS x.K h2 (ps_for (x.pass hcold) (x.calm hcold) (g1 tg) h1 hb g2)
theorem iop_mulW2 : OpR X (inplaceOp .Mult) (rI CMulW fun i j => .int (i * j)) := opI fun _ _ _ _ _ _ _ hc q => imul_int q hc.ok
theorem aug_of : ∀ {op : Operator} {o : Op2}, augOf op = some o → ∃ ti, PIp X op ti ∧ Spec2 Γ (Rep Γ) ti (aug2 o)
  | .Add, _, h => by cases h; exact ⟨rAdd, OpR.or iop_add iop_add_str, fun W ρ H σ L S x y d1 d2 Q => sp_add0 W ρ H σ L S x y d1 d2 Q⟩
  | .Sub, _, h => by cases h; exact ⟨_, iop_sub, fun W ρ H σ L S x y d1 d2 Q => sp_sub W ρ H σ L S x y d1 d2 Q⟩
  | .Mult, _, h => by
    cases h
    refine ⟨_, OpR.or iop_mul iop_mulW2, ?_⟩
    intro W ρ H σ L S x y d1 d2 Q rl r1 r2 h
    cases d1 <;> cases d2 <;> try exact h.elim
    rw [rep_int] at r1 r2
    obtain ⟨hl, h⟩ := post_if (m := M.pure _) h
    unfold bitsOk at hl
    simp only [Bool.or_eq_true, decide_eq_true_eq] at hl
    rcases hl with (hl | hl) | hl
    · exact .inl ⟨_, _, r1, r2, .inl hl, post_here h rl (rep_int.mpr rfl)⟩
    · exact .inl ⟨_, _, r1, r2, .inr hl, post_here h rl (rep_int.mpr rfl)⟩
    · exact .inr ⟨_, _, r1, r2, hl, post_here h rl (rep_int.mpr rfl)⟩
  | .FloorDiv, _, h => by cases h
  | .Mod, _, h => by cases h
  | .Pow, _, h => by cases h
  | .LShift, _, h => by cases h
  | .MatMult, _, h => by cases h
  | .Div, _, h => by cases h
  | .RShift, _, h => by cases h
  | .BitOr, _, h => by cases h
  | .BitXor, _, h => by cases h
  | .BitAnd, _, h => by cases h
theorem ok_Ss (f : Stmt → St) (ih : ∀ s, PS X s (tSt Γ W (xs C wf (f s)))) : ∀ ss : List Stmt, PSs X ss (tSt Γ W (xs C wf (compSs f ss)))
  | [] => s_nil
  | s :: r => s_cons (ih s) (ok_Ss f ih r)
/-- a try's body is of the same text -/
theorem Ctx.tr (x : Ctx Γ X W c C k) (hcold : c.cold = true) {W' : WX} {pn : List (Addr × Obj)} {xe : Value → Shared → Prop} (t : TkM Γ (X.tr pn xe) W') (p : PassesOwn (model X.prog X.w) X.A X.env xe) (pa : ∀ hd : Option Value, PassesOwnAt (model X.prog X.w) (X.A.mark hd) X.A X.env xe) : Ctx Γ (X.tr pn xe) W' c C k :=
  ⟨x.K, x.N, x.sc, x.nd, x.hs, x.room, fun h => x.calm h, fun h => x.rom h, fun _ => p, fun _ => pa, fun _ => t, fun h r => x.frm h r, x.fn, x.kind, x.blt, x.con, fun h y i np dds kn e => by
    obtain ⟨h1, h2⟩ := x.fns h y i np dds kn e
    exact ⟨h1, h2⟩, x.cls, x.clf, fun h e => absurd ((cold_hot x hcold).symm.trans e) (fun z => nomatch z), x.hfn, fun h => absurd (cold_hot x hcold) h, x.kls, fun h m kk i np e => by
    obtain ⟨h1, h2⟩ := x.mth h m kk i np e
    exact ⟨h1, h2⟩, fun h y i np dds kn e => by
    obtain ⟨h1⟩ := x.mks h y i np dds kn e
    exact ⟨h1⟩⟩
/-- .. and an except suite -/
theorem Ctx.suite (x : Ctx Γ X W c C k) (hcold : c.cold = true) {i a cl : Nat} {d : Option Addr} {oe : Obj} {pn : List (Addr × Obj)} {zn : Bool} (ok : Γ.cl cl = true) (hz : Zc (.ref (Γ.ca cl)) d oe) (hzn : zn = true → L2N.Zn (.ref (Γ.ca cl)) d oe) (hf : ∃ vs, oe.data = .fields vs) :
    Ctx (Γ.held ⟨i, a, cl, d⟩) (X.suite a ((a, oe) :: pn)) (fun _ _ _ _ => False) { c with md := some (some i), zn := zn } C k := by
  have hh := cold_hot x hcold
  have eb : (Γ.held ⟨i, a, cl, d⟩).bare = Γ := by
    cases Γ
    cases hh
    rfl
  refine ⟨x.K, x.N, x.sc, x.nd, rfl, ⟨x.room.dp, x.room.un⟩, (fun z => nomatch z), (fun z => nomatch z), (fun z => nomatch z), (fun z => nomatch z), (fun z => nomatch z), (fun z => nomatch z), x.fn, x.kind, x.blt, fun y e hy => ?_, (fun z => nomatch z), x.cls, ⟨x.clf.exm, x.clf.inj, x.clf.exc, x.clf.kit, x.clf.kiv, x.clf.fln, x.clf.xfc⟩, fun h e => ?_, fun y j hy => ?_, fun _ _ _ _ _ z => z, x.kls, (fun z => nomatch z), (fun z => nomatch z)⟩
  · obtain ⟨v, u, e1, e2, e3⟩ := x.con y e hy
    exact ⟨v, u, e1, e2, fun ρ H => (rep_held e).mpr (e3 ρ H)⟩
  · cases e
    exact ⟨oe, List.mem_cons_self, hz, hzn, hf, ok, rfl⟩
  · rw [eb]
    have := x.hfn y j hy
    have e2 : Γ.bare = Γ := by
      cases Γ
      cases hh
      rfl
    rw [e2] at this
    exact this
/-- .. one without a name -/
theorem Ctx.suiteB (x : Ctx Γ X W c C k) (hcold : c.cold = true) {a : Addr} {pn : List (Addr × Obj)} {zn : Bool} : Ctx Γ (X.suite a pn) W0 { c with md := some none, zn := zn } C k := by
  have hh := cold_hot x hcold
  refine ⟨x.K, x.N, x.sc, x.nd, ?_, ⟨x.room.dp, x.room.un⟩, (fun z => nomatch z), (fun z => nomatch z), (fun z => nomatch z), (fun z => nomatch z), (fun z => nomatch z), (fun z => nomatch z), x.fn, x.kind, x.blt, x.con, (fun z => nomatch z), x.cls, x.clf, fun h e => absurd (hh.symm.trans e) (fun z => nomatch z), x.hfn, fun h => absurd hh h, x.kls, (fun z => nomatch z), (fun z => nomatch z)⟩
  unfold Gm.hs
  rw [hh]
  rfl
theorem ok_raise (x : Ctx Γ X W c C k) (hcold : c.cold = true) (f : Expr → E) (ih : ∀ e, OkE Γ X W C e (f e)) (e : Expr) (pos : Pos) : PS X (.Raise (some e) none pos) (tSt Γ W (xs C wf (compRaise c f e))) := by
  unfold compRaise
  split
  · rename_i y py e' pos2
    split
    · rename_i cj hg
      split
      · rename_i ht
        cases e' with
        | Constant q j pm =>
          cases q with
          | str m =>
            obtain ⟨h1, h2, h3, h4⟩ := glob_ok hg
            obtain ⟨c1, c2, c3, _⟩ := x.cls y cj false h2
            have P := c3 rfl
            rw [← x.K] at P
            exact s_raise0 (x.calm hcold) (x.tk hcold) c2 (L2N.pmk_own PySem.F.excBase_ValueError P.ei c1 P.kp (raises_own P.sb P.ty) (gl_of x h1) h3)
          | _ => cases ht
        | _ => cases ht
      · exact PS.no
    · rename_i cj hg
      split
      · rename_i ht
        obtain ⟨h1, h2, h3, h4⟩ := glob_ok hg
        obtain ⟨c1, c2, _, c4⟩ := x.cls y cj true h2
        obtain ⟨fI, q, B, newId, initId, bmB, T⟩ := c4 rfl
        rw [← x.K] at T
        exact s_raise1 (x.calm hcold) (x.tk hcold) c2 T c1 x.room (ih e').1 (gl_of x h1) h3 (star_each ht [] _)
      · exact PS.no
    · exact PS.no
  · exact PS.no
theorem ok_setLC (x : Ctx Γ X W c C k) {i n : Nat} {y : PySem.Str} {py pos lpos : Pos} {elt : Expr} {gs : List Comprehension} {scope : Scope} (hi : slotOf c y = some i) (hne : Γ.hs ≠ some i) (h : swOk c y py (.ListComp elt gs scope lpos) = true) :
    PS X (.Assign [.Name y py] (.ListComp elt gs scope lpos) pos) (tSt Γ W (xs C wf (.set i (compE (n + 1) c (.ListComp elt gs scope lpos))))) := by
  have e0 : compE (n + 1) c (.ListComp elt gs scope lpos) = compLC c (compE n c) (compE n (c.blk scope)) elt gs scope := rfl
  rw [e0]
  show PS X _ (tSt Γ W (sSet i (ev C (compLC c (compE n c) (compE n (c.blk scope)) elt gs scope)).e))
  rcases lc_data x (compE n c) (compE n (c.blk scope)) (fun e => ok_E C k Γ n x e) scope (fun X' x' e => ok_E C k Γ n x' e) elt gs with e | ⟨tg, iter, ifs, fc, rfl, hcold, e, wi, gg, tt, te, h1, ok, h2, h3, h4, h5, h6⟩
  · rw [e]
    exact ⟨fun _ _ _ _ _ _ ⟨_, _, _, _, h⟩ => h.elim⟩
  · rw [e]
    simp only [swOk, Bool.and_eq_true, decide_eq_true_eq, Bool.not_eq_true'] at h
    obtain ⟨⟨s1, s2⟩, s3⟩ := h
    obtain ⟨n1, n2⟩ := slot_ok x hi
    have hl : X.env.scope.names.lookup y = some .local := by rw [x.sc]; exact s1
    refine PS.weak (ps_setLc (x.calm hcold) x.nd n1 hl (sw_true x.kind hl s2 s3) h1 ok h2 h3 h4 h5) fun D σ H q => ?_
    have q := tM_of (rep := Rep Γ) (Q := fun v H' => D.nx (σ.set i (some v)) H') q fun d L S' ρ' H' v rl r h' => postF_next h' ⟨rl.s, rl.l.set hne r⟩
    exact h6 σ H _ q
theorem no_slice {o i : Expr} {pos : Pos} {env : Env} (h : isSlice i = false) : ∀ v, assign (.Subscript o i pos) env v = (do
      let ov ← holding [v] (eval o env)
      let iv ← holding [v, ov] (eval i env)
      standAt pos
      holding [v, ov, iv] (setItem ov iv v)
      release [v, ov, iv] []) := by
  intro v
  cases i <;> first | rfl | (simp [isSlice] at h)
theorem ok_tx (x : Ctx Γ X W c C k) (f : Expr → E) (ih : ∀ e, OkE Γ X W C e (f e)) {e : Expr} {t : Tx} (h : txOf c f e = some t) : PG X e (gTx Γ W (sTx C t)) ∧ ∀ es, assignEach (e :: es) X.env = (false, assign e X.env) :: assignEach es X.env := by
  cases e with
  | Name y py =>
    simp only [txOf] at h
    split at h
    · rename_i i hi
      split at h
      · rename_i hh
        cases h
        obtain ⟨h1, h2⟩ := slot_ok x hi
        exact ⟨pg_nameX (by rw [x.hs]; exact hh.1) (pg_name x.nd h1 h2 (x.fn y hh.2)), fun _ => rfl⟩
      · cases h
    · cases h
  | Attribute o y py =>
    simp only [txOf, Option.map_eq_some_iff] at h
    obtain ⟨i, hi, rfl⟩ := h
    obtain ⟨h1, rfl⟩ := fieldOf_ok hi
    exact ⟨pg_fldX x.kls h1 (ih o).1, fun _ => rfl⟩
  | Subscript o i py =>
    simp only [txOf] at h
    split at h
    · rename_i hs
      cases h
      exact ⟨pg_subX (by have := x.room.un; omega) (ih o).1 (ih i).1 (no_slice hs), fun _ => rfl⟩
    · cases h
  | _ => simp [txOf] at h
theorem ok_txs (x : Ctx Γ X W c C k) (f : Expr → E) (ih : ∀ e, OkE Γ X W C e (f e)) : ∀ {es : List Expr} {ts : List Tx}, txsOf c f es = some ts → PGs X es (gTxs Γ W C ts) ∧ (assignEach es X.env).length = ts.length ∧ (assignEach es X.env).findIdx? (·.1) = none
  | [], ts, h => by
    cases h
    exact ⟨pgs_nilX, rfl, rfl⟩
  | e :: es, ts, h => by
    simp only [txsOf] at h
    split at h
    · rename_i t ts' h1 h2
      cases h
      obtain ⟨g1, g2⟩ := ok_tx x f ih h1
      obtain ⟨g3, g4, g5⟩ := ok_txs x f ih h2
      refine ⟨pgs_consX g1 g3 (by rw [g2]; rfl), by rw [g2]; simp [g4], ?_⟩
      rw [g2, List.findIdx?_cons]
      simp [g5]
    · cases h
theorem ok_asgs (x : Ctx Γ X W c C k) (hcold : c.cold = true) (hk : X.env.scope.kind = .function) (f : Expr → E) (ih : ∀ e, OkE Γ X W C e (f e)) (ts : List Expr) (v : Expr) (kt : Nat) (pt pos : Pos) : PS X (.Assign [.Tuple ts kt pt] v pos) (tSt Γ W (xs C wf (compAsgs c f ts v))) := by
  unfold compAsgs
  split
  · rename_i txs ht
    obtain ⟨g1, g2, g3⟩ := ok_txs x f ih ht
    split
    · rename_i vs k2 p2
      split
      · rename_i hs
        rw [← x.sc] at hs
        exact s_asgs x.K (x.calm hcold) (ih _).1 g1 g2 g3 (swapP_ok hk hs)
      · exact PS.no
    · split
      · rename_i hv
        refine s_asgs x.K (x.calm hcold) (ih v).1 g1 g2 g3 ?_
        cases v <;> first | rfl | (simp [isTuple] at hv)
      · exact PS.no
  · exact PS.no
theorem ok_hotR (x : Ctx Γ X W c C k) (f : Expr → E) {a : Addr} {pn : List (Addr × Obj)} (hx : ∀ m j p, f (.Constant (.str m) j p) = compCon (.str m)) (tk : L2.Takes (L2H.suiteX X a pn) (Wlo Γ W)) (hot : L2H.HotC (L2H.suiteX X a pn)) (ss : List Stmt) : PSs (L2H.suiteX X a pn) ss (tSt Γ (Wlo Γ W) (xs C wf (compHotR c f ss))) := by
  unfold compHotR
  split
  · rename_i y py e' p2 p3
    split
    · rename_i j hg
      split
      · rename_i hh
        obtain ⟨hl, ht⟩ := hh
        cases e' with
        | Constant q jj pm =>
          cases q with
          | str m =>
            obtain ⟨h1, h2, h3, h4⟩ := glob_ok hg
            obtain ⟨c1, c2, _, c4⟩ := x.cls y j true h2
            obtain ⟨fI, q, B, newId, initId, bmB, T⟩ := c4 rfl
            rw [← x.K] at T
            rw [hx]
            refine s_cons (s_raise1H (k := k) hot tk c2 T c1 ⟨x.room.dp, x.room.un⟩ ?_ (gl_of x h1) h3 rfl) s_nil
            simp only [compCon]
            split
            · rename_i hc
              refine g_con pe_str fun ρ H => rep_str.mpr ⟨by simp, fun c hc' => ?_⟩
              have := List.all_eq_true.mp hc c hc'
              simpa using this
            · exact PE.no
          | _ => cases ht
        | _ => cases ht
      · exact PSs.no
    · exact PSs.no
  · exact PSs.no
theorem ok_S : ∀ (n : Nat) {Γ : Gm} {X : Cx} {W : WX} {c : CE} (x : Ctx Γ X W c C k) (hk : X.env.scope.kind = .function) (s : Stmt), PS X s (tSt Γ W (xs C wf (compS n c s)))
  | 0, _, _, _, _, _, _, s => PS.no
  | n + 1, Γ, X, W, c, x, hk, s => by
    have ih := fun s => ok_S n x hk s
    have ie := fun e => ok_E C k Γ 40 x e
    cases s with
    | Expr e pos =>
      simp only [compS]
      split
      · rename_i h; exact s_expr (ie e).1 (no_comp h _ _ _)
      · exact PS.no
    | Pass pos => exact s_pass
    | Return e pos =>
      cases e with
      | none => exact s_retN
      | some e => exact s_ret (ie e).1
    | Assign ts e pos =>
      match ts with
      | [] => exact PS.no
      | [t] =>
        cases t with
        | Name y py =>
          simp only [compS]
          split
          · rename_i i hi
            split
            · rename_i h
              obtain ⟨h, hne, hst⟩ := h
              obtain ⟨h1, h2⟩ := slot_ok x hi
              rcases h with h | h | h
              · exact s_set (by rw [x.hs]; exact hne) x.nd h1 h2 (ie e).1 (no_comp h _ _ _) (x.fn y hst)
              · cases e with
                | ListComp elt gs scope lpos => exact ok_setLC x hi (by rw [x.hs]; exact hne) h
                | _ => simp [swOk] at h
              · exact s_set (by rw [x.hs]; exact hne) x.nd h1 h2 (ie e).1 (sw_cell (by rw [x.sc]; exact h)) (x.fn y hst)
            · exact PS.no
          · exact PS.no
        | Tuple ts kt pt =>
          unfold compS
          split
          all_goals first
            | exact PS.no
            | skip
          all_goals (rename_i heq)
          all_goals try (cases heq)
          · split
            · rename_i hcold
              exact ok_star x hcold _ ie _ _ _ _ _ _ _ _ _
            · exact PS.no
          · split
            · rename_i hcold
              split
              · exact ok_asgs x hcold hk _ ie ts e kt pt pos
              · exact ok_tup x hcold hk _ ie ts e kt pt pos
            · exact PS.no
        | Attribute o y py =>
          simp only [compS]
          split
          · rename_i i hi
            obtain ⟨h1, rfl⟩ := fieldOf_ok hi
            exact s_asg1 (ie e).1 (pg_fldX x.kls h1 (ie o).1) (by cases e <;> rfl) (by cases e <;> rfl) rfl
          · exact PS.no
        | Subscript o i py =>
          simp only [compS]
          split
          · rename_i hs
            exact s_asg1 (ie e).1 (pg_subX (by have := x.room.un; omega) (ie o).1 (ie i).1 (no_slice hs)) (by cases e <;> rfl) (by cases e <;> rfl) rfl
          · exact PS.no
        | _ => exact PS.no
      | t :: _ :: _ => cases t <;> first | exact PS.no | (unfold compS; split <;> first | exact PS.no | (rename_i heq; cases heq))
    | AugAssign t op e pos =>
      cases t with
      | Name y py =>
        simp only [compS]
        split
        · rename_i hcold
          obtain ⟨hcold, hst⟩ := hcold
          split
          · rename_i i o hi ho
            obtain ⟨h1, h2⟩ := slot_ok x hi
            obtain ⟨ti, h3, h4⟩ := aug_of (Γ := Γ) (X := X) ho
            exact s_aug (cold_hot x hcold) h4 (ps_aug x.nd h1 h2 (ie e).1 h3 (x.fn y hst))
          · exact PS.no
        · exact PS.no
      | Attribute o y py =>
        simp only [compS]
        split
        · rename_i hcold
          split
          · rename_i i op' hi ho
            obtain ⟨h1, rfl⟩ := fieldOf_ok hi
            obtain ⟨ti, h3, h4⟩ := aug_of (Γ := Γ) (X := X) ho
            exact s_augF x.kls h1 h3 h4 (ie o).1 (ie e).1
          · exact PS.no
        · exact PS.no
      | _ => exact PS.no
    | If t a b pos => exact s_if (ie t).2.1 (ok_Ss _ ih a) (ok_Ss _ ih b)
    | While t b o pos =>
      cases o with
      | nil =>
        simp only [compS]
        split
        · rename_i hcold
          exact s_while (x.pass hcold) (ie t).2.1 (ok_Ss _ ih b)
        · exact PS.no
      | cons _ _ => exact PS.no
    | For tg it b o pos =>
      cases o with
      | nil =>
        simp only [compS]
        split
        · rename_i hcold
          split
          · rename_i t s ht hs
            exact ok_for x hcold _ ie ht hs (ok_Ss _ ih b)
          · exact PS.no
        · exact PS.no
      | cons _ _ => exact PS.no
    | Raise e o pos =>
      cases e with
      | none => cases o <;> exact PS.no
      | some e =>
        cases o with
        | some _ => exact PS.no
        | none =>
          simp only [compS]
          split
          · rename_i hcold
            exact ok_raise x hcold _ ie e pos
          · exact PS.no
    | Try b hs o fi pos =>
      cases o with
      | cons _ _ => exact PS.no
      | nil =>
        cases fi with
        | cons _ _ => exact PS.no
        | nil =>
          simp only [compS]
          split
          · rename_i hcold
            obtain ⟨hcold, hraw⟩ := hcold
            split
            · rename_i hh he
              split
              · rename_i hl
                have key : ∀ (hs : List ExceptHandler) (hh : List (Nat × Option Nat × Bool × List Stmt)), handsOf c hs = some hh → ∀ r : List SF, HdR Γ X W hs (hh.map fun h => (h.1, h.2.1, h.2.2.1)) ((hh.map fun h => xs C wf (compSuite c (compS n) h)) ++ r) := by
                  intro hs
                  induction hs with
                  | nil =>
                    intro hh he r
                    cases he
                    exact .nil
                  | cons h hs ihs =>
                    intro hh he r
                    simp only [handsOf] at he
                    split at he
                    · rename_i a1 r1 ha hr
                      cases he
                      have rest := ihs r1 hr r
                      unfold handOf at ha
                      split at ha
                      · rename_i y py m b0 bs pos'
                        split at ha
                        · rename_i cj fl i' hg hi
                          split at ha
                          · rename_i hc
                            cases ha
                            obtain ⟨hl, ho⟩ := hc
                            obtain ⟨h1, h2, h3, h4⟩ := glob_ok hg
                            obtain ⟨c1, c2, c3, _⟩ := x.cls y cj fl h2
                            have sl := slot_ok x hi
                            exact .named ⟨gl_of x h1, h3, .inl c1⟩ sl.1 (loc_ok x hl) (fun cc ok => by rw [x.K]; exact x.clf.exm cc cj ok c2) (fun a oe cc d pn ok hz hzn hf => ok_Ss _ (fun s => ok_S n (x.suite hcold ok hz hzn hf) hk s) (b0 :: bs)) rest
                          · cases ha
                        · cases ha
                      · rename_i y py b0 bs pos'
                        split at ha
                        · rename_i cj fl hg
                          cases ha
                          obtain ⟨h1, h2, h3, h4⟩ := glob_ok hg
                          obtain ⟨c1, c2, c3, _⟩ := x.cls y cj fl h2
                          cases hr : isRaise (b0 :: bs) with
                          | false =>
                            have e0 : compSuite c (compS n) (cj, none, false, b0 :: bs) = compSs (compS n { c with md := some none, zn := false }) (b0 :: bs) := rfl
                            simp only [List.map_cons, e0]
                            exact .bare ⟨gl_of x h1, h3, .inl c1⟩ (fun cc ok => by rw [x.K]; exact x.clf.exm cc cj ok c2) (fun a oe cls d pn hz hf => ok_Ss _ (fun s => ok_S n (x.suiteB hcold) hk s) (b0 :: bs)) rest
                          | true =>
                            have e0 : compSuite c (compS n) (cj, none, true, b0 :: bs) = compHotR c (compE 40 { c with md := some none }) (b0 :: bs) := rfl
                            simp only [List.map_cons, e0]
                            exact .raising ⟨gl_of x h1, h3, .inl c1⟩ (fun cc ok => by rw [x.K]; exact x.clf.exm cc cj ok c2) (fun a oe cls d pn hz hf tk hot => ok_hotR x _ (fun _ _ _ => rfl) tk hot (b0 :: bs)) rest
                        · cases ha
                      · cases ha
                    · cases he
                obtain ⟨hl1, hl2⟩ := hl
                have e5 : ∃ r, [xs C wf (sta (hh.map (compSuite c (compS n))) 0), xs C wf (sta (hh.map (compSuite c (compS n))) 1), xs C wf (sta (hh.map (compSuite c (compS n))) 2), xs C wf (sta (hh.map (compSuite c (compS n))) 3), xs C wf (sta (hh.map (compSuite c (compS n))) 4)] = (hh.map fun h => xs C wf (compSuite c (compS n) h)) ++ r := by
                  match hh, hl2 with
                  | [], _ => exact ⟨_, rfl⟩
                  | [_], _ => exact ⟨_, rfl⟩
                  | [_, _], _ => exact ⟨_, rfl⟩
                  | [_, _, _], _ => exact ⟨_, rfl⟩
                  | [_, _, _, _], _ => exact ⟨_, rfl⟩
                  | [_, _, _, _, _], _ => exact ⟨[], rfl⟩
                obtain ⟨r, e5⟩ := e5
                show PS X _ (tSt Γ W (sTry (xs C wf (compSs (compS n c) b)) _ [_, _, _, _, _]))
                rw [e5]
                cases hs with
                | nil => cases he; cases hl1
                | cons h0 hs =>
                  exact s_try (cold_hot x hcold) (x.frm hcold hraw).1 (x.frm hcold hraw).2 x.nd (x.pat hcold) (x.tk hcold) x.clf.inj (fun W' pn xe t p pa => ok_Ss _ (fun s => ok_S n (x.tr hcold t p pa) hk s) b) (key _ _ he r)
              · exact PS.no
            · exact PS.no
          · exact PS.no
    | _ => exact PS.no
end
end Bv
end
section
/-! B4: all defs of a text; a law -/
namespace Bv
open PySem L2 PyProof.Rows
/-- a def of the text: the head's datum, its names by slots, its parameters, what fills up, its keyword -/
structure Df where
  d : He.DefD
  N : List PySem.Str
  ps : List PySem.Str
  dds : List D
  kn : Option PySem.Str
  /-- is it called with a held exception -/
  hot : Bool
  /-- no def, but an own class made: its number, its __init__'s place -/
  cr : Option (Nat × Nat) := none
def Df.md (df : Df) : Option (Option Nat) := if df.hot = true then some (some 0) else none
/-- methods: name, class, def, how many parameters -/
abbrev Ms := List (PySem.Str × Nat × Nat × Nat)
def fnOfDf (G : List (PySem.Str × Gv)) (ms : Ms) (df : Df) : Fn := match df.cr with
  | none => ⟨df.ps.length, df.N.length, compSs (compS 30 ⟨df.N, df.d.scope.names, G, df.md, none, true, ms⟩) df.d.body, none⟩
  | some z => ⟨df.ps.length, 0, .bad, some z⟩
/-- what is known of a def behind the top -/
structure DefOk (Γ : Gm) (i : Nat) (df : Df) : Prop where
  sc : FnScope df.N df.ps df.d.scope
  ex : ∃ (fd : FuncData) (dvs : List V) (kws : List (PySem.Str × V)), FunD Γ.K df.d.name df.d.qual df.d.params df.d.body df.d.scope dvs kws (Γ.fa i) fd ∧
    (∃ dvs ds, Vals dvs ds ∧ Binds Γ.K fd df.ps ds ∧ ∀ ρ H, Reps Γ ρ H dvs df.dds) ∧ ∀ k', df.kn = some k' → KBn Γ.K fd df.ps (df.ps.length - 1) [k'] (fun us ws => us ++ ws) (fun vs zs => vs ++ zs)
/-- what is known of the module's names -/
def GvOk (Γ : Gm) (defs : List Df) (mg : PySem.Str → Option Value) (x : PySem.Str) : Gv → Prop
  | .blt => mg x = none
  | .con d => ∃ v u, mg x = some u ∧ RelV v u ∧ ∀ ρ H, Rep Γ ρ H v d
  | .fn i np dds kn => ∃ df, defs[i]? = some df ∧ mg x = some (.ref (Γ.fa i)) ∧ np = df.ps.length ∧ dds = df.dds ∧ kn = df.kn ∧ df.hot = false ∧ df.cr = none
  | .mk i np dds kn => ∃ df kk g dg, defs[i]? = some df ∧ df.cr = some (kk, g) ∧ mg x = some (.ref (Γ.ka kk)) ∧ np = df.ps.length ∧ Γ.kl kk = true ∧ Mk Γ.K (Γ.ka kk) (Γ.fa g) ∧ defs[g]? = some dg ∧ dg.cr = none ∧ dg.hot = false ∧ dg.ps.length = np + 1 ∧ dds = dg.dds ∧ kn = dg.kn
  | .cls j fl => mg x = some (.ref (Γ.ca j)) ∧ Γ.cl j = true ∧ (fl = false → PlainC Γ.K (Γ.ca j)) ∧ (fl = true → OneC Γ j)
  | .fnH i => ∃ df, defs[i]? = some df ∧ mg x = some (.ref (Γ.fa i)) ∧ df.ps.length = 1 ∧ df.dds = [] ∧ df.hot = true ∧ df.cr = none
/-- .. of a method -/
def MsOk (Γ : Gm) (defs : List Df) (p : PySem.Str × Nat × Nat × Nat) : Prop := ∃ df, defs[p.2.2.1]? = some df ∧ df.cr = none ∧ df.hot = false ∧ p.2.2.2 = df.ps.length ∧ Γ.kl p.2.1 = true ∧ Meth Γ.K (Γ.ka p.2.1) p.1 (Γ.fa p.2.2.1) ∧ df.dds = []
section
variable {Γ : Gm} {defs : List Df} {G : List (PySem.Str × Gv)} {P : Program} {w : World} {mg : PySem.Str → Option Value} {base : Heap} {wf : Nat}
/-- the body's end is the call's -/
theorem post_done {ρ : List Addr} {H : Hp} {Q : VK} {E : XK} {r : R Fl} (h : PostC Γ ρ H (doneF r) Q E) : PostF Γ (fun cls d _ H => E cls d H) { nx := fun _ H' => Q .non H', rt := Q } ρ H r := by
  cases r with
  | ok fl S =>
    cases fl with
    | next L => exact fun ρ' H' σ' p x rl => h ρ' H' .non p x rl.s (rep_non.mpr rfl)
    | ret d => exact fun ρ' H' v p x s r => h ρ' H' v p x s r
    | brk L => exact h.elim
    | cont L => exact h.elim
    | thr e L => exact fun ρ' H' σ' dx p x rl r => h ρ' H' dx p x rl.s r
  | exc e S => exact h.elim
  | bad => exact h.elim
theorem start_rel (hh : Γ.hot = none) {ρ : List Addr} {H : Hp} {vs : List V} {ds : List D} {N : List PySem.Str} (r : Reps Γ ρ H vs ds) : LRel Γ ρ H (L2.start N vs) (ds.map some ++ List.replicate (N.length - ds.length) none) := by
  have hl := r.length
  refine ⟨by simp [L2.start, hl], fun i d _ h => ?_, fun x hx => by rw [hh] at hx; cases hx⟩
  by_cases hi : i < ds.length
  · rw [List.getElem?_append_left (by simpa using hi), List.getElem?_map] at h
    have h : ds[i]? = some d := by
      cases e : ds[i]? with
      | none => rw [e] at h; cases h
      | some d' => rw [e] at h; simpa using h
    obtain ⟨v, h1, h2⟩ := r.get h
    refine ⟨v, ?_, h2⟩
    unfold L2.start
    rw [List.getElem?_append_left (by simpa [hl] using hi), List.getElem?_map, h1]
    rfl
  · rw [List.getElem?_append_right (by simpa using Nat.le_of_not_lt hi)] at h
    rw [List.getElem?_replicate] at h
    split at h <;> simp at h
theorem post_doneH {h : Hx} {ρ : List Addr} {H : Hp} {Q : VK} {r : R Fl} (q : PostC Γ ρ H (doneF r) Q fun _ _ _ => False) : PostF (Γ.held h) (fun _ _ _ _ => False) { nx := fun _ H' => Q .non H', rt := Q } ρ H r := by
  cases r with
  | ok fl S =>
    cases fl with
    | next L => exact fun ρ' H' σ' p x rl => q ρ' H' .non p x rl.s.free (rep_non.mpr rfl)
    | ret d => exact fun ρ' H' v p x s r => q ρ' H' v p x s.free ((rep_held d).mp r)
    | brk L => exact q.elim
    | cont L => exact q.elim
    | thr e L => exact fun ρ' H' σ' dx p x rl r => q ρ' H' dx p x rl.s.free (xrep_held.mp r)
  | exc e S => exact q.elim
  | bad => exact q.elim
theorem start_held {h : Hx} {ρ : List Addr} {H : Hp} {N : List PySem.Str} {f : Option D} (hh : Γ.hot = none) (h0 : h.sl = 0) (hN : 1 ≤ N.length) (x : XRep Γ ρ H ⟨h.c, f⟩ h.dx) : LRel (Γ.held h) ρ H (L2.start N [.ref h.a]) ([exnD h.c f].map some ++ List.replicate (N.length - 1) none) := by
  refine ⟨by simp [L2.start], fun i d n q => ?_, fun y hy => ?_⟩
  · cases i with
    | zero => exact absurd (show (Γ.held h).hs = some 0 from congrArg some h0) n
    | succ i =>
      simp only [List.map_cons, List.map_nil, List.singleton_append, List.getElem?_cons_succ] at q
      rw [List.getElem?_replicate] at q
      split at q <;> simp at q
  · cases hy
    refine ⟨f, ?_, ?_, xrep_held.mpr x⟩
    · rw [h0]; rfl
    · rw [h0]; rfl
variable {defs : List Df} {G : List (PySem.Str × Gv)} {ms : Ms} {P : Program} {w : World} {mg : PySem.Str → Option Value} {base : Heap} {wf : Nat}
theorem call_len2 {tab : List Fn} {n i np : Nat} (hnp : ∀ f, tab[i]? = some f → f.ps = np ∧ f.cr = none) (ds : List D) (S : Sto) (h : callF tab wf n i ds S ≠ .bad) : ds.length = np := by
  cases n with
  | zero => exact absurd rfl h
  | succ n =>
    cases hf : tab[i]? with
    | none =>
      unfold callF at h
      rw [hf] at h
      exact absurd rfl h
    | some f =>
      have h : run (callF tab wf n) wf f ds S ≠ .bad := by
        unfold callF at h
        rw [hf] at h
        simp only [(hnp f hf).2] at h
        exact h
      unfold run at h
      by_cases e : ds.length = f.ps
      · rw [e, (hnp f hf).1]
      · rw [if_neg e] at h
        exact absurd rfl h
theorem tab_at {i : Nat} {df : Df} (hi : defs[i]? = some df) (hc : df.cr = none) : (defs.map (fnOfDf G ms))[i]? = some ⟨df.ps.length, df.N.length, compSs (compS 30 ⟨df.N, df.d.scope.names, G, df.md, none, true, ms⟩) df.d.body, none⟩ := by
  rw [List.getElem?_map, hi]
  show some (fnOfDf G ms df) = _
  unfold fnOfDf
  rw [hc]
theorem tab_mk {i : Nat} {df : Df} {z : Nat × Nat} (hi : defs[i]? = some df) (hc : df.cr = some z) : (defs.map (fnOfDf G ms))[i]? = some ⟨df.ps.length, 0, .bad, some z⟩ := by
  rw [List.getElem?_map, hi]
  show some (fnOfDf G ms df) = _
  unfold fnOfDf
  rw [hc]
theorem callF_mk {tab : List Fn} {n i ps ns kk g : Nat} {b : Bv.St} (h : tab[i]? = some ⟨ps, ns, b, some (kk, g)⟩) (vs : List D) : callF tab wf (n + 1) i vs = mkM ps kk (callF tab wf n g) vs := by
  funext S
  show callF tab wf (n + 1) i vs S = _
  unfold callF
  rw [h]
  rfl
/-- each def keeps what its meaning says; those that are called with a held exception, too -/
def ProgOk (Γ : Gm) (P : Program) (w : World) (mg : PySem.Str → Option Value) (base : Heap) (wf : Nat) (defs : List Df) (tab : List Fn) (n : Nat) : Prop :=
    (∀ (i : Nat) (df : Df), defs[i]? = some df → df.cr = none → df.hot = false → ∀ (fd : FuncData) (dvs : List V) (kws : List (PySem.Str × V)), FunD Γ.K df.d.name df.d.qual df.d.params df.d.body df.d.scope dvs kws (Γ.fa i) fd → FnOk P w Γ.K mg base (CXm Γ P w) n (Γ.fa i) fd df.ps (spF Γ df.ps.length (callF tab wf n i))) ∧
    (∀ (i : Nat) (df : Df), defs[i]? = some df → df.cr = none → df.hot = true → df.ps.length = 1 → ∀ (fd : FuncData) (dvs : List V) (kws : List (PySem.Str × V)), FunD Γ.K df.d.name df.d.qual df.d.params df.d.body df.d.scope dvs kws (Γ.fa i) fd →
      ∀ (h : Hx) (oe : Obj), Γ.cl h.c = true → L2N.Zn (.ref (Γ.ca h.c)) h.dx oe → (∃ vs, oe.data = .fields vs) → FnP P w Γ.K mg base n (Γ.fa i) fd df.ps (h.a, oe) (spX Γ h (callF tab wf n i)))
theorem prog_ok (hh : Γ.hot = none) (cok : ClsOk Γ) (kls : KlsOk Γ Γ.K) (hd : ∀ i df, defs[i]? = some df → df.cr = none → DefOk Γ i df) (hg : ∀ x gv, G.lookup x = some gv → GvOk Γ defs mg x gv) (hm : ∀ p ∈ ms, MsOk Γ defs p) (n : Nat) : ProgOk Γ P w mg base wf defs (defs.map (fnOfDf G ms)) n := by
  induction n using Nat.strongRecOn with
  | ind n ih =>
  cases n with
  | zero =>
    refine ⟨fun i df hi hcr hc fd dvs kws F => ⟨fun vs H Q E h => ?_, fun A outer s H args us vs Q E hr e0 hb r h => ?_⟩, fun i df hi hcr hc h1 fd dvs kws F h oe ok hz hf => ⟨fun {A outer s H args us vs Q} room hot pin e0 bd rv hl hsp => ?_⟩⟩
    · obtain ⟨_, _, _, _, _, _, h⟩ := h
      exact h.elim
    · obtain ⟨_, _, _, _, _, _, h⟩ := h
      exact h.elim
    · obtain ⟨_, _, _, _, _, _, q⟩ := hsp
      exact q.elim
  | succ n =>
    obtain ⟨ihc, ihh⟩ := ih n (Nat.lt_succ_self n)
    have eb : Γ.bare = Γ := by
      cases Γ
      cases hh
      rfl
    have hot : ∀ x i, G.lookup x = some (.fnH i) → HotFact Γ P w mg base (callF (defs.map (fnOfDf G ms)) wf n) n x i := fun y i hy => by
      obtain ⟨df, e1, e2, e3, e4, e5, e6⟩ := hg y _ hy
      obtain ⟨fd', dvs', kws', F', ⟨dvs, ds, b1, b2, b3⟩, _⟩ := (hd i df e1 e6).ex
      have b4 : dvs = [] := by
        have := (b3 [] (fun _ => none)).length
        rw [e4] at this
        exact List.length_eq_zero_iff.mp this
      subst b4
      cases b1
      exact ⟨Γ.fa i, fd', df.ps, e2, F'.kp, e3, b2, fun h oe ok hz hf => ihh i df e1 e6 e5 e3 fd' dvs' kws' F' h oe ok hz hf⟩
    have lenOk : ∀ {j : Nat} {dj : Df}, defs[j]? = some dj → dj.cr = none → ∀ ds S, callF (defs.map (fnOfDf G ms)) wf n j ds S ≠ .bad → ds.length = dj.ps.length := fun {j dj} e1 e2 => call_len2 fun f hf => by
      rw [tab_at e1 e2] at hf
      cases hf
      exact ⟨rfl, rfl⟩
    refine ⟨fun i df hi hcr hc fd dvs kws F => ?_, fun i df hi hcr hc h1 fd dvs kws F h oe ok hz hf => ?_⟩
    · have sc := (hd i df hi hcr).sc
      have ht := tab_at (G := G) (ms := ms) hi hcr
      refine F.ok sc (fun vs H Q E h => ?_) (fun cdv A outer s H vs Q E hr h => ?_)
      · obtain ⟨ρ, S, ds, s, r, l, h⟩ := h
        rw [r.length, l]
      · obtain ⟨ρ, S, ds, sr, r, l, h⟩ := h
        have h : PostC Γ ρ H (callF (defs.map (fnOfDf G ms)) wf (n + 1) i ds S) Q E := h
        unfold callF at h
        rw [ht] at h
        have h : PostC Γ ρ H (run (callF (defs.map (fnOfDf G ms)) wf n) wf ⟨df.ps.length, df.N.length, compSs (compS 30 ⟨df.N, df.d.scope.names, G, df.md, none, true, ms⟩) df.d.body, none⟩ ds S) Q E := h
        unfold run at h
        rw [if_pos l] at h
        have emd : df.md = none := by unfold Df.md; rw [hc]; rfl
        have x : Ctx Γ (cxOf (CXm Γ P w) P w Γ.K mg base df.N df.d.qual df.d.scope (Γ.fa i) cdv A outer s H E) (fun cls d _ H => E cls d H) ⟨df.N, df.d.scope.names, G, df.md, none, true, ms⟩ (callF (defs.map (fnOfDf G ms)) wf n) n := by
          refine ⟨rfl, rfl, rfl, sc.nd, ?_, ⟨hr.dp, hr.un⟩, fun _ => rfl, fun _ => hr, fun _ => passes_of rfl, fun _ hd => L2H.passesAt_of rfl hd, fun _ => tkM_of rfl rfl rfl rfl, fun _ _ => ⟨rfl, rfl⟩, fun _ _ => .inl rfl, sc.kind, fun y hy => hg y _ hy, fun y d hy => hg y _ hy, fun _ y j np dds kn hy => ?_, fun y j fl hy => hg y _ hy, cok, fun h e => ?_, fun y j hy => ?_, fun z => absurd hh z, kls, fun _ m kk j np hp => ?_, fun _ y j np dds kn hy => ?_⟩
          · unfold Gm.hs CE.hs
            rw [hh, emd]; rfl
          · obtain ⟨dj, e1, e2, e3, e4, e5, e6, e7⟩ := hg y _ hy
            obtain ⟨fd', dvs', kws', F', b1, b2⟩ := (hd j dj e1 e7).ex
            refine ⟨⟨fd', dj.ps, e2, F'.kp, ?_, by rw [e4]; exact b1, fun k' hk => by rw [e3]; exact b2 k' (by rw [← e5]; exact hk)⟩, ?_⟩
            · rw [e3]
              exact ihc j dj e1 e7 e6 fd' dvs' kws' F'
            · rw [e3]
              exact lenOk e1 e7
          · rw [hh] at e; cases e
          · rw [eb]; exact hot y j hy
          · obtain ⟨dj, e1, e2, e3, e4, e5, e6, e7⟩ := hm _ hp
            have e4 : np = dj.ps.length := e4
            obtain ⟨fd', dvs', kws', F', ⟨dvs, ds, b1, b2, b3⟩, _⟩ := (hd j dj e1 e2).ex
            have b4 : dvs = [] := by
              have := (b3 [] (fun _ => none)).length
              rw [e7] at this
              exact List.length_eq_zero_iff.mp this
            subst b4
            cases b1
            refine ⟨⟨fd', dj.ps, e5, e6, ?_, b2⟩, ?_⟩
            · rw [e4]
              exact ihc j dj e1 e2 e3 fd' dvs' kws' F'
            · rw [e4]
              exact lenOk e1 e2
          · obtain ⟨dj, kk, g, dg, e1, e2, e3, e4, e5, e6, e7, e8, e9, e10, e11, e12⟩ := hg y _ hy
            refine ⟨⟨kk, _, e3, e5, e6, ?_⟩⟩
            cases n with
            | zero => exact .inl fun _ _ => rfl
            | succ n' =>
              obtain ⟨ihc', _⟩ := ih n' (by omega)
              obtain ⟨fd', dvs', kws', F', b1, b2⟩ := (hd g dg e7 e8).ex
              refine .inr ⟨n', fd', dg.ps, callF (defs.map (fnOfDf G ms)) wf n' g, rfl, ?_, fun vs => ?_, by rw [e11]; exact b1, fun k' hk => ?_⟩
              · have := ihc' g dg e7 e8 e9 fd' dvs' kws' F'
                rw [e10] at this
                exact this
              · rw [callF_mk (tab_mk e1 e2), e4]
              · have := b2 k' (by rw [← e12]; exact hk)
                rw [e10] at this
                exact this
        refine ⟨_, ok_Ss (C := callF (defs.map (fnOfDf G ms)) wf n) (wf := wf) _ (fun s => ok_S 30 x sc.kind s) df.d.body, ρ, _, S, ⟨sr, start_rel hh r⟩, post_done ?_⟩
        rw [l]
        exact h
    · have sc := (hd i df hi hcr).sc
      have ht := tab_at (G := G) (ms := ms) hi hcr
      refine fnP_of F sc (fun cdv A outer s H vs Q hot1 room hl hsp => ?_)
      obtain ⟨ρ, S, f, sr, rfl, xr, q⟩ := hsp
      have q : PostC Γ ρ H (callF (defs.map (fnOfDf G ms)) wf (n + 1) i [exnD h.c f] S) Q fun _ _ _ => False := q
      unfold callF at q
      rw [ht] at q
      have q : PostC Γ ρ H (run (callF (defs.map (fnOfDf G ms)) wf n) wf ⟨df.ps.length, df.N.length, compSs (compS 30 ⟨df.N, df.d.scope.names, G, df.md, none, true, ms⟩) df.d.body, none⟩ [exnD h.c f] S) Q fun _ _ _ => False := q
      unfold run at q
      rw [if_pos (show [exnD h.c f].length = df.ps.length from h1.symm)] at q
      have emd : df.md = some (some 0) := by unfold Df.md; rw [hc]; rfl
      have hN : 1 ≤ df.N.length := by
        have := congrArg List.length sc.pre
        rw [List.length_take, h1] at this
        omega
      have x : Ctx (Γ.held ⟨0, h.a, h.c, h.dx⟩) (L2H.cxH (fun _ _ _ _ _ _ => False) P w Γ.K mg base df.N df.d.qual df.d.scope (Γ.fa i) cdv A outer s H (fun _ _ _ => False) (h.a, oe)) (fun _ _ _ _ => False) ⟨df.N, df.d.scope.names, G, df.md, none, true, ms⟩ (callF (defs.map (fnOfDf G ms)) wf n) n := by
        have nc : ∀ {p : Prop}, CE.cold ⟨df.N, df.d.scope.names, G, df.md, none, true, ms⟩ = true → p := fun {p} z => by
          unfold CE.cold at z
          rw [emd] at z
          cases z
        refine ⟨rfl, rfl, rfl, sc.nd, ?_, room, nc, nc, nc, nc, nc, nc, fun _ _ => .inl rfl, sc.kind, fun y hy => hg y _ hy, fun y d hy => ?_, nc, fun y j fl hy => hg y _ hy, ⟨cok.exm, cok.inj, cok.exc, cok.kit, cok.kiv, cok.fln, cok.xfc⟩, fun h' e => ?_, fun y j hy => ?_, fun _ _ _ _ _ z => z, kls, nc, nc⟩
        · unfold CE.hs
          rw [emd]; rfl
        · obtain ⟨v, u, e1, e2, e3⟩ := hg y _ hy
          exact ⟨v, u, e1, e2, fun ρ H => (rep_held d).mpr (e3 ρ H)⟩
        · cases e
          exact ⟨oe, List.mem_cons_self, hz.zc, fun _ => hz, hf, ok, hot1.1⟩
        · have e2 : (Γ.held ⟨0, h.a, h.c, h.dx⟩).bare = Γ := by
            cases Γ
            cases hh
            rfl
          rw [e2]; exact hot y j hy
      refine ⟨_, ok_Ss (C := callF (defs.map (fnOfDf G ms)) wf n) (wf := wf) _ (fun s => ok_S 30 x sc.kind s) df.d.body, ρ, _, S, ⟨sr.held, start_held (h := ⟨0, h.a, h.c, h.dx⟩) hh rfl hN xr⟩, post_doneH ?_⟩
      rw [show df.ps.length = 1 from h1] at q
      exact q
end
end Bv
end
section
namespace L2
open PySem PySem.Spec PyProof.Rows
/-- a law over a head by facts, the script's bits told -/
theorem walk_ofEB {l : PySem.W.OpenLaw} {n k : Nat} {q : Program} {loose : List PySem.Str} {XP : (PySem.Str → Option Value) → Heap → Prop} {YP : World → Heap → Prop} {d : DefRec} {x : PySem.Str}
    (hn : l.most = some n) (hn2 : n ≤ sizeLine) (hdf : d.params.defaults = []) (hr : Room k callerA)
    (F : ∀ (w : World) (mg : PySem.Str → Option Value) (fa : Addr) (h : Heap), YP w h → h.Ns mainGlobals mg → mg d.name = some (.ref fa) →
      ∃ (K : PySem.W.Frag) (fd : FuncData) (sp : Sp) (CX : CXT), K.In h ∧ (∀ (s : Shared) (u : Value), BindsTo s fd ⟨[u], []⟩ [(x, u)]) ∧
        (∀ (H s e s'), CX [] H s (fun _ _ _ => False) e s' → False) ∧ (∀ (H : Hp) (a : Addr) (ns : List Int), ns.length ≤ n → (∀ z ∈ ns, Builtin.Int.intBits z ≤ 1048576) → Only H → SqL K H a (ns.map V.int) → sp [.ref a] H (fun v _ => v = .bl true) fun _ _ _ => False) ∧
        ∀ base : Heap, K.In base → base.Ns mainGlobals mg → FnOk l.prog w K mg base CX k fa fd [x] sp) :
    PySem.W.WalkO q loose XP YP l.row.toRowW d [] (fun f vs => PySem.call f vs) := by
  refine Att.attach_callB hn hdf fun w s₀ s₁ mg mb fa o pm cd doc a vs ns G Y ho hd hcd hmg hobj hints hlen hbits hg => ?_
  obtain ⟨K, fd, sp, CX, KX, hb, hCX, hsp, hF⟩ := F w mg fa _ Y G.T.g hmg
  exact law_call KX G.T.g G.T.b G.T.builtins G.T.nolimit hg hobj hints (Nat.le_trans hlen hn2) hr hF hb (fun H hO hS => hsp H a ns hlen hbits hO hS) fun H e s' => hCX H s₁ e s'
end L2
namespace Bv
open PySem L2 PyProof.Rows
theorem CXm_false {Γ : Gm} {P : Program} {w : World} {H : Hp} {s : Shared} {e : Value} {s' : Shared} (h : CXm Γ P w [] H s (fun _ _ _ => False) e s') : False := by
  rcases h with h | h
  · obtain ⟨_, _, _, _, _, _, _, _, _, _, _, _, h⟩ := h
    exact h
  · obtain ⟨_, _, _, _, _, _, _, _, _, _, _, _, h⟩ := h
    exact h.2
section
variable {Γ : Gm}
/-- the law's own promise -/
theorem law_sp {c : List D → M D} {H : Hp} {a : Addr} {ns : List Int} {S' : Sto} (hO : Only H) (hS : SqL Γ.K H a (ns.map V.int)) (h : c [.ref 0] [.ro (ns.map D.int)] = .ok (.bl true) S') : spF Γ 1 c [.ref a] H (fun v _ => v = .bl true) fun _ _ _ => False := by
  have reps : ∀ ns : List Int, Reps Γ [a] H (ns.map V.int) (ns.map D.int) := fun ns => by
    induction ns with
    | nil => simp only [List.map_nil, Reps]
    | cons n r ih =>
      simp only [List.map_cons, Reps]
      exact ⟨rep_int.mpr rfl, ih⟩
  refine ⟨[a], [.ro (ns.map D.int)], [.ref 0], ⟨rfl, fun i b o h1 h2 => ?_, fun i j b o o' h1 h2 h3 h4 m1 m2 => ?_⟩, ?_, rfl, ?_⟩
  · cases i with
    | zero =>
      have e1 : a = b := by simpa using h1
      have e2 : O.ro (ns.map D.int) = o := by simpa using h2
      subst e1 e2
      refine ⟨ns.map V.int, ?_, reps ns⟩
      rcases hS with (q | ⟨o, q⟩) | q
      · rcases hO a with z | ⟨o, xs, z⟩
        · rw [z] at q; cases q
        · rw [z] at q; cases q
      · exact .inl ⟨o, q⟩
      · exact .inr (.inr q)
    | succ i => simp at h1
  · cases i with
    | zero =>
      have e2 : O.ro (ns.map D.int) = o := by simpa using h3
      subst e2
      cases m1
    | succ i => simp at h1
  · simp only [Reps, Rep]
    exact ⟨⟨a, rfl, rfl⟩, trivial⟩
  · rw [h]
    exact fun ρ' H' v _ _ _ r => rep_bl.mp r
end
/-! ### what the head's facts give -/
def AllI {α : Type} (P : Nat → α → Prop) : Nat → List α → Prop
  | _, [] => True
  | n, a :: l => P n a ∧ AllI P (n + 1) l
theorem AllI.at {α : Type} {P : Nat → α → Prop} : ∀ {l : List α} {n i : Nat} {a : α}, AllI P n l → l[i]? = some a → P (n + i) a
  | [], _, _, _, _, h => by simp at h
  | b :: l, n, 0, a, h, e => by
    have : b = a := by simpa using e
    subst this
    exact h.1
  | b :: l, n, i + 1, a, h, e => by
    have := AllI.at (i := i) h.2 (by simpa using e)
    rw [show n + (i + 1) = n + 1 + i by omega]
    exact this
theorem AllI.get {α : Type} {P : Nat → α → Prop} {l : List α} {i : Nat} {a : α} (h : AllI P 0 l) (e : l[i]? = some a) : P i a := by
  have := AllI.at h e
  rwa [Nat.zero_add] at this
def AllG {α : Type} (P : PySem.Str → α → Prop) : List (PySem.Str × α) → Prop
  | [] => True
  | a :: l => P a.1 a.2 ∧ AllG P l
theorem AllG.get {α : Type} {P : PySem.Str → α → Prop} : ∀ {l : List (PySem.Str × α)} {x : PySem.Str} {g : α}, AllG P l → l.lookup x = some g → P x g
  | [], _, _, _, h => by simp at h
  | (y, b) :: l, x, g, h, e => by
    rw [List.lookup_cons] at e
    cases q : (x == y) with
    | true =>
      rw [q] at e
      have e1 : x = y := beq_iff_eq.mp q
      have e2 : b = g := by simpa using e
      subst e1 e2
      exact h.1
    | false =>
      rw [q] at e
      exact AllG.get h.2 e
def faOf (dfs : List Df) (K : PySem.W.Frag) (i : Nat) : Addr := match dfs[i]? with
  | some df => He.fAd K df.d.at_
  | none => 0
/-- the errors' classes by number, their fields -/
def clsName : Nat → PySem.Str
  | 0 => "DeskError"
  | 1 => "NoNumber"
  | 2 => "NoScale"
  | 3 => "NoBase"
  | 4 => "NoWidth"
  | 5 => "NoText"
  | 6 => "NoProgram"
  | 7 => "NoTree"
  | 8 => "NoDivisor"
  | 9 => "NoExponent"
  | 10 => "NoRoot"
  | 11 => "TooLong"
  | 12 => "TooMany"
  | 13 => "Nothing"
  | _ => "Stop"
/-- own classes -/
def klsName : Nat → PySem.Str
  | 0 => "Machine"
  | 1 => "State"
  | 2 => "Reader"
  | 3 => "Leader"
  | _ => "Desk"
def gmOf (dfs : List Df) (cls ks : List Nat) (K : PySem.W.Frag) : Gm := ⟨K, faOf dfs K, fun i => He.ga K (clsName i), fldName, fun i => decide (i ∈ cls), fun i => He.ga K (klsName i), fun i => decide (i ∈ ks), none⟩
/-! facts of the own classes -/
def klsB (ks : List Nat) (K : PySem.W.Frag) : Bool := ks.all fun k => PySem.W.plainGet K (He.ga K (klsName k)) Str.empty && (PySem.W.hasDictIn K (He.ga K (klsName k)) && (PySem.W.plainOver K (He.ga K (klsName k)) && (He.eqO (PySem.W.findIn K (.ref (He.ga K (klsName k))) "__setattr__") (some (some (.builtin "object.__setattr__"))) &&
  (List.range 18).all fun f => He.eqO (PySem.W.findIn K (.ref (He.ga K (klsName k))) (ifl f)) (some none))))
/-- .. of methods -/
def metB (dfs : List Df) (ms : Ms) (K : PySem.W.Frag) : Bool := ms.all fun p => He.eqO (PySem.W.findIn K (.ref (He.ga K (klsName p.2.1))) p.1) (some (some (.ref (faOf dfs K p.2.2.1)))) && (PySem.W.isFn K (.ref (faOf dfs K p.2.2.1)) && PySem.W.keepIn K (.ref (faOf dfs K p.2.2.1)))
/-- .. of what is made -/
def makB (dfs : List Df) (mk : List (Nat × Nat)) (K : PySem.W.Frag) : Bool := mk.all fun p => PySem.W.makesIn K (He.ga K (klsName p.1)) && (He.eqO (PySem.W.findIn K (.ref (He.ga K (klsName p.1))) "__init__") (some (some (.ref (faOf dfs K p.2)))) && (PySem.W.isFn K (.ref (faOf dfs K p.2)) && PySem.W.keepIn K (.ref (He.ga K (klsName p.1)))))
theorem klsB_ok {dfs : List Df} {cls ks : List Nat} {K : PySem.W.Frag} (h : klsB ks K = true) : KlsOk (gmOf dfs cls ks K) K := by
  intro k hk
  have hk : k ∈ ks := of_decide_eq_true (show decide (k ∈ ks) = true from hk)
  have q := List.all_eq_true.mp h k hk
  simp only [Bool.and_eq_true, List.all_eq_true] at q
  obtain ⟨q1, q2, q3, q4, q5⟩ := q
  refine ⟨⟨q1, q2, q3, He.eqO_ok q4⟩, fun f hf => ?_⟩
  exact He.eqO_ok (q5 f (List.mem_range.mpr hf))
/-- what can be seen of the methods' table -/
def msB (dfs : List Df) (ks : List Nat) (ms : Ms) : Bool := ms.all fun p => match dfs[p.2.2.1]? with
  | some df => df.cr.isNone && (!df.hot && (decide (p.2.2.2 = df.ps.length) && (decide (p.2.1 ∈ ks) && df.dds.isEmpty)))
  | none => false
theorem ms_ok {dfs : List Df} {cls ks : List Nat} {ms : Ms} {K : PySem.W.Frag} (h1 : msB dfs ks ms = true) (h2 : metB dfs ms K = true) : ∀ p ∈ ms, MsOk (gmOf dfs cls ks K) dfs p := by
  intro p hp
  have a := List.all_eq_true.mp h1 p hp
  have b := List.all_eq_true.mp h2 p hp
  simp only [Bool.and_eq_true] at b
  obtain ⟨b1, b2, b3⟩ := b
  cases e : dfs[p.2.2.1]? with
  | none => rw [e] at a; cases a
  | some df =>
    rw [e] at a
    simp only [Bool.and_eq_true, Option.isNone_iff_eq_none, Bool.not_eq_true', decide_eq_true_eq, List.isEmpty_iff] at a
    obtain ⟨a1, a2, a3, a4, a5⟩ := a
    exact ⟨df, e, a1, a2, a3, decide_eq_true a4, ⟨He.eqO_ok b1, b2, b3⟩, a5⟩
theorem mk_ok {dfs : List Df} {cls ks : List Nat} {mk : List (Nat × Nat)} {K : PySem.W.Frag} {kk g : Nat} (h : makB dfs mk K = true) (hp : decide ((kk, g) ∈ mk) = true) : Mk K ((gmOf dfs cls ks K).ka kk) ((gmOf dfs cls ks K).fa g) := by
  have b := List.all_eq_true.mp h _ (of_decide_eq_true hp)
  simp only [Bool.and_eq_true] at b
  obtain ⟨b1, b2, b3, b4⟩ := b
  exact ⟨b1, He.eqO_ok b2, b3, b4⟩
/-! facts of the errors' classes, looked at behind the top -/
def excB (K : PySem.W.Frag) (D : Addr) : Bool := He.eqO (PySem.W.findIn K (.ref D) "__getattribute__") (some (some (.builtin "BaseException.__getattribute__"))) && (He.eqO (PySem.W.findIn K (.ref D) "__getattr__") (some none) && (decide (PySem.W.subIn K (.ref D) (.type "BaseException") = some true) && (PySem.W.hasDictIn K D &&
  (He.eqO (PySem.W.findIn K (.ref D) "__class__") (some (some (.builtin "object.__class__"))) && (He.eqO (PySem.W.specialIn K (.builtin "object.__class__") "__get__") (some (some (.builtin "getset_descriptor.__get__"))) && (decide (PySem.W.takesIn K (.builtin "object.__class__") = some true) && decide (PySem.W.mroIn K D (.type "object") = some true)))))))
/-- of a class with one field -/
def bmOf (c : Nat) : List Value := if c = 14 then [.type "Exception", .type "BaseException", .type "object"] else [.type "ValueError", .type "Exception", .type "BaseException", .type "object"]
def newOf (c : Nat) : String := if c = 14 then "Exception.__new__" else "ValueError.__new__"
def iniA (K : PySem.W.Frag) (c : Nat) : Addr := He.fAd K (clsName c, some "__init__")
def oneB (c : Nat) (K : PySem.W.Frag) : Bool := PySem.W.excInitIn K (He.ga K (clsName c)) (bmOf c) (newOf c) && ((match PySem.W.clsIn K (He.ga K (clsName c)) with
    | some cd => PySem.OneX.refsT (bmOf c) cd.mro && cd.hasDict
    | none => false) && (He.eqO (PySem.W.findIn K (.ref (He.ga K (clsName c))) "__setattr__") (some (some (.builtin "object.__setattr__"))) && (He.eqO (PySem.W.findIn K (.ref (He.ga K (clsName c))) (fldName c)) (some none) &&
  (He.eqO (PySem.W.findIn K (.ref (He.ga K (clsName c))) "__init__") (some (some (.ref (iniA K c)))) && (decide (PySem.W.typeIn K (.ref (iniA K c)) = some (.type "function")) && (PySem.W.keepIn K (.ref (He.ga K (clsName c))) && (decide (PySem.W.subIn K (.ref (He.ga K (clsName c))) (.type "BaseException") = some true) &&
  (decide (PySem.W.typeIn K (.ref (He.ga K (clsName c))) = some (.type "type")) && (match K.lookup (iniA K c) with
    | some ⟨_, _, .func fd, _⟩ => decide (fd.kwdefaults = .none)
    | _ => false)))))))))
def hasF (c : Nat) : Bool := decide (c = 1) || (decide (c = 6) || decide (c = 14))
def clsB (cs : List Nat) (K : PySem.W.Frag) : Bool := cs.all fun c => (!hasF c || oneB c K) && (excB K (He.ga K (clsName c)) && (decide (PySem.W.kitOne K (.ref (He.ga K (clsName c))) (.type "ValueError") = some (subC c 100)) && ((decide (c = 14) || decide (He.ga K (clsName 14) ≠ He.ga K (clsName c))) &&
  cs.all fun j => decide (PySem.W.exmOne K (.ref (He.ga K (clsName c))) (.ref (He.ga K (clsName j))) = some (subC c j)) && decide (PySem.W.kitOne K (.ref (He.ga K (clsName c))) (.ref (He.ga K (clsName j))) = some (subC c j)))))
theorem clsB_one {cs : List Nat} {K : PySem.W.Frag} (h : clsB cs K = true) {c : Nat} (hc : c ∈ cs) (hf : hasF c = true) : oneB c K = true := by
  have := List.all_eq_true.mp h c hc
  simp only [Bool.and_eq_true, Bool.or_eq_true, Bool.not_eq_true'] at this
  rcases this.1 with z | z
  · rw [hf] at z; cases z
  · exact z
theorem clsB_ok {dfs : List Df} {cs ks : List Nat} {K : PySem.W.Frag} (h : clsB cs K = true) : ClsOk (gmOf dfs cs ks K) := by
  have h0 : ∀ c, (gmOf dfs cs ks K).cl c = true → _ := fun c hc => List.all_eq_true.mp h c (of_decide_eq_true (show decide (c ∈ cs) = true from hc))
  simp only [Bool.and_eq_true, Bool.or_eq_true, List.all_eq_true, decide_eq_true_eq] at h0
  refine ⟨fun c j hc hj => ?_, fun c c' hc hl e => ?_, fun c hc => ?_, fun c j hc hj => ?_, fun c hc => ?_, rfl, fun c hk hc => ?_⟩
  · exact ((h0 c hc).2.2.2.2 j (of_decide_eq_true hj)).1
  · rcases (h0 c hc).2.2.2.1 with q | q
    · subst q; rfl
    · have : c' = 14 := by unfold looseC at hl; simpa using hl
      subst this
      exact absurd e q
  · have q := (h0 c hc).2.1
    unfold excB at q
    simp only [Bool.and_eq_true, decide_eq_true_eq] at q
    obtain ⟨q1, q2, q3, q4, q5, q6, q7, q8⟩ := q
    exact ⟨He.eqO_ok q1, He.eqO_ok q2, q3, q4, He.eqO_ok q5, He.eqO_ok q6, q7, q8⟩
  · exact ((h0 c hc).2.2.2.2 j (of_decide_eq_true hj)).2
  · exact (h0 c hc).2.2.1
  · have o := clsB_one h (of_decide_eq_true (show decide (c ∈ cs) = true from hc)) (by rcases hk with rfl | rfl | rfl <;> rfl)
    unfold oneB at o
    simp only [Bool.and_eq_true, decide_eq_true_eq] at o
    have q := (h0 c hc).2.1
    unfold excB at q
    simp only [Bool.and_eq_true, decide_eq_true_eq] at q
    obtain ⟨q1, q2, q3, q4, q5, q6, q7, q8⟩ := q
    exact ⟨⟨He.eqO_ok q1, He.eqO_ok q2, q3, q4⟩, He.eqO_ok o.2.2.2.1⟩
/-- the head's facts and these -/
def obsX (n : List Addr) (fa : List He.Fa) (fn : List He.DefD) (cs : PySem.W.Frag → Bool) (g : Addr → Option Obj) : He.AlD × Bool := (fun K => (He.obsD fa fn K, cs K)) (He.frG g n)
def hookX (n : List Addr) (fa : List He.Fa) (fn : List He.DefD) (cs : PySem.W.Frag → Bool) : PySem.W.Hook where
  α := He.AlD × Bool
  obs := fun s => obsX n fa fn cs s.heap.get?
  val := fun _ => (He.valD fn, true)
  says := fun _ h => ∃ K : PySem.W.Frag, K.In h ∧ He.SaysD fa fn K ∧ cs K = true
  of := fun _ _ e => ⟨_, He.frG_in, congrArg Prod.fst e, congrArg Prod.snd e⟩
  keeps := fun _ _ _ ⟨K, hK, c⟩ k => ⟨K, PySem.W.Frag.In.keeps hK k, c⟩
theorem obsX_eq {n : List Addr} {fa : List He.Fa} {fn : List He.DefD} {cs : PySem.W.Frag → Bool} {g : Addr → Option Obj} {s : Shared} (h : ∀ a, g a = s.heap.get? a) : obsX n fa fn cs g = (hookX n fa fn cs).obs s := by
  have e : g = s.heap.get? := funext h
  rw [e]
  rfl
/-- may these be a def's names -/
def scOk (df : Df) : Bool := decide (df.d.scope.kind = .function) && (!df.d.scope.isCoroutine && (!df.d.scope.isGenerator && (decide df.N.Nodup && (decide (df.N.take df.ps.length = df.ps) &&
  ((df.ps.all fun x => decide (df.d.scope.names.lookup x = some .local) || decide (df.d.scope.names.lookup x = some .cell)) && df.d.scope.names.all fun y => decide (y.2 ≠ .free))))))
theorem scOk_ok {df : Df} (h : scOk df = true) : FnScope df.N df.ps df.d.scope := by
  unfold scOk at h
  simp only [Bool.and_eq_true, decide_eq_true_eq, Bool.not_eq_true', List.all_eq_true, Bool.or_eq_true] at h
  obtain ⟨h1, h2, h3, h4, h5, h6, h7⟩ := h
  exact ⟨h1, h2, h3, h4, h5, h6, h7⟩
section
variable {K : PySem.W.Frag} {dfs : List Df} {cls ks : List Nat} {fa : List He.Fa} {i : Nat} {df : Df}
theorem fun_of (c : He.SaysD fa (dfs.map (·.d)) K) (hi : dfs[i]? = some df) : ∃ fd, FunD K df.d.name df.d.qual df.d.params df.d.body df.d.scope (df.d.dvs K) (df.d.kws K) ((gmOf dfs cls ks K).fa i) fd := by
  have h := c.def_ i (d := df.d) (by rw [List.getElem?_map, hi]; rfl)
  have e : (gmOf dfs cls ks K).fa i = He.fAd K df.d.at_ := by
    show faOf dfs K i = _
    unfold faOf
    rw [hi]
  rw [e]
  exact h
theorem law_fun (c : He.SaysD fa (dfs.map (·.d)) K) (hi : dfs[i]? = some df) (h1 : df.d.dfl = []) : ∃ fd kws, FunD K df.d.name df.d.qual df.d.params df.d.body df.d.scope [] kws ((gmOf dfs cls ks K).fa i) fd := by
  obtain ⟨fd, F⟩ := fun_of (cls := cls) (ks := ks) c hi
  have e1 : df.d.dvs K = [] := by unfold He.DefD.dvs; rw [h1]; rfl
  rw [e1] at F
  exact ⟨fd, _, F⟩
theorem defOk_N (c : He.SaysD fa (dfs.map (·.d)) K) (hi : dfs[i]? = some df) (hs : scOk df = true) (h1 : df.d.dfl = []) (h2 : df.d.kwd = []) (h3 : df.dds = []) (h4 : df.kn = none)
    (h : ∀ (kV doc pm : Value) (an : Option Addr) (cdv ct : Value) (us : List Value), us.length = df.ps.length → bindArgs (PySem.W.fnOf df.d.name df.d.qual df.d.params df.d.body df.d.scope .none kV doc pm an cdv ct) ⟨us, []⟩ = pure (df.ps.zip us)) : DefOk (gmOf dfs cls ks K) i df := by
  obtain ⟨fd, F⟩ := fun_of (cls := cls) (ks := ks) c hi
  have e1 : df.d.dvs K = [] := by unfold He.DefD.dvs; rw [h1]; rfl
  rw [e1] at F
  refine ⟨scOk_ok hs, fd, _, _, F, ⟨[], [], .nil, F.bindsN h, fun ρ H => by rw [h3]; simp only [Reps]⟩, fun k' hk => ?_⟩
  rw [h4] at hk
  cases hk
theorem defOk_K {z : Int} {kn : PySem.Str} (c : He.SaysD fa (dfs.map (·.d)) K) (hi : dfs[i]? = some df) (hs : scOk df = true) (h1 : df.d.dfl = []) (h2 : df.d.kwd = [(kn, .int z)]) (h3 : df.dds = [.int z]) (h4 : df.kn = some kn)
    (hz : ∀ (ρ : List Addr) (H : Hp), Rep (gmOf dfs cls ks K) ρ H (.int z) (.int z)) (hn : df.ps.length - 1 + 1 = df.ps.length)
    (h : ∀ (D : Addr) (doc pm : Value) (an : Option Addr) (cdv ct : Value) (us ks : List Value), us.length = df.ps.length - 1 → ks.length = 1 →
      KwChain D ([kn].zip ks) (bindArgs (PySem.W.fnOf df.d.name df.d.qual df.d.params df.d.body df.d.scope .none (.ref D) doc pm an cdv ct) ⟨us, []⟩) (df.ps.zip (us ++ ks)))
    (h' : ∀ (D : Addr) (doc pm : Value) (an : Option Addr) (cdv ct : Value) (us ws : List Value), us.length = df.ps.length - 1 → ws.length = 1 →
      bindArgs (PySem.W.fnOf df.d.name df.d.qual df.d.params df.d.body df.d.scope .none (.ref D) doc pm an cdv ct) ⟨us, [kn].zip ws⟩ = pure (df.ps.zip (us ++ ws))) : DefOk (gmOf dfs cls ks K) i df := by
  obtain ⟨fd, F⟩ := fun_of (cls := cls) (ks := ks) c hi
  have e1 : df.d.dvs K = [] := by unfold He.DefD.dvs; rw [h1]; rfl
  have e2 : df.d.kws K = [(kn, .int z)] := by unfold He.DefD.kws; rw [h2]; rfl
  rw [e1, e2] at F
  obtain ⟨ds, v1, b1⟩ := F.binds0 (df.ps.length - 1) (by simp) (by simpa using hn) (fun D doc pm an cdv ct us ks l1 l2 => h D doc pm an cdv ct us ks l1 (by simpa using l2))
  refine ⟨scOk_ok hs, fd, _, _, F, ⟨[.int z], ds, v1, b1, fun ρ H => by rw [h3]; simp only [Reps]; exact ⟨hz ρ H, trivial⟩⟩, fun k' hk => ?_⟩
  rw [h4] at hk
  cases hk
  obtain ⟨mv, kb⟩ := F.kbinds0 (df.ps.length - 1) [kn] [] (fun us _ ws => us ++ ws) (by simp) (fun q hq => by cases hq) (fun r1 _ r3 => r1.append r3) (fun D doc pm an cdv ct us mv ws l1 l2 l3 => h' D doc pm an cdv ct us ws l1 (by simpa using l3))
  exact kb
theorem gv_int {h : Heap} {mg : PySem.Str → Option Value} {x : PySem.Str} {z : Int} (X : K.In h) (N : h.Ns mainGlobals mg) (c : (He.Fa.int x z).ok K = true) : GvOk (gmOf dfs cls ks K) dfs mg x (.con (.int z)) := by
  obtain ⟨t, e⟩ := He.int_ok X N c
  exact ⟨.int z, _, e, ⟨t, rfl⟩, fun ρ H => rep_int.mpr rfl⟩
theorem gv_str {h : Heap} {mg : PySem.Str → Option Value} {x : PySem.Str} {s : List Nat} (X : K.In h) (N : h.Ns mainGlobals mg) (c : (He.Fa.str x (PySem.Str.mk s.toArray)).ok K = true) (hs : (s.all fun c => decide (c < 1114112)) = true) : GvOk (gmOf dfs cls ks K) dfs mg x (.con (.str s)) := by
  obtain ⟨t, e⟩ := He.str_ok X N c
  exact ⟨.str _, _, e, ⟨t, rfl⟩, fun ρ H => rep_str.mpr ⟨rfl, fun c hc => by simpa using List.all_eq_true.mp hs c hc⟩⟩
end
theorem gv_cls {K : PySem.W.Frag} {dfs : List Df} {cls ks : List Nat} {h : Heap} {mg : PySem.Str → Option Value} {j : Nat} (X : K.In h) (N : h.Ns mainGlobals mg) (c : (He.Fa.glo (clsName j)).ok K = true) (e : (He.Fa.exc (clsName j)).ok K = true) (hj : decide (j ∈ cls) = true) : GvOk (gmOf dfs cls ks K) dfs mg (clsName j) (.cls j false) := by
  obtain ⟨h1, h2, h3, h4⟩ := He.exc_ok e
  exact ⟨He.glo_ok X N c, hj, fun _ => ⟨h1, h2, h3, h4⟩, fun z => nomatch z⟩
/-- a class with one field, its __init__ is the i-th def -/
theorem one_ok {K : PySem.W.Frag} {dfs : List Df} {cs ks : List Nat} {fa : List He.Fa} {i j : Nat} {df : Df} {p1 p2 q1 q2 q3 q4 : Pos} (c : He.SaysD fa (dfs.map (·.d)) K) (cb : clsB cs K = true) (hj : decide (j ∈ cs) = true) (hf : hasF j = true) (hi : dfs[i]? = some df)
    (e1 : df.d.at_ = (clsName j, some ("__init__" : PySem.Str))) (e2 : df.d.name = "__init__") (e3 : df.d.params = PySem.OneX.iA (fldName j) p1 p2) (e4 : df.d.body = PySem.OneX.iB (fldName j) q1 q2 q3 q4) (e5 : df.d.scope = PySem.OneX.iS (fldName j)) (e6 : df.d.dfl = []) : OneC (gmOf dfs cs ks K) j := by
  obtain ⟨fd, F⟩ := fun_of (cls := cs) (ks := ks) c hi
  have ef : (gmOf dfs cs ks K).fa i = iniA K j := by
    show faOf dfs K i = _
    unfold faOf iniA
    rw [hi, ← e1]
  have ed : df.d.dvs K = [] := by unfold He.DefD.dvs; rw [e6]; rfl
  rw [ef, ed, e2, e3, e4, e5] at F
  obtain ⟨oc, od, dV, kV, doc, pm, an, cdv, ct, osl, g1, g2, g3, g4, g5⟩ := F.ex
  have o := clsB_one cb (of_decide_eq_true hj) hf
  unfold oneB at o
  rw [g2] at o
  simp only [Bool.and_eq_true, decide_eq_true_eq] at o
  obtain ⟨o1, o2, o3, o4, o5, o6, o7, o8, o9, o10⟩ := o
  have hd : dV = .none := by
    rcases g4 with z | z
    · exact z.2
    · exact absurd rfl z.1
  subst hd
  subst g1
  have hk : kV = .none := o10
  subst hk
  have hcd : ∃ cd, PySem.W.clsIn K (He.ga K (clsName j)) = some cd ∧ PySem.OneX.refsT (bmOf j) cd.mro = true ∧ cd.hasDict = true := by
    revert o2
    cases PySem.W.clsIn K (He.ga K (clsName j)) with
    | none => intro z; cases z
    | some cd => intro z; rw [Bool.and_eq_true] at z; exact ⟨cd, rfl, z.1, z.2⟩
  have hn : fldName j = "thing" ∨ fldName j = "word" ∨ fldName j = "fault" := by
    unfold hasF at hf
    simp only [Bool.or_eq_true, decide_eq_true_eq] at hf
    rcases hf with rfl | rfl | rfl
    · exact .inl rfl
    · exact .inr (.inl rfl)
    · exact .inr (.inr rfl)
  by_cases h14 : j = 14
  · subst h14
    exact ⟨iniA K 14, df.d.qual, _, _, _, _, PySem.F.excBase_Exception, PySem.OneX.tail_ex, o1, hcd, He.eqO_ok o3, He.eqO_ok o4, He.eqO_ok o5, o6, o7, o8, o9, ⟨oc, od, doc, pm, an, cdv, ct, osl, p1, p2, q1, q2, q3, q4, g2, g3⟩, hn⟩
  · have eb : bmOf j = [.type "ValueError", .type "Exception", .type "BaseException", .type "object"] := by unfold bmOf; rw [if_neg h14]
    have en : newOf j = "ValueError.__new__" := by unfold newOf; rw [if_neg h14]
    rw [eb, en] at o1
    rw [eb] at hcd
    exact ⟨iniA K j, df.d.qual, _, _, _, _, PySem.F.excBase_ValueError, PySem.OneX.tail_ve, o1, hcd, He.eqO_ok o3, He.eqO_ok o4, He.eqO_ok o5, o6, o7, o8, o9, ⟨oc, od, doc, pm, an, cdv, ct, osl, p1, p2, q1, q2, q3, q4, g2, g3⟩, hn⟩
theorem gv_clsF {K : PySem.W.Frag} {dfs : List Df} {cls ks : List Nat} {h : Heap} {mg : PySem.Str → Option Value} {j : Nat} (X : K.In h) (N : h.Ns mainGlobals mg) (c : (He.Fa.glo (clsName j)).ok K = true) (hj : decide (j ∈ cls) = true) (o : OneC (gmOf dfs cls ks K) j) : GvOk (gmOf dfs cls ks K) dfs mg (clsName j) (.cls j true) :=
  ⟨He.glo_ok X N c, hj, (fun z => nomatch z), fun _ => o⟩
/-! tuples of texts -/
abbrev Tps := List (PySem.Str × List (List Nat))
def isStrs : List Value → List (List Nat) → Bool
  | [], [] => true
  | .str x _ :: r, s :: ss => decide (x.cps.toList = s) && ((s.all fun c => decide (c < 1114112)) && isStrs r ss)
  | _, _ => false
def tupB (tp : Tps) (K : PySem.W.Frag) : Bool := tp.all fun p => He.eqO (PySem.W.nsIn K mainGlobals p.1) (some (some (.ref (He.ga K p.1)))) && (match K.lookup (He.ga K p.1) with
  | some ⟨.type "tuple", _, .seq its _, _⟩ => decide (its.size ≤ 1000) && isStrs its.toList p.2
  | _ => false)
theorem strs_vals {Γ : Gm} {ρ : List Addr} {H : Hp} : ∀ {vs : List Value} {ss : List (List Nat)}, isStrs vs ss = true → ∃ xs : List V, Vals xs vs ∧ Reps Γ ρ H xs (ss.map D.str)
  | [], [], _ => ⟨[], .nil, by simp only [List.map_nil, Reps]⟩
  | .str x t :: r, s :: ss, h => by
    simp only [isStrs, Bool.and_eq_true, decide_eq_true_eq] at h
    obtain ⟨xs, h1, h2⟩ := strs_vals (Γ := Γ) (ρ := ρ) (H := H) h.2.2
    refine ⟨.str x :: xs, .cons ⟨t, rfl⟩ h1, ?_⟩
    simp only [List.map_cons, Reps]
    exact ⟨rep_str.mpr ⟨by rw [← h.1], fun c hc => by simpa using List.all_eq_true.mp h.2.1 c hc⟩, h2⟩
  | [], _ :: _, h => by cases h
  | .str _ _ :: _, [], h => by cases h
  | .none :: _, _, h => by cases h
  | .bool _ :: _, _, h => by cases h
  | .int _ _ :: _, _, h => by cases h
  | .float _ _ :: _, _, h => by cases h
  | .bytes _ _ :: _, _, h => by cases h
  | .ref _ :: _, _, h => by cases h
  | .type _ :: _, _, h => by cases h
  | .builtin _ :: _, _, h => by cases h
theorem gv_tup {K : PySem.W.Frag} {dfs : List Df} {cls ks : List Nat} {tp : Tps} {h : Heap} {mg : PySem.Str → Option Value} {x : PySem.Str} {ss : List (List Nat)} (X : K.In h) (N : h.Ns mainGlobals mg) (tb : tupB tp K = true) (hp : (x, ss) ∈ tp) : GvOk (gmOf dfs cls ks K) dfs mg x (.con (.tup (ss.map D.str))) := by
  have b := List.all_eq_true.mp tb _ hp
  simp only [Bool.and_eq_true] at b
  obtain ⟨b1, b2⟩ := b
  have m := He.glo_ok X N (x := x) b1
  refine ⟨.ref (He.ga K x), _, m, rfl, fun ρ H => ?_⟩
  split at b2
  · rename_i d its n sl e
    simp only [Bool.and_eq_true, decide_eq_true_eq] at b2
    obtain ⟨xs, v1, v2⟩ := strs_vals (Γ := gmOf dfs cls ks K) (ρ := ρ) (H := H) b2.2
    simp only [Rep]
    exact ⟨_, xs, rfl, .inr ⟨_, its, n, e, rfl, rfl, Nat.le_trans b2.1 (by decide), v1⟩, v2⟩
  · cases b2
/-! a tuple of whole numbers that a keyword stands for -/
abbrev Tds := List ((PySem.Str × Option PySem.Str) × PySem.Str × List Int)
/-- where it lies -/
def kwA (p : PySem.Str × Option PySem.Str) (kn : PySem.Str) (K : PySem.W.Frag) : Addr := match K.lookup (He.fAd K p) with
  | some ⟨_, _, .func fd, _⟩ => (match fd.kwdefaults with
    | .ref D => (match PySem.W.nsIn K D kn with
      | some (some (.ref a)) => a
      | _ => 0)
    | _ => 0)
  | _ => 0
def isInts : List Value → List Int → Bool
  | [], [] => true
  | .int x _ :: r, s :: ss => decide (x = s) && isInts r ss
  | _, _ => false
def tdfB (td : Tds) (K : PySem.W.Frag) : Bool := td.all fun p => match K.lookup (kwA p.1 p.2.1 K) with
  | some ⟨.type "tuple", _, .seq its _, _⟩ => decide (its.size ≤ 1000) && isInts its.toList p.2.2
  | _ => false
theorem ints_vals {Γ : Gm} {ρ : List Addr} {H : Hp} : ∀ {vs : List Value} {ss : List Int}, isInts vs ss = true → ∃ xs : List V, Vals xs vs ∧ Reps Γ ρ H xs (ss.map D.int)
  | [], [], _ => ⟨[], .nil, by simp only [List.map_nil, Reps]⟩
  | .int x t :: r, s :: ss, h => by
    simp only [isInts, Bool.and_eq_true, decide_eq_true_eq] at h
    obtain ⟨xs, h1, h2⟩ := ints_vals (Γ := Γ) (ρ := ρ) (H := H) h.2
    refine ⟨.int x :: xs, .cons ⟨t, rfl⟩ h1, ?_⟩
    simp only [List.map_cons, Reps]
    exact ⟨rep_int.mpr (by rw [h.1]), h2⟩
  | [], _ :: _, h => by cases h
  | .int _ _ :: _, [], h => by cases h
  | .none :: _, _, h => by cases h
  | .bool _ :: _, _, h => by cases h
  | .str _ _ :: _, _, h => by cases h
  | .float _ _ :: _, _, h => by cases h
  | .bytes _ _ :: _, _, h => by cases h
  | .ref _ :: _, _, h => by cases h
  | .type _ :: _, _, h => by cases h
  | .builtin _ :: _, _, h => by cases h
theorem tdf_rep {K : PySem.W.Frag} {dfs : List Df} {cls ks : List Nat} {td : Tds} {p : PySem.Str × Option PySem.Str} {kn : PySem.Str} {zs : List Int} (tb : tdfB td K = true) (hp : (p, kn, zs) ∈ td) (ρ : List Addr) (H : Hp) : Rep (gmOf dfs cls ks K) ρ H (.ref (kwA p kn K)) (.tup (zs.map D.int)) := by
  have b := List.all_eq_true.mp tb _ hp
  split at b
  · rename_i d its n sl e
    simp only [Bool.and_eq_true, decide_eq_true_eq] at b
    obtain ⟨xs, v1, v2⟩ := ints_vals (Γ := gmOf dfs cls ks K) (ρ := ρ) (H := H) b.2
    simp only [Rep]
    exact ⟨_, xs, rfl, .inr ⟨_, its, n, e, rfl, rfl, Nat.le_trans b.1 (by decide), v1⟩, v2⟩
  · cases b
section
variable {fa : List He.Fa} {dfs : List Df} {cls ks : List Nat} {K : PySem.W.Frag} {i : Nat} {df : Df}
theorem defOk_KT {d : D} {pa : PySem.W.Frag → Addr} {kn : PySem.Str} (c : He.SaysD fa (dfs.map (·.d)) K) (hi : dfs[i]? = some df) (hs : scOk df = true) (h1 : df.d.dfl = []) (h2 : df.d.kwd = [(kn, .adr pa)]) (h3 : df.dds = [d]) (h4 : df.kn = some kn)
    (hz : ∀ (ρ : List Addr) (H : Hp), Rep (gmOf dfs cls ks K) ρ H (.ref (pa K)) d) (hn : df.ps.length - 1 + 1 = df.ps.length)
    (h : ∀ (D : Addr) (doc pm : Value) (an : Option Addr) (cdv ct : Value) (us ks : List Value), us.length = df.ps.length - 1 → ks.length = 1 →
      KwChain D ([kn].zip ks) (bindArgs (PySem.W.fnOf df.d.name df.d.qual df.d.params df.d.body df.d.scope .none (.ref D) doc pm an cdv ct) ⟨us, []⟩) (df.ps.zip (us ++ ks)))
    (h' : ∀ (D : Addr) (doc pm : Value) (an : Option Addr) (cdv ct : Value) (us ws : List Value), us.length = df.ps.length - 1 → ws.length = 1 →
      bindArgs (PySem.W.fnOf df.d.name df.d.qual df.d.params df.d.body df.d.scope .none (.ref D) doc pm an cdv ct) ⟨us, [kn].zip ws⟩ = pure (df.ps.zip (us ++ ws))) : DefOk (gmOf dfs cls ks K) i df := by
  obtain ⟨fd, F⟩ := fun_of (cls := cls) (ks := ks) c hi
  have e1 : df.d.dvs K = [] := by unfold He.DefD.dvs; rw [h1]; rfl
  have e2 : df.d.kws K = [(kn, .ref (pa K))] := by unfold He.DefD.kws; rw [h2]; rfl
  rw [e1, e2] at F
  obtain ⟨ds, v1, b1⟩ := F.binds0 (df.ps.length - 1) (by simp) (by simpa using hn) (fun D doc pm an cdv ct us ks l1 l2 => h D doc pm an cdv ct us ks l1 (by simpa using l2))
  refine ⟨scOk_ok hs, fd, _, _, F, ⟨[.ref (pa K)], ds, v1, b1, fun ρ H => by rw [h3]; simp only [Reps]; exact ⟨hz ρ H, trivial⟩⟩, fun k' hk => ?_⟩
  rw [h4] at hk
  cases hk
  obtain ⟨mv, kb⟩ := F.kbinds0 (df.ps.length - 1) [kn] [] (fun us _ ws => us ++ ws) (by simp) (fun q hq => by cases hq) (fun r1 _ r3 => r1.append r3) (fun D doc pm an cdv ct us mv ws l1 l2 l3 => h' D doc pm an cdv ct us ws l1 (by simpa using l3))
  exact kb
end
/-- all that is looked at -/
def allB (cs ks : List Nat) (dfs : List Df) (ms : Ms) (mk : List (Nat × Nat)) (tp : Tps) (td : Tds) (K : PySem.W.Frag) : Bool := clsB cs K && (klsB ks K && (metB dfs ms K && (makB dfs mk K && (tupB tp K && tdfB td K))))
theorem allB_ok {cs ks : List Nat} {dfs : List Df} {ms : Ms} {mk : List (Nat × Nat)} {tp : Tps} {td : Tds} {K : PySem.W.Frag} (h : allB cs ks dfs ms mk tp td K = true) : clsB cs K = true ∧ klsB ks K = true ∧ metB dfs ms K = true ∧ makB dfs mk K = true ∧ tupB tp K = true ∧ tdfB td K = true := by
  unfold allB at h
  simp only [Bool.and_eq_true] at h
  exact h
theorem gv_mk {K : PySem.W.Frag} {dfs : List Df} {cls ks : List Nat} {mk : List (Nat × Nat)} {h : Heap} {mg : PySem.Str → Option Value} {i np kk g : Nat} {df dg : Df} {dds : List D} {kn : Option PySem.Str} (X : K.In h) (N : h.Ns mainGlobals mg) (c : (He.Fa.glo (klsName kk)).ok K = true) (mb : makB dfs mk K = true) (hp : decide ((kk, g) ∈ mk) = true) (hk : decide (kk ∈ ks) = true)
    (hi : dfs[i]? = some df) (hc : df.cr = some (kk, g)) (hn : np = df.ps.length) (hg : dfs[g]? = some dg) (g1 : dg.cr = none) (g2 : dg.hot = false) (g3 : dg.ps.length = np + 1) (g4 : dds = dg.dds) (g5 : kn = dg.kn) : GvOk (gmOf dfs cls ks K) dfs mg (klsName kk) (.mk i np dds kn) :=
  ⟨df, kk, g, dg, hi, hc, He.glo_ok X N c, hn, hk, mk_ok mb hp, hg, g1, g2, g3, g4, g5⟩
theorem law_end {P : Program} {w : World} {defs : List Df} {G : List (PySem.Str × Gv)} {ms : Ms} {tab : List Fn} {wf n i : Nat} {df : Df} {Γ : Gm} {h : Heap} {mg : PySem.Str → Option Value} {fa : Addr} (hh : Γ.hot = none) (cok : ClsOk Γ) (kls : KlsOk Γ Γ.K) (hm : ∀ p ∈ ms, MsOk Γ defs p) (KX : Γ.K.In h) (N : h.Ns mainGlobals mg) (hmg : mg (PySem.Str.ofString "law") = some (.ref fa))
    (hd : ∀ i df, defs[i]? = some df → df.cr = none → DefOk Γ i df) (hg : ∀ (mg' : PySem.Str → Option Value) (h' : Heap), Γ.K.In h' → h'.Ns mainGlobals mg' → ∀ x gv, G.lookup x = some gv → GvOk Γ defs mg' x gv)
    (hi : defs[i]? = some df) (hF : ∃ fd kws, FunD Γ.K df.d.name df.d.qual df.d.params df.d.body df.d.scope [] kws (Γ.fa i) fd) (hb : ∀ (kV doc pm : Value) (an : Option Addr) (cdv ct : Value) (us : List Value), us.length = df.ps.length → bindArgs (PySem.W.fnOf df.d.name df.d.qual df.d.params df.d.body df.d.scope .none kV doc pm an cdv ct) ⟨us, []⟩ = pure (df.ps.zip us))
    (hps : df.ps = [(PySem.Str.ofString "script")]) (hl : G.lookup (PySem.Str.ofString "law") = some (Gv.fn i 1 [] none)) (ht : defs.map (fnOfDf G ms) = tab)
    (law : ∀ ns : List Int, ns.length ≤ 63 → (∀ z ∈ ns, Builtin.Int.intBits z ≤ 1048576) → ∃ S', callF tab wf n i [.ref 0] [.ro (ns.map D.int)] = .ok (.bl true) S') :
    ∃ (K : PySem.W.Frag) (fd : FuncData) (sp : Sp) (CX : CXT), K.In h ∧ (∀ (s : Shared) (u : Value), BindsTo s fd ⟨[u], []⟩ [((PySem.Str.ofString "script"), u)]) ∧
        (∀ (H s e s'), CX [] H s (fun _ _ _ => False) e s' → False) ∧ (∀ (H : Hp) (a : Addr) (ns : List Int), ns.length ≤ 63 → (∀ z ∈ ns, Builtin.Int.intBits z ≤ 1048576) → Only H → SqL K H a (ns.map V.int) → sp [.ref a] H (fun v _ => v = .bl true) fun _ _ _ => False) ∧
        ∀ base : Heap, K.In base → base.Ns mainGlobals mg → FnOk P w K mg base CX n fa fd [(PySem.Str.ofString "script")] sp := by
  obtain ⟨fd, kws, F⟩ := hF
  obtain ⟨df', e1, e2, _, _, _, e6, e7⟩ := hg mg h KX N (PySem.Str.ofString "law") _ hl
  rw [hi] at e1
  cases e1
  have efa : fa = Γ.fa i := by
    rw [hmg] at e2
    cases e2
    rfl
  subst efa
  refine ⟨Γ.K, fd, spF Γ 1 (callF tab wf n i), CXm Γ P w, KX, fun s u => ?_, fun _ _ _ _ z => CXm_false z, fun H a ns h1 h2 hO hS => ?_, fun base kb nb => ?_⟩
  · have := F.bindsA hb s [u] (by rw [hps]; rfl)
    rw [hps] at this
    exact this
  · obtain ⟨S', e⟩ := law ns h1 h2
    exact law_sp hO hS e
  · have := (prog_ok (P := P) (w := w) (base := base) (wf := wf) hh cok kls hd (fun x gv hx => hg mg h KX N x gv hx) hm n).1 i df hi e7 e6 fd [] kws F
    rw [ht, hps] at this
    exact this
end Bv
end
section
namespace K32
open PySem L2 Bv
def top (i : Nat) : Stmt := PySem.Challenge.pw_scaledesk_k32_scales_refused.main.body.getD i (.Pass ⟨0, 0, 0, 0⟩)
def d0 : Df := ⟨⟨("is_whole", none), "is_whole", "is_whole", defArgs (top 18), defBody (top 18), defScope (top 18), [], []⟩, [(PySem.Str.ofString "thing"), (PySem.Str.ofString "low"), (PySem.Str.ofString "high")], [(PySem.Str.ofString "thing"), (PySem.Str.ofString "low"), (PySem.Str.ofString "high")], [], none, false, none⟩
def d1 : Df := ⟨⟨("statement_text", none), "statement_text", "statement_text", defArgs (top 47), defBody (top 47), defScope (top 47), [], []⟩, [(PySem.Str.ofString "tree"), (PySem.Str.ofString "word"), (PySem.Str.ofString "rest"), (PySem.Str.ofString "other"), (PySem.Str.ofString "name"), (PySem.Str.ofString "names"), (PySem.Str.ofString "autos"), (PySem.Str.ofString "body"), (PySem.Str.ofString "value"), (PySem.Str.ofString "some"), (PySem.Str.ofString "inner"), (PySem.Str.ofString "one")], [(PySem.Str.ofString "tree")], [], none, false, none⟩
def d2 : Df := ⟨⟨("tree_text", none), "tree_text", "tree_text", defArgs (top 48), defBody (top 48), defScope (top 48), [], []⟩, [(PySem.Str.ofString "tree"), (PySem.Str.ofString "one")], [(PySem.Str.ofString "tree")], [], none, false, none⟩
def d3 : Df := ⟨⟨("run_of", none), "run_of", "run_of", defArgs (top 61), defBody (top 61), defScope (top 61), [], []⟩, [(PySem.Str.ofString "text"), (PySem.Str.ofString "at"), (PySem.Str.ofString "signs")], [(PySem.Str.ofString "text"), (PySem.Str.ofString "at"), (PySem.Str.ofString "signs")], [], none, false, none⟩
def d4 : Df := ⟨⟨("word_end", none), "word_end", "word_end", defArgs (top 62), defBody (top 62), defScope (top 62), [], []⟩, [(PySem.Str.ofString "text"), (PySem.Str.ofString "at"), (PySem.Str.ofString "sign"), (PySem.Str.ofString "end"), (PySem.Str.ofString "last"), (PySem.Str.ofString "one")], [(PySem.Str.ofString "text"), (PySem.Str.ofString "at")], [], none, false, none⟩
def d5 : Df := ⟨⟨("words_of", none), "words_of", "words_of", defArgs (top 63), defBody (top 63), defScope (top 63), [], []⟩, [(PySem.Str.ofString "text"), (PySem.Str.ofString "made"), (PySem.Str.ofString "at"), (PySem.Str.ofString "opened"), (PySem.Str.ofString "end")], [(PySem.Str.ofString "text")], [], none, false, none⟩
def d6 : Df := ⟨⟨("is_marked", none), "is_marked", "is_marked", defArgs (top 68), defBody (top 68), defScope (top 68), [], []⟩, [(PySem.Str.ofString "word")], [(PySem.Str.ofString "word")], [], none, false, none⟩
def d7 : Df := ⟨⟨("read", none), "read", "read", defArgs (top 69), defBody (top 69), defScope (top 69), [], []⟩, [(PySem.Str.ofString "text"), (PySem.Str.ofString "made")], [(PySem.Str.ofString "text")], [], none, false, none⟩
def d8 : Df := ⟨⟨("are_statements", none), "are_statements", "are_statements", defArgs (top 73), defBody (top 73), defScope (top 73), [], []⟩, [(PySem.Str.ofString "thing"), (PySem.Str.ofString "outer"), (PySem.Str.ofString "one")], [(PySem.Str.ofString "thing"), (PySem.Str.ofString "outer")], [], none, false, none⟩
def d9 : Df := ⟨⟨("is_statement", none), "is_statement", "is_statement", defArgs (top 75), defBody (top 75), defScope (top 75), [], []⟩, [(PySem.Str.ofString "thing"), (PySem.Str.ofString "outer"), (PySem.Str.ofString "word"), (PySem.Str.ofString "rest"), (PySem.Str.ofString "sign")], [(PySem.Str.ofString "thing"), (PySem.Str.ofString "outer")], [], none, false, none⟩
def d10 : Df := ⟨⟨("is_shallow", none), "is_shallow", "is_shallow", defArgs (top 76), defBody (top 76), defScope (top 76), [], []⟩, [(PySem.Str.ofString "thing"), (PySem.Str.ofString "left"), (PySem.Str.ofString "one"), (PySem.Str.ofString "deep"), (PySem.Str.ofString "inner")], [(PySem.Str.ofString "thing")], [], none, false, none⟩
def d11 : Df := ⟨⟨("is_tree", none), "is_tree", "is_tree", defArgs (top 77), defBody (top 77), defScope (top 77), [], []⟩, [(PySem.Str.ofString "thing")], [(PySem.Str.ofString "thing")], [], none, false, none⟩
def d12 : Df := ⟨⟨("need_tree", none), "need_tree", "need_tree", defArgs (top 78), defBody (top 78), defScope (top 78), [], []⟩, [(PySem.Str.ofString "thing")], [(PySem.Str.ofString "thing")], [], none, false, none⟩
def d13 : Df := ⟨⟨("run_in", none), "run_in", "run_in", defArgs (top 87), defBody (top 87), defScope (top 87), [], []⟩, [(PySem.Str.ofString "tree"), (PySem.Str.ofString "scale"), (PySem.Str.ofString "state"), (PySem.Str.ofString "fault")], [(PySem.Str.ofString "tree"), (PySem.Str.ofString "scale")], [], none, false, none⟩
def d14 : Df := ⟨⟨("need_scales", none), "need_scales", "need_scales", defArgs (top 89), defBody (top 89), defScope (top 89), [], []⟩, [(PySem.Str.ofString "scales"), (PySem.Str.ofString "one"), (PySem.Str.ofString "other"), (PySem.Str.ofString "scale")], [(PySem.Str.ofString "scales")], [], none, false, none⟩
def d15 : Df := ⟨⟨("unlike", none), "unlike", "unlike", defArgs (top 90), defBody (top 90), defScope (top 90), [], [("scales", .adr (kwA ("unlike", none) "scales"))]⟩, [(PySem.Str.ofString "one"), (PySem.Str.ofString "other"), (PySem.Str.ofString "scales"), (PySem.Str.ofString "scale")], [(PySem.Str.ofString "one"), (PySem.Str.ofString "other"), (PySem.Str.ofString "scales")], [(.tup [(.int 0), (.int 5), (.int 20)])], (some "scales"), false, none⟩
def d16 : Df := ⟨⟨("settled", none), "settled", "settled", defArgs (top 91), defBody (top 91), defScope (top 91), [], [("scales", .adr (kwA ("settled", none) "scales"))]⟩, [(PySem.Str.ofString "tree"), (PySem.Str.ofString "scales"), (PySem.Str.ofString "made"), (PySem.Str.ofString "scale"), (PySem.Str.ofString "one")], [(PySem.Str.ofString "tree"), (PySem.Str.ofString "scales")], [(.tup [(.int 0), (.int 5), (.int 20)])], (some "scales"), false, none⟩
def d17 : Df := ⟨⟨("_law_cell_at", none), "_law_cell_at", "_law_cell_at", defArgs (top 93), defBody (top 93), defScope (top 93), [], []⟩, [(PySem.Str.ofString "script"), (PySem.Str.ofString "k"), (PySem.Str.ofString "spare"), (PySem.Str.ofString "again")], [(PySem.Str.ofString "script"), (PySem.Str.ofString "k")], [], none, false, none⟩
def d18 : Df := ⟨⟨("_law_mixed", none), "_law_mixed", "_law_mixed", defArgs (top 94), defBody (top 94), defScope (top 94), [], []⟩, [(PySem.Str.ofString "script"), (PySem.Str.ofString "k"), (PySem.Str.ofString "bound"), (PySem.Str.ofString "drawn")], [(PySem.Str.ofString "script"), (PySem.Str.ofString "k"), (PySem.Str.ofString "bound")], [], none, false, none⟩
def d19 : Df := ⟨⟨("_law_draw", none), "_law_draw", "_law_draw", defArgs (top 95), defBody (top 95), defScope (top 95), [], []⟩, [(PySem.Str.ofString "script"), (PySem.Str.ofString "town"), (PySem.Str.ofString "bound")], [(PySem.Str.ofString "script"), (PySem.Str.ofString "town"), (PySem.Str.ofString "bound")], [], none, false, none⟩
def d20 : Df := ⟨⟨("_law_pick", none), "_law_pick", "_law_pick", defArgs (top 96), defBody (top 96), defScope (top 96), [], []⟩, [(PySem.Str.ofString "script"), (PySem.Str.ofString "town"), (PySem.Str.ofString "some")], [(PySem.Str.ofString "script"), (PySem.Str.ofString "town"), (PySem.Str.ofString "some")], [], none, false, none⟩
def d21 : Df := ⟨⟨("_law_which", none), "_law_which", "_law_which", defArgs (top 97), defBody (top 97), defScope (top 97), [], []⟩, [(PySem.Str.ofString "e"), (PySem.Str.ofString "own")], [(PySem.Str.ofString "e")], [], none, true, none⟩
def d22 : Df := ⟨⟨("_law_ask", none), "_law_ask", "_law_ask", defArgs (top 98), defBody (top 98), defScope (top 98), [], []⟩, [(PySem.Str.ofString "what"), (PySem.Str.ofString "one"), (PySem.Str.ofString "two"), (PySem.Str.ofString "some"), (PySem.Str.ofString "e")], [(PySem.Str.ofString "what"), (PySem.Str.ofString "one"), (PySem.Str.ofString "two"), (PySem.Str.ofString "some")], [], none, false, none⟩
def d23 : Df := ⟨⟨("law", none), "law", "law", defArgs (top 99), defBody (top 99), defScope (top 99), [], []⟩, [(PySem.Str.ofString "script"), (PySem.Str.ofString "town"), (PySem.Str.ofString "tree"), (PySem.Str.ofString "bad"), (PySem.Str.ofString "some")], [(PySem.Str.ofString "script")], [], none, false, none⟩
def d24 : Df := ⟨⟨("NoNumber", some "__init__"), "__init__", "NoNumber.__init__", defArgs (inClass (top 2) 0), defBody (inClass (top 2) 0), defScope (inClass (top 2) 0), [], []⟩, [(PySem.Str.ofString "self"), (PySem.Str.ofString "thing")], [(PySem.Str.ofString "self"), (PySem.Str.ofString "thing")], [], none, false, none⟩
def d25 : Df := ⟨⟨("NoProgram", some "__init__"), "__init__", "NoProgram.__init__", defArgs (inClass (top 7) 0), defBody (inClass (top 7) 0), defScope (inClass (top 7) 0), [], []⟩, [(PySem.Str.ofString "self"), (PySem.Str.ofString "word")], [(PySem.Str.ofString "self"), (PySem.Str.ofString "word")], [], none, false, none⟩
def d26 : Df := ⟨⟨("Stop", some "__init__"), "__init__", "Stop.__init__", defArgs (inClass (top 81) 0), defBody (inClass (top 81) 0), defScope (inClass (top 81) 0), [], []⟩, [(PySem.Str.ofString "self"), (PySem.Str.ofString "fault")], [(PySem.Str.ofString "self"), (PySem.Str.ofString "fault")], [], none, false, none⟩
def d27 : Df := ⟨⟨("Reader", some "__init__"), "__init__", "Reader.__init__", defArgs (inClass (top 67) 0), defBody (inClass (top 67) 0), defScope (inClass (top 67) 0), [], []⟩, [(PySem.Str.ofString "self"), (PySem.Str.ofString "every")], [(PySem.Str.ofString "self"), (PySem.Str.ofString "every")], [], none, false, none⟩
def d28 : Df := ⟨⟨("Reader", some "next"), "next", "Reader.next", defArgs (inClass (top 67) 1), defBody (inClass (top 67) 1), defScope (inClass (top 67) 1), [], []⟩, [(PySem.Str.ofString "self")], [(PySem.Str.ofString "self")], [], none, false, none⟩
def d29 : Df := ⟨⟨("Reader", some "need"), "need", "Reader.need", defArgs (inClass (top 67) 2), defBody (inClass (top 67) 2), defScope (inClass (top 67) 2), [], []⟩, [(PySem.Str.ofString "self"), (PySem.Str.ofString "some"), (PySem.Str.ofString "word")], [(PySem.Str.ofString "self"), (PySem.Str.ofString "some")], [], none, false, none⟩
def d30 : Df := ⟨⟨("Reader", some "need_kind"), "need_kind", "Reader.need_kind", defArgs (inClass (top 67) 3), defBody (inClass (top 67) 3), defScope (inClass (top 67) 3), [], []⟩, [(PySem.Str.ofString "self"), (PySem.Str.ofString "test"), (PySem.Str.ofString "word")], [(PySem.Str.ofString "self"), (PySem.Str.ofString "test")], [], none, false, none⟩
def d31 : Df := ⟨⟨("Reader", some "statements"), "statements", "Reader.statements", defArgs (inClass (top 67) 5), defBody (inClass (top 67) 5), defScope (inClass (top 67) 5), [], []⟩, [(PySem.Str.ofString "self"), (PySem.Str.ofString "end"), (PySem.Str.ofString "outer"), (PySem.Str.ofString "made")], [(PySem.Str.ofString "self"), (PySem.Str.ofString "end"), (PySem.Str.ofString "outer")], [], none, false, none⟩
def d32 : Df := ⟨⟨("Reader", some "statement"), "statement", "Reader.statement", defArgs (inClass (top 67) 6), defBody (inClass (top 67) 6), defScope (inClass (top 67) 6), [], []⟩, [(PySem.Str.ofString "self"), (PySem.Str.ofString "outer"), (PySem.Str.ofString "word"), (PySem.Str.ofString "target")], [(PySem.Str.ofString "self"), (PySem.Str.ofString "outer")], [], none, false, none⟩
def d33 : Df := ⟨⟨("State", some "__init__"), "__init__", "State.__init__", defArgs (inClass (top 86) 0), defBody (inClass (top 86) 0), defScope (inClass (top 86) 0), [], []⟩, [(PySem.Str.ofString "self"), (PySem.Str.ofString "scale")], [(PySem.Str.ofString "self"), (PySem.Str.ofString "scale")], [], none, false, none⟩
def d34 : Df := ⟨⟨("State", some "each"), "each", "State.each", defArgs (inClass (top 86) 7), defBody (inClass (top 86) 7), defScope (inClass (top 86) 7), [], []⟩, [(PySem.Str.ofString "self"), (PySem.Str.ofString "body"), (PySem.Str.ofString "tree")], [(PySem.Str.ofString "self"), (PySem.Str.ofString "body")], [], none, false, none⟩
def d35 : Df := ⟨⟨("State", some "count"), "count", "State.count", defArgs (inClass (top 86) 8), defBody (inClass (top 86) 8), defScope (inClass (top 86) 8), [], []⟩, [(PySem.Str.ofString "self")], [(PySem.Str.ofString "self")], [], none, false, none⟩
def d36 : Df := ⟨⟨("State", some "one"), "one", "State.one", defArgs (inClass (top 86) 9), defBody (inClass (top 86) 9), defScope (inClass (top 86) 9), [], []⟩, [(PySem.Str.ofString "self"), (PySem.Str.ofString "tree"), (PySem.Str.ofString "word")], [(PySem.Str.ofString "self"), (PySem.Str.ofString "tree")], [], none, false, none⟩
def d37 : Df := ⟨⟨("State", some "guarded"), "guarded", "State.guarded", defArgs (inClass (top 86) 10), defBody (inClass (top 86) 10), defScope (inClass (top 86) 10), [], []⟩, [(PySem.Str.ofString "self"), (PySem.Str.ofString "tree"), (PySem.Str.ofString "fault")], [(PySem.Str.ofString "self"), (PySem.Str.ofString "tree")], [], none, false, none⟩
def d38 : Df := ⟨⟨("State", some "fault_of"), "fault_of", "State.fault_of", defArgs (inClass (top 86) 11), defBody (inClass (top 86) 11), defScope (inClass (top 86) 11), [], []⟩, [(PySem.Str.ofString "self"), (PySem.Str.ofString "tree"), (PySem.Str.ofString "e")], [(PySem.Str.ofString "self"), (PySem.Str.ofString "tree")], [], none, false, none⟩
def d39 : Df := ⟨⟨("Reader", some "__init__"), "__init__", "Reader.__init__", defArgs (inClass (top 67) 0), defBody (inClass (top 67) 0), defScope (inClass (top 67) 0), [], []⟩, [(PySem.Str.ofString "self"), (PySem.Str.ofString "every")], [(PySem.Str.ofString "every")], [], none, false, (some (2, 27))⟩
def d40 : Df := ⟨⟨("State", some "__init__"), "__init__", "State.__init__", defArgs (inClass (top 86) 0), defBody (inClass (top 86) 0), defScope (inClass (top 86) 0), [], []⟩, [(PySem.Str.ofString "self"), (PySem.Str.ofString "scale")], [(PySem.Str.ofString "scale")], [], none, false, (some (1, 33))⟩
def dfs : List Df := [d0, d1, d2, d3, d4, d5, d6, d7, d8, d9, d10, d11, d12, d13, d14, d15, d16, d17, d18, d19, d20, d21, d22, d23, d24, d25, d26, d27, d28, d29, d30, d31, d32, d33, d34, d35, d36, d37, d38, d39, d40]
def G : List (PySem.Str × Gv) := [((PySem.Str.ofString "is_whole"), Gv.fn 0 3 [] none),
  ((PySem.Str.ofString "statement_text"), Gv.fn 1 1 [] none),
  ((PySem.Str.ofString "tree_text"), Gv.fn 2 1 [] none),
  ((PySem.Str.ofString "run_of"), Gv.fn 3 3 [] none),
  ((PySem.Str.ofString "word_end"), Gv.fn 4 2 [] none),
  ((PySem.Str.ofString "words_of"), Gv.fn 5 1 [] none),
  ((PySem.Str.ofString "is_marked"), Gv.fn 6 1 [] none),
  ((PySem.Str.ofString "read"), Gv.fn 7 1 [] none),
  ((PySem.Str.ofString "are_statements"), Gv.fn 8 2 [] none),
  ((PySem.Str.ofString "is_statement"), Gv.fn 9 2 [] none),
  ((PySem.Str.ofString "is_shallow"), Gv.fn 10 1 [] none),
  ((PySem.Str.ofString "is_tree"), Gv.fn 11 1 [] none),
  ((PySem.Str.ofString "need_tree"), Gv.fn 12 1 [] none),
  ((PySem.Str.ofString "run_in"), Gv.fn 13 2 [] none),
  ((PySem.Str.ofString "need_scales"), Gv.fn 14 1 [] none),
  ((PySem.Str.ofString "unlike"), Gv.fn 15 3 [(.tup [(.int 0), (.int 5), (.int 20)])] (some "scales")),
  ((PySem.Str.ofString "settled"), Gv.fn 16 2 [(.tup [(.int 0), (.int 5), (.int 20)])] (some "scales")),
  ((PySem.Str.ofString "_law_cell_at"), Gv.fn 17 2 [] none),
  ((PySem.Str.ofString "_law_mixed"), Gv.fn 18 3 [] none),
  ((PySem.Str.ofString "_law_draw"), Gv.fn 19 3 [] none),
  ((PySem.Str.ofString "_law_pick"), Gv.fn 20 3 [] none),
  ((PySem.Str.ofString "_law_which"), Gv.fnH 21),
  ((PySem.Str.ofString "_law_ask"), Gv.fn 22 4 [] none),
  ((PySem.Str.ofString "law"), Gv.fn 23 1 [] none),
  ((PySem.Str.ofString "FIGURES_reckoning"), Gv.con (.int 100000000000000000000000000000000000000000000000000000000000000000000000000000000000000000000000000000000000000000000000000000000000000000000000000000000000000000000000000000000000000000000000000000000000000000000000000000000000000000000000000000000000000000000000000000000000000000000000000000000000)),
  ((PySem.Str.ofString "SCALE"), Gv.con (.int 60)),
  ((PySem.Str.ofString "FIGURES_bases"), Gv.con (.str [48, 49, 50, 51, 52, 53, 54, 55, 56, 57, 65, 66, 67, 68, 69, 70])),
  ((PySem.Str.ofString "SMALL"), Gv.con (.str [97, 98, 99, 100, 101, 102, 103, 104, 105, 106, 107, 108, 109, 110, 111, 112, 113, 114, 115, 116, 117, 118, 119, 120, 121, 122])),
  ((PySem.Str.ofString "FUNCTIONS"), Gv.con (.str [80, 81, 82, 83, 84, 85, 86, 87])),
  ((PySem.Str.ofString "SETTINGS"), Gv.con (.tup [(.str [115, 99, 97, 108, 101]), (.str [105, 98, 97, 115, 101]), (.str [111, 98, 97, 115, 101])])),
  ((PySem.Str.ofString "SIGNS"), Gv.con (.str [61, 59, 40, 41, 91, 93, 123, 125, 44, 60, 62, 43, 45, 42, 47, 35, 94])),
  ((PySem.Str.ofString "PAIRS"), Gv.con (.tup [(.str [60, 61]), (.str [62, 61]), (.str [61, 61]), (.str [33, 61])])),
  ((PySem.Str.ofString "TESTS"), Gv.con (.tup [(.str [60]), (.str [60, 61]), (.str [62]), (.str [62, 61]), (.str [61, 61]), (.str [33, 61])])),
  ((PySem.Str.ofString "LONG"), Gv.con (.int 60)),
  ((PySem.Str.ofString "MOST"), Gv.con (.int 4)),
  ((PySem.Str.ofString "WORDS"), Gv.con (.int 150)),
  ((PySem.Str.ofString "OPEN"), Gv.con (.int 20)),
  ((PySem.Str.ofString "DEEP"), Gv.con (.int 100)),
  ((PySem.Str.ofString "PLACES"), Gv.con (.int 999)),
  ((PySem.Str.ofString "STEPS"), Gv.con (.int 1000)),
  ((PySem.Str.ofString "CALLS"), Gv.con (.int 8)),
  ((PySem.Str.ofString "Reader"), Gv.mk 39 1 [] none),
  ((PySem.Str.ofString "State"), Gv.mk 40 1 [] none),
  ((PySem.Str.ofString "DeskError"), Gv.cls 0 false),
  ((PySem.Str.ofString "NoNumber"), Gv.cls 1 true),
  ((PySem.Str.ofString "NoScale"), Gv.cls 2 false),
  ((PySem.Str.ofString "NoBase"), Gv.cls 3 false),
  ((PySem.Str.ofString "NoWidth"), Gv.cls 4 false),
  ((PySem.Str.ofString "NoText"), Gv.cls 5 false),
  ((PySem.Str.ofString "NoProgram"), Gv.cls 6 true),
  ((PySem.Str.ofString "NoTree"), Gv.cls 7 false),
  ((PySem.Str.ofString "NoDivisor"), Gv.cls 8 false),
  ((PySem.Str.ofString "NoExponent"), Gv.cls 9 false),
  ((PySem.Str.ofString "NoRoot"), Gv.cls 10 false),
  ((PySem.Str.ofString "TooLong"), Gv.cls 11 false),
  ((PySem.Str.ofString "TooMany"), Gv.cls 12 false),
  ((PySem.Str.ofString "Nothing"), Gv.cls 13 false),
  ((PySem.Str.ofString "Stop"), Gv.cls 14 true),
  ((PySem.Str.ofString "ValueError"), Gv.blt),
  ((PySem.Str.ofString "abs"), Gv.blt),
  ((PySem.Str.ofString "all"), Gv.blt),
  ((PySem.Str.ofString "any"), Gv.blt),
  ((PySem.Str.ofString "bool"), Gv.blt),
  ((PySem.Str.ofString "divmod"), Gv.blt),
  ((PySem.Str.ofString "int"), Gv.blt),
  ((PySem.Str.ofString "isinstance"), Gv.blt),
  ((PySem.Str.ofString "len"), Gv.blt),
  ((PySem.Str.ofString "max"), Gv.blt),
  ((PySem.Str.ofString "min"), Gv.blt),
  ((PySem.Str.ofString "range"), Gv.blt),
  ((PySem.Str.ofString "set"), Gv.blt),
  ((PySem.Str.ofString "str"), Gv.blt),
  ((PySem.Str.ofString "tuple"), Gv.blt),
  ((PySem.Str.ofString "zip"), Gv.blt)]
def ms : Ms := [((PySem.Str.ofString "next"), 2, 28, 1), ((PySem.Str.ofString "need"), 2, 29, 2), ((PySem.Str.ofString "need_kind"), 2, 30, 2), ((PySem.Str.ofString "statements"), 2, 31, 3), ((PySem.Str.ofString "statement"), 2, 32, 2), ((PySem.Str.ofString "each"), 1, 34, 2), ((PySem.Str.ofString "count"), 1, 35, 1), ((PySem.Str.ofString "one"), 1, 36, 2), ((PySem.Str.ofString "guarded"), 1, 37, 2), ((PySem.Str.ofString "fault_of"), 1, 38, 2)]
def mks : List (Nat × Nat) := [(2, 27), (1, 33)]
def ks : List Nat := [2, 1]
def tps : Tps := [((PySem.Str.ofString "SETTINGS"), [[115, 99, 97, 108, 101], [105, 98, 97, 115, 101], [111, 98, 97, 115, 101]]), ((PySem.Str.ofString "PAIRS"), [[60, 61], [62, 61], [61, 61], [33, 61]]), ((PySem.Str.ofString "TESTS"), [[60], [60, 61], [62], [62, 61], [61, 61], [33, 61]])]
abbrev Rw : PySem.W.OpenRow := PySem.W.OpenLaw.row PySem.Challenge.rw_scaledesk_k32_scales_refused
def fa : List He.Fa := [.glo "is_whole",
  .glo "statement_text",
  .glo "tree_text",
  .glo "run_of",
  .glo "word_end",
  .glo "words_of",
  .glo "is_marked",
  .glo "read",
  .glo "are_statements",
  .glo "is_statement",
  .glo "is_shallow",
  .glo "is_tree",
  .glo "need_tree",
  .glo "run_in",
  .glo "need_scales",
  .glo "unlike",
  .glo "settled",
  .glo "_law_cell_at",
  .glo "_law_mixed",
  .glo "_law_draw",
  .glo "_law_pick",
  .glo "_law_which",
  .glo "_law_ask",
  .glo "law",
  .int "FIGURES_reckoning" 100000000000000000000000000000000000000000000000000000000000000000000000000000000000000000000000000000000000000000000000000000000000000000000000000000000000000000000000000000000000000000000000000000000000000000000000000000000000000000000000000000000000000000000000000000000000000000000000000000000000,
  .int "SCALE" 60,
  .str "FIGURES_bases" (PySem.Str.mk #[48, 49, 50, 51, 52, 53, 54, 55, 56, 57, 65, 66, 67, 68, 69, 70]),
  .str "SMALL" (PySem.Str.mk #[97, 98, 99, 100, 101, 102, 103, 104, 105, 106, 107, 108, 109, 110, 111, 112, 113, 114, 115, 116, 117, 118, 119, 120, 121, 122]),
  .str "FUNCTIONS" (PySem.Str.mk #[80, 81, 82, 83, 84, 85, 86, 87]),
  .str "SIGNS" (PySem.Str.mk #[61, 59, 40, 41, 91, 93, 123, 125, 44, 60, 62, 43, 45, 42, 47, 35, 94]),
  .int "LONG" 60,
  .int "MOST" 4,
  .int "WORDS" 150,
  .int "OPEN" 20,
  .int "DEEP" 100,
  .int "PLACES" 999,
  .int "STEPS" 1000,
  .int "CALLS" 8,
  .glo "DeskError",
  .exc "DeskError",
  .glo "NoNumber",
  .glo "NoScale",
  .exc "NoScale",
  .glo "NoBase",
  .exc "NoBase",
  .glo "NoWidth",
  .exc "NoWidth",
  .glo "NoText",
  .exc "NoText",
  .glo "NoProgram",
  .glo "NoTree",
  .exc "NoTree",
  .glo "NoDivisor",
  .exc "NoDivisor",
  .glo "NoExponent",
  .exc "NoExponent",
  .glo "NoRoot",
  .exc "NoRoot",
  .glo "TooLong",
  .exc "TooLong",
  .glo "TooMany",
  .exc "TooMany",
  .glo "Nothing",
  .exc "Nothing",
  .glo "Stop",
  .glo "Reader",
  .glo "State",
  .free "ValueError",
  .free "abs",
  .free "all",
  .free "any",
  .free "bool",
  .free "divmod",
  .free "int",
  .free "isinstance",
  .free "len",
  .free "max",
  .free "min",
  .free "range",
  .free "set",
  .free "str",
  .free "tuple",
  .free "zip"]
def names0 : List PySem.Str := [(PySem.Str.ofString "is_whole"), (PySem.Str.ofString "raise_to"), (PySem.Str.ofString "ten"), (PySem.Str.ofString "cut_off"), (PySem.Str.ofString "fitted"), (PySem.Str.ofString "at_scale"), (PySem.Str.ofString "signed"), (PySem.Str.ofString "sum_of"), (PySem.Str.ofString "product"), (PySem.Str.ofString "quotient"), (PySem.Str.ofString "left_over"), (PySem.Str.ofString "raised"), (PySem.Str.ofString "square"), (PySem.Str.ofString "rooted"), (PySem.Str.ofString "order"), (PySem.Str.ofString "figures_of"), (PySem.Str.ofString "whole_text"), (PySem.Str.ofString "many_behind"), (PySem.Str.ofString "number_text"), (PySem.Str.ofString "worth_of")]
def names1 : List PySem.Str := [(PySem.Str.ofString "number_of"), (PySem.Str.ofString "bare_text"), (PySem.Str.ofString "text_of"), (PySem.Str.ofString "body_text"), (PySem.Str.ofString "test_text"), (PySem.Str.ofString "statement_text"), (PySem.Str.ofString "tree_text"), (PySem.Str.ofString "run_of"), (PySem.Str.ofString "word_end"), (PySem.Str.ofString "words_of"), (PySem.Str.ofString "is_number_text"), (PySem.Str.ofString "is_name"), (PySem.Str.ofString "is_function"), (PySem.Str.ofString "is_marked"), (PySem.Str.ofString "read"), (PySem.Str.ofString "is_expression"), (PySem.Str.ofString "is_setting"), (PySem.Str.ofString "is_test"), (PySem.Str.ofString "are_statements"), (PySem.Str.ofString "are_names")]
def names2 : List PySem.Str := [(PySem.Str.ofString "is_statement"), (PySem.Str.ofString "is_shallow"), (PySem.Str.ofString "is_tree"), (PySem.Str.ofString "need_tree"), (PySem.Str.ofString "read_sign"), (PySem.Str.ofString "run_in"), (PySem.Str.ofString "need_scales"), (PySem.Str.ofString "unlike"), (PySem.Str.ofString "settled"), (PySem.Str.ofString "_law_cell_at"), (PySem.Str.ofString "_law_mixed"), (PySem.Str.ofString "_law_draw"), (PySem.Str.ofString "_law_pick"), (PySem.Str.ofString "_law_which"), (PySem.Str.ofString "_law_ask"), (PySem.Str.ofString "DeskError"), (PySem.Str.ofString "NoNumber"), (PySem.Str.ofString "NoScale"), (PySem.Str.ofString "NoBase"), (PySem.Str.ofString "NoWidth")]
def names3 : List PySem.Str := [(PySem.Str.ofString "NoText"), (PySem.Str.ofString "NoProgram"), (PySem.Str.ofString "NoTree"), (PySem.Str.ofString "NoDivisor"), (PySem.Str.ofString "NoExponent"), (PySem.Str.ofString "NoRoot"), (PySem.Str.ofString "TooLong"), (PySem.Str.ofString "TooMany"), (PySem.Str.ofString "Nothing"), (PySem.Str.ofString "Reader"), (PySem.Str.ofString "Stop"), (PySem.Str.ofString "State"), (PySem.Str.ofString "FIGURES_reckoning"), (PySem.Str.ofString "SCALE"), (PySem.Str.ofString "FIGURES_bases"), (PySem.Str.ofString "LEVELS"), (PySem.Str.ofString "SMALL"), (PySem.Str.ofString "FUNCTIONS"), (PySem.Str.ofString "SETTINGS"), (PySem.Str.ofString "SIGNS")]
def names4 : List PySem.Str := [(PySem.Str.ofString "PAIRS"), (PySem.Str.ofString "TESTS"), (PySem.Str.ofString "LONG"), (PySem.Str.ofString "MOST"), (PySem.Str.ofString "WORDS"), (PySem.Str.ofString "OPEN"), (PySem.Str.ofString "DEEP"), (PySem.Str.ofString "PLACES"), (PySem.Str.ofString "STEPS"), (PySem.Str.ofString "CALLS")]
def names : List PySem.Str := names0 ++ names1 ++ names2 ++ names3 ++ names4
def fn : List He.DefD := dfs.map (·.d)
def tds : Tds := [(("unlike", none), "scales", [0, 5, 20]), (("settled", none), "scales", [0, 5, 20])]
def cs : List Nat := [0, 1, 2, 3, 4, 5, 6, 7, 8, 9, 10, 11, 12, 13, 14]
def cbb (K : PySem.W.Frag) : Bool := allB cs ks dfs ms mks tps tds K
def ads : List PySem.Addr := [3, 0, 1, 2, 6, 17, 23, 24, 30, 40, 41, 43, 44, 49, 55, 56, 61, 67, 68, 73] ++ [79, 80, 85, 91, 92, 97, 107, 108, 110, 111, 116, 122, 123, 128, 134, 135, 140, 146, 147, 152] ++ [158, 159, 164, 170, 171, 176, 182, 183, 188, 194, 195, 203, 204, 340, 341, 345, 346, 375, 376, 380] ++ [381, 382, 383, 384, 385, 387, 388, 390, 391, 392, 395, 396, 402, 403, 425, 435, 436, 442, 443, 449] ++ [450, 456, 457, 470, 471, 477, 478, 564, 565, 575, 576, 582, 583, 606, 607, 616, 617, 621, 622, 628] ++ [629, 635, 636, 639, 649, 650, 652, 653, 666, 676, 677, 721, 722, 728, 729, 735, 736, 742, 743, 749] ++ [750, 752, 753, 763, 764, 765, 768, 769, 770, 771, 772, 775, 776, 777, 778, 779, 782, 783, 784, 786] ++ [787, 789, 790, 796, 797, 803, 804, 810, 811, 817, 818, 824, 825, 831, 832]
abbrev hk : PySem.W.Hook := hookX ads fa fn cbb
def ob (s : PySem.W.SharedT) : He.AlD × Bool := obsX ads fa fn cbb (HandSHeadRun.getT s)
theorem ob_eq (s : PySem.W.SharedT) : ob s = hk.obs s.abs := obsX_eq (HandSHeadRun.getT_eq s)
theorem run0 (w : World) : HandSHeadRun.RunEq Rw (PySem.W.view Rw.prog [99]) hk ob 100000 names (w.withFollow "special-get-raises" false) := fun os => by kernel_rfl
theorem run1 (w : World) : HandSHeadRun.RunEq Rw (PySem.W.view Rw.prog [99]) hk ob 100000 names (w.withFollow "special-get-raises" true) := fun os => by kernel_rfl
theorem run (w : World) : HandSHeadRun.RunEq Rw (PySem.W.view Rw.prog [99]) hk ob 100000 names w :=
  PySem.W.byRow2 "special-get-raises" (P := fun w => HandSHeadRun.RunEq Rw (PySem.W.view Rw.prog [99]) hk ob 100000 names w) run0 run1 w
end K32
end
section
/-! B6: reckoning forward with the meaning -/
namespace Bv
/-- what is wanted of a result -/
def Wp {α : Type} (r : R α) (Q : α → Sto → Prop) (E : Exn → Sto → Prop) : Prop := match r with
  | .ok a S => Q a S
  | .exc e S => E e S
  | .bad => False
/-- .. of a statement's: next, return, thrown -/
def SWp (r : R Fl) (N : Loc → Sto → Prop) (Rt : D → Sto → Prop) (E : Exn → Sto → Prop) : Prop := match r with
  | .ok (.next L) S => N L S
  | .ok (.ret d) S => Rt d S
  | .ok (.thr e _) S => E e S
  | _ => False
section
variable {α β : Type} {C : Nat → List D → M D} {wf : Nat} {L : Loc} {S : Sto} {Q : D → Sto → Prop} {E' : Exn → Sto → Prop}
theorem wp_ok {a : α} {Q : α → Sto → Prop} (h : Q a S) : Wp (.ok a S) Q E' := h
theorem Wp.mono {r : R α} {Q Q' : α → Sto → Prop} {E1 E2 : Exn → Sto → Prop} (h : Wp r Q E1) (i : ∀ a S, Q a S → Q' a S) (j : ∀ e S, E1 e S → E2 e S) : Wp r Q' E2 := by
  cases r with
  | ok a S => exact i a S h
  | exc e S => exact j e S h
  | bad => exact h
theorem wp_bind {m : M α} {k : α → M β} {Q : β → Sto → Prop} (h : Wp (m S) (fun a S1 => Wp (k a S1) Q E') E') : Wp (M.bind m k S) Q E' := by
  unfold M.bind
  cases e : m S with
  | ok a S1 => rw [e] at h; exact h
  | exc x S1 => rw [e] at h; exact h
  | bad => rw [e] at h; exact h
/-! expressions -/
theorem wp_var {i : Nat} {d : D} (e : L.getD i none = some d) (h : Q d S) : Wp ((ev C (.var i)).e L S) Q E' := by
  show Wp (M.opt (L.getD i none) S) Q E'
  rw [e]; exact h
theorem wp_con {d : D} (h : Q d S) : Wp ((ev C (.con d)).e L S) Q E' := h
theorem wp_op {o : Op2} {a b : E} (h : Wp ((ev C a).e L S) (fun x S1 => Wp ((ev C b).e L S1) (fun y S2 => Wp (op2 o x y S2) Q E') E') E') : Wp ((ev C (.op o a b)).e L S) Q E' := wp_bind (h.mono (fun _ _ q => wp_bind q) fun _ _ q => q)
theorem wp_neg {a : E} (h : Wp ((ev C a).e L S) (fun x S1 => ∃ i, x = .int i ∧ Q (.int (-i)) S1) E') : Wp ((ev C (.neg a)).e L S) Q E' := wp_bind (h.mono (fun x S1 q => by
  obtain ⟨i, rfl, q⟩ := q
  exact q) fun _ _ q => q)
theorem wp_cmp {o : Cm} {a b : E} (h : Wp ((ev C a).e L S) (fun x S1 => Wp ((ev C b).e L S1) (fun y S2 => Wp (cmp2 o x y S2) (fun k S3 => Q (.bl k) S3) E') E') E') : Wp ((ev C (.cmp o a b)).e L S) Q E' := by
  refine wp_bind ?_
  show Wp (F.bind _ _ L S) _ _
  exact wp_bind (h.mono (fun _ _ q => wp_bind q) fun _ _ q => q)
theorem wp_cmpT {o : Cm} {a b : E} {Q : Bool → Sto → Prop} (h : Wp ((ev C a).e L S) (fun x S1 => Wp ((ev C b).e L S1) (fun y S2 => Wp (cmp2 o x y S2) Q E') E') E') : Wp ((ev C (.cmp o a b)).t L S) Q E' :=
  wp_bind (h.mono (fun _ _ q => wp_bind q) fun _ _ q => q)
theorem wp_chainT {o o' : Cm} {a b c : E} {Q : Bool → Sto → Prop} (h : Wp ((ev C a).e L S) (fun x S1 => Wp ((ev C b).e L S1) (fun y S2 => Wp (cmp2 o x y S2) (fun k S3 => if k = true then Wp ((ev C c).e L S3) (fun z S4 => Wp (cmp2 o' y z S4) Q E') E' else Q false S3) E') E') E') : Wp ((ev C (.chain o o' a b c)).t L S) Q E' := by
  refine wp_bind (h.mono (fun x S1 q => wp_bind (q.mono (fun y S2 q => wp_bind (q.mono (fun k S3 q => ?_) fun _ _ q => q)) fun _ _ q => q)) fun _ _ q => q)
  cases k with
  | true => exact wp_bind q
  | false => exact q
theorem wp_chain {o o' : Cm} {a b c : E} (h : Wp ((ev C a).e L S) (fun x S1 => Wp ((ev C b).e L S1) (fun y S2 => Wp (cmp2 o x y S2) (fun k S3 => if k = true then Wp ((ev C c).e L S3) (fun z S4 => Wp (cmp2 o' y z S4) (fun k S => Q (.bl k) S) E') E' else Q (.bl false) S3) E') E') E') : Wp ((ev C (.chain o o' a b c)).e L S) Q E' := by
  refine wp_bind ?_
  exact wp_chainT (Q := fun k S => Q (.bl k) S) h
theorem wp_and {a b : E} (h : Wp ((ev C a).e L S) (fun x S1 => Wp (truth x S1) (fun k S2 => if k = true then Wp ((ev C b).e L S2) Q E' else Q x S2) E') E') : Wp ((ev C (.and a b)).e L S) Q E' := by
  refine wp_bind (h.mono (fun x S1 q => wp_bind (q.mono (fun k S2 q => ?_) fun _ _ q => q)) fun _ _ q => q)
  cases k with
  | true => exact q
  | false => exact q
theorem wp_or {a b : E} (h : Wp ((ev C a).e L S) (fun x S1 => Wp (truth x S1) (fun k S2 => if k = true then Q x S2 else Wp ((ev C b).e L S2) Q E') E') E') : Wp ((ev C (.or a b)).e L S) Q E' := by
  refine wp_bind (h.mono (fun x S1 q => wp_bind (q.mono (fun k S2 q => ?_) fun _ _ q => q)) fun _ _ q => q)
  cases k with
  | true => exact q
  | false => exact q
theorem wp_not {a : E} (h : Wp ((ev C a).e L S) (fun x S1 => Wp (truth x S1) (fun k S2 => Q (.bl (!k)) S2) E') E') : Wp ((ev C (.not a)).e L S) Q E' := wp_bind (h.mono (fun x S1 q => wp_bind q) fun _ _ q => q)
theorem wp_andT {a b : E} {Q : Bool → Sto → Prop} (h : Wp ((ev C a).t L S) (fun k S1 => if k = true then Wp ((ev C b).t L S1) Q E' else Q false S1) E') : Wp ((ev C (.and a b)).t L S) Q E' := by
  refine wp_bind (h.mono (fun k S1 q => ?_) fun _ _ q => q)
  cases k with
  | true => exact q
  | false => exact q
theorem wp_orT {a b : E} {Q : Bool → Sto → Prop} (h : Wp ((ev C a).t L S) (fun k S1 => if k = true then Q true S1 else Wp ((ev C b).t L S1) Q E') E') : Wp ((ev C (.or a b)).t L S) Q E' := by
  refine wp_bind (h.mono (fun k S1 q => ?_) fun _ _ q => q)
  cases k with
  | true => exact q
  | false => exact q
theorem wp_notT {a : E} {Q : Bool → Sto → Prop} (h : Wp ((ev C a).t L S) (fun k S1 => Q (!k) S1) E') : Wp ((ev C (.not a)).t L S) Q E' := wp_bind h
theorem wp_ite {t a b : E} (h : Wp ((ev C t).t L S) (fun k S1 => if k = true then Wp ((ev C a).e L S1) Q E' else Wp ((ev C b).e L S1) Q E') E') : Wp ((ev C (.ite t a b)).e L S) Q E' := by
  refine wp_bind (h.mono (fun k S1 q => ?_) fun _ _ q => q)
  cases k with
  | true => exact q
  | false => exact q
theorem wp_ix {a b : E} (h : Wp ((ev C a).e L S) (fun x S1 => Wp ((ev C b).e L S1) (fun y S2 => Wp (subD x y S2) Q E') E') E') : Wp ((ev C (.ix a b)).e L S) Q E' := wp_bind (h.mono (fun _ _ q => wp_bind q) fun _ _ q => q)
theorem wp_sl {a lo hi : E} (h : Wp ((ev C a).e L S) (fun x S1 => Wp ((ev C lo).p L S1) (fun i S2 => Wp ((ev C hi).p L S2) (fun j S3 => Wp (slD x i j S3) Q E') E') E') E') : Wp ((ev C (.sl a lo hi)).e L S) Q E' :=
  wp_bind (h.mono (fun _ _ q => wp_bind (q.mono (fun _ _ q => wp_bind q) fun _ _ q => q)) fun _ _ q => q)
theorem wp_pn {Q : Option Int → Sto → Prop} (h : Q none S) : Wp ((ev C .none).p L S) Q E' := h
theorem wp_part {f : F D} {Q : Option Int → Sto → Prop} (h : Wp (f L S) (fun x S1 => ∃ i, x = .int i ∧ Q (some i) S1) E') : Wp (partOf f L S) Q E' := wp_bind (h.mono (fun x S1 q => by
  obtain ⟨i, rfl, q⟩ := q
  exact q) fun _ _ q => q)
theorem wp_nil {Q : List D → Sto → Prop} (h : Q [] S) : Wp ((ev C .nil).s L S) Q E' := h
theorem wp_cons {a b : E} {Q : List D → Sto → Prop} (h : Wp ((ev C a).e L S) (fun x S1 => Wp ((ev C b).s L S1) (fun xs S2 => Q (x :: xs) S2) E') E') : Wp ((ev C (.cons a b)).s L S) Q E' := wp_bind (h.mono (fun _ _ q => wp_bind q) fun _ _ q => q)
theorem wp_tup {es : E} (h : Wp ((ev C es).s L S) (fun ds S1 => ds.length ≤ 16000000 ∧ Q (.tup ds) S1) E') : Wp ((ev C (.tup es)).e L S) Q E' := wp_bind (h.mono (fun ds S1 q => by
  show Wp ((if ds.length ≤ 16000000 then M.pure (.tup ds) else M.bad) S1) Q E'
  rw [if_pos q.1]; exact q.2) fun _ _ q => q)
theorem wp_lst {es : E} (h : Wp ((ev C es).s L S) (fun ds S1 => ds.length ≤ 16000000 ∧ Q (.ref S1.length) (S1 ++ [.lst ds])) E') : Wp ((ev C (.lst es)).e L S) Q E' := wp_bind (h.mono (fun ds S1 q => by
  show Wp ((if ds.length ≤ 16000000 then M.new (.lst ds) else M.bad) S1) Q E'
  rw [if_pos q.1]; exact q.2) fun _ _ q => q)
theorem wp_call {f : Nat} {es : E} {ds : List D} (h : Wp ((ev C es).s L S) (fun vs S1 => Wp (C f (vs ++ ds) S1) Q E') E') : Wp ((ev C (.call f es ds)).e L S) Q E' := wp_bind h
theorem wp_callK {f n : Nat} {es k : E} (h : Wp ((ev C es).s L S) (fun vs S1 => Wp ((ev C k).e L S1) (fun w S2 => Wp (C f (vs ++ [w]) S2) Q E') E') E') : Wp ((ev C (.callK f n es k)).e L S) Q E' := wp_bind (h.mono (fun _ _ q => wp_bind q) fun _ _ q => q)
theorem wp_prim {p : Pr} {es : E} (h : Wp ((ev C es).s L S) (fun vs S1 => Wp (prim p vs S1) Q E') E') : Wp ((ev C (.prim p es)).e L S) Q E' := wp_bind h
theorem wp_meth {m : Mt} {o es : E} (h : Wp ((ev C o).e L S) (fun x S1 => Wp (recv m x S1) (fun _ S2 => Wp ((ev C es).s L S2) (fun vs S3 => Wp (meth m x vs S3) Q E') E') E') E') : Wp ((ev C (.meth m o es)).e L S) Q E' :=
  wp_bind (h.mono (fun _ _ q => wp_bind (q.mono (fun _ _ q => wp_bind q) fun _ _ q => q)) fun _ _ q => q)
/-- a test that is a value's truth -/
theorem wp_truth {f : F D} {Q : Bool → Sto → Prop} (h : Wp (f L S) (fun x S1 => Wp (truth x S1) Q E') E') : Wp (F.bind f (fun x _ => truth x) L S) Q E' := wp_bind h
/-! operations with a condition -/
theorem wp_mul {i j : Int} (c : bitsOk i j = true) (h : Q (.int (i * j)) S) : Wp (op2 .mul (.int i) (.int j) S) Q E' := by
  simp only [op2, if_pos c]; exact h
theorem wp_fdiv {i j : Int} (c : 0 < j ∧ j.natAbs.log2 < 9000) (h : Q (.int (i / j)) S) : Wp (op2 .fdiv (.int i) (.int j) S) Q E' := by
  simp only [op2, if_pos c]; exact h
theorem wp_mod {i j : Int} (c : 0 < j) (h : Q (.int (i % j)) S) : Wp (op2 .mod (.int i) (.int j) S) Q E' := by
  simp only [op2, if_pos c]; exact h
theorem wp_pow {i j : Int} (c : 0 ≤ j ∧ j ≤ 1000000 ∧ i.natAbs < 2 ^ 64) (h : Q (.int (i ^ j.toNat)) S) : Wp (op2 .pow (.int i) (.int j) S) Q E' := by
  simp only [op2, if_pos c]; exact h
theorem wp_adds {s t : List Nat} (c : s.length + t.length ≤ 16000000) (h : Q (.str (s ++ t)) S) : Wp (op2 .add (.str s) (.str t) S) Q E' := by
  simp only [op2, if_pos c]; exact h
theorem wp_muls {s : List Nat} {j : Int} (c : s.length * j.toNat ≤ 16000000 ∧ -(2 ^ 63) ≤ j ∧ j ≤ 16000000) (h : Q (.str (List.replicate j.toNat s).flatten) S) : Wp (op2 .mul (.str s) (.int j) S) Q E' := by
  simp only [op2, if_pos c]; exact h
theorem wp_divmod {i j : Int} (c : 0 < j ∧ j.natAbs.log2 < 9000) (h : Q (.tup [.int (i / j), .int (i % j)]) S) : Wp (prim .divmod [.int i, .int j] S) Q E' := by
  simp only [prim, if_pos c]; exact h
theorem wp_ints {s : List Nat} (c : s ≠ [] ∧ isDec s = true ∧ s.length ≤ 640) (h : Q (.int (decVal s : Nat)) S) : Wp (prim .int1 [.str s] S) Q E' := by
  simp only [prim, if_pos c]; exact h
theorem wp_stri {i : Int} (c : i.natAbs.log2 < 1920) (h : Q (.str (strOf i)) S) : Wp (prim .str1 [.int i] S) Q E' := by
  simp only [prim, if_pos c]; exact h
/-! statements -/
variable {N : Loc → Sto → Prop} {Rt : D → Sto → Prop}
theorem swp_b {e : F α} {k : α → SF} (h : Wp (e L S) (fun a S1 => SWp (k a L S1) N Rt E') E') : SWp (sB e k L S) N Rt E' := by
  unfold sB
  cases x : e L S with
  | ok a S1 => rw [x] at h; exact h
  | exc y S1 => rw [x] at h; exact h
  | bad => rw [x] at h; exact h
theorem swp_nil (h : N L S) : SWp (xs C wf .nil L S) N Rt E' := h
theorem swp_pass (h : N L S) : SWp (xs C wf .pass L S) N Rt E' := h
theorem swp_cons {a b : St} (h : SWp (xs C wf a L S) (fun L1 S1 => SWp (xs C wf b L1 S1) N Rt E') Rt E') : SWp (xs C wf (.cons a b) L S) N Rt E' := by
  show SWp (sThen (xs C wf a) (xs C wf b) L S) N Rt E'
  unfold sThen
  cases x : xs C wf a L S with
  | ok fl S1 =>
    rw [x] at h
    cases fl <;> exact h
  | exc _ _ => rw [x] at h; exact h
  | bad => rw [x] at h; exact h
theorem swp_expr {e : E} (h : Wp ((ev C e).e L S) (fun _ S1 => N L S1) E') : SWp (xs C wf (.expr e) L S) N Rt E' := swp_b h
theorem swp_set {i : Nat} {e : E} (h : Wp ((ev C e).e L S) (fun d S1 => N (L.set i (some d)) S1) E') : SWp (xs C wf (.set i e) L S) N Rt E' := by
  show SWp (sB (ev C e).e (fun d L => M.pure (.next (L.set i (some d)))) L S) N Rt E'
  exact swp_b h
theorem swp_par {is : List Nat} {es : E} (h : Wp ((ev C es).s L S) (fun ds S1 => ∃ L', setAll is ds L = some L' ∧ N L' S1) E') : SWp (xs C wf (.par is es) L S) N Rt E' := by
 show SWp (sB (ev C es).s (fun ds L => optNext (setAll is ds L)) L S) N Rt E'
 exact swp_b (h.mono (fun ds S1 q => by
  obtain ⟨L', e, q⟩ := q
  show SWp (optNext (setAll is ds L) S1) N Rt E'
  rw [e]; exact q) fun _ _ q => q)
/-- taken apart -/
def unpT (is : List Nat) (S : Sto) (d : D) (L : Loc) : Option Loc := match seqOf S d with
  | some ds => setAll is ds L
  | none => none
theorem swp_unp {is : List Nat} {e : E} (h : Wp ((ev C e).e L S) (fun d S1 => ∃ L', unpT is S1 d L = some L' ∧ N L' S1) E') : SWp (xs C wf (.unp is e) L S) N Rt E' := by
 show SWp (sUnp is (ev C e).e L S) N Rt E'
 exact swp_b (h.mono (fun d S1 q => by
  obtain ⟨L', e, q⟩ := q
  unfold unpT at e
  cases e1 : seqOf S1 d with
  | none => rw [e1] at e; cases e
  | some ds =>
    rw [e1] at e
    have e : setAll is ds L = some L' := e
    simp only [e1]
    show SWp (optNext (setAll is ds L) S1) N Rt E'
    rw [e]; exact q) fun _ _ q => q)
theorem swp_aug {i : Nat} {o : Op2} {e : E} {x : D} (hx : L.getD i none = some x) (h : Wp ((ev C e).e L S) (fun y S1 => Wp (aug2 o x y S1) (fun z S2 => N (L.set i (some z)) S2) E') E') : SWp (xs C wf (.aug i o e) L S) N Rt E' := by
  show SWp (sB (F.bind (fVar i) fun x => F.bind (ev C e).e fun y _ => aug2 o x y) (fun z L => M.pure (.next (L.set i (some z)))) L S) N Rt E'
  refine swp_b ?_
  show Wp (M.bind (fVar i L) _ S) _ _
  refine wp_bind ?_
  show Wp (M.opt (L.getD i none) S) _ _
  rw [hx]
  exact wp_bind h
theorem swp_ret {e : E} (h : Wp ((ev C e).e L S) Rt E') : SWp (xs C wf (.ret e) L S) N Rt E' := by
  show SWp (sB (ev C e).e (fun d _ => M.pure (.ret d)) L S) N Rt E'
  exact swp_b h
theorem swp_retN (h : Rt .non S) : SWp (xs C wf .retN L S) N Rt E' := h
theorem swp_if {t : E} {a b : St} (h : Wp ((ev C t).t L S) (fun k S1 => if k = true then SWp (xs C wf a L S1) N Rt E' else SWp (xs C wf b L S1) N Rt E') E') : SWp (xs C wf (.ifS t a b) L S) N Rt E' := swp_b (h.mono (fun k S1 q => by
  cases k with
  | true => exact q
  | false => exact q) fun _ _ q => q)
theorem SWp.mono {r : R Fl} {N' : Loc → Sto → Prop} {Rt' : D → Sto → Prop} {E1 E2 : Exn → Sto → Prop} (h : SWp r N Rt E1) (i : ∀ L S, N L S → N' L S) (j : ∀ d S, Rt d S → Rt' d S) (k : ∀ e S, E1 e S → E2 e S) : SWp r N' Rt' E2 := by
  cases r with
  | ok fl S =>
    cases fl with
    | next L => exact i _ _ h
    | ret d => exact j _ _ h
    | thr e L => exact k _ _ h
    | brk _ => exact h
    | cont _ => exact h
  | exc _ _ => exact h
  | bad => exact h
/-- a loop over items that stand still: an invariant by the items taken -/
theorem swp_loop {g : D → Loc → Option Loc} {b : SF} (I : List D → Loc → Sto → Prop) : ∀ {post pre : List D} {L : Loc} {S : Sto}, I pre L S →
    (∀ pre x post' L S, pre ++ x :: post' = pre ++ x :: post' → I pre L S → ∃ L1, g x L = some L1 ∧ SWp (b L1 S) (fun L2 S2 => I (pre ++ [x]) L2 S2) Rt E') → (∀ L S, I (pre ++ post) L S → N L S) → SWp (sFor g b post L S) N Rt E'
  | [], pre, L, S, h0, hs, hd => hd L S (by rw [List.append_nil]; exact h0)
  | x :: post, pre, L, S, h0, hs, hd => by
    obtain ⟨L1, e, h⟩ := hs pre x post L S rfl h0
    unfold sFor
    rw [e]
    show SWp (turn (b L1 S) (sFor g b post)) N Rt E'
    unfold turn
    cases r : b L1 S with
    | ok fl S1 =>
      rw [r] at h
      cases fl with
      | next L2 => exact swp_loop I (pre := pre ++ [x]) h hs (by rw [List.append_assoc]; exact hd)
      | ret d => exact h
      | thr e L2 => exact h
      | brk _ => exact h.elim
      | cont _ => exact h.elim
    | exc _ _ => rw [r] at h; exact h.elim
    | bad => rw [r] at h; exact h.elim
/-- .. by the turn's number -/
theorem swp_rng {g : D → Loc → Option Loc} {b : SF} {lo : Int} {n : Nat} (I : Nat → Loc → Sto → Prop) (h0 : I 0 L S) (hs : ∀ k L S, k < n → I k L S → ∃ L1, g (.int (lo + k)) L = some L1 ∧ SWp (b L1 S) (fun L2 S2 => I (k + 1) L2 S2) Rt E') (hd : ∀ L S, I n L S → N L S) : SWp (sFor g b (rangeD lo n) L S) N Rt E' := by
  have gen : ∀ (m k : Nat) (L : Loc) (S : Sto), k + m = n → I k L S → SWp (sFor g b ((List.range' k m).map fun (j : Nat) => D.int (lo + j)) L S) N Rt E' := fun m => by
    induction m with
    | zero =>
      intro k L S e h
      have : k = n := by omega
      subst this
      exact hd L S h
    | succ m ih =>
      intro k L S e h
      obtain ⟨L1, eg, h1⟩ := hs k L S (by omega) h
      rw [List.range'_succ, List.map_cons]
      unfold sFor
      rw [eg]
      show SWp (turn (b L1 S) _) N Rt E'
      unfold turn
      cases r : b L1 S with
      | ok fl S1 =>
        rw [r] at h1
        cases fl with
        | next L2 => exact ih (k + 1) L2 S1 (by omega) h1
        | ret d => exact h1
        | thr e L2 => exact h1
        | brk _ => exact h1.elim
        | cont _ => exact h1.elim
      | exc _ _ => rw [r] at h1; exact h1.elim
      | bad => rw [r] at h1; exact h1.elim
  have := gen n 0 L S (by omega) h0
  unfold rangeD
  rw [List.range_eq_range']
  exact this
theorem swp_for1 {t : Tg} {e : E} {b : St} (h : Wp ((ev C e).e L S) (fun d S1 => ∃ j, d = .int j ∧ near j = true ∧ SWp (sFor (tgSet t) (xs C wf b) (rangeD 0 j.toNat) L S1) N Rt E') E') : SWp (xs C wf (.forS t (.range1 e) b) L S) N Rt E' := swp_b (h.mono (fun d S1 q => by
  obtain ⟨j, rfl, hj, q⟩ := q
  simp only [rng1, hj, if_true, reduceIte]; exact q) fun _ _ q => q)
theorem swp_forS {t : Tg} {e : E} {b : St} (h : Wp ((ev C e).e L S) (fun d S1 => SWp (forOf (tgSet t) (xs C wf b) d L S1) N Rt E') E') : SWp (xs C wf (.forS t (.seq e) b) L S) N Rt E' := by
  show SWp (sB (ev C e).e (fun d => forOf (tgSet t) (xs C wf b) d) L S) N Rt E'
  exact swp_b h
/-- while, by the turn's number, so many at most -/
theorem swp_while {t : E} {b : St} (I : Nat → Loc → Sto → Prop) (m : Nat) (hm : m < wf) (h0 : I 0 L S) (hs : ∀ k L S, I k L S → Wp ((ev C t).t L S) (fun c S1 => if c = true then k < m ∧ SWp (xs C wf b L S1) (fun L2 S2 => I (k + 1) L2 S2) Rt E' else N L S1) E') : SWp (xs C wf (.whileS t b) L S) N Rt E' := by
  have gen : ∀ (n k : Nat) (L : Loc) (S : Sto), k ≤ m → m < k + n → I k L S → SWp (sWhile (ev C t).t (xs C wf b) n L S) N Rt E' := fun n => by
    induction n with
    | zero => intro k L S h1 h2 _; omega
    | succ n ih =>
      intro k L S h1 h2 h
      unfold sWhile
      refine swp_b ((hs k L S h).mono (fun c S1 q => ?_) fun _ _ q => q)
      cases c with
      | false => exact q
      | true =>
        obtain ⟨hk, q⟩ : k < m ∧ _ := q
        show SWp (turn (xs C wf b L S1) _) N Rt E'
        unfold turn
        cases r : xs C wf b L S1 with
        | ok fl S2 =>
          rw [r] at q
          cases fl with
          | next L2 => exact ih (k + 1) L2 S2 (by omega) (by omega) q
          | ret d => exact q
          | thr e L2 => exact q
          | brk _ => exact q.elim
          | cont _ => exact q.elim
        | exc _ _ => rw [r] at q; exact q.elim
        | bad => rw [r] at q; exact q.elim
  exact gen wf 0 L S (by omega) (by omega) h0
/-- over a list of the store -/
theorem swp_list {g : D → Loc → Option Loc} {b : SF} {a : Nat} {xs' : List D} (I : Nat → Loc → Sto → Prop) (h0 : I 0 L S) (hl : ∀ k L S, I k L S → seqOf S (.ref a) = some xs') (hs : ∀ k x L S, xs'[k]? = some x → I k L S → ∃ L1, g x L = some L1 ∧ SWp (b L1 S) (fun L2 S2 => I (k + 1) L2 S2) Rt E') (hd : ∀ L S, I xs'.length L S → N L S) : SWp (forOf g b (.ref a) L S) N Rt E' := by
  have gen : ∀ (m k : Nat) (L : Loc) (S : Sto), k + m = xs'.length → I k L S → SWp (sForL g b a (m + 1) k L S) N Rt E' := fun m => by
    induction m with
    | zero =>
      intro k L S e h
      have ek : k = xs'.length := by omega
      subst ek
      unfold sForL
      rw [hl _ L S h]
      have x : xs'[xs'.length]? = none := List.getElem?_eq_none_iff.mpr (Nat.le_refl _)
      simp only [x]
      exact hd L S h
    | succ m ih =>
      intro k L S e h
      unfold sForL
      rw [hl k L S h]
      cases x : xs'[k]? with
      | none =>
        have : xs'.length ≤ k := List.getElem?_eq_none_iff.mp x
        have : k = xs'.length := by omega
        subst this
        simp only [x]
        exact hd L S h
      | some d =>
        simp only [x]
        obtain ⟨L1, eg, h1⟩ := hs k d L S x h
        rw [eg]
        show SWp (turn (b L1 S) _) N Rt E'
        unfold turn
        cases r : b L1 S with
        | ok fl S1 =>
          rw [r] at h1
          cases fl with
          | next L2 => exact ih (k + 1) L2 S1 (by omega) h1
          | ret d => exact h1
          | thr e L2 => exact h1
          | brk _ => exact h1.elim
          | cont _ => exact h1.elim
        | exc _ _ => rw [r] at h1; exact h1.elim
        | bad => rw [r] at h1; exact h1.elim
  unfold forOf
  simp only [hl 0 L S h0]
  exact gen _ 0 L S (by omega) h0
end
/-! ### defs -/
section
variable {tab : List Fn} {wf n i : Nat} {f : Fn} {vs : List D} {S : Sto} {Q : D → Sto → Prop} {E' : Exn → Sto → Prop}
theorem wp_fn (hf : tab[i]? = some f) (hc : f.cr = none) (hl : vs.length = f.ps) (h : SWp (xs (callF tab wf n) wf f.body (vs.map some ++ List.replicate (f.ns - f.ps) none) S) (fun _ S => Q .non S) Q E') : Wp (callF tab wf (n + 1) i vs S) Q E' := by
  unfold callF
  rw [hf]
  simp only [hc]
  show Wp (run (callF tab wf n) wf f vs S) Q E'
  unfold run
  rw [if_pos hl]
  cases r : xs (callF tab wf n) wf f.body (vs.map some ++ List.replicate (f.ns - f.ps) none) S with
  | ok fl S1 =>
    rw [r] at h
    cases fl with
    | next L => exact h
    | ret d => exact h
    | thr e L => exact h
    | brk _ => exact h.elim
    | cont _ => exact h.elim
  | exc _ _ => rw [r] at h; exact h.elim
  | bad => rw [r] at h; exact h.elim
end
end Bv
end
section
/-! B7: more forward rules, and the stepper -/
namespace Bv
section
variable {C : Nat → List D → M D} {wf : Nat} {L : Loc} {S : Sto} {Q : D → Sto → Prop} {B : Bool → Sto → Prop} {E' : Exn → Sto → Prop}
theorem wp_eq {α : Type} {r : R α} {a : α} {S : Sto} {Q : α → Sto → Prop} (e : r = .ok a S) (h : Q a S) : Wp r Q E' := by rw [e]; exact h
theorem wp_use {α : Type} {r : R α} {Q Q' : α → Sto → Prop} {E1 : Exn → Sto → Prop} (h : Wp r Q (fun _ _ => False)) (i : ∀ a S, Q a S → Q' a S) : Wp r Q' E1 := h.mono i fun _ _ f => f.elim
theorem eq_of_wp {r : R D} {a : D} {S : Sto} (h : Wp r (fun d T => d = a ∧ T = S) (fun _ _ => False)) : r = .ok a S := by
  cases r with
  | ok d T =>
    obtain ⟨rfl, rfl⟩ : d = a ∧ T = S := h
    rfl
  | exc _ _ => exact h.elim
  | bad => exact h.elim
theorem ex_of_wp {r : R D} {a : D} (h : Wp r (fun d _ => d = a) (fun _ _ => False)) : ∃ S', r = .ok a S' := by
  cases r with
  | ok d T =>
    obtain rfl : d = a := h
    exact ⟨T, rfl⟩
  | exc _ _ => exact h.elim
  | bad => exact h.elim
theorem ite_t {P R : Prop} (h : P) : if true = true then P else R := h
theorem ite_f {P R : Prop} (h : R) : if false = true then P else R := h
theorem ite_tt {k : Bool} {P R : Prop} (e : k = true) (h : P) : if k = true then P else R := by rw [if_pos e]; exact h
theorem ite_ff {k : Bool} {P R : Prop} (e : k = false) (h : R) : if k = true then P else R := by rw [e]; exact h
theorem ite_d {c P R : Prop} [Decidable c] (h : c → P) (h' : ¬ c → R) : if decide c = true then P else R := by
  by_cases k : c
  · rw [decide_eq_true k]; exact h k
  · rw [decide_eq_false k]; exact h' k
theorem ite_n {c P R : Prop} [Decidable c] (h : ¬ c → P) (h' : c → R) : if (!decide c) = true then P else R := by
  by_cases k : c
  · rw [decide_eq_true k]; exact h' k
  · rw [decide_eq_false k]; exact h k
theorem ite_b {k : Bool} {P R : Prop} (h : k = true → P) (h' : k = false → R) : if k = true then P else R := by
  cases k with
  | true => exact h rfl
  | false => exact h' rfl
/-- where two ways meet again -/
theorem ite_mid {k : Bool} {r1 r2 : R Fl} {N : Loc → Sto → Prop} {Rt : D → Sto → Prop} (J : Loc → Sto → Prop) (h1 : k = true → SWp r1 J Rt E') (h2 : k = false → SWp r2 J Rt E') (h : ∀ L S, J L S → N L S) : if k = true then SWp r1 N Rt E' else SWp r2 N Rt E' :=
  ite_b (fun e => (h1 e).mono h (fun _ _ q => q) fun _ _ q => q) (fun e => (h2 e).mono h (fun _ _ q => q) fun _ _ q => q)
theorem ite_midD {c : Prop} [Decidable c] {r1 r2 : R Fl} {N : Loc → Sto → Prop} {Rt : D → Sto → Prop} (J : Loc → Sto → Prop) (h1 : c → SWp r1 J Rt E') (h2 : ¬ c → SWp r2 J Rt E') (h : ∀ L S, J L S → N L S) : if decide c = true then SWp r1 N Rt E' else SWp r2 N Rt E' :=
  ite_mid J (fun e => h1 (of_decide_eq_true e)) (fun e => h2 (of_decide_eq_false e)) h
/-- two ways of a test that meet again -/
theorem ite_midW {c : Prop} [Decidable c] {r : R Bool} {k : Bool} {S1 : Sto} {Q' : Bool → Sto → Prop} (J : Bool → Sto → Prop) (h1 : c → Wp r J E') (h2 : ¬ c → J k S1) (h : ∀ b S, J b S → Q' b S) : if decide c = true then Wp r Q' E' else Q' k S1 :=
  ite_d (fun x => (h1 x).mono h fun _ _ q => q) (fun x => h _ _ (h2 x))
theorem ite_midWN {c : Prop} [Decidable c] {r : R Bool} {k : Bool} {S1 : Sto} {Q' : Bool → Sto → Prop} (J : Bool → Sto → Prop) (h1 : ¬ c → Wp r J E') (h2 : c → J k S1) (h : ∀ b S, J b S → Q' b S) : if (!decide c) = true then Wp r Q' E' else Q' k S1 :=
  ite_n (fun x => (h1 x).mono h fun _ _ q => q) (fun x => h _ _ (h2 x))
/-- 1 or -1, as another number is -/
theorem ite_mulW {f : Int} {r1 r2 : R D} {S : Sto} {Q' : D → Sto → Prop} (h1 : 0 ≤ f → r1 = .ok (.int 1) S) (h2 : ¬ 0 ≤ f → r2 = .ok (.int (-1)) S) (h : Q' (.int (if 0 ≤ f then 1 else -1)) S) : if decide (0 ≤ f) = true then Wp r1 Q' E' else Wp r2 Q' E' :=
  ite_d (fun x => by rw [h1 x]; rw [if_pos x] at h; exact h) (fun x => by rw [h2 x]; rw [if_neg x] at h; exact h)
/-! ints -/
theorem wp_addi {i j : Int} (h : Q (.int (i + j)) S) : Wp (op2 .add (.int i) (.int j) S) Q E' := h
theorem wp_subi {i j : Int} (h : Q (.int (i - j)) S) : Wp (op2 .sub (.int i) (.int j) S) Q E' := h
theorem wp_lt {i j : Int} (h : B (decide (i < j)) S) : Wp (cmp2 .lt (.int i) (.int j) S) B E' := h
theorem wp_le {i j : Int} (h : B (decide (i ≤ j)) S) : Wp (cmp2 .le (.int i) (.int j) S) B E' := h
theorem wp_gt {i j : Int} (h : B (decide (j < i)) S) : Wp (cmp2 .gt (.int i) (.int j) S) B E' := h
theorem wp_ge {i j : Int} (h : B (decide (j ≤ i)) S) : Wp (cmp2 .ge (.int i) (.int j) S) B E' := h
theorem wp_ne {a b : D} (h : Wp (cmp2 .eq a b S) (fun k S => B (!k) S) E') : Wp (cmp2 .ne a b S) B E' := wp_bind h
theorem wp_eqi {i j : Int} (h : B (decide (i = j)) S) : Wp (cmp2 .eq (.int i) (.int j) S) B E' := by
  simp only [cmp2, eqD_eq, dataOf, datasOf, T.eqv, T.eqvs, Option.map_some]; exact h
theorem wp_eqb {i j : Bool} (h : B (i == j) S) : Wp (cmp2 .eq (.bl i) (.bl j) S) B E' := by
  simp only [cmp2, eqD_eq, dataOf, datasOf, T.eqv, T.eqvs, Option.map_some]; exact h
theorem wp_eqs {i j : List Nat} (h : B (i == j) S) : Wp (cmp2 .eq (.str i) (.str j) S) B E' := by
  simp only [cmp2, eqD_eq, dataOf, datasOf, T.eqv, T.eqvs, Option.map_some]; exact h
theorem wp_eqp {i j i' j' : Int} (h : B (decide (i = i' ∧ j = j')) S) : Wp (cmp2 .eq (.tup [.int i, .int j]) (.tup [.int i', .int j']) S) B E' := by
  have e : decide (i = i' ∧ j = j') = ((i == i') && ((j == j') && true)) := by
    by_cases a : i = i' <;> by_cases b : j = j' <;> simp [a, b]
  rw [e] at h
  simp only [cmp2, eqD_eq, dataOf, datasOf, T.eqv, T.eqvs, Option.map_some]; exact h
theorem wp_eqps {i j : Int} {s : List Nat} (h : B false S) : Wp (cmp2 .eq (.tup [.int i, .int j]) (.str s) S) B E' := by
  simp only [cmp2, eqD_eq, dataOf, datasOf, T.eqv, T.eqvs, Option.map_some]; exact h
theorem wp_truthb {k : Bool} (h : B k S) : Wp (truth (.bl k) S) B E' := h
theorem wp_truthi {i : Int} (h : B (i != 0) S) : Wp (truth (.int i) S) B E' := h
theorem wp_truths {s : List Nat} (c : s.length ≤ 16000000) (h : B (!s.isEmpty) S) : Wp (truth (.str s) S) B E' := by
  simp only [truth, if_pos c]; exact h
/-! built-ins -/
theorem wp_max2 {i j : Int} (h : Q (.int (max i j)) S) : Wp (prim .max2 [.int i, .int j] S) Q E' := by
  show Q (.int (if j > i then j else i)) S
  have : (if j > i then j else i) = max i j := by
    split <;> omega
  rw [this]; exact h
theorem wp_max3 {i j k : Int} (h : Q (.int (max (max i j) k)) S) : Wp (prim .max3 [.int i, .int j, .int k] S) Q E' := by
  show Q (.int (if j > i then (if k > j then k else j) else (if k > i then k else i))) S
  have : (if j > i then (if k > j then k else j) else (if k > i then k else i)) = max (max i j) k := by
    split <;> split <;> omega
  rw [this]; exact h
theorem wp_min2 {i j : Int} (h : Q (.int (min i j)) S) : Wp (prim .min2 [.int i, .int j] S) Q E' := by
  show Q (.int (if j < i then j else i)) S
  have : (if j < i then j else i) = min i j := by
    split <;> omega
  rw [this]; exact h
theorem wp_abs {i : Int} (h : Q (.int (i.natAbs : Int)) S) : Wp (prim .abs [.int i] S) Q E' := by
  show Q (.int (if i < 0 then -i else i)) S
  have : (if i < 0 then -i else i) = (i.natAbs : Int) := by split <;> omega
  rw [this]; exact h
theorem wp_int1b {c : Prop} [Decidable c] (h : Q (.int (if c then 1 else 0)) S) : Wp (prim .int1 [.bl (decide c)] S) Q E' := by
  show Q (.int (if decide c = true then 1 else 0)) S
  by_cases k : c
  · rw [if_pos k] at h; rw [decide_eq_true k]; exact h
  · rw [if_neg k] at h; rw [decide_eq_false k]; exact h
theorem wp_lens {s : List Nat} (c : s.length ≤ 16000000) (h : Q (.int s.length) S) : Wp (prim .len [.str s] S) Q E' := by
  simp only [prim, if_pos c]; exact h
theorem wp_lent {xs : List D} (h : Q (.int xs.length) S) : Wp (prim .len [.tup xs] S) Q E' := h
theorem wp_lenr {a : Nat} {xs : List D} (e : seqOf S (.ref a) = some xs) (h : Q (.int xs.length) S) : Wp (prim .len [.ref a] S) Q E' := by
  simp only [prim, e]; exact h
theorem wp_ixt {xs : List D} {i : Int} {d : D} (e : at? xs i = some d) (h : Q d S) : Wp (subD (.tup xs) (.int i) S) Q E' := by
  simp only [subD, ixD, seqOf, e]; exact h
theorem wp_ixr {a : Nat} {xs : List D} {i : Int} {d : D} (e : seqOf S (.ref a) = some xs) (e' : at? xs i = some d) (h : Q d S) : Wp (subD (.ref a) (.int i) S) Q E' := by
  have : subD (.ref a) (.int i) S = ixD (.ref a) (.int i) S := by
    unfold subD
    simp only
    split
    · rename_i kvs h
      simp only [seqOf, h] at e
      cases e
    · rfl
  rw [this]
  simp only [ixD, e, e']; exact h
/-- of a dict -/
theorem wp_ixk {a : Nat} {kvs : List (D × D)} {k d : D} (e : S[a]? = some (.dct kvs)) (e' : getK k kvs = some d) (hk : isKey k = true) (h : Q d S) : Wp (subD (.ref a) k S) Q E' := by
  unfold subD
  simp only [e, e', if_pos hk]
  exact h
theorem wp_dct {ks : List D} {vs : E} (h : Wp ((ev C vs).s L (S ++ [.dct []])) (fun ds S1 => S1[S.length]? = some (.dct []) ∧ ks.length = ds.length ∧ Q (.ref S.length) (S1.set S.length (.dct (mergeD [] (ks.zip ds))))) E') : Wp ((ev C (.dct ks vs)).e L S) Q E' := by
  refine wp_bind (h.mono (fun ds S1 q => ?_) fun _ _ q => q)
  obtain ⟨q1, q2, q3⟩ := q
  unfold dctPut
  simp only [q1, if_pos q2]
  exact q3
theorem wp_call0 {f : Nat} {es : E} (h : Wp ((ev C es).s L S) (fun vs S1 => Wp (C f vs S1) Q E') E') : Wp ((ev C (.call f es [])).e L S) Q E' := by
  refine wp_call (h.mono (fun vs S1 q => ?_) fun _ _ q => q)
  rw [List.append_nil]
  exact q
/-- a value called -/
theorem wp_callV {ok : List Nat} {f es : E} (h : Wp ((ev C f).e L S) (fun d S1 => ∃ i, d = .fn i ∧ i ∈ ok ∧ Wp ((ev C es).s L S1) (fun vs S2 => Wp (C i vs S2) Q E') E') E') : Wp ((ev C (.callV ok f es)).e L S) Q E' := by
  refine wp_bind (h.mono (fun d S1 q => ?_) fun _ _ q => q)
  obtain ⟨i, rfl, hi, q⟩ := q
  refine wp_bind ?_
  unfold fnIn
  simp only [if_pos hi]
  exact wp_bind q
theorem wp_callVK {ok : List Nat} {f es k : E} (h : Wp ((ev C f).e L S) (fun d S1 => ∃ i, d = .fn i ∧ i ∈ ok ∧ Wp ((ev C es).s L S1) (fun vs S2 => Wp ((ev C k).e L S2) (fun w S3 => Wp (C i (vs ++ [w]) S3) Q E') E') E') E') : Wp ((ev C (.callVK ok f es k)).e L S) Q E' := by
  refine wp_bind (h.mono (fun d S1 q => ?_) fun _ _ q => q)
  obtain ⟨i, rfl, hi, q⟩ := q
  refine wp_bind ?_
  unfold fnIn
  simp only [if_pos hi]
  exact wp_bind (q.mono (fun _ _ q => wp_bind q) fun _ _ q => q)
theorem wp_ixs {s : List Nat} {i : Int} {c : Nat} (e : at? s i = some c) (b : s.length ≤ 16000000) (h : Q (.str [c]) S) : Wp (subD (.str s) (.int i) S) Q E' := by
  simp only [subD, ixD, e, if_pos b]; exact h
theorem wp_isint {i : Int} {n : Nat} (c : n < 6) (h : Q (.bl (n == 0)) S) : Wp (prim .isinst [.int i, .ty n] S) Q E' := by
  simp only [prim, isOf, if_pos c, isOf']; exact h
theorem wp_istup {xs : List D} {n : Nat} (c : n < 6) (h : Q (.bl (n == 3)) S) : Wp (prim .isinst [.tup xs, .ty n] S) Q E' := by
  simp only [prim, isOf, if_pos c, isOf']; exact h
theorem wp_isstr {xs : List Nat} {n : Nat} (c : n < 6) (h : Q (.bl (n == 2)) S) : Wp (prim .isinst [.str xs, .ty n] S) Q E' := by
  simp only [prim, isOf, if_pos c, isOf']; exact h
theorem wp_append {a : Nat} {xs : List D} {x : D} (e : S[a]? = some (.lst xs)) (c : xs.length < 16000000) (h : Q .non (S.set a (.lst (xs ++ [x])))) : Wp (meth .append (.ref a) [x] S) Q E' := by
  simp only [meth, e, if_pos c]; exact h
theorem wp_recv {m : Mt} {a : Nat} {xs : List D} {Q : Unit → Sto → Prop} (e : S[a]? = some (.lst xs)) (h : Q () S) (hm : isStrM m = false := by rfl) : Wp (recv m (.ref a) S) Q E' := by
  unfold recv
  rw [hm]
  simp only [Bool.false_eq_true, if_false, recvL, e]; exact h
theorem wp_recvS {m : Mt} {s : List Nat} {Q : Unit → Sto → Prop} (hm : isStrM m = true) (h : Q () S) : Wp (recv m (.str s) S) Q E' := by
  unfold recv
  rw [hm]
  exact h
theorem wp_split {s : List Nat} {c : Nat} (hc : s.length ≤ 16000000 ∧ c < 256) (h : Q (.ref S.length) (S ++ [.lst ((splitC c s []).map D.str)])) : Wp (meth .split (.str s) [.str [c]] S) Q E' := by
  simp only [meth, mSplit, if_pos hc]; exact h
theorem wp_sindex {s : List Nat} {c i : Nat} (e : s.findIdx? (fun x => x == c) = some i) (h : Q (.int i) S) : Wp (meth .sindex (.str s) [.str [c]] S) Q E' := by
  simp only [meth, mSindex, e]; exact h
theorem wp_extend {a b : Nat} {xs ys : List D} (e : S[a]? = some (.lst xs)) (e' : S[b]? = some (.lst ys)) (c : a ≠ b ∧ xs.length + ys.length ≤ 16000000) (h : Q .non (S.set a (.lst (xs ++ ys)))) : Wp (meth .extend (.ref a) [.ref b] S) Q E' := by
  simp only [meth, e, e', if_pos c]; exact h
theorem wp_count {a n : Nat} {xs : List D} {x : D} (e : S[a]? = some (.lst xs)) (c : countD x xs = some n) (h : Q (.int n) S) : Wp (meth .count (.ref a) [x] S) Q E' := by
  simp only [meth, e, c]; exact h
theorem wp_index {a n : Nat} {xs : List D} {x : D} (e : S[a]? = some (.lst xs)) (c : indexD x xs = some n) (h : Q (.int n) S) : Wp (meth .index (.ref a) [x] S) Q E' := by
  simp only [meth, e, c]; exact h
theorem wp_pop {a : Nat} {xs : List D} {x : D} (e : S[a]? = some (.lst xs)) (c : xs[xs.length - 1]? = some x) (h : Q x (S.set a (.lst xs.dropLast))) : Wp (meth .pop (.ref a) [] S) Q E' := by
  simp only [meth, e, c]; exact h
theorem wp_augm {i j : Int} (c : bitsOk i j = true) (h : Q (.int (i * j)) S) : Wp (aug2 .mul (.int i) (.int j) S) Q E' := wp_mul c h
theorem wp_auga {i j : Int} (h : Q (.int (i + j)) S) : Wp (aug2 .add (.int i) (.int j) S) Q E' := h
/-! exceptions -/
theorem wp_exc {α : Type} {r : R α} {x : Exn} {S : Sto} {Q : α → Sto → Prop} (e : r = .exc x S) (h : E' x S) : Wp r Q E' := by rw [e]; exact h
theorem exc_of_wp {r : R D} {x : Exn} {S : Sto} (h : Wp r (fun _ _ => False) (fun y T => y = x ∧ T = S)) : r = .exc x S := by
  cases r with
  | ok d T => exact h.elim
  | exc y T =>
    obtain ⟨rfl, rfl⟩ : y = x ∧ T = S := h
    rfl
  | bad => exact h.elim
theorem wp_xis {i j c : Nat} (e : L.getD i none = some (.tup [.cls c])) (h : Q (.bl (subC c j)) S) : Wp ((ev C (.xis i j)).e L S) Q E' := by
  show Wp (fXis i j L S) Q E'
  simp only [fXis, e]; exact h
theorem wt_xis {i j : Nat} (h : Wp ((ev C (.xis i j)).e L S) (fun x S1 => Wp (truth x S1) B E') E') : Wp ((ev C (.xis i j)).t L S) B E' := wp_bind h
theorem wp_xcall {f i : Nat} {d : D} (e : L.getD i none = some d) (h : Wp (C f [d] S) Q E') : Wp ((ev C (.xcall f i)).e L S) Q E' := by
  show Wp (fXcall C f i L S) Q E'
  simp only [fXcall, e]; exact h
theorem wp_xf {i c : Nat} {d : D} (e : L.getD i none = some (.tup [.cls c, d])) (h : Q d S) : Wp ((ev C (.xf i c)).e L S) Q E' := by
  show Wp (fXf i c L S) Q E'
  simp only [fXf, e, if_true]; exact h
section
variable {N : Loc → Sto → Prop} {Rt : D → Sto → Prop}
theorem swp_rai0 {c : Nat} (h : E' ⟨c, none⟩ S) : SWp (xs C wf (.rai0 c) L S) N Rt E' := h
theorem swp_rai1 {c : Nat} {e : E} (h : Wp ((ev C e).e L S) (fun d S1 => E' ⟨c, some d⟩ S1) E') : SWp (xs C wf (.rai1 c e) L S) N Rt E' := by
  show SWp (sB (ev C e).e (fun d L => M.pure (.thr ⟨c, some d⟩ L)) L S) N Rt E'
  exact swp_b h
/-- what a try does with what its body threw -/
def onThr (hs : List (Nat × Option Nat × Bool)) (ss : List SF) (e : Exn) : SF := fun L S => match pickC e.c hs ss with
  | some (o, n, s) => if n = true ∧ looseC e.c = true then .bad else sAs o n e s L S
  | none => .ok (.thr e L) S
/-- of a body, the names at the throw told -/
def SWq (r : R Fl) (N : Loc → Sto → Prop) (Rt : D → Sto → Prop) (E : Exn → Loc → Sto → Prop) : Prop := match r with
  | .ok (.next L) S => N L S
  | .ok (.ret d) S => Rt d S
  | .ok (.thr e L) S => E e L S
  | _ => False
section
variable {T : Exn → Loc → Sto → Prop}
theorem swq_ret {e : E} (h : Wp ((ev C e).e L S) Rt (fun x S1 => T x L S1)) : SWq (xs C wf (.ret e) L S) N Rt T := by
  show SWq (sB (ev C e).e (fun d _ => M.pure (.ret d)) L S) N Rt T
  unfold sB
  cases r : (ev C e).e L S with
  | ok d S1 => rw [r] at h; exact h
  | exc x S1 => rw [r] at h; exact h
  | bad => rw [r] at h; exact h
theorem swq_set {i : Nat} {e : E} (h : Wp ((ev C e).e L S) (fun d S1 => N (L.set i (some d)) S1) (fun x S1 => T x L S1)) : SWq (xs C wf (.set i e) L S) N Rt T := by
  show SWq (sB (ev C e).e (fun d L => M.pure (.next (L.set i (some d)))) L S) N Rt T
  unfold sB
  cases r : (ev C e).e L S with
  | ok d S1 => rw [r] at h; exact h
  | exc x S1 => rw [r] at h; exact h
  | bad => rw [r] at h; exact h
theorem swq_expr {e : E} (h : Wp ((ev C e).e L S) (fun _ S1 => N L S1) (fun x S1 => T x L S1)) : SWq (xs C wf (.expr e) L S) N Rt T := by
  show SWq (sB (ev C e).e (fun _ L => M.pure (.next L)) L S) N Rt T
  unfold sB
  cases r : (ev C e).e L S with
  | ok d S1 => rw [r] at h; exact h
  | exc x S1 => rw [r] at h; exact h
  | bad => rw [r] at h; exact h
theorem swq_nil (h : N L S) : SWq (xs C wf .nil L S) N Rt T := h
theorem swq_cons {a b : St} (h : SWq (xs C wf a L S) (fun L1 S1 => SWq (xs C wf b L1 S1) N Rt T) Rt T) : SWq (xs C wf (.cons a b) L S) N Rt T := by
  show SWq (sThen (xs C wf a) (xs C wf b) L S) N Rt T
  unfold sThen
  cases r : xs C wf a L S with
  | ok fl S1 =>
    rw [r] at h
    cases fl <;> exact h
  | exc _ _ => rw [r] at h; exact h
  | bad => rw [r] at h; exact h
theorem swq_if {t : E} {a b : St} (h : Wp ((ev C t).t L S) (fun k S1 => if k = true then SWq (xs C wf a L S1) N Rt T else SWq (xs C wf b L S1) N Rt T) (fun x S1 => T x L S1)) : SWq (xs C wf (.ifS t a b) L S) N Rt T := by
  show SWq (sB (ev C t).t (fun k => if k = true then xs C wf a else xs C wf b) L S) N Rt T
  unfold sB
  cases r : (ev C t).t L S with
  | ok k S1 =>
    rw [r] at h
    cases k <;> exact h
  | exc x S1 => rw [r] at h; exact h
  | bad => rw [r] at h; exact h
end
theorem swp_try {b : St} {hs : List (Nat × Option Nat × Bool)} {s0 s1 s2 s3 s4 : St} (h : SWq (xs C wf b L S) N Rt (fun x L1 S1 => SWp (onThr hs [xs C wf s0, xs C wf s1, xs C wf s2, xs C wf s3, xs C wf s4] x L1 S1) N Rt E')) : SWp (xs C wf (.tryS b hs s0 s1 s2 s3 s4) L S) N Rt E' := by
  show SWp (sTry (xs C wf b) hs _ L S) N Rt E'
  unfold sTry
  cases r : xs C wf b L S with
  | ok fl S1 =>
    rw [r] at h
    cases fl <;> exact h
  | exc x S1 => rw [r] at h; exact h
  | bad => rw [r] at h; exact h
/-- try: return e -/
theorem swp_tryRet {e : E} {hs : List (Nat × Option Nat × Bool)} {s0 s1 s2 s3 s4 : St} (h : Wp ((ev C e).e L S) Rt (fun x S1 => SWp (onThr hs [xs C wf s0, xs C wf s1, xs C wf s2, xs C wf s3, xs C wf s4] x L S1) N Rt E')) : SWp (xs C wf (.tryS (.cons (.ret e) .nil) hs s0 s1 s2 s3 s4) L S) N Rt E' := by
  show SWp (sTry (sThen (sB (ev C e).e (fun d _ => M.pure (.ret d))) sNext) hs _ L S) N Rt E'
  unfold sTry sThen sB
  cases r : (ev C e).e L S with
  | ok d S1 => rw [r] at h; exact h
  | exc x S1 => rw [r] at h; exact h
  | bad => rw [r] at h; exact h
/-- the suite that takes it -/
theorem swp_on {hs : List (Nat × Option Nat × Bool)} {ss : List SF} {c i : Nat} {f : Option D} {b : Bool} {s : SF} (hl : looseC c = false) (hp : pickC c hs ss = some (some i, b, s)) (hi : i < L.length) (h : SWp (s (L.set i (some (exnD c f))) S) (fun L' S' => N (L'.set i none) S') Rt (fun _ _ => False)) : SWp (onThr hs ss ⟨c, f⟩ L S) N Rt E' := by
  unfold onThr
  simp only [hl, Bool.false_eq_true, and_false, if_false, hp, sAs, if_pos hi]
  cases r : s (L.set i (some (exnD c f))) S with
  | ok fl S1 =>
    rw [r] at h
    cases fl with
    | next L1 => exact h
    | ret d => exact h
    | brk _ => exact h.elim
    | cont _ => exact h.elim
    | thr _ _ => exact h.elim
  | exc _ _ => rw [r] at h; exact h.elim
  | bad => rw [r] at h; exact h.elim
end
/-! tests that are values -/
theorem wt_var {i : Nat} (h : Wp ((ev C (.var i)).e L S) (fun x S1 => Wp (truth x S1) B E') E') : Wp ((ev C (.var i)).t L S) B E' := wp_bind h
theorem wt_con {i : D} (h : Wp ((ev C (.con i)).e L S) (fun x S1 => Wp (truth x S1) B E') E') : Wp ((ev C (.con i)).t L S) B E' := wp_bind h
theorem wt_ix {a b : E} (h : Wp ((ev C (.ix a b)).e L S) (fun x S1 => Wp (truth x S1) B E') E') : Wp ((ev C (.ix a b)).t L S) B E' := wp_bind h
theorem wt_prim {a : Pr} {b : E} (h : Wp ((ev C (.prim a b)).e L S) (fun x S1 => Wp (truth x S1) B E') E') : Wp ((ev C (.prim a b)).t L S) B E' := wp_bind h
theorem wt_call {a : Nat} {b : E} {c : List D} (h : Wp ((ev C (.call a b c)).e L S) (fun x S1 => Wp (truth x S1) B E') E') : Wp ((ev C (.call a b c)).t L S) B E' := wp_bind h
theorem wt_callK {a n : Nat} {b : E} {c : E} (h : Wp ((ev C (.callK a n b c)).e L S) (fun x S1 => Wp (truth x S1) B E') E') : Wp ((ev C (.callK a n b c)).t L S) B E' := wp_bind h
theorem wt_op {o : Op2} {a b : E} (h : Wp ((ev C (.op o a b)).e L S) (fun x S1 => Wp (truth x S1) B E') E') : Wp ((ev C (.op o a b)).t L S) B E' := wp_bind h
/-! parts of slices -/
theorem pt_var {i : Nat} {P : Option Int → Sto → Prop} (h : Wp ((ev C (.var i)).e L S) (fun x S1 => ∃ i, x = .int i ∧ P (some i) S1) E') : Wp ((ev C (.var i)).p L S) P E' := wp_part h
theorem pt_con {i : D} {P : Option Int → Sto → Prop} (h : Wp ((ev C (.con i)).e L S) (fun x S1 => ∃ i, x = .int i ∧ P (some i) S1) E') : Wp ((ev C (.con i)).p L S) P E' := wp_part h
theorem pt_op {o : Op2} {a b : E} {P : Option Int → Sto → Prop} (h : Wp ((ev C (.op o a b)).e L S) (fun x S1 => ∃ i, x = .int i ∧ P (some i) S1) E') : Wp ((ev C (.op o a b)).p L S) P E' := wp_part h
/-- a negative number -/
theorem wp_negc {i : Int} (h : Q (.int (-i)) S) : Wp ((ev C (.neg (.con (.int i)))).e L S) Q E' := wp_neg ⟨i, rfl, h⟩
end
section
variable {tab : List Fn} {wf n i ps ns : Nat} {b : St} {vs : List D} {L : Loc} {S : Sto} {Q : D → Sto → Prop} {E' : Exn → Sto → Prop}
theorem wp_def (hf : tab[i]? = some ⟨ps, ns, b, none⟩) (hl : vs.length = ps) (hL : vs.map some ++ List.replicate (ns - ps) none = L) (h : SWp (xs (callF tab wf n) wf b L S) (fun _ S => Q .non S) Q E') : Wp (callF tab wf (n + 1) i vs S) Q E' :=
  wp_fn hf rfl hl (by
    show SWp (xs (callF tab wf n) wf b (vs.map some ++ List.replicate (ns - ps) none) S) _ _ _
    rw [hL]; exact h)
end
/-- a class made -/
theorem wp_mk {tab : List Fn} {wf n i ps ns kk g : Nat} {b : St} {vs : List D} {S : Sto} {Q : D → Sto → Prop} {E' : Exn → Sto → Prop} (hf : tab[i]? = some ⟨ps, ns, b, some (kk, g)⟩) (hl : vs.length = ps) (h : Wp (callF tab wf n g (.ref S.length :: vs) (S ++ [.ins kk []])) (fun d T => d = .non ∧ Q (.ref S.length) T) E') : Wp (callF tab wf (n + 1) i vs S) Q E' := by
  unfold callF
  rw [hf]
  simp only [if_pos hl]
  refine wp_bind (h.mono (fun d T q => ?_) fun _ _ q => q)
  obtain ⟨rfl, q⟩ := q
  exact q
/-! instances, dicts -/
section
variable {C : Nat → List D → M D} {wf : Nat} {L : Loc} {S : Sto} {Q : D → Sto → Prop} {B : Bool → Sto → Prop} {U : Unit → Sto → Prop} {E' : Exn → Sto → Prop} {N : Loc → Sto → Prop} {Rt : D → Sto → Prop}
theorem wp_fld {a : E} {f : Nat} (h : Wp ((ev C a).e L S) (fun x S1 => Wp (fldD f x S1) Q E') E') : Wp ((ev C (.fld a f)).e L S) Q E' := wp_bind h
theorem wt_fld {a : E} {f : Nat} (h : Wp ((ev C (.fld a f)).e L S) (fun x S1 => Wp (truth x S1) B E') E') : Wp ((ev C (.fld a f)).t L S) B E' := wp_bind h
theorem pt_fld {a : E} {f : Nat} {P : Option Int → Sto → Prop} (h : Wp ((ev C (.fld a f)).e L S) (fun x S1 => ∃ i, x = .int i ∧ P (some i) S1) E') : Wp ((ev C (.fld a f)).p L S) P E' := wp_part h
theorem pt_neg {a : E} {P : Option Int → Sto → Prop} (h : Wp ((ev C (.neg a)).e L S) (fun x S1 => ∃ i, x = .int i ∧ P (some i) S1) E') : Wp ((ev C (.neg a)).p L S) P E' := wp_part h
theorem wp_getF {i c f : Nat} {fs : List (Nat × D)} {v : D} (e : S[i]? = some (.ins c fs)) (g : getF f fs = some v) (h : Q v S) : Wp (fldD f (.ref i) S) Q E' := by
  simp only [fldD, e, g]; exact h
theorem wp_putF {i c f : Nat} {fs : List (Nat × D)} {v : D} (e : S[i]? = some (.ins c fs)) (hl : fs.length < 900) (h : U () (S.set i (.ins c (putI f v fs)))) : Wp (setFD f v (.ref i) S) U E' := by
  simp only [setFD, e, if_pos hl]; exact h
theorem wp_mcall {ms : List (Nat × Nat)} {o es : E} (h : Wp ((ev C o).e L S) (fun x S1 => Wp (clsD x S1) (fun c S2 => ∃ f, lookN c ms = some f ∧ Wp ((ev C es).s L S2) (fun vs S3 => Wp (C f (x :: vs) S3) Q E') E') E') E') : Wp ((ev C (.mcall ms o es)).e L S) Q E' := by
  refine wp_bind (h.mono (fun x S1 q => wp_bind (q.mono (fun c S2 q => ?_) fun _ _ q => q)) fun _ _ q => q)
  obtain ⟨f, e, q⟩ := q
  simp only [e]
  exact wp_bind q
theorem wt_mcall {ms : List (Nat × Nat)} {o es : E} (h : Wp ((ev C (.mcall ms o es)).e L S) (fun x S1 => Wp (truth x S1) B E') E') : Wp ((ev C (.mcall ms o es)).t L S) B E' := wp_bind h
theorem wp_cls {i c : Nat} {fs : List (Nat × D)} {K : Nat → Sto → Prop} (e : S[i]? = some (.ins c fs)) (h : K c S) : Wp (clsD (.ref i) S) K E' := by
  simp only [clsD, e]; exact h
theorem ex_look {c f : Nat} {ms : List (Nat × Nat)} {P : Nat → Prop} (e : lookN c ms = some f) (h : P f) : ∃ f, lookN c ms = some f ∧ P f := ⟨f, e, h⟩
theorem wp_rev {a : E} (h : Wp ((ev C a).e L S) (fun x S1 => Wp (revD x S1) Q E') E') : Wp ((ev C (.rev a)).e L S) Q E' := wp_bind h
theorem wp_revL {i : Nat} {xs : List D} (e : S[i]? = some (.lst xs)) (h : Q (.ref S.length) (S ++ [.lst xs.reverse])) : Wp (revD (.ref i) S) Q E' := by
  simp only [revD, e]; exact h
theorem wp_dget2 {o k x : E} (h : Wp ((ev C o).e L S) (fun d S1 => Wp (isDct d S1) (fun _ S2 => Wp ((ev C k).e L S2) (fun y S3 => Wp ((ev C x).e L S3) (fun z S4 => Wp (dgetD y d S4) (fun r S5 => Q (r.getD z) S5) E') E') E') E') E') : Wp ((ev C (.dget2 o k x)).e L S) Q E' :=
  wp_bind (h.mono (fun d S1 q => wp_bind (q.mono (fun _ S2 q => wp_bind (q.mono (fun y S3 q => wp_bind (q.mono (fun z S4 q => wp_bind q) fun _ _ q => q)) fun _ _ q => q)) fun _ _ q => q)) fun _ _ q => q)
theorem wp_dget1 {o k : E} (h : Wp ((ev C o).e L S) (fun d S1 => Wp (isDct d S1) (fun _ S2 => Wp ((ev C k).e L S2) (fun y S3 => Wp (dgetD y d S3) (fun r S5 => Q (r.getD .non) S5) E') E') E') E') : Wp ((ev C (.dget1 o k)).e L S) Q E' :=
  wp_bind (h.mono (fun d S1 q => wp_bind (q.mono (fun _ S2 q => wp_bind (q.mono (fun y S3 q => wp_bind q) fun _ _ q => q)) fun _ _ q => q)) fun _ _ q => q)
theorem wp_isD {i : Nat} {kvs : List (D × D)} (e : S[i]? = some (.dct kvs)) (h : U () S) : Wp (isDct (.ref i) S) U E' := by
  simp only [isDct, e]; exact h
theorem wp_dgetD {i : Nat} {kvs : List (D × D)} {k : D} {P : Option D → Sto → Prop} (e : S[i]? = some (.dct kvs)) (hk : isKey k = true) (h : P (getK k kvs) S) : Wp (dgetD k (.ref i) S) P E' := by
  simp only [dgetD, e, if_pos hk]; exact h
theorem wp_dput {i : Nat} {kvs : List (D × D)} {k v : D} (e : S[i]? = some (.dct kvs)) (hk : isKey k = true ∧ kvs.length < 16000000) (h : U () (S.set i (.dct (putK k v kvs)))) : Wp (dputD k v (.ref i) S) U E' := by
  simp only [dputD, e, if_pos hk]; exact h
theorem swp_asgF {o e : E} {f : Nat} (h : Wp ((ev C e).e L S) (fun d S1 => Wp ((ev C o).e L S1) (fun x S2 => Wp (setFD f d x S2) (fun _ S3 => N L S3) E') E') E') : SWp (xs C wf (.asg1 (.fld o f) e) L S) N Rt E' := by
  show SWp (sB (ev C e).e (fun d => sTx C (.fld o f) d) L S) N Rt E'
  refine swp_b (h.mono (fun d S1 q => ?_) fun _ _ q => q)
  show SWp (sB (fun L => M.bind ((ev C o).e L) fun x => M.bind (setFD f d x) fun _ => M.pure L) (fun L' _ => M.pure (.next L')) L S1) N Rt E'
  exact swp_b (wp_bind (q.mono (fun x S2 q => wp_bind q) fun _ _ q => q))
theorem swp_asgS {o k e : E} (h : Wp ((ev C e).e L S) (fun d S1 => Wp ((ev C o).e L S1) (fun x S2 => Wp ((ev C k).e L S2) (fun y S3 => Wp (dputD y d x S3) (fun _ S4 => N L S4) E') E') E') E') : SWp (xs C wf (.asg1 (.sub o k) e) L S) N Rt E' := by
  show SWp (sB (ev C e).e (fun d => sTx C (.sub o k) d) L S) N Rt E'
  refine swp_b (h.mono (fun d S1 q => ?_) fun _ _ q => q)
  show SWp (sB (fun L => M.bind ((ev C o).e L) fun x => M.bind ((ev C k).e L) fun y => M.bind (dputD y d x) fun _ => M.pure L) (fun L' _ => M.pure (.next L')) L S1) N Rt E'
  exact swp_b (wp_bind (q.mono (fun x S2 q => wp_bind (q.mono (fun y S3 q => wp_bind q) fun _ _ q => q)) fun _ _ q => q))
theorem swp_augF {o e : E} {f : Nat} {op : Op2} (h : Wp ((ev C o).e L S) (fun x S1 => Wp (clsD x S1) (fun c S2 => Wp (fldD f x S2) (fun v S3 => Wp ((ev C e).e L S3) (fun y S4 => Wp (aug2 op v y S4) (fun z S5 => Wp (clsD x S5) (fun c' S6 => c' = c ∧ Wp (setFD f z x S6) (fun _ S7 => N L S7) E') E') E') E') E') E') E') : SWp (xs C wf (.augF o f op e) L S) N Rt E' := by
  show SWp (sB (F.bind (ev C o).e fun x => F.bind (fun _ => clsD x) fun c => F.bind (fun _ => fldD f x) fun v => F.bind (ev C e).e fun y => F.bind (fun _ => aug2 op v y) fun z => F.bind (fun _ => clsD x) fun c' => if c' = c then fun _ => setFD f z x else FBad) (fun _ L => M.pure (.next L)) L S) N Rt E'
  refine swp_b (wp_bind (h.mono (fun x S1 q => wp_bind (q.mono (fun c S2 q => wp_bind (q.mono (fun v S3 q => wp_bind (q.mono (fun y S4 q => wp_bind (q.mono (fun z S5 q => wp_bind (q.mono (fun c' S6 q6 => ?_) fun _ _ q => q)) fun _ _ q => q)) fun _ _ q => q)) fun _ _ q => q)) fun _ _ q => q)) fun _ _ q => q))
  obtain ⟨e6, q6⟩ := q6
  show Wp ((if c' = c then fun _ => setFD f z x else FBad) L S6) _ _
  rw [if_pos e6]
  exact q6
/-- a.f, b.g = e -/
theorem swp_asgs2 {o o' e : E} {f f' : Nat} (h : Wp ((ev C e).e L S) (fun d S1 => ∃ x y, seqOf S1 d = some [x, y] ∧ Wp ((ev C o).e L S1) (fun p S2 => Wp (setFD f x p S2) (fun _ S3 => Wp ((ev C o').e L S3) (fun p' S4 => Wp (setFD f' y p' S4) (fun _ S5 => N L S5) E') E') E') E') E') : SWp (xs C wf (.asgs [.fld o f, .fld o' f'] e) L S) N Rt E' := by
  show SWp (sB (ev C e).e (fun d L S => match seqOf S d with
    | some ds => if ds.length = [Tx.fld o f, Tx.fld o' f'].length then sTxs C [Tx.fld o f, Tx.fld o' f'] ds L S else .bad
    | none => .bad) L S) N Rt E'
  refine swp_b (h.mono (fun d S1 q => ?_) fun _ _ q => q)
  obtain ⟨x, y, e, q⟩ := q
  simp only [e, List.length_cons, List.length_nil, if_true]
  show SWp (sThen (sTx C (.fld o f) x) (sThen (sTx C (.fld o' f') y) sNext) L S1) N Rt E'
  have key : ∀ {o : E} {f : Nat} {x : D} {k : SF} {S1 : Sto}, Wp ((ev C o).e L S1) (fun p S2 => Wp (setFD f x p S2) (fun _ S3 => SWp (k L S3) N Rt E') E') E' → SWp (sThen (sTx C (.fld o f) x) k L S1) N Rt E' := fun {o f x k S1} h => by
    have h2 : SWp (sTx C (.fld o f) x L S1) (fun L' S3 => L' = L ∧ SWp (k L S3) N Rt E') Rt E' := by
      show SWp (sB (fun L => M.bind ((ev C o).e L) fun p => M.bind (setFD f x p) fun _ => M.pure L) (fun L' _ => M.pure (.next L')) L S1) _ _ _
      exact swp_b (wp_bind (h.mono (fun p S2 q => wp_bind (q.mono (fun _ S3 q => ⟨rfl, q⟩) fun _ _ q => q)) fun _ _ q => q))
    unfold sThen
    cases r : sTx C (.fld o f) x L S1 with
    | ok fl S4 =>
      rw [r] at h2
      cases fl with
      | next L' =>
        obtain ⟨rfl, h2⟩ := h2
        exact h2
      | _ => exact h2
    | exc _ _ => rw [r] at h2; exact h2
    | bad => rw [r] at h2; exact h2
  exact key (q.mono (fun p S2 q => q.mono (fun _ S3 q => key (q.mono (fun p' S4 q => q) fun _ _ q => q)) fun _ _ q => q) fun _ _ q => q)
theorem wp_dstep {i : Nat} {g : D → Loc → Option Loc} {key val : E} {x : D} {L1 : Loc} (hg : g x L = some L1) (h : Wp ((ev C key).e L1 S) (fun y S1 => Wp ((ev C val).e L1 S1) (fun z S2 => Wp (dputD y z (.ref i) S2) U E') (fun _ _ => False)) (fun _ _ => False)) : Wp (dStep i g (ev C (.con (.bl true))).t (ev C key).e (ev C val).e L x S) U E' := by
  unfold dStep
  rw [hg]
  refine wp_bind (wp_eq (a := true) (S := S) rfl ?_)
  simp only [if_true]
  have calm : ∀ {α : Type} {m : M α} {S : Sto} {Q : α → Sto → Prop}, Wp (m S) Q (fun _ _ => False) → Wp (M.calm m S) Q E' := fun {α m S Q} h => by
    unfold M.calm
    cases e : m S with
    | ok a T => rw [e] at h; exact h
    | exc x T => rw [e] at h; exact h.elim
    | bad => rw [e] at h; exact h.elim
  exact wp_bind (calm (h.mono (fun y S1 q => wp_bind (calm q)) fun _ _ q => q))
theorem wp_dcompS {t : Tg} {own : List Nat} {e tst key val : E} (h : Wp ((ev C e).e L S) (fun d S1 => Wp (cOver (dStep S1.length (tgSet t) (ev C tst).t (ev C key).e (ev C val).e (wipeL L own)) false d (S1 ++ [.dct []])) (fun _ S2 => Q (.ref S1.length) S2) E') E') : Wp ((ev C (.dcomp false t own e tst key val)).e L S) Q E' := by
  refine wp_bind (h.mono (fun d S1 q => ?_) fun _ _ q => q)
  exact wp_bind (Wp.mono (E1 := E') (Q := fun _ S2 => Q (.ref S1.length) S2) q (fun _ _ q => q) fun _ _ q => q)
/-- a slice of a list, of a text -/
theorem wp_slL {i : Nat} {xs : List D} {lo hi : Option Int} (e : S[i]? = some (.lst xs)) (h : Q (.ref S.length) (S ++ [.lst (cut xs lo hi)])) : Wp (slD (.ref i) lo hi S) Q E' := by
  simp only [slD, e]; exact h
theorem wp_slS {s : List Nat} {lo hi : Option Int} (c : s.length ≤ 16000000) (h : Q (.str (cut s lo hi)) S) : Wp (slD (.str s) lo hi S) Q E' := by
  simp only [slD, if_pos c]; exact h
theorem wp_addL {i j : Nat} {xs ys : List D} (e : S[i]? = some (.lst xs)) (e' : S[j]? = some (.lst ys)) (c : xs.length + ys.length ≤ 16000000) (h : Q (.ref S.length) (S ++ [.lst (xs ++ ys)])) : Wp (op2 .add (.ref i) (.ref j) S) Q E' := by
  simp only [op2, e, e', if_pos c]; exact h
theorem wp_inS {c : Nat} {t : List Nat} (h : B (decide (c ∈ t)) S) : Wp (cmp2 .isIn (.str [c]) (.str t) S) B E' := h
theorem wp_ninS {c : Nat} {t : List Nat} (h : B (!decide (c ∈ t)) S) : Wp (cmp2 .notIn (.str [c]) (.str t) S) B E' := h
end
section
variable {C : Nat → List D → M D} {wf : Nat} {L : Loc} {S : Sto} {E' : Exn → Sto → Prop} {N : Loc → Sto → Prop} {Rt : D → Sto → Prop}
/-- a clause without a name that raises -/
theorem swp_onR {hs : List (Nat × Option Nat × Bool)} {ss : List SF} {c j : Nat} {f : Option D} {e : E} (hl : looseC c = false) (hj : looseC j = true) (hp : pickC c hs ss = some (none, true, xs C wf (.cons (.rai1 j e) .nil))) (h : Wp ((ev C e).e L S) (fun d S1 => E' ⟨j, some d⟩ S1) (fun _ _ => False)) : SWp (onThr hs ss ⟨c, f⟩ L S) N Rt E' := by
  unfold onThr
  simp only [hl, Bool.false_eq_true, and_false, if_false, hp, sAs]
  have q : SWq (xs C wf (.cons (.rai1 j e) .nil) L S) (fun _ _ => False) (fun _ _ => False) (fun x _ S1 => looseC x.c = true ∧ E' x S1) := by
    show SWq (sThen (sB (ev C e).e (fun d L => M.pure (.thr ⟨j, some d⟩ L))) sNext L S) _ _ _
    unfold sThen sB
    cases r : (ev C e).e L S with
    | ok d S1 => rw [r] at h; exact ⟨hj, h⟩
    | exc x S1 => rw [r] at h; exact h.elim
    | bad => rw [r] at h; exact h.elim
  cases r : xs C wf (.cons (.rai1 j e) .nil) L S with
  | ok fl S1 =>
    rw [r] at q
    cases fl with
    | thr x L1 =>
      obtain ⟨q1, q2⟩ := q
      show SWp (looseOut true (.ok (.thr x L1) S1)) N Rt E'
      simp only [looseOut, q1, and_self, if_true]
      exact q2
    | _ => exact q.elim
  | exc _ _ => rw [r] at q; exact q.elim
  | bad => rw [r] at q; exact q.elim
/-- a clause without a name that raises nothing -/
theorem swp_onB {hs : List (Nat × Option Nat × Bool)} {ss : List SF} {c : Nat} {f : Option D} {s : SF} (hp : pickC c hs ss = some (none, false, s)) (h : SWp (s L S) N Rt (fun _ _ => False)) : SWp (onThr hs ss ⟨c, f⟩ L S) N Rt E' := by
  unfold onThr
  simp only [Bool.false_eq_true, false_and, if_false, hp, sAs]
  cases r : s L S with
  | ok fl S1 =>
    rw [r] at h
    cases fl with
    | next L1 => exact h
    | ret d => exact h
    | brk _ => exact h.elim
    | cont _ => exact h.elim
    | thr _ _ => exact h.elim
  | exc _ _ => rw [r] at h; exact h.elim
  | bad => rw [r] at h; exact h.elim
/-- a clause with a name, whatever the context -/
theorem swp_onN {hs : List (Nat × Option Nat × Bool)} {ss : List SF} {c i : Nat} {f : Option D} {s : SF} (hp : pickC c hs ss = some (some i, false, s)) (hi : i < L.length) (h : SWp (s (L.set i (some (exnD c f))) S) (fun L' S' => N (L'.set i none) S') Rt (fun _ _ => False)) : SWp (onThr hs ss ⟨c, f⟩ L S) N Rt E' := by
  unfold onThr
  simp only [Bool.false_eq_true, false_and, if_false, hp, sAs, if_pos hi]
  cases r : s (L.set i (some (exnD c f))) S with
  | ok fl S1 =>
    rw [r] at h
    cases fl with
    | next L1 => exact h
    | ret d => exact h
    | brk _ => exact h.elim
    | cont _ => exact h.elim
    | thr _ _ => exact h.elim
  | exc _ _ => rw [r] at h; exact h.elim
  | bad => rw [r] at h; exact h.elim
/-- no clause takes it -/
theorem swp_onO {hs : List (Nat × Option Nat × Bool)} {ss : List SF} {x : Exn} (hp : pickC x.c hs ss = none) (h : E' x S) : SWp (onThr hs ss x L S) N Rt E' := by
  unfold onThr
  simp only [hp]
  exact h
end
/-! comprehensions -/
section
variable {C : Nat → List D → M D} {L L1 : Loc} {S : Sto} {Q : D → Sto → Prop} {U : Unit → Sto → Prop} {E' : Exn → Sto → Prop} {f : D → M Unit}
theorem wp_calm {α : Type} {m : M α} {Q : α → Sto → Prop} (h : Wp (m S) Q (fun _ _ => False)) : Wp (M.calm m S) Q E' := by
  unfold M.calm
  cases e : m S with
  | ok a T => rw [e] at h; exact h
  | exc x T => rw [e] at h; exact h.elim
  | bad => rw [e] at h; exact h.elim
theorem wp_cstep {i : Nat} {g : D → Loc → Option Loc} {t : F Bool} {e : F D} {x : D} (hg : g x L = some L1) (h : Wp (t L1 S) (fun k S1 => if k = true then Wp (e L1 S1) (fun y S2 => ∃ xs, S2[i]? = some (.lst xs) ∧ xs.length < 16000000 ∧ U () (S2.set i (.lst (xs ++ [y])))) (fun _ _ => False) else U () S1) (fun _ _ => False)) : Wp (cStep i g t e L x S) U E' := by
  unfold cStep
  rw [hg]
  refine wp_bind (wp_calm (h.mono (fun k S1 q => ?_) fun _ _ q => q))
  cases k with
  | false => exact q
  | true =>
    refine wp_bind (wp_calm (Wp.mono (show Wp (e L1 S1) _ _ from q) (fun y S2 q => ?_) fun _ _ q => q))
    obtain ⟨xs, e1, e2, q⟩ := q
    simp only [e1, if_pos e2]
    exact q
/-- a step without a test -/
theorem wp_cstep1 {i : Nat} {g : D → Loc → Option Loc} {elt : E} {x : D} (hg : g x L = some L1) (h : Wp ((ev C elt).e L1 S) (fun y S2 => ∃ xs, S2[i]? = some (.lst xs) ∧ xs.length < 16000000 ∧ U () (S2.set i (.lst (xs ++ [y])))) (fun _ _ => False)) : Wp (cStep i g (ev C (.con (.bl true))).t (ev C elt).e L x S) U E' :=
  wp_cstep hg (wp_eq (a := true) (S := S) rfl h)
theorem wp_cnil (h : U () S) : Wp (cLoop f [] S) U E' := h
theorem wp_ccons {x : D} {xs : List D} (h : Wp (f x S) (fun _ S1 => Wp (cLoop f xs S1) U E') E') : Wp (cLoop f (x :: xs) S) U E' := wp_bind h
theorem wp_cloop (I : Nat → Sto → Prop) : ∀ (xs : List D) {S : Sto}, I 0 S → (∀ k x S, xs[k]? = some x → I k S → Wp (f x S) (fun _ S1 => I (k + 1) S1) E') → (∀ S, I xs.length S → U () S) → Wp (cLoop f xs S) U E' := by
  have gen : ∀ (xs : List D) (k : Nat) {S : Sto} (J : Nat → Sto → Prop), J k S → (∀ j x S, xs[j]? = some x → J (k + j) S → Wp (f x S) (fun _ S1 => J (k + j + 1) S1) E') → (∀ S, J (k + xs.length) S → U () S) → Wp (cLoop f xs S) U E' := by
    intro xs
    induction xs with
    | nil => exact fun k S J h0 _ hd => hd S h0
    | cons x xs ih =>
      intro k S J h0 hs hd
      refine wp_bind ((hs 0 x S rfl h0).mono (fun _ S1 q => ?_) fun _ _ q => q)
      refine ih (k + 1) J q (fun j y S2 e q2 => ?_) (fun S2 q2 => hd S2 (by rw [List.length_cons, show k + (xs.length + 1) = k + 1 + xs.length by omega]; exact q2))
      have := hs (j + 1) y S2 (by simpa using e) (by rw [show k + (j + 1) = k + 1 + j by omega]; exact q2)
      rw [show k + (j + 1) + 1 = k + 1 + j + 1 by omega] at this
      exact this
  intro xs S h0 hs hd
  refine gen xs 0 I h0 (fun j x S e q => ?_) (fun S q => hd S (by rw [Nat.zero_add] at q; exact q))
  rw [Nat.zero_add] at q ⊢
  exact hs j x S e q
/-- over a list that stands still -/
theorem wp_cloopL {a : Nat} {xs : List D} (I : Nat → Sto → Prop) (h0 : I 0 S) (hl : ∀ k S, I k S → seqOf S (.ref a) = some xs) (hs : ∀ k x S, xs[k]? = some x → I k S → Wp (f x S) (fun _ S1 => I (k + 1) S1) E') (hd : ∀ S, I xs.length S → U () S) : Wp (cLoopL f a (xs.length + 1) 0 S) U E' := by
  have gen : ∀ (m k : Nat) (S : Sto), k + m = xs.length → I k S → Wp (cLoopL f a (m + 1) k S) U E' := fun m => by
    induction m with
    | zero =>
      intro k S e h
      have ek : k = xs.length := by omega
      subst ek
      unfold cLoopL
      rw [hl _ S h]
      have x : xs[xs.length]? = none := List.getElem?_eq_none_iff.mpr (Nat.le_refl _)
      simp only [x]
      exact hd S h
    | succ m ih =>
      intro k S e h
      unfold cLoopL
      rw [hl k S h]
      cases x : xs[k]? with
      | none =>
        have : xs.length ≤ k := List.getElem?_eq_none_iff.mp x
        omega
      | some d =>
        simp only [x]
        exact wp_bind ((hs k d S x h).mono (fun _ S1 q => ih (k + 1) S1 (by omega) q) fun _ _ q => q)
  exact gen _ 0 S (by omega) h0
theorem wp_compR {t : Tg} {own : List Nat} {e tst elt : E} (h : Wp ((ev C e).e L S) (fun d S1 => ∃ j, d = .int j ∧ near j = true ∧ Wp (cLoop (cStep S1.length (tgSet t) (ev C tst).t (ev C elt).e (wipeL L own)) (rangeD 0 j.toNat) (S1 ++ [.lst []])) (fun _ S2 => Q (.ref S1.length) S2) E') E') : Wp ((ev C (.comp true t own e tst elt)).e L S) Q E' := by
  refine wp_bind (h.mono (fun d S1 q => ?_) fun _ _ q => q)
  obtain ⟨j, rfl, hn, q⟩ := q
  refine wp_bind (Wp.mono (E1 := E') (Q := fun _ S2 => Q (.ref S1.length) S2) ?_ (fun _ _ q => q) fun _ _ q => q)
  simp only [cOver, hn, if_true]
  exact q
theorem wp_compS {t : Tg} {own : List Nat} {e tst elt : E} (h : Wp ((ev C e).e L S) (fun d S1 => Wp (cOver (cStep S1.length (tgSet t) (ev C tst).t (ev C elt).e (wipeL L own)) false d (S1 ++ [.lst []])) (fun _ S2 => Q (.ref S1.length) S2) E') E') : Wp ((ev C (.comp false t own e tst elt)).e L S) Q E' := by
  refine wp_bind (h.mono (fun d S1 q => ?_) fun _ _ q => q)
  exact wp_bind (Wp.mono (E1 := E') (Q := fun _ S2 => Q (.ref S1.length) S2) q (fun _ _ q => q) fun _ _ q => q)
theorem wp_overT {xs : List D} (h : Wp (cLoop f xs S) U E') : Wp (cOver f false (.tup xs) S) U E' := h
theorem wp_overS {s : List Nat} (c : s.length ≤ 16000000) (h : Wp (cLoop f (s.map fun c => D.str [c]) S) U E') : Wp (cOver f false (.str s) S) U E' := by
  simp only [cOver, if_pos c]; exact h
theorem wp_overL {a : Nat} {xs : List D} (e : seqOf S (.ref a) = some xs) (h : Wp (cLoopL f a (xs.length + 1) 0 S) U E') : Wp (cOver f false (.ref a) S) U E' := by
  simp only [cOver, e]; exact h
end
end Bv
end
section
/-! B8: sizes of numbers, powers of ten -/
namespace Bv
/-- so few bits -/
def Bt (a : Int) (n : Nat) : Prop := a.natAbs < 2 ^ n
theorem Bt.mono {a : Int} {m n : Nat} (h : Bt a m) (l : m ≤ n) : Bt a n := Nat.lt_of_lt_of_le h (Nat.pow_le_pow_right (by decide) l)
theorem Bt.mul {a b : Int} {m n : Nat} (h : Bt a m) (k : Bt b n) : Bt (a * b) (m + n) := by
  unfold Bt at *
  rw [Int.natAbs_mul, Nat.pow_add]
  exact Nat.mul_lt_mul'' h k
theorem Bt.add {a b : Int} {m n : Nat} (h : Bt a m) (k : Bt b m) : Bt (a + b) (m + 1) := by
  unfold Bt at *
  have := Int.natAbs_add_le a b
  rw [Nat.pow_succ]
  omega
theorem Bt.neg {a : Int} {m : Nat} (h : Bt a m) : Bt (-a) m := by
  unfold Bt at *
  rw [Int.natAbs_neg]; exact h
theorem Bt.sub {a b : Int} {m : Nat} (h : Bt a m) (k : Bt b m) : Bt (a - b) (m + 1) := by
  rw [Int.sub_eq_add_neg]
  exact Bt.add (n := m) h k.neg
theorem Bt.ten (k : Nat) : Bt ((10 : Int) ^ k) (4 * k + 1) := by
  unfold Bt
  rw [Int.natAbs_pow, Nat.pow_succ, Nat.pow_mul]
  have : (Int.natAbs 10) ^ k ≤ (2 ^ 4) ^ k := Nat.pow_le_pow_left (by decide) k
  have : 0 < (2 ^ 4) ^ k := Nat.pow_pos (by decide)
  omega
theorem Bt.of_lt {a b : Int} {m : Nat} (h : Bt b m) (l : -b ≤ a) (l' : a ≤ b) : Bt a m := by
  unfold Bt at *
  omega
theorem Bt.log {a : Int} {m : Nat} (h : Bt a m) : a.natAbs.log2 ≤ m := by
  by_cases z : a.natAbs = 0
  · rw [z]; simp
  · exact Nat.le_of_lt ((Nat.log2_lt z).mpr h)
theorem Bt.ok {a b : Int} {m n : Nat} (h : Bt a m) (k : Bt b n) (l : m + n < 1000000) : bitsOk a b = true := by
  unfold bitsOk
  have := h.log
  have := k.log
  rw [Bool.or_eq_true]
  exact Or.inr (decide_eq_true (by omega))
theorem bitsOk_l {a b : Int} (h : -(2 ^ 64) < a ∧ a < 2 ^ 64) : bitsOk a b = true := by
  unfold bitsOk
  rw [Bool.or_eq_true, Bool.or_eq_true]
  exact Or.inl (Or.inl (decide_eq_true h))
theorem bitsOk_r {a b : Int} (h : -(2 ^ 64) < b ∧ b < 2 ^ 64) : bitsOk a b = true := by
  unfold bitsOk
  rw [Bool.or_eq_true, Bool.or_eq_true]
  exact Or.inl (Or.inr (decide_eq_true h))
theorem ten_pos (k : Nat) : (0 : Int) < 10 ^ k := Int.pow_pos (by decide)
theorem ten_le {j k : Nat} (h : j ≤ k) : (10 : Int) ^ j ≤ 10 ^ k := by
  have := Nat.pow_le_pow_right (show 0 < 10 by decide) h
  have e : ∀ n : Nat, (10 : Int) ^ n = ((10 ^ n : Nat) : Int) := fun n => by rw [Int.natCast_pow]; rfl
  rw [e, e]
  exact_mod_cast this
theorem ten_add (j k : Nat) : (10 : Int) ^ (j + k) = 10 ^ j * 10 ^ k := Int.pow_add ..
theorem ten_split {s o : Int} (h0 : 0 ≤ s) (h : s ≤ o) : (10 : Int) ^ o.toNat = 10 ^ (o - s).toNat * 10 ^ s.toNat := by
  rw [← ten_add]
  congr 1
  omega
theorem mul_bound {f k a b : Int} (h1 : -a < f) (h2 : f < a) (hk : 0 < k) (hb : k ≤ b) : -(a * b) < f * k ∧ f * k < a * b := by
  have a0 : 0 < a := by omega
  have u : f * k < a * k := Int.mul_lt_mul_of_pos_right h2 hk
  have v : -a * k < f * k := Int.mul_lt_mul_of_pos_right h1 hk
  have w : a * k ≤ a * b := Int.mul_le_mul_of_nonneg_left hb (by omega)
  rw [Int.neg_mul] at v
  omega
/-- the digits 1 0 .. 0 -/
theorem decVal_zeros (k acc : Nat) : ((List.replicate k [48]).flatten).foldl (fun acc c => acc * 10 + (c - 48)) acc = acc * 10 ^ k := by
  induction k generalizing acc with
  | zero => simp
  | succ k ih =>
    rw [List.replicate_succ, List.flatten_cons, List.foldl_append, List.foldl_cons, List.foldl_nil, ih, Nat.pow_succ]
    simp [Nat.mul_comm, Nat.mul_left_comm, Nat.mul_assoc]
theorem decVal_ten (k : Nat) : decVal ([49] ++ (List.replicate k [48]).flatten) = 10 ^ k := by
  unfold decVal
  rw [List.foldl_append]
  show List.foldl _ 1 _ = _
  rw [decVal_zeros, Nat.one_mul]
theorem isDec_ten (k : Nat) : isDec ([49] ++ (List.replicate k [48]).flatten) = true := by
  unfold isDec
  rw [List.all_append]
  simp
theorem len_zeros (k : Nat) : ((List.replicate k [48]).flatten : List Nat).length = k := by
  simp
/-! what stays -/
/-- the script at 0, the town at 1, of so many -/
structure Tw (ns : List Int) (k : Nat) (S : Sto) : Prop where
  sc : S[0]? = some (.ro (ns.map D.int))
  tn : ∃ ys, S[1]? = some (.lst ys) ∧ ys.length = k
/-- all else is kept -/
def Kp (S S' : Sto) : Prop := ∀ j o, 2 ≤ j → S[j]? = some o → S'[j]? = some o
theorem Kp.refl (S : Sto) : Kp S S := fun _ _ _ h => h
theorem Kp.trans {A B C : Sto} (h : Kp A B) (k : Kp B C) : Kp A C := fun j o l e => k j o l (h j o l e)
theorem Kp.app (S : Sto) (o : List O) : Kp S (S ++ o) := fun j x _ e => by
  have : j < S.length := (List.getElem?_eq_some_iff.mp e).1
  rw [List.getElem?_append_left this]; exact e
theorem Tw.len {ns : List Int} {k : Nat} {S : Sto} (h : Tw ns k S) : 2 ≤ S.length := by
  obtain ⟨ys, e, _⟩ := h.tn
  have := (List.getElem?_eq_some_iff.mp e).1
  omega
theorem Tw.app {ns : List Int} {k : Nat} {S : Sto} (h : Tw ns k S) (o : List O) : Tw ns k (S ++ o) := by
  obtain ⟨ys, e, l⟩ := h.tn
  have := h.len
  exact ⟨by rw [List.getElem?_append_left (by omega)]; exact h.sc, ys, by rw [List.getElem?_append_left (by omega)]; exact e, l⟩
theorem Tw.put {ns : List Int} {k : Nat} {S : Sto} (h : Tw ns k S) {ys : List D} (l : ys.length = k + 1) : Tw ns (k + 1) (S.set 1 (.lst ys)) := by
  have := h.len
  exact ⟨by rw [List.getElem?_set_ne (by decide)]; exact h.sc, ys, by rw [List.getElem?_set_self (by omega)], l⟩
theorem Kp.put (S : Sto) (o : O) : Kp S (S.set 1 o) := fun j x l e => by
  rw [List.getElem?_set_ne (by omega)]; exact e
theorem at?_mem {α : Type} {xs : List α} {i : Int} (h0 : 0 ≤ i) (h1 : i < xs.length) : ∃ x, at? xs i = some x ∧ x ∈ xs := by
  have h : i.toNat < xs.length := by omega
  refine ⟨xs[i.toNat], ?_, List.getElem_mem h⟩
  unfold at?
  rw [if_pos h0]
  exact List.getElem?_eq_getElem h
theorem wp_inT {B : Bool → Sto → Prop} {E' : Exn → Sto → Prop} {S : Sto} {a : D} {xs : List D} {k : Bool} (e : inSeq a xs = some k) (h : B k S) : Wp (cmp2 .isIn a (.tup xs) S) B E' := by
  simp only [cmp2, inD, seqOf, e]; exact h
theorem dataOf_ints {S : Sto} {a n : Nat} {ns : List Int} (e : S[a]? = some (.ro (ns.map D.int))) : dataOf S (n + 2) (.ref a) = some (.lst (ns.map T.int)) := by
  have : ∀ ns : List Int, datasOf S (n + 1) (ns.map D.int) = some (ns.map T.int) := fun ns => by
    induction ns with
    | nil => simp [datasOf]
    | cons x xs ih => simp [datasOf, dataOf, ih]
  simp only [dataOf, e, this, Option.map_some]
theorem wp_eqnil {B : Bool → Sto → Prop} {E' : Exn → Sto → Prop} {S : Sto} {a b : Nat} {ns : List Int} (e : S[a]? = some (.ro (ns.map D.int))) (e' : S[b]? = some (.lst [])) (h : B (decide (ns = [])) S) : Wp (cmp2 .eq (.ref a) (.ref b) S) B E' := by
  have e2 : dataOf S 60 (.ref b) = some (.lst []) := by simp only [dataOf, e', datasOf, Option.map_some]
  have e1 : dataOf S 60 (.ref a) = some (.lst (ns.map T.int)) := dataOf_ints e
  simp only [cmp2, eqD_eq, e1, e2, T.eqv]
  cases ns with
  | nil => simpa [T.eqvs, Wp] using h
  | cons x xs => simpa [T.eqvs, Wp] using h
theorem datasOf_ints (S : Sto) (n : Nat) : ∀ ns : List Int, datasOf S (n + 1) (ns.map D.int) = some (ns.map T.int)
  | [] => by simp [datasOf]
  | x :: xs => by simp [datasOf, dataOf, datasOf_ints S n xs]
theorem eqvs_ints : ∀ xs ys : List Int, T.eqvs (xs.map T.int) (ys.map T.int) = decide (xs = ys)
  | [], [] => by simp [T.eqvs]
  | [], _ :: _ => by simp [T.eqvs]
  | _ :: _, [] => by simp [T.eqvs]
  | x :: xs, y :: ys => by
    simp only [List.map_cons, T.eqvs, T.eqv, eqvs_ints xs ys]
    by_cases h : x = y <;> by_cases k : xs = ys <;> simp [h, k]
theorem wp_eqints {B : Bool → Sto → Prop} {E' : Exn → Sto → Prop} {S : Sto} {a b : Nat} {xs ys : List Int} (e : S[a]? = some (.lst (xs.map D.int))) (e' : S[b]? = some (.lst (ys.map D.int))) (h : B (decide (xs = ys)) S) : Wp (cmp2 .eq (.ref a) (.ref b) S) B E' := by
  have e1 : dataOf S 60 (.ref a) = some (.lst (xs.map T.int)) := by simp only [dataOf, e, datasOf_ints, Option.map_some]
  have e2 : dataOf S 60 (.ref b) = some (.lst (ys.map T.int)) := by simp only [dataOf, e', datasOf_ints, Option.map_some]
  simp only [cmp2, eqD_eq, e1, e2, T.eqv, eqvs_ints]
  exact h
theorem get_last (S : Sto) (o : O) : (S ++ [o])[S.length]? = some o := by
  rw [List.getElem?_append_right (Nat.le_refl _), Nat.sub_self]; rfl
theorem wp_eqT {B : Bool → Sto → Prop} {E' : Exn → Sto → Prop} {S : Sto} {a b : D} {x y : T} (e : dataOf S 60 a = some x) (e' : dataOf S 60 b = some y) (h : B (T.eqv x y) S) : Wp (cmp2 .eq a b S) B E' := by
  simp only [cmp2, eqD_eq, e, e']; exact h
theorem get_app {S : Sto} {i : Nat} {o : O} (h : S[i]? = some o) (T : Sto) : (S ++ T)[i]? = some o := by
  have : i < S.length := (List.getElem?_eq_some_iff.mp h).1
  rw [List.getElem?_append_left this]; exact h
/-- a sign with an int -/
theorem wp_eqsi {B : Bool → Sto → Prop} {E' : Exn → Sto → Prop} {S : Sto} {s t : List Nat} {i j : Int} (h : B (decide (s = t ∧ i = j)) S) : Wp (cmp2 .eq (.tup [.str s, .int i]) (.tup [.str t, .int j]) S) B E' := by
  have e : decide (s = t ∧ i = j) = ((s == t) && ((i == j) && true)) := by
    by_cases a : s = t <;> by_cases b : i = j <;> simp [a, b]
  rw [e] at h
  simp only [cmp2, eqD_eq, dataOf, datasOf, T.eqv, T.eqvs, Option.map_some]; exact h
end Bv
namespace Bv
/-- another object changed -/
theorem Tw.keep {ns : List Int} {k : Nat} {S : Sto} (h : Tw ns k S) {a : Nat} (ha : 2 ≤ a) (o : O) : Tw ns k (S.set a o) := by
  obtain ⟨ys, e, l⟩ := h.tn
  exact ⟨by rw [List.getElem?_set_ne (by omega)]; exact h.sc, ys, by rw [List.getElem?_set_ne (by omega)]; exact e, l⟩
end Bv
end
section
/-! Mir: what the program computes, in plain Lean -/
namespace Mir
open Bv
/-! ### numbers -/
structure Nu where
  f : Int
  s : Nat
  deriving DecidableEq, Inhabited
inductive Flt where
  | empty | kind | divisor | exponent | root | long | setting | deep | sign | steps | quit | function
  deriving DecidableEq, Inhabited
def Nu.d (a : Nu) : D := .tup [.int a.f, .int a.s]
def ten (n : Nat) : Int := 10 ^ n
def atS (f : Int) (s o : Nat) : Int := if s ≤ o then f * 10 ^ (o - s) else Int.tdiv f (10 ^ (s - o))
def fit (f : Int) (s : Nat) : Except Flt Nu := if f.natAbs < 10 ^ 299 ∧ s ≤ 60 then .ok ⟨f, s⟩ else .error .long
def sumOf (a b : Nu) (m : Int) : Except Flt Nu := fit (atS a.f a.s (max a.s b.s) + m * atS b.f b.s (max a.s b.s)) (max a.s b.s)
def proOf (a b : Nu) (k : Nat) : Except Flt Nu := fit (atS (a.f * b.f) (a.s + b.s) (min (a.s + b.s) (max (max k a.s) b.s))) (min (a.s + b.s) (max (max k a.s) b.s))
def quoOf (a b : Nu) (k : Nat) : Except Flt Nu := if b.f = 0 then .error .divisor else fit (Int.tdiv (a.f * 10 ^ (k + b.s)) (b.f * 10 ^ a.s)) k
def resOf (a b : Nu) (k : Nat) : Except Flt Nu := match quoOf a b k with
  | .error e => .error e
  | .ok q => fit (atS a.f a.s (max (k + b.s) a.s) - atS (q.f * b.f) (q.s + b.s) (max (k + b.s) a.s)) (max (k + b.s) a.s)
def powOf (a b : Nu) (k : Nat) : Except Flt Nu :=
  if 0 < b.f.natAbs % 10 ^ b.s ∨ 99 < b.f.natAbs / 10 ^ b.s then .error .exponent
  else if 0 ≤ b.f then fit (atS (a.f ^ (b.f.natAbs / 10 ^ b.s)) (b.f.natAbs / 10 ^ b.s * a.s) (min (b.f.natAbs / 10 ^ b.s * a.s) (max k a.s))) (min (b.f.natAbs / 10 ^ b.s * a.s) (max k a.s))
  else if a.f = 0 then .error .divisor else fit (Int.tdiv (10 ^ (k + b.f.natAbs / 10 ^ b.s * a.s)) (a.f ^ (b.f.natAbs / 10 ^ b.s))) k
/-- are a power's figures few enough for the model -/
def powOk (a b : Nu) : Bool := decide (0 < b.f.natAbs % 10 ^ b.s) || (decide (99 < b.f.natAbs / 10 ^ b.s) || (decide (b.f.natAbs / 10 ^ b.s * a.s ≤ 1990) && (decide (0 ≤ b.f) || decide ((a.f ^ (b.f.natAbs / 10 ^ b.s)).natAbs < 2 ^ 8000))))
/-- the root by halving, as the program does -/
def sqUp (n : Nat) : Nat → Nat → Nat
  | 0, h => h
  | k + 1, h => if h * h ≤ n then sqUp n k (h * 2) else h
def sqIn (n : Nat) : Nat → Nat → Nat → Nat
  | 0, l, _ => l
  | k + 1, l, h => if 1 < h - l then (if (l + h) / 2 * ((l + h) / 2) ≤ n then sqIn n k ((l + h) / 2) h else sqIn n k l ((l + h) / 2)) else l
@[irreducible] def sqr (n : Nat) : Nat := sqIn n (n.log2 + 3) 0 (sqUp n (n.log2 + 3) 1)
def rooOf (a : Nu) (k : Nat) : Except Flt Nu := if a.f < 0 then .error .root else fit (sqr (a.f.toNat * 10 ^ (2 * max k a.s - a.s))) (max k a.s)
/-- -1, 0, 1 -/
def ordOf (a b : Nu) : Int := (if b.f * 10 ^ a.s < a.f * 10 ^ b.s then 1 else 0) - (if a.f * 10 ^ b.s < b.f * 10 ^ a.s then 1 else 0)
def lenOf (a : Nu) : Nat := max (max 1 a.s) (if a.f = 0 then 1 else (decOf a.f.natAbs).length)
/-! ### bases -/
def dg (d : Nat) : Nat := if d < 10 then 48 + d else 55 + d
/-- the figures of a number, k at most -/
def digs (b : Nat) : Nat → Nat → List Nat
  | 0, n => [n % b]
  | k + 1, n => if b ≤ n then digs b k (n / b) ++ [n % b] else [n % b]
@[irreducible] def digits (b n : Nat) : List Nat := digs b (n.log2 + 1) n
/-- how many figures behind the point, k at most -/
def manyIn (b s : Nat) : Nat → Nat → Nat
  | 0, m => m
  | k + 1, m => if b ^ m < 10 ^ s then manyIn b s k (m + 1) else m
@[irreducible] def many (b s : Nat) : Nat := manyIn b s 250 0
@[irreducible] def numT (a : Nu) (b : Nat) : List Nat :=
  (if a.f < 0 then [45] else []) ++ (digits b (a.f.natAbs / 10 ^ a.s)).map dg ++
  (if a.s = 0 then [] else 46 :: (let w := digits b (a.f.natAbs % 10 ^ a.s * b ^ many b a.s / 10 ^ a.s); List.replicate (many b a.s - w.length) 48 ++ w.map dg))
/-- 0 to 9, A to F -/
def figs : List Nat := [48, 49, 50, 51, 52, 53, 54, 55, 56, 57, 65, 66, 67, 68, 69, 70]
def isFig (c : Nat) : Bool := decide (c ∈ figs)
def figV (c : Nat) : Nat := if c < 58 then c - 48 else c - 55
def worth (b : Nat) (t : List Nat) : Nat := t.foldl (fun m c => m * b + figV c) 0
def numOf (w p : List Nat) (b : Nat) : Except Flt Nu := if 60 < p.length then .error .long else fit ((worth b w * 10 ^ p.length + worth b p * 10 ^ p.length / b ^ p.length : Nat) : Int) p.length
/-! ### rows -/
inductive Itm where
  | n (a : Nu) | t (s : List Nat)
  deriving DecidableEq, Inhabited
def Itm.d : Itm → D
  | .n a => a.d
  | .t s => .str s
def letters : List Nat := (List.range 26).map (97 + ·) ++ (List.range 26).map (65 + ·)
def figLen : List Nat → Nat
  | [] => 0
  | c :: r => if isFig c then figLen r + 1 else 0
/-- how long a number is -/
def numLen (t : List Nat) : Option Nat :=
  let u := if t.head? = some 95 then 1 else 0
  let n := figLen (t.drop u)
  if n = 0 then none else match t.drop (u + n) with
    | 46 :: c :: r => if isFig c then some (u + n + 1 + figLen (c :: r)) else some (u + n)
    | _ => some (u + n)
/-- how long a text in brackets is; k: those open -/
def txtLen : Int → List Nat → Option Nat
  | _, [] => none
  | k, c :: r =>
    let k' := k + (if c = 91 then 1 else 0) - (if c = 93 then 1 else 0)
    if k' = 0 then some 1 else (txtLen k' r).map (· + 1)
def simple : List Nat := [43, 45, 42, 47, 35, 94, 118, 100, 114, 99, 122, 90, 88, 107, 105, 111, 75, 73, 79, 120, 112, 110, 102, 113]
def named : List Nat := [115, 108, 83, 76, 58, 59]
def tests : List Nat := [60, 62, 61]
def signLen (t : List Nat) : Option Nat := match t with
  | [] => none
  | c :: r => if isFig c ∨ c = 95 then numLen t else if c = 91 then txtLen 0 t else if c ∈ simple then some 1 else
    let u := if c = 33 then 1 else 0
    match t.drop u with
    | x :: y :: _ => if x ∈ (if c = 33 then tests else named ++ tests) ∧ y ∈ letters then some (u + 2) else none
    | _ => none
def skip : List Nat → List Nat
  | [] => []
  | c :: r => if c = 32 then skip r else c :: r
structure Mach where
  stack : List Itm := []
  scale : Nat
  bi : Nat := 10
  bo : Nat := 10
  regs : List (Nat × List Itm) := []
  arrs : List (Nat × List (Int × Itm)) := []
  printed : List (List Nat) := []
  steps : Nat := 0
def look {α : Type} (d : α) (k : Nat) : List (Nat × α) → α
  | [] => d
  | (j, v) :: r => if j = k then v else look d k r
def put {α : Type} (k : Nat) (v : α) : List (Nat × α) → List (Nat × α)
  | [] => [(k, v)]
  | (j, w) :: r => if j = k then (j, v) :: r else (j, w) :: put k v r
def lookI (k : Int) : List (Int × Itm) → Option Itm
  | [] => none
  | (j, v) :: r => if j = k then some v else lookI k r
def putI (k : Int) (v : Itm) (l : List (Int × Itm)) : List (Int × Itm) := if (l.any fun p => p.1 == k) = true then l.map (fun p => if (p.1 == k) = true then (p.1, v) else p) else l ++ [(k, v)]
def Mach.reg (M : Mach) (c : Nat) : List Itm := look [] c M.regs
def Mach.arr (M : Mach) (c : Nat) : List (Int × Itm) := look [] c M.arrs
/-- what comes: on, with a text to be run or none, or a fault; lines printed stay -/
inductive Out (α : Type) where
  | ok (M : Mach) (a : α) | err (f : Flt) (p : List (List Nat)) | bad
def Mach.pop1 (M : Mach) : Option (Itm × Mach) := match M.stack.getLast? with
  | some x => some (x, { M with stack := M.stack.dropLast })
  | none => none
def Mach.pop2 (M : Mach) : Option (Itm × Itm × Mach) := match M.pop1 with
  | some (y, M1) => (match M1.pop1 with
    | some (x, M2) => some (x, y, M2)
    | none => none)
  | none => none
def Mach.push (M : Mach) (x : Itm) : Mach := { M with stack := M.stack ++ [x] }
def Itm.nu? : Itm → Option Nu
  | .n a => some a
  | .t _ => none
/-- a whole worth within bounds -/
def wholeOf (a : Nu) (lo hi : Int) : Option Int := if a.f % 10 ^ a.s = 0 ∧ lo ≤ a.f / 10 ^ a.s ∧ a.f / 10 ^ a.s ≤ hi then some (a.f / 10 ^ a.s) else none
def opOf (c : Nat) (a b : Nu) (k : Nat) : Except Flt Nu := if c = 43 then sumOf a b 1 else if c = 45 then sumOf a b (-1) else if c = 42 then proOf a b k else if c = 47 then quoOf a b k else if c = 35 then resOf a b k else powOf a b k
def splitPt : List Nat → List Nat × List Nat
  | [] => ([], [])
  | c :: r => if c = 46 then ([], r) else ((c :: (splitPt r).1), (splitPt r).2)
/-- the number that a sign writes -/
def readS (t : List Nat) (b : Nat) : Except Flt Nu :=
  let u := if t.head? = some 95 then t.drop 1 else t
  match numOf (splitPt u).1 (splitPt u).2 b with
  | .error e => .error e
  | .ok a => .ok (if t.head? = some 95 then ⟨0 - a.f, a.s⟩ else a)
def lineOf (b : Nat) : Itm → List Nat
  | .n a => numT a b
  | .t s => s
section
variable (M : Mach)
def doRead (t : List Nat) : Out (Option (List Nat)) := match readS t M.bi with
  | .ok a => .ok (M.push (.n a)) none
  | .error e => .err e M.printed
def doTest (t : List Nat) : Out (Option (List Nat)) := match M.pop2 with
  | none => .err .empty M.printed
  | some (.n a, .n b, M1) =>
    let found : Nat := if ordOf b a = -1 then 60 else if ordOf b a = 0 then 61 else 62
    let so := (decide (found = t.getD (t.length - 2) 0)) != (decide (t.head? = some 33))
    match so, (M1.reg (t.getLast?.getD 0)).getLast? with
    | true, some (.t s) => .ok M1 (some s)
    | _, _ => .ok M1 none
  | some (_, _, M1) => .err .kind M.printed
def doName (c l : Nat) : Out (Option (List Nat)) :=
  if c = 108 then .ok (M.push ((M.reg l).getLast?.getD (.n ⟨0, 0⟩))) none
  else if c = 76 then (match (M.reg l).getLast? with
    | none => .err .empty M.printed
    | some x => .ok ({ M with regs := put l (M.reg l).dropLast M.regs }.push x) none)
  else if c = 115 ∨ c = 83 then (match M.pop1 with
    | none => .err .empty M.printed
    | some (x, M1) => .ok { M1 with regs := put l ((if c = 115 then (M.reg l).dropLast else M.reg l) ++ [x]) M.regs } none)
  else if c = 58 then (match M.pop2 with
    | none => .err .empty M.printed
    | some (_, .t _, _) => .err .kind M.printed
    | some (x, .n p, M1) => (match wholeOf p 0 999 with
      | none => .err .setting M.printed
      | some k => .ok { M1 with arrs := put l (putI k x (M.arr l)) M.arrs } none))
  else (match M.pop1 with
    | none => .err .empty M.printed
    | some (.t _, _) => .err .kind M.printed
    | some (.n p, M1) => (match wholeOf p 0 999 with
      | none => .err .setting M.printed
      | some k => .ok (M1.push ((lookI k (M.arr l)).getD (.n ⟨0, 0⟩))) none))
def doReckon (c : Nat) : Out (Option (List Nat)) := match M.pop2 with
  | none => .err .empty M.printed
  | some (.n a, .n b, M1) => if c = 94 ∧ powOk a b = false then .bad else (match opOf c a b M.scale with
    | .ok x => .ok (M1.push (.n x)) none
    | .error e => .err e M.printed)
  | some (_, _, _) => .err .kind M.printed
def doSet (c : Nat) : Out (Option (List Nat)) := match M.pop1 with
  | none => .err .empty M.printed
  | some (.t _, _) => .err .kind M.printed
  | some (.n a, M1) => (match wholeOf a (if c = 107 then 0 else 2) (if c = 107 then 20 else 16) with
    | none => .err .setting M.printed
    | some k => .ok (if c = 107 then { M1 with scale := k.toNat } else if c = 105 then { M1 with bi := k.toNat } else { M1 with bo := k.toNat }) none)
def doShow (c : Nat) : Out (Option (List Nat)) :=
  if c = 113 then .err .quit M.printed
  else if c = 102 then .ok { M with printed := M.printed ++ M.stack.reverse.map (lineOf M.bo) } none
  else (match M.pop1 with
    | none => .err .empty M.printed
    | some (x, M1) => .ok { M1 with printed := M.printed ++ [lineOf M.bo x], stack := if c = 112 then M.stack else M1.stack } none)
def doStir (c : Nat) : Out (Option (List Nat)) :=
  if c = 99 then .ok { M with stack := [] } none
  else if c = 122 then .ok (M.push (.n ⟨M.stack.length, 0⟩)) none
  else if c = 100 then (match M.pop1 with
    | none => .err .empty M.printed
    | some (x, M1) => .ok ((M1.push x).push x) none)
  else if c = 114 then (match M.pop2 with
    | none => .err .empty M.printed
    | some (x, y, M1) => .ok ((M1.push y).push x) none)
  else if c = 118 then (match M.pop1 with
    | none => .err .empty M.printed
    | some (.t _, _) => .err .kind M.printed
    | some (.n a, M1) => (match rooOf a M.scale with
      | .ok x => .ok (M1.push (.n x)) none
      | .error e => .err e M.printed))
  else if c = 90 then (match M.pop1 with
    | none => .err .empty M.printed
    | some (.t s, M1) => .ok (M1.push (.n ⟨s.length, 0⟩)) none
    | some (.n a, M1) => .ok (M1.push (.n ⟨lenOf a, 0⟩)) none)
  else if c = 88 then (match M.pop1 with
    | none => .err .empty M.printed
    | some (.t _, M1) => .ok (M1.push (.n ⟨0, 0⟩)) none
    | some (.n a, M1) => .ok (M1.push (.n ⟨a.s, 0⟩)) none)
  else .ok (M.push (.n ⟨if c = 75 then M.scale else if c = 73 then M.bi else M.bo, 0⟩)) none
def doSign (t : List Nat) : Out (Option (List Nat)) := match t with
  | [] => .err .sign M.printed
  | c :: r => if isFig c ∨ c = 95 then doRead M t
    else if c = 91 then .ok (M.push (.t r.dropLast)) none
    else if c ∈ [60, 62, 61, 33] then doTest M t
    else if c ∈ named then doName M c (r.headD 0)
    else if c = 120 then (match M.pop1 with
      | none => .err .empty M.printed
      | some (.t s, M1) => .ok M1 (some s)
      | some (.n a, M1) => .ok (M1.push (.n a)) none)
    else if c ∈ [43, 45, 42, 47, 35, 94] then doReckon M c
    else if c ∈ [107, 105, 111] then doSet M c
    else if c ∈ [112, 110, 102, 113] then doShow M c
    else doStir M c
end
/-- rows that wait, the last first -/
def runLeft : Nat → Mach → List (List Nat) → Option (List (List Nat) × Option Flt)
  | 0, _, _ => none
  | _ + 1, M, [] => some (M.printed, none)
  | k + 1, M, t :: left => if t = [] then runLeft k M left else match signLen t with
    | none => some (M.printed, some .sign)
    | some n => if M.steps = 3000 then some (M.printed, some .steps) else match doSign { M with steps := M.steps + 1 } (t.take n) with
      | .bad => none
      | .err .quit p => some (p, none)
      | .err f p => some (p, some f)
      | .ok M1 more => if skip (t.drop n) = [] then (match more with
          | none => runLeft k M1 left
          | some s => if 40 < left.length then some (M1.printed, some .deep) else runLeft k M1 (skip s :: left))
        else (match more with
          | none => runLeft k M1 (skip (t.drop n) :: left)
          | some s => if 40 < left.length + 1 then some (M1.printed, some .deep) else runLeft k M1 (skip s :: skip (t.drop n) :: left))
@[irreducible] def fuel : Nat := 7000
@[irreducible] def runRow (row : List Nat) (k : Nat) : Option (List (List Nat) × Option Flt) := runLeft fuel { scale := k } [skip row]
def Flt.name : Flt → String
  | .empty => "empty" | .kind => "kind" | .divisor => "divisor" | .exponent => "exponent" | .root => "root" | .long => "long" | .setting => "setting" | .deep => "deep" | .sign => "sign" | .steps => "steps" | .quit => "quit" | .function => "function"
def codes (s : String) : List Nat := s.toList.map Char.toNat
end Mir
end
section
namespace K32
open Bv
open Mir (Nu Flt Itm Mach)
local macro_rules
  | `(tactic| walk_at "wp") => `(tactic| repeat (first
    | with_reducible refine swp_cons ?_
    | with_reducible refine swp_nil ?_
    | with_reducible refine swp_set ?_
    | with_reducible refine swp_ret ?_
    | with_reducible refine swp_retN ?_
    | with_reducible refine swp_if ?_
    | with_reducible refine swp_expr ?_
    | with_reducible refine swp_par ?_
    | with_reducible refine swp_unp ?_
    | with_reducible refine swp_pass ?_
    | with_reducible refine swp_aug (by with_unfolding_all rfl) ?_
    | with_reducible refine ite_t ?_
    | with_reducible refine ite_f ?_
    | with_reducible refine wp_var (by with_unfolding_all rfl) ?_
    | with_reducible refine wp_con ?_
    | with_reducible refine wp_op ?_
    | with_reducible refine wp_cons ?_
    | with_reducible refine wp_nil ?_
    | with_reducible refine wp_ix ?_
    | with_reducible refine wp_call0 ?_
    | with_reducible refine wp_call ?_
    | with_reducible refine wp_callK ?_
    | with_reducible refine wp_prim ?_
    | with_reducible refine wp_meth ?_
    | with_reducible refine wp_cmp ?_
    | with_reducible refine wp_cmpT ?_
    | with_reducible refine wp_chain ?_
    | with_reducible refine wp_chainT ?_
    | with_reducible refine wp_and ?_
    | with_reducible refine wp_or ?_
    | with_reducible refine wp_not ?_
    | with_reducible refine wp_andT ?_
    | with_reducible refine wp_orT ?_
    | with_reducible refine wp_notT ?_
    | with_reducible refine wp_ite ?_
    | with_reducible refine wp_sl ?_
    | with_reducible refine wp_pn ?_
    | with_reducible refine wp_negc ?_
    | with_reducible refine wp_tup ?_
    | with_reducible refine And.intro (Nat.le_of_ble_eq_true (by with_unfolding_all rfl)) ?_
    | with_reducible refine wp_lst ?_
    | with_reducible refine wp_addi ?_
    | with_reducible refine wp_subi ?_
    | with_reducible refine wp_lt ?_
    | with_reducible refine wp_le ?_
    | with_reducible refine wp_gt ?_
    | with_reducible refine wp_ge ?_
    | with_reducible refine wp_ne ?_
    | with_reducible refine wp_eqi ?_
    | with_reducible refine wp_eqp ?_
    | with_reducible refine wp_truthb ?_
    | with_reducible refine wp_truthi ?_
    | with_reducible refine wp_max2 ?_
    | with_reducible refine wp_max3 ?_
    | with_reducible refine wp_min2 ?_
    | with_reducible refine wp_abs ?_
    | with_reducible refine wp_lent ?_
    | with_reducible refine wp_ixt (by with_unfolding_all rfl) ?_
    | with_reducible refine wp_isint (by with_unfolding_all decide) ?_
    | with_reducible refine wp_istup (by with_unfolding_all decide) ?_
    | with_reducible refine wp_isstr (by with_unfolding_all decide) ?_
    | with_reducible refine wt_var ?_
    | with_reducible refine wt_con ?_
    | with_reducible refine wt_ix ?_
    | with_reducible refine wt_prim ?_
    | with_reducible refine wt_call ?_
    | with_reducible refine wt_callK ?_
    | with_reducible refine wt_op ?_
    | with_reducible refine pt_var ?_
    | with_reducible refine pt_con ?_
    | with_reducible refine pt_op ?_
    | with_reducible refine wp_fld ?_
    | with_reducible refine wt_fld ?_
    | with_reducible refine pt_fld ?_
    | with_reducible refine pt_neg ?_
    | with_reducible refine wp_getF (by assumption) (by with_unfolding_all rfl) ?_
    | with_reducible refine wp_mcall ?_
    | with_reducible refine wt_mcall ?_
    | with_reducible refine wp_cls (by assumption) ?_
    | with_reducible refine ex_look (by with_unfolding_all rfl) ?_
    | with_reducible refine wp_rev ?_
    | with_reducible refine wp_dget2 ?_
    | with_reducible refine wp_dget1 ?_
    | with_reducible refine wp_isD (by assumption) ?_
    | with_reducible refine swp_asgF ?_
    | with_reducible refine swp_asgS ?_
    | with_reducible refine swp_augF ?_
    | with_reducible refine wp_auga ?_
    | with_reducible refine wp_inS ?_
    | with_reducible refine wp_ninS ?_
    | with_reducible refine wp_eqs ?_
    | with_reducible refine swp_rai0 ?_
    | with_reducible refine swp_rai1 ?_
    | with_reducible refine wp_dct ?_
    | with_reducible refine wp_recvS (by with_unfolding_all rfl) ?_
    | with_reducible refine wp_callV ?_
    | with_reducible refine wp_callVK ?_
    | with_reducible refine wp_xf (by with_unfolding_all rfl) ?_
    | with_reducible refine swp_tryRet ?_
    | with_reducible refine wp_xis (by with_unfolding_all rfl) ?_
    | with_reducible refine wt_xis ?_
    | with_reducible refine wp_xcall (by with_unfolding_all rfl) ?_))
  | `(tactic| walk_at "wq") => `(tactic| (walk_at "wp"; repeat ((first
    | with_reducible refine ite_tt (by with_unfolding_all decide) ?_
    | with_reducible refine ite_ff (by with_unfolding_all decide) ?_); walk_at "wp")))

abbrev i_is_whole : Nat := 0
abbrev i_statement_text : Nat := 1
abbrev i_tree_text : Nat := 2
abbrev i_run_of : Nat := 3
abbrev i_word_end : Nat := 4
abbrev i_words_of : Nat := 5
abbrev i_is_marked : Nat := 6
abbrev i_read : Nat := 7
abbrev i_are_statements : Nat := 8
abbrev i_is_statement : Nat := 9
abbrev i_is_shallow : Nat := 10
abbrev i_is_tree : Nat := 11
abbrev i_need_tree : Nat := 12
abbrev i_run_in : Nat := 13
abbrev i_need_scales : Nat := 14
abbrev i_unlike : Nat := 15
abbrev i_settled : Nat := 16
abbrev i__law_cell_at : Nat := 17
abbrev i__law_mixed : Nat := 18
abbrev i__law_draw : Nat := 19
abbrev i__law_pick : Nat := 20
abbrev i__law_which : Nat := 21
abbrev i__law_ask : Nat := 22
abbrev i_law : Nat := 23
abbrev i_NoNumber__init__ : Nat := 24
abbrev i_NoProgram__init__ : Nat := 25
abbrev i_Stop__init__ : Nat := 26
abbrev i_Reader_init : Nat := 27
abbrev i_Reader_next : Nat := 28
abbrev i_Reader_need : Nat := 29
abbrev i_Reader_need_kind : Nat := 30
abbrev i_Reader_statements : Nat := 31
abbrev i_Reader_statement : Nat := 32
abbrev i_State_init : Nat := 33
abbrev i_State_each : Nat := 34
abbrev i_State_count : Nat := 35
abbrev i_State_one : Nat := 36
abbrev i_State_guarded : Nat := 37
abbrev i_State_fault_of : Nat := 38
abbrev i_mk_Reader : Nat := 39
abbrev i_mk_State : Nat := 40
def c_FIGURES : Int := 100000000000000000000000000000000000000000000000000000000000000000000000000000000000000000000000000000000000000000000000000000000000000000000000000000000000000000000000000000000000000000000000000000000000000000000000000000000000000000000000000000000000000000000000000000000000000000000000000000000000
abbrev b_is_whole : Bv.St := St.cons (St.ret (E.and (E.prim (Pr.isinst) (E.cons (E.var 0) (E.cons (E.con (D.ty 0)) (E.nil)))) (E.and (E.not (E.prim (Pr.isinst) (E.cons (E.var 0) (E.cons (E.con (D.ty 1)) (E.nil))))) (E.chain (Cm.le) (Cm.le) (E.var 1) (E.var 0) (E.var 2))))) (St.nil)
abbrev b_statement_text : Bv.St := St.cons (St.unpS [1] 2 (E.var 0)) (St.cons (St.ifS (E.cmp (Cm.eq) (E.var 1) (E.con (D.str [115, 101, 116]))) (St.cons (St.ret (E.op (Op2.add) (E.op (Op2.add) (E.op (Op2.add) (E.con (D.str [])) (E.bad)) (E.con (D.str [32, 61, 32]))) (E.bad))) (St.nil)) (St.nil)) (St.cons (St.ifS (E.cmp (Cm.eq) (E.var 1) (E.con (D.str [112, 114, 105, 110, 116]))) (St.cons (St.ret (E.op (Op2.add) (E.op (Op2.add) (E.con (D.str [])) (E.con (D.str [112, 114, 105, 110, 116, 32]))) (E.bad))) (St.nil)) (St.nil)) (St.cons (St.ifS (E.cmp (Cm.eq) (E.var 1) (E.con (D.str [115, 97, 121]))) (St.cons (St.ret (E.op (Op2.add) (E.op (Op2.add) (E.op (Op2.add) (E.con (D.str [])) (E.con (D.str [115, 97, 121, 32, 34]))) (E.ix (E.var 2) (E.con (D.int 0)))) (E.con (D.str [34])))) (St.nil)) (St.nil)) (St.cons (St.ifS (E.cmp (Cm.eq) (E.var 1) (E.con (D.str [119, 104, 105, 108, 101]))) (St.cons (St.ret (E.op (Op2.add) (E.op (Op2.add) (E.op (Op2.add) (E.op (Op2.add) (E.con (D.str [])) (E.con (D.str [119, 104, 105, 108, 101, 32]))) (E.bad)) (E.con (D.str [32]))) (E.bad))) (St.nil)) (St.nil)) (St.cons (St.ifS (E.cmp (Cm.eq) (E.var 1) (E.con (D.str [105, 102]))) (St.cons (St.set 3 (E.ite (E.cmp (Cm.ne) (E.ix (E.var 2) (E.con (D.int 2))) (E.tup (E.nil))) (E.op (Op2.add) (E.op (Op2.add) (E.con (D.str [])) (E.con (D.str [32, 101, 108, 115, 101, 32]))) (E.bad)) (E.con (D.str [])))) (St.cons (St.ret (E.op (Op2.add) (E.op (Op2.add) (E.op (Op2.add) (E.op (Op2.add) (E.op (Op2.add) (E.con (D.str [])) (E.con (D.str [105, 102, 32]))) (E.bad)) (E.con (D.str [32]))) (E.bad)) (E.var 3))) (St.nil))) (St.nil)) (St.cons (St.unp [4, 5, 6, 7, 8] (E.var 2)) (St.cons (St.set 9 (E.ite (E.cmp (Cm.ne) (E.var 6) (E.tup (E.nil))) (E.lst (E.cons (E.op (Op2.add) (E.con (D.str [97, 117, 116, 111, 32])) (E.meth (Mt.join) (E.con (D.str [44, 32])) (E.cons (E.var 6) (E.nil)))) (E.nil))) (E.lst (E.nil)))) (St.cons (St.expr (E.meth (Mt.extend) (E.var 9) (E.cons (E.comp false (Tg.name 11) [11] (E.var 7) (E.con (D.bl true)) (E.call i_statement_text (E.cons (E.var 11) (E.nil)) [])) (E.nil)))) (St.cons (St.set 10 (E.meth (Mt.join) (E.con (D.str [59, 32])) (E.cons (E.op (Op2.add) (E.var 9) (E.lst (E.cons (E.op (Op2.add) (E.con (D.str [114, 101, 116, 117, 114, 110, 32])) (E.bad)) (E.nil)))) (E.nil)))) (St.cons (St.ret (E.op (Op2.add) (E.op (Op2.add) (E.op (Op2.add) (E.op (Op2.add) (E.op (Op2.add) (E.op (Op2.add) (E.op (Op2.add) (E.con (D.str [])) (E.con (D.str [100, 101, 102, 105, 110, 101, 32]))) (E.var 4)) (E.con (D.str [40]))) (E.meth (Mt.join) (E.con (D.str [44, 32])) (E.cons (E.var 5) (E.nil)))) (E.con (D.str [41, 32, 123, 32]))) (E.var 10)) (E.con (D.str [32, 125])))) (St.nil)))))))))))
abbrev b_tree_text : Bv.St := St.cons (St.ret (E.meth (Mt.join) (E.con (D.str [59, 32])) (E.cons (E.comp false (Tg.name 1) [1] (E.var 0) (E.con (D.bl true)) (E.call i_statement_text (E.cons (E.var 1) (E.nil)) [])) (E.nil)))) (St.nil)
abbrev b_run_of : Bv.St := St.cons (St.whileS (E.and (E.cmp (Cm.lt) (E.var 1) (E.prim (Pr.len) (E.cons (E.var 0) (E.nil)))) (E.cmp (Cm.isIn) (E.ix (E.var 0) (E.var 1)) (E.var 2))) (St.cons (St.aug 1 (Op2.add) (E.con (D.int 1))) (St.nil))) (St.cons (St.ret (E.var 1)) (St.nil))
abbrev b_word_end : Bv.St := St.cons (St.set 2 (E.ix (E.var 0) (E.var 1))) (St.cons (St.ifS (E.cmp (Cm.isIn) (E.var 2) (E.sl (E.con (D.str [48, 49, 50, 51, 52, 53, 54, 55, 56, 57, 65, 66, 67, 68, 69, 70])) (E.none) (E.con (D.int 10)))) (St.cons (St.set 3 (E.call i_run_of (E.cons (E.var 0) (E.cons (E.var 1) (E.cons (E.con (D.str [48, 49, 50, 51, 52, 53, 54, 55, 56, 57, 65, 66, 67, 68, 69, 70])) (E.nil)))) [])) (St.cons (St.set 4 (E.ite (E.cmp (Cm.eq) (E.sl (E.var 0) (E.var 3) (E.op (Op2.add) (E.var 3) (E.con (D.int 1)))) (E.con (D.str [46]))) (E.call i_run_of (E.cons (E.var 0) (E.cons (E.op (Op2.add) (E.var 3) (E.con (D.int 1))) (E.cons (E.con (D.str [48, 49, 50, 51, 52, 53, 54, 55, 56, 57, 65, 66, 67, 68, 69, 70])) (E.nil)))) []) (E.var 3))) (St.cons (St.ret (E.ite (E.cmp (Cm.gt) (E.var 4) (E.op (Op2.add) (E.var 3) (E.con (D.int 1)))) (E.var 4) (E.var 3))) (St.nil)))) (St.nil)) (St.cons (St.ifS (E.cmp (Cm.isIn) (E.var 2) (E.con (D.str [97, 98, 99, 100, 101, 102, 103, 104, 105, 106, 107, 108, 109, 110, 111, 112, 113, 114, 115, 116, 117, 118, 119, 120, 121, 122]))) (St.cons (St.ret (E.call i_run_of (E.cons (E.var 0) (E.cons (E.var 1) (E.cons (E.con (D.str [97, 98, 99, 100, 101, 102, 103, 104, 105, 106, 107, 108, 109, 110, 111, 112, 113, 114, 115, 116, 117, 118, 119, 120, 121, 122])) (E.nil)))) [])) (St.nil)) (St.nil)) (St.cons (St.ifS (E.cmp (Cm.eq) (E.var 2) (E.con (D.str [34]))) (St.cons (St.set 3 (E.meth (Mt.find2) (E.var 0) (E.cons (E.con (D.str [34])) (E.cons (E.op (Op2.add) (E.var 1) (E.con (D.int 1))) (E.nil))))) (St.cons (St.ret (E.ite (E.and (E.cmp (Cm.gt) (E.var 3) (E.con (D.int 0))) (E.not (E.prim (Pr.any1) (E.cons (E.comp false (Tg.name 5) [5] (E.sl (E.var 0) (E.var 1) (E.var 3)) (E.con (D.bl true)) (E.cmp (Cm.isIn) (E.var 5) (E.con (D.str [91, 93])))) (E.nil))))) (E.op (Op2.add) (E.var 3) (E.con (D.int 1))) (E.con (D.non)))) (St.nil))) (St.nil)) (St.cons (St.ifS (E.cmp (Cm.isIn) (E.sl (E.var 0) (E.var 1) (E.op (Op2.add) (E.var 1) (E.con (D.int 2)))) (E.con (D.tup [D.str [60, 61], D.str [62, 61], D.str [61, 61], D.str [33, 61]]))) (St.cons (St.ret (E.op (Op2.add) (E.var 1) (E.con (D.int 2)))) (St.nil)) (St.nil)) (St.cons (St.ret (E.ite (E.or (E.cmp (Cm.isIn) (E.var 2) (E.con (D.str [61, 59, 40, 41, 91, 93, 123, 125, 44, 60, 62, 43, 45, 42, 47, 35, 94]))) (E.cmp (Cm.isIn) (E.var 2) (E.con (D.str [80, 81, 82, 83, 84, 85, 86, 87])))) (E.op (Op2.add) (E.var 1) (E.con (D.int 1))) (E.con (D.non)))) (St.nil))))))
abbrev b_words_of : Bv.St := St.cons (St.ifS (E.not (E.prim (Pr.isinst) (E.cons (E.var 0) (E.cons (E.con (D.ty 2)) (E.nil))))) (St.cons (St.rai1 6 (E.con (D.non))) (St.nil)) (St.nil)) (St.cons (St.par [1, 2, 3] (E.cons (E.lst (E.nil)) (E.cons (E.call i_run_of (E.cons (E.var 0) (E.cons (E.con (D.int 0)) (E.cons (E.con (D.str [32])) (E.nil)))) []) (E.cons (E.con (D.int 0)) (E.nil))))) (St.cons (St.whileS (E.cmp (Cm.lt) (E.var 2) (E.prim (Pr.len) (E.cons (E.var 0) (E.nil)))) (St.cons (St.set 4 (E.call i_word_end (E.cons (E.var 0) (E.cons (E.var 2) (E.nil))) [])) (St.cons (St.ifS (E.or (E.cmp (Cm.is) (E.var 4) (E.con (D.non))) (E.cmp (Cm.eq) (E.prim (Pr.len) (E.cons (E.var 1) (E.nil))) (E.con (D.int 150)))) (St.cons (St.rai1 6 (E.prim (Pr.len) (E.cons (E.var 1) (E.nil)))) (St.nil)) (St.nil)) (St.cons (St.set 3 (E.prim (Pr.max2) (E.cons (E.con (D.int 0)) (E.cons (E.op (Op2.sub) (E.op (Op2.add) (E.var 3) (E.prim (Pr.int1) (E.cons (E.cmp (Cm.isIn) (E.ix (E.var 0) (E.var 2)) (E.con (D.str [40, 91, 123]))) (E.nil)))) (E.prim (Pr.int1) (E.cons (E.cmp (Cm.isIn) (E.ix (E.var 0) (E.var 2)) (E.con (D.str [41, 93, 125]))) (E.nil)))) (E.nil))))) (St.cons (St.ifS (E.cmp (Cm.gt) (E.var 3) (E.con (D.int 20))) (St.cons (St.rai1 6 (E.prim (Pr.len) (E.cons (E.var 1) (E.nil)))) (St.nil)) (St.nil)) (St.cons (St.expr (E.meth (Mt.append) (E.var 1) (E.cons (E.sl (E.var 0) (E.var 2) (E.var 4)) (E.nil)))) (St.cons (St.set 2 (E.call i_run_of (E.cons (E.var 0) (E.cons (E.var 4) (E.cons (E.con (D.str [32])) (E.nil)))) [])) (St.nil)))))))) (St.cons (St.ret (E.var 1)) (St.nil))))
abbrev b_is_marked : Bv.St := St.cons (St.ret (E.cmp (Cm.eq) (E.sl (E.var 0) (E.none) (E.con (D.int 1))) (E.con (D.str [34])))) (St.nil)
abbrev b_read : Bv.St := St.cons (St.set 1 (E.mcall [(2, i_Reader_statements)] (E.call i_mk_Reader (E.cons (E.call i_words_of (E.cons (E.var 0) (E.nil)) []) (E.nil)) []) (E.cons (E.con (D.str [])) (E.cons (E.con (D.bl true)) (E.nil))))) (St.cons (St.ifS (E.cmp (Cm.eq) (E.var 1) (E.tup (E.nil))) (St.cons (St.rai1 6 (E.con (D.int 0))) (St.nil)) (St.nil)) (St.cons (St.ret (E.var 1)) (St.nil)))
abbrev b_are_statements : Bv.St := St.cons (St.ret (E.and (E.prim (Pr.isinst) (E.cons (E.var 0) (E.cons (E.con (D.ty 3)) (E.nil)))) (E.prim (Pr.all1) (E.cons (E.comp false (Tg.name 2) [2] (E.var 0) (E.con (D.bl true)) (E.call i_is_statement (E.cons (E.var 2) (E.cons (E.var 1) (E.nil))) [])) (E.nil))))) (St.nil)
abbrev b_is_statement : Bv.St := St.cons (St.ifS (E.or (E.not (E.prim (Pr.isinst) (E.cons (E.var 0) (E.cons (E.con (D.ty 3)) (E.nil))))) (E.or (E.cmp (Cm.lt) (E.prim (Pr.len) (E.cons (E.var 0) (E.nil))) (E.con (D.int 2))) (E.not (E.prim (Pr.isinst) (E.cons (E.ix (E.var 0) (E.con (D.int 0))) (E.cons (E.con (D.ty 2)) (E.nil))))))) (St.cons (St.ret (E.con (D.bl false))) (St.nil)) (St.nil)) (St.cons (St.unpS [2] 3 (E.var 0)) (St.cons (St.ifS (E.and (E.cmp (Cm.eq) (E.var 2) (E.con (D.str [115, 101, 116]))) (E.cmp (Cm.eq) (E.prim (Pr.len) (E.cons (E.var 3) (E.nil))) (E.con (D.int 2)))) (St.cons (St.ret (E.and (E.bad) (E.and (E.cmp (Cm.isIn) (E.ix (E.ix (E.var 3) (E.con (D.int 0))) (E.con (D.int 0))) (E.tup (E.cons (E.con (D.str [110, 97, 109, 101])) (E.cons (E.con (D.str [112, 108, 97, 99, 101])) (E.cons (E.con (D.str [115, 101, 116, 116, 105, 110, 103])) (E.nil)))))) (E.bad)))) (St.nil)) (St.nil)) (St.cons (St.ifS (E.and (E.cmp (Cm.eq) (E.var 2) (E.con (D.str [112, 114, 105, 110, 116]))) (E.cmp (Cm.eq) (E.prim (Pr.len) (E.cons (E.var 3) (E.nil))) (E.con (D.int 1)))) (St.cons (St.ret (E.bad)) (St.nil)) (St.nil)) (St.cons (St.ifS (E.and (E.cmp (Cm.eq) (E.var 2) (E.con (D.str [115, 97, 121]))) (E.cmp (Cm.eq) (E.prim (Pr.len) (E.cons (E.var 3) (E.nil))) (E.con (D.int 1)))) (St.cons (St.ret (E.and (E.prim (Pr.isinst) (E.cons (E.ix (E.var 3) (E.con (D.int 0))) (E.cons (E.con (D.ty 2)) (E.nil)))) (E.not (E.prim (Pr.any1) (E.cons (E.comp false (Tg.name 4) [4] (E.ix (E.var 3) (E.con (D.int 0))) (E.con (D.bl true)) (E.cmp (Cm.isIn) (E.var 4) (E.con (D.str [34, 91, 93])))) (E.nil)))))) (St.nil)) (St.nil)) (St.cons (St.ifS (E.and (E.cmp (Cm.eq) (E.var 2) (E.con (D.str [105, 102]))) (E.cmp (Cm.eq) (E.prim (Pr.len) (E.cons (E.var 3) (E.nil))) (E.con (D.int 3)))) (St.cons (St.ret (E.and (E.bad) (E.and (E.call i_are_statements (E.cons (E.ix (E.var 3) (E.con (D.int 1))) (E.cons (E.con (D.bl false)) (E.nil))) []) (E.call i_are_statements (E.cons (E.ix (E.var 3) (E.con (D.int 2))) (E.cons (E.con (D.bl false)) (E.nil))) [])))) (St.nil)) (St.nil)) (St.cons (St.ifS (E.and (E.cmp (Cm.eq) (E.var 2) (E.con (D.str [119, 104, 105, 108, 101]))) (E.cmp (Cm.eq) (E.prim (Pr.len) (E.cons (E.var 3) (E.nil))) (E.con (D.int 2)))) (St.cons (St.ret (E.and (E.bad) (E.call i_are_statements (E.cons (E.ix (E.var 3) (E.con (D.int 1))) (E.cons (E.con (D.bl false)) (E.nil))) []))) (St.nil)) (St.nil)) (St.cons (St.ifS (E.or (E.cmp (Cm.ne) (E.var 2) (E.con (D.str [100, 101, 102, 105, 110, 101]))) (E.or (E.cmp (Cm.ne) (E.prim (Pr.len) (E.cons (E.var 3) (E.nil))) (E.con (D.int 5))) (E.or (E.not (E.var 1)) (E.not (E.bad))))) (St.cons (St.ret (E.con (D.bl false))) (St.nil)) (St.nil)) (St.cons (St.ifS (E.or (E.not (E.bad)) (E.not (E.bad))) (St.cons (St.ret (E.con (D.bl false))) (St.nil)) (St.nil)) (St.cons (St.ret (E.and (E.call i_are_statements (E.cons (E.ix (E.var 3) (E.con (D.int 3))) (E.cons (E.con (D.bl false)) (E.nil))) []) (E.bad))) (St.nil))))))))))
abbrev b_is_shallow : Bv.St := St.cons (St.set 1 (E.lst (E.cons (E.tup (E.cons (E.var 0) (E.cons (E.con (D.int 0)) (E.nil)))) (E.nil)))) (St.cons (St.whileS (E.cmp (Cm.ne) (E.var 1) (E.lst (E.nil))) (St.cons (St.unp [2, 3] (E.meth (Mt.pop) (E.var 1) (E.nil))) (St.cons (St.ifS (E.cmp (Cm.gt) (E.var 3) (E.con (D.int 100))) (St.cons (St.ret (E.con (D.bl false))) (St.nil)) (St.nil)) (St.cons (St.ifS (E.prim (Pr.isinst) (E.cons (E.var 2) (E.cons (E.con (D.ty 3)) (E.nil)))) (St.cons (St.expr (E.meth (Mt.extend) (E.var 1) (E.cons (E.comp false (Tg.name 4) [4] (E.var 2) (E.con (D.bl true)) (E.tup (E.cons (E.var 4) (E.cons (E.op (Op2.add) (E.var 3) (E.con (D.int 1))) (E.nil))))) (E.nil)))) (St.nil)) (St.nil)) (St.nil))))) (St.cons (St.ret (E.con (D.bl true))) (St.nil)))
abbrev b_is_tree : Bv.St := St.cons (St.ifS (E.or (E.not (E.call i_is_shallow (E.cons (E.var 0) (E.nil)) [])) (E.not (E.call i_are_statements (E.cons (E.var 0) (E.cons (E.con (D.bl true)) (E.nil))) []))) (St.cons (St.ret (E.con (D.bl false))) (St.nil)) (St.nil)) (St.cons (St.tryS (St.cons (St.ret (E.cmp (Cm.eq) (E.call i_read (E.cons (E.call i_tree_text (E.cons (E.var 0) (E.nil)) []) (E.nil)) []) (E.var 0))) (St.nil)) [(6, none, false)] (St.cons (St.ret (E.con (D.bl false))) (St.nil)) (St.bad) (St.bad) (St.bad) (St.bad)) (St.nil))
abbrev b_need_tree : Bv.St := St.cons (St.ifS (E.not (E.call i_is_tree (E.cons (E.var 0) (E.nil)) [])) (St.cons (St.rai0 7) (St.nil)) (St.nil)) (St.nil)
abbrev b_run_in : Bv.St := St.cons (St.set 2 (E.call i_mk_State (E.cons (E.var 1) (E.nil)) [])) (St.cons (St.set 3 (E.mcall [(1, i_State_guarded)] (E.var 2) (E.cons (E.var 0) (E.nil)))) (St.cons (St.ret (E.tup (E.cons (E.fld (E.var 2) 6) (E.cons (E.var 3) (E.nil))))) (St.nil)))
abbrev b_need_scales : Bv.St := St.cons (St.ifS (E.or (E.not (E.prim (Pr.isinst) (E.cons (E.var 0) (E.cons (E.con (D.ty 3)) (E.nil))))) (E.not (E.prim (Pr.all1) (E.cons (E.comp false (Tg.name 3) [3] (E.var 0) (E.con (D.bl true)) (E.call i_is_whole (E.cons (E.var 3) (E.cons (E.con (D.int 0)) (E.cons (E.con (D.int 20)) (E.nil)))) [])) (E.nil))))) (St.cons (St.rai0 2) (St.nil)) (St.nil)) (St.cons (St.ifS (E.not (E.prim (Pr.all1) (E.cons (E.comp false (Tg.names [1, 2]) [1, 2] (E.zip (E.var 0) (E.sl (E.var 0) (E.con (D.int 1)) (E.none))) (E.con (D.bl true)) (E.cmp (Cm.lt) (E.var 1) (E.var 2))) (E.nil)))) (St.cons (St.rai0 2) (St.nil)) (St.nil)) (St.nil))
abbrev b_unlike : Bv.St := St.cons (St.expr (E.call i_need_tree (E.cons (E.var 0) (E.nil)) [])) (St.cons (St.expr (E.call i_need_tree (E.cons (E.var 1) (E.nil)) [])) (St.cons (St.expr (E.call i_need_scales (E.cons (E.var 2) (E.nil)) [])) (St.cons (St.ret (E.comp false (Tg.name 3) [3] (E.var 2) (E.cmp (Cm.ne) (E.call i_run_in (E.cons (E.var 0) (E.cons (E.var 3) (E.nil))) []) (E.call i_run_in (E.cons (E.var 1) (E.cons (E.var 3) (E.nil))) [])) (E.var 3))) (St.nil))))
abbrev b_settled : Bv.St := St.cons (St.expr (E.call i_need_tree (E.cons (E.var 0) (E.nil)) [])) (St.cons (St.expr (E.call i_need_scales (E.cons (E.var 1) (E.nil)) [])) (St.cons (St.set 2 (E.comp false (Tg.name 3) [3] (E.var 1) (E.con (D.bl true)) (E.call i_run_in (E.cons (E.var 0) (E.cons (E.var 3) (E.nil))) []))) (St.cons (St.ret (E.prim (Pr.all1) (E.cons (E.comp false (Tg.name 4) [4] (E.var 2) (E.con (D.bl true)) (E.cmp (Cm.eq) (E.var 4) (E.ix (E.var 2) (E.con (D.int 0))))) (E.nil)))) (St.nil))))
abbrev b__law_cell_at : Bv.St := St.cons (St.ifS (E.cmp (Cm.lt) (E.var 1) (E.prim (Pr.len) (E.cons (E.var 0) (E.nil)))) (St.cons (St.ret (E.ix (E.var 0) (E.var 1))) (St.nil)) (St.nil)) (St.cons (St.ifS (E.cmp (Cm.eq) (E.var 0) (E.lst (E.nil))) (St.cons (St.ret (E.con (D.int 0))) (St.nil)) (St.nil)) (St.cons (St.set 2 (E.ix (E.var 0) (E.op (Op2.mod) (E.var 1) (E.prim (Pr.len) (E.cons (E.var 0) (E.nil)))))) (St.cons (St.forS (Tg.name 3) (Src.range1 (E.prim (Pr.min2) (E.cons (E.op (Op2.fdiv) (E.var 1) (E.prim (Pr.len) (E.cons (E.var 0) (E.nil)))) (E.cons (E.con (D.int 60)) (E.nil))))) (St.cons (St.set 2 (E.op (Op2.fdiv) (E.var 2) (E.con (D.int 1000003)))) (St.nil))) (St.cons (St.ret (E.op (Op2.add) (E.op (Op2.add) (E.op (Op2.mul) (E.ix (E.var 0) (E.op (Op2.mod) (E.var 1) (E.prim (Pr.len) (E.cons (E.var 0) (E.nil))))) (E.con (D.int 31))) (E.var 1)) (E.op (Op2.mul) (E.var 2) (E.con (D.int 101))))) (St.nil)))))
abbrev b__law_mixed : Bv.St := St.cons (St.set 3 (E.op (Op2.mod) (E.op (Op2.add) (E.op (Op2.add) (E.op (Op2.mul) (E.call i__law_cell_at (E.cons (E.var 0) (E.cons (E.var 1) (E.nil))) []) (E.con (D.int 1103515245))) (E.op (Op2.mul) (E.con (D.int 7919)) (E.var 1))) (E.con (D.int 12345))) (E.con (D.int 2147483647)))) (St.cons (St.ret (E.op (Op2.mod) (E.op (Op2.mod) (E.op (Op2.mod) (E.op (Op2.pow) (E.var 3) (E.con (D.int 5))) (E.con (D.int 2147483647))) (E.con (D.int 999983))) (E.var 2))) (St.nil))
abbrev b__law_draw : Bv.St := St.cons (St.expr (E.meth (Mt.append) (E.var 1) (E.cons (E.con (D.int 0)) (E.nil)))) (St.cons (St.ret (E.call i__law_mixed (E.cons (E.var 0) (E.cons (E.prim (Pr.len) (E.cons (E.var 1) (E.nil))) (E.cons (E.var 2) (E.nil)))) [])) (St.nil))
abbrev b__law_pick : Bv.St := St.cons (St.ret (E.ix (E.var 2) (E.call i__law_draw (E.cons (E.var 0) (E.cons (E.var 1) (E.cons (E.prim (Pr.len) (E.cons (E.var 2) (E.nil))) (E.nil)))) []))) (St.nil)
abbrev b__law_which : Bv.St := St.cons (St.set 1 (E.lst (E.cons (E.xis 0 1) (E.cons (E.xis 0 2) (E.cons (E.xis 0 3) (E.cons (E.xis 0 4) (E.nil))))))) (St.cons (St.expr (E.meth (Mt.extend) (E.var 1) (E.cons (E.lst (E.cons (E.xis 0 5) (E.cons (E.xis 0 6) (E.cons (E.xis 0 7) (E.cons (E.xis 0 8) (E.nil)))))) (E.nil)))) (St.cons (St.expr (E.meth (Mt.extend) (E.var 1) (E.cons (E.lst (E.cons (E.xis 0 9) (E.cons (E.xis 0 10) (E.cons (E.xis 0 11) (E.cons (E.xis 0 12) (E.nil)))))) (E.nil)))) (St.cons (St.expr (E.meth (Mt.append) (E.var 1) (E.cons (E.xis 0 13) (E.nil)))) (St.cons (St.ifS (E.or (E.cmp (Cm.ne) (E.meth (Mt.count) (E.var 1) (E.cons (E.con (D.bl true)) (E.nil))) (E.con (D.int 1))) (E.not (E.xis 0 100))) (St.cons (St.ret (E.tup (E.cons (E.con (D.str [114, 101, 102, 117, 115, 101, 100])) (E.cons (E.neg (E.con (D.int 1))) (E.nil))))) (St.nil)) (St.nil)) (St.cons (St.ret (E.tup (E.cons (E.con (D.str [114, 101, 102, 117, 115, 101, 100])) (E.cons (E.meth (Mt.index) (E.var 1) (E.cons (E.con (D.bl true)) (E.nil))) (E.nil))))) (St.nil))))))
abbrev b__law_ask : Bv.St := St.cons (St.tryS (St.cons (St.ret (E.ite (E.cmp (Cm.eq) (E.var 0) (E.con (D.int 0))) (E.callK i_settled 1 (E.cons (E.var 1) (E.nil)) (E.var 3)) (E.callK i_unlike 2 (E.cons (E.var 1) (E.cons (E.var 2) (E.nil))) (E.var 3)))) (St.nil)) [(0, some 4, true)] (St.cons (St.ret (E.xcall i__law_which 4)) (St.nil)) (St.bad) (St.bad) (St.bad) (St.bad)) (St.nil)
abbrev b_law : Bv.St := St.cons (St.set 1 (E.lst (E.nil))) (St.cons (St.set 2 (E.tup (E.cons (E.tup (E.cons (E.con (D.str [115, 97, 121])) (E.cons (E.con (D.str [97])) (E.nil)))) (E.nil)))) (St.cons (St.forS (Tg.name 3) (Src.seq (E.lst (E.cons (E.con (D.non)) (E.cons (E.tup (E.nil)) (E.cons (E.con (D.str [115, 97, 121])) (E.cons (E.tup (E.cons (E.tup (E.cons (E.con (D.str [115, 97, 121])) (E.nil))) (E.nil))) (E.cons (E.lst (E.cons (E.tup (E.cons (E.con (D.str [115, 97, 121])) (E.cons (E.con (D.str [97])) (E.nil)))) (E.nil))) (E.nil)))))))) (St.cons (St.ifS (E.or (E.cmp (Cm.ne) (E.call i__law_ask (E.cons (E.con (D.int 0)) (E.cons (E.var 3) (E.cons (E.con (D.non)) (E.cons (E.con (D.non)) (E.nil))))) []) (E.tup (E.cons (E.con (D.str [114, 101, 102, 117, 115, 101, 100])) (E.cons (E.con (D.int 6)) (E.nil))))) (E.cmp (Cm.ne) (E.call i__law_ask (E.cons (E.con (D.int 1)) (E.cons (E.var 3) (E.cons (E.con (D.non)) (E.cons (E.con (D.non)) (E.nil))))) []) (E.tup (E.cons (E.con (D.str [114, 101, 102, 117, 115, 101, 100])) (E.cons (E.con (D.int 6)) (E.nil)))))) (St.cons (St.ret (E.con (D.bl false))) (St.nil)) (St.nil)) (St.cons (St.ifS (E.cmp (Cm.ne) (E.call i__law_ask (E.cons (E.con (D.int 1)) (E.cons (E.var 2) (E.cons (E.var 3) (E.cons (E.con (D.non)) (E.nil))))) []) (E.tup (E.cons (E.con (D.str [114, 101, 102, 117, 115, 101, 100])) (E.cons (E.con (D.int 6)) (E.nil))))) (St.cons (St.ret (E.con (D.bl false))) (St.nil)) (St.nil)) (St.nil)))) (St.cons (St.set 4 (E.lst (E.cons (E.con (D.non)) (E.cons (E.con (D.int 5)) (E.cons (E.lst (E.cons (E.con (D.int 0)) (E.cons (E.con (D.int 5)) (E.nil)))) (E.cons (E.tup (E.cons (E.con (D.int 0)) (E.cons (E.con (D.int 21)) (E.nil)))) (E.cons (E.tup (E.cons (E.neg (E.con (D.int 1))) (E.nil))) (E.cons (E.tup (E.cons (E.con (D.int 5)) (E.cons (E.con (D.int 0)) (E.nil)))) (E.cons (E.tup (E.cons (E.con (D.int 0)) (E.cons (E.con (D.int 0)) (E.nil)))) (E.cons (E.tup (E.cons (E.con (D.str [48])) (E.nil))) (E.cons (E.tup (E.cons (E.con (D.bl true)) (E.nil))) (E.cons (E.tup (E.cons (E.con (D.int 0)) (E.cons (E.con (D.non)) (E.nil)))) (E.cons (E.con (D.str [48, 53])) (E.cons (E.tup (E.cons (E.con (D.int 0)) (E.cons (E.con (D.int 5)) (E.cons (E.con (D.int 5)) (E.nil))))) (E.cons (E.tup (E.cons (E.tup (E.cons (E.con (D.int 0)) (E.nil))) (E.nil))) (E.nil)))))))))))))))) (St.cons (St.set 3 (E.call i__law_pick (E.cons (E.var 0) (E.cons (E.var 1) (E.cons (E.var 4) (E.nil)))) [])) (St.cons (St.ifS (E.or (E.cmp (Cm.ne) (E.call i__law_ask (E.cons (E.con (D.int 0)) (E.cons (E.var 2) (E.cons (E.con (D.non)) (E.cons (E.var 3) (E.nil))))) []) (E.tup (E.cons (E.con (D.str [114, 101, 102, 117, 115, 101, 100])) (E.cons (E.con (D.int 1)) (E.nil))))) (E.cmp (Cm.ne) (E.call i__law_ask (E.cons (E.con (D.int 1)) (E.cons (E.var 2) (E.cons (E.var 2) (E.cons (E.var 3) (E.nil))))) []) (E.tup (E.cons (E.con (D.str [114, 101, 102, 117, 115, 101, 100])) (E.cons (E.con (D.int 1)) (E.nil)))))) (St.cons (St.ret (E.con (D.bl false))) (St.nil)) (St.nil)) (St.cons (St.ret (E.and (E.cmp (Cm.eq) (E.call i__law_ask (E.cons (E.con (D.int 1)) (E.cons (E.var 2) (E.cons (E.var 2) (E.cons (E.tup (E.cons (E.con (D.int 0)) (E.cons (E.con (D.int 20)) (E.nil)))) (E.nil))))) []) (E.lst (E.nil))) (E.cmp (Cm.is) (E.call i__law_ask (E.cons (E.con (D.int 0)) (E.cons (E.var 2) (E.cons (E.con (D.non)) (E.cons (E.tup (E.cons (E.con (D.int 20)) (E.nil))) (E.nil))))) []) (E.con (D.bl true))))) (St.nil)))))))
abbrev b_NoNumber__init__ : Bv.St := St.cons (St.bad) (St.nil)
abbrev b_NoProgram__init__ : Bv.St := St.cons (St.bad) (St.nil)
abbrev b_Stop__init__ : Bv.St := St.cons (St.bad) (St.nil)
abbrev b_Reader_init : Bv.St := St.cons (St.asg1 (Tx.fld (E.var 0) 12) (E.var 1)) (St.cons (St.asg1 (Tx.fld (E.var 0) 13) (E.con (D.int 0))) (St.nil))
abbrev b_Reader_next : Bv.St := St.cons (St.ret (E.ite (E.cmp (Cm.lt) (E.fld (E.var 0) 13) (E.prim (Pr.len) (E.cons (E.fld (E.var 0) 12) (E.nil)))) (E.ix (E.fld (E.var 0) 12) (E.fld (E.var 0) 13)) (E.con (D.str [])))) (St.nil)
abbrev b_Reader_need : Bv.St := St.cons (St.set 2 (E.mcall [(2, i_Reader_next)] (E.var 0) (E.nil))) (St.cons (St.ifS (E.cmp (Cm.notIn) (E.var 2) (E.var 1)) (St.cons (St.rai1 6 (E.fld (E.var 0) 13)) (St.nil)) (St.nil)) (St.cons (St.augF (E.var 0) 13 (Op2.add) (E.con (D.int 1))) (St.cons (St.ret (E.var 2)) (St.nil))))
abbrev b_Reader_need_kind : Bv.St := St.cons (St.set 2 (E.mcall [(2, i_Reader_next)] (E.var 0) (E.nil))) (St.cons (St.ifS (E.not (E.callV [1, 2, 5, 6, 7, 10, 11, 12, 14, 23] (E.var 1) (E.cons (E.var 2) (E.nil)))) (St.cons (St.rai1 6 (E.fld (E.var 0) 13)) (St.nil)) (St.nil)) (St.cons (St.augF (E.var 0) 13 (Op2.add) (E.con (D.int 1))) (St.cons (St.ret (E.var 2)) (St.nil))))
abbrev b_Reader_statements : Bv.St := St.cons (St.set 3 (E.lst (E.nil))) (St.cons (St.whileS (E.cmp (Cm.ne) (E.mcall [(2, i_Reader_next)] (E.var 0) (E.nil)) (E.var 1)) (St.cons (St.expr (E.meth (Mt.append) (E.var 3) (E.cons (E.mcall [(2, i_Reader_statement)] (E.var 0) (E.cons (E.var 2) (E.nil))) (E.nil)))) (St.cons (St.ifS (E.cmp (Cm.ne) (E.mcall [(2, i_Reader_next)] (E.var 0) (E.nil)) (E.var 1)) (St.cons (St.expr (E.mcall [(2, i_Reader_need)] (E.var 0) (E.cons (E.tup (E.cons (E.con (D.str [59])) (E.nil))) (E.nil)))) (St.nil)) (St.nil)) (St.nil)))) (St.cons (St.ret (E.prim (Pr.tuple1) (E.cons (E.var 3) (E.nil)))) (St.nil)))
abbrev b_Reader_statement : Bv.St := St.cons (St.set 2 (E.mcall [(2, i_Reader_next)] (E.var 0) (E.nil))) (St.cons (St.ifS (E.or (E.cmp (Cm.eq) (E.var 2) (E.con (D.str [105, 102]))) (E.cmp (Cm.eq) (E.var 2) (E.con (D.str [119, 104, 105, 108, 101])))) (St.cons (St.ret (E.mcall [] (E.var 0) (E.nil))) (St.nil)) (St.nil)) (St.cons (St.ifS (E.and (E.cmp (Cm.eq) (E.var 2) (E.con (D.str [100, 101, 102, 105, 110, 101]))) (E.var 1)) (St.cons (St.ret (E.mcall [] (E.var 0) (E.nil))) (St.nil)) (St.nil)) (St.cons (St.ifS (E.cmp (Cm.eq) (E.var 2) (E.con (D.str [112, 114, 105, 110, 116]))) (St.cons (St.expr (E.mcall [(2, i_Reader_need)] (E.var 0) (E.cons (E.tup (E.cons (E.con (D.str [112, 114, 105, 110, 116])) (E.nil))) (E.nil)))) (St.cons (St.ret (E.tup (E.cons (E.con (D.str [112, 114, 105, 110, 116])) (E.cons (E.mcall [] (E.var 0) (E.nil)) (E.nil))))) (St.nil))) (St.nil)) (St.cons (St.ifS (E.cmp (Cm.eq) (E.var 2) (E.con (D.str [115, 97, 121]))) (St.cons (St.expr (E.mcall [(2, i_Reader_need)] (E.var 0) (E.cons (E.tup (E.cons (E.con (D.str [115, 97, 121])) (E.nil))) (E.nil)))) (St.cons (St.ret (E.tup (E.cons (E.con (D.str [115, 97, 121])) (E.cons (E.sl (E.mcall [(2, i_Reader_need_kind)] (E.var 0) (E.cons (E.con (D.fn 6)) (E.nil))) (E.con (D.int 1)) (E.neg (E.con (D.int 1)))) (E.nil))))) (St.nil))) (St.nil)) (St.cons (St.set 3 (E.mcall [] (E.var 0) (E.nil))) (St.cons (St.expr (E.mcall [(2, i_Reader_need)] (E.var 0) (E.cons (E.tup (E.cons (E.con (D.str [61])) (E.nil))) (E.nil)))) (St.cons (St.ret (E.tup (E.cons (E.con (D.str [115, 101, 116])) (E.cons (E.var 3) (E.cons (E.mcall [] (E.var 0) (E.nil)) (E.nil)))))) (St.nil))))))))
abbrev b_State_init : Bv.St := St.cons (St.asg1 (Tx.fld (E.var 0) 1) (E.var 1)) (St.cons (St.asgs [Tx.fld (E.var 0) 2, Tx.fld (E.var 0) 3] (E.tup (E.cons (E.con (D.int 10)) (E.cons (E.con (D.int 10)) (E.nil))))) (St.cons (St.asg1 (Tx.fld (E.var 0) 8) (E.dct [] (E.nil))) (St.cons (St.asg1 (Tx.fld (E.var 0) 9) (E.dct [] (E.nil))) (St.cons (St.asg1 (Tx.fld (E.var 0) 10) (E.dct [] (E.nil))) (St.cons (St.asg1 (Tx.fld (E.var 0) 6) (E.lst (E.nil))) (St.cons (St.asgs [Tx.fld (E.var 0) 7, Tx.fld (E.var 0) 11] (E.tup (E.cons (E.con (D.int 0)) (E.cons (E.lst (E.nil)) (E.nil))))) (St.nil)))))))
abbrev b_State_each : Bv.St := St.cons (St.forS (Tg.name 2) (Src.seq (E.var 1)) (St.cons (St.expr (E.mcall [(1, i_State_count)] (E.var 0) (E.nil))) (St.cons (St.expr (E.mcall [(1, i_State_one)] (E.var 0) (E.cons (E.var 2) (E.nil)))) (St.nil)))) (St.nil)
abbrev b_State_count : Bv.St := St.cons (St.ifS (E.cmp (Cm.eq) (E.fld (E.var 0) 7) (E.con (D.int 1000))) (St.cons (St.rai1 14 (E.con (D.str [115, 116, 101, 112, 115]))) (St.nil)) (St.nil)) (St.cons (St.augF (E.var 0) 7 (Op2.add) (E.con (D.int 1))) (St.nil))
abbrev b_State_one : Bv.St := St.cons (St.set 2 (E.ix (E.var 1) (E.con (D.int 0)))) (St.cons (St.ifS (E.cmp (Cm.eq) (E.var 2) (E.con (D.str [115, 101, 116]))) (St.cons (St.expr (E.mcall [] (E.var 0) (E.cons (E.ix (E.var 1) (E.con (D.int 1))) (E.cons (E.mcall [] (E.var 0) (E.cons (E.ix (E.var 1) (E.con (D.int 2))) (E.nil))) (E.nil))))) (St.nil)) (St.cons (St.ifS (E.cmp (Cm.eq) (E.var 2) (E.con (D.str [112, 114, 105, 110, 116]))) (St.cons (St.expr (E.meth (Mt.append) (E.fld (E.var 0) 6) (E.cons (E.bad) (E.nil)))) (St.nil)) (St.cons (St.ifS (E.cmp (Cm.eq) (E.var 2) (E.con (D.str [115, 97, 121]))) (St.cons (St.expr (E.meth (Mt.append) (E.fld (E.var 0) 6) (E.cons (E.ix (E.var 1) (E.con (D.int 1))) (E.nil)))) (St.nil)) (St.cons (St.ifS (E.cmp (Cm.eq) (E.var 2) (E.con (D.str [105, 102]))) (St.cons (St.expr (E.mcall [(1, i_State_each)] (E.var 0) (E.cons (E.ite (E.mcall [] (E.var 0) (E.cons (E.ix (E.var 1) (E.con (D.int 1))) (E.nil))) (E.ix (E.var 1) (E.con (D.int 2))) (E.ix (E.var 1) (E.con (D.int 3)))) (E.nil)))) (St.nil)) (St.cons (St.ifS (E.cmp (Cm.eq) (E.var 2) (E.con (D.str [100, 101, 102, 105, 110, 101]))) (St.cons (St.asg1 (Tx.sub (E.fld (E.var 0) 10) (E.ix (E.var 1) (E.con (D.int 1)))) (E.sl (E.var 1) (E.con (D.int 2)) (E.none))) (St.nil)) (St.cons (St.whileS (E.mcall [] (E.var 0) (E.cons (E.ix (E.var 1) (E.con (D.int 1))) (E.nil))) (St.cons (St.expr (E.mcall [(1, i_State_each)] (E.var 0) (E.cons (E.ix (E.var 1) (E.con (D.int 2))) (E.nil)))) (St.cons (St.expr (E.mcall [(1, i_State_count)] (E.var 0) (E.nil))) (St.nil)))) (St.nil))) (St.nil))) (St.nil))) (St.nil))) (St.nil))) (St.nil))
abbrev b_State_guarded : Bv.St := St.cons (St.asgs [Tx.fld (E.var 0) 7, Tx.fld (E.var 0) 11] (E.tup (E.cons (E.con (D.int 0)) (E.cons (E.lst (E.nil)) (E.nil))))) (St.cons (St.set 2 (E.mcall [(1, i_State_fault_of)] (E.var 0) (E.cons (E.var 1) (E.nil)))) (St.cons (St.whileS (E.cmp (Cm.ne) (E.fld (E.var 0) 11) (E.lst (E.nil))) (St.cons (St.expr (E.mcall [] (E.fld (E.var 0) 8) (E.cons (E.meth (Mt.pop) (E.fld (E.var 0) 11) (E.nil)) (E.nil)))) (St.nil))) (St.cons (St.ret (E.var 2)) (St.nil))))
abbrev b_State_fault_of : Bv.St := St.cons (St.tryS (St.cons (St.expr (E.mcall [(1, i_State_each)] (E.var 0) (E.cons (E.var 1) (E.nil)))) (St.nil)) [(14, some 2, false), (8, none, false), (9, none, false), (10, none, false), (11, none, false)] (St.cons (St.ret (E.xf 2 14)) (St.nil)) (St.cons (St.ret (E.con (D.str [100, 105, 118, 105, 115, 111, 114]))) (St.nil)) (St.cons (St.ret (E.con (D.str [101, 120, 112, 111, 110, 101, 110, 116]))) (St.nil)) (St.cons (St.ret (E.con (D.str [114, 111, 111, 116]))) (St.nil)) (St.cons (St.ret (E.con (D.str [108, 111, 110, 103]))) (St.nil))) (St.cons (St.ret (E.con (D.non))) (St.nil))
def tab : List Fn := [⟨3, 3, b_is_whole, none⟩, ⟨1, 12, b_statement_text, none⟩, ⟨1, 2, b_tree_text, none⟩, ⟨3, 3, b_run_of, none⟩, ⟨2, 6, b_word_end, none⟩, ⟨1, 5, b_words_of, none⟩, ⟨1, 1, b_is_marked, none⟩, ⟨1, 2, b_read, none⟩, ⟨2, 3, b_are_statements, none⟩, ⟨2, 5, b_is_statement, none⟩, ⟨1, 5, b_is_shallow, none⟩, ⟨1, 1, b_is_tree, none⟩, ⟨1, 1, b_need_tree, none⟩, ⟨2, 4, b_run_in, none⟩, ⟨1, 4, b_need_scales, none⟩, ⟨3, 4, b_unlike, none⟩, ⟨2, 5, b_settled, none⟩, ⟨2, 4, b__law_cell_at, none⟩, ⟨3, 4, b__law_mixed, none⟩, ⟨3, 3, b__law_draw, none⟩, ⟨3, 3, b__law_pick, none⟩, ⟨1, 2, b__law_which, none⟩, ⟨4, 5, b__law_ask, none⟩, ⟨1, 5, b_law, none⟩, ⟨2, 2, b_NoNumber__init__, none⟩, ⟨2, 2, b_NoProgram__init__, none⟩, ⟨2, 2, b_Stop__init__, none⟩, ⟨2, 2, b_Reader_init, none⟩, ⟨1, 1, b_Reader_next, none⟩, ⟨2, 3, b_Reader_need, none⟩, ⟨2, 3, b_Reader_need_kind, none⟩, ⟨3, 4, b_Reader_statements, none⟩, ⟨2, 4, b_Reader_statement, none⟩, ⟨2, 2, b_State_init, none⟩, ⟨2, 3, b_State_each, none⟩, ⟨1, 1, b_State_count, none⟩, ⟨2, 3, b_State_one, none⟩, ⟨2, 3, b_State_guarded, none⟩, ⟨2, 3, b_State_fault_of, none⟩, ⟨1, 0, Bv.St.bad, some (2, i_Reader_init)⟩, ⟨1, 0, Bv.St.bad, some (1, i_State_init)⟩]
abbrev Cl (n i : Nat) (vs : List D) : M D := callF tab 1000000 n i vs

/-! _law_cell_at -/
/-! inc _law_cell_at.k14_bases_refused -/
theorem t__law_cell_at (n k t : Nat) (ns : List Int) (S : Sto) (h : Tw ns t S) (hk : k ≤ 1000000) : Wp (Cl (n + 1) i__law_cell_at [.ref 0, .int k] S) (fun d T => (∃ v, d = .int v) ∧ (T = S ∨ T = S ++ [.lst []])) (fun _ _ => False) := by
  have sc := h.sc
  have sq : seqOf S (.ref 0) = some (ns.map D.int) := by simp only [seqOf, sc]
  refine wp_def (b := b__law_cell_at) (L := [some (.ref 0), some (.int k), none, none]) rfl rfl rfl ?_
  walk_at "wp"
  refine wp_lenr sq ?_
  walk_at "wp"
  refine ite_d (fun c => ?_) (fun c => ?_)
  · walk_at "wp"
    obtain ⟨x, e, hx⟩ := at?_mem (xs := ns.map D.int) (i := k) (by omega) c
    obtain ⟨z, _, rfl⟩ := List.mem_map.mp hx
    refine wp_ixr sq e ?_
    exact ⟨⟨z, rfl⟩, .inl rfl⟩
  · walk_at "wp"
    have h2 := h.app [.lst []]
    refine wp_eqnil (ns := ns) h2.sc (by rw [List.getElem?_append_right (Nat.le_refl _), Nat.sub_self]; rfl) ?_
    refine ite_d (fun c => ?_) (fun c => ?_)
    · walk_at "wp"
      exact ⟨⟨0, rfl⟩, .inr rfl⟩
    · have sq2 : seqOf (S ++ [.lst []]) (.ref 0) = some (ns.map D.int) := by simp only [seqOf, h2.sc]
      have hp : (0 : Int) < (ns.map D.int).length := by
        have := List.length_pos_iff.mpr c
        rw [List.length_map]; omega
      walk_at "wp"
      refine wp_lenr sq2 (wp_mod hp ?_)
      obtain ⟨x, e, hx⟩ := at?_mem (xs := ns.map D.int) (i := (k : Int) % (ns.map D.int).length) (Int.emod_nonneg _ (by omega)) (Int.emod_lt_of_pos _ hp)
      obtain ⟨z, _, rfl⟩ := List.mem_map.mp hx
      refine wp_ixr sq2 e ?_
      walk_at "wp"
      refine swp_for1 ?_
      walk_at "wp"
      refine wp_lenr sq2 (wp_fdiv ⟨hp, ?_⟩ ?_)
      · have : Bt ((ns.map D.int).length : Int) 30 := by
          have : ¬ ((k : Int) < (ns.map D.int).length) := by assumption
          show _ < _
          omega
        exact Nat.lt_of_le_of_lt this.log (by decide)
      walk_at "wp"
      refine ⟨_, rfl, ?_, ?_⟩
      · have : (0 : Int) ≤ (k : Int) / (ns.map D.int).length := Int.ediv_nonneg (by omega) (by omega)
        exact decide_eq_true (by omega)
      refine swp_rng (fun j L T => T = S ++ [.lst []] ∧ ∃ sp t, L = [some (.ref 0), some (.int k), some (.int sp), t]) ⟨rfl, z, none, rfl⟩ ?_ ?_
      · rintro j L _ hj ⟨rfl, sp, t, rfl⟩
        refine ⟨_, rfl, ?_⟩
        walk_at "wp"
        refine wp_fdiv (by decide) ?_
        walk_at "wp"
        exact ⟨rfl, _, _, rfl⟩
      · rintro L _ ⟨rfl, sp, t, rfl⟩
        walk_at "wp"
        refine wp_lenr sq2 (wp_mod hp ?_)
        refine wp_ixr sq2 e ?_
        walk_at "wp"
        refine wp_mul (bitsOk_r (by decide)) ?_
        walk_at "wp"
        refine wp_mul (bitsOk_r (by decide)) ?_
        walk_at "wp"
        exact ⟨⟨_, rfl⟩, .inr rfl⟩


/-! _law_mixed -/
/-! inc _law_mixed.k14_bases_refused -/
theorem t__law_mixed (n k t : Nat) (b : Int) (ns : List Int) (S : Sto) (h : Tw ns t S) (hk : k ≤ 1000000) (hb : 0 < b) : Wp (Cl (n + 2) i__law_mixed [.ref 0, .int k, .int b] S) (fun d T => (∃ v, d = .int v ∧ 0 ≤ v ∧ v < b) ∧ (T = S ∨ T = S ++ [.lst []])) (fun _ _ => False) := by
  refine wp_def (b := b__law_mixed) (L := [some (.ref 0), some (.int k), some (.int b), none]) rfl rfl rfl ?_
  walk_at "wp"
  refine wp_use (t__law_cell_at n k t ns S h hk) ?_
  rintro _ T ⟨⟨v, rfl⟩, hT⟩
  refine wp_mul (bitsOk_r (by decide)) ?_
  walk_at "wp"
  refine wp_mul (bitsOk_l (by decide)) ?_
  walk_at "wp"
  refine wp_mod (by decide) ?_
  walk_at "wp"
  have h1 := Int.emod_nonneg (v * 1103515245 + 7919 * (k : Int) + 12345) (b := 2147483647) (by decide)
  have h2 := Int.emod_lt_of_pos (v * 1103515245 + 7919 * (k : Int) + 12345) (b := 2147483647) (by decide)
  refine wp_pow ⟨by decide, by decide, by omega⟩ ?_
  walk_at "wp"
  refine wp_mod (by decide) ?_
  walk_at "wp"
  refine wp_mod (by decide) ?_
  walk_at "wp"
  refine wp_mod hb ?_
  exact ⟨⟨_, rfl, Int.emod_nonneg _ (by omega), Int.emod_lt_of_pos _ hb⟩, hT⟩


/-! _law_draw -/
/-! inc _law_draw.k14_bases_refused -/
theorem t__law_draw (n t : Nat) (b : Int) (ns : List Int) (S : Sto) (h : Tw ns t S) (hk : t < 1000000) (hb : 0 < b) : Wp (Cl (n + 3) i__law_draw [.ref 0, .ref 1, .int b] S) (fun d T => (∃ v, d = .int v ∧ 0 ≤ v ∧ v < b) ∧ ∃ ys, S[1]? = some (.lst ys) ∧ (T = S.set 1 (.lst (ys ++ [.int 0])) ∨ T = S.set 1 (.lst (ys ++ [.int 0])) ++ [.lst []])) (fun _ _ => False) := by
  refine wp_def (b := b__law_draw) (L := [some (.ref 0), some (.ref 1), some (.int b)]) rfl rfl rfl ?_
  obtain ⟨ys, e, l⟩ := h.tn
  walk_at "wp"
  refine wp_recv e ?_
  walk_at "wp"
  refine wp_append e (by omega) ?_
  have l1 : (ys ++ [D.int 0]).length = t + 1 := by rw [List.length_append, l]; rfl
  have h1 := h.put (ys := ys ++ [.int 0]) l1
  walk_at "wp"
  refine wp_lenr (xs := ys ++ [.int 0]) ?_ ?_
  · obtain ⟨zs, e2, _⟩ := h1.tn
    have : (S.set 1 (.lst (ys ++ [.int 0])))[1]? = some (O.lst (ys ++ [.int 0])) := List.getElem?_set_self (by have := h.len; omega)
    simp only [seqOf, this]
  rw [l1]
  walk_at "wp"
  refine wp_use (t__law_mixed n (t + 1) (t + 1) b ns _ h1 (by omega) hb) ?_
  rintro _ T ⟨hv, hT⟩
  exact ⟨hv, ys, e, hT⟩


/-! _law_pick -/
/-! inc _law_pick.k14_bases_refused -/
theorem t__law_pick (n t a : Nat) (xs : List D) (ns : List Int) (S : Sto) (h : Tw ns t S) (hk : t < 1000000) (ha : 2 ≤ a) (e : S[a]? = some (.lst xs)) (hx : xs ≠ []) : Wp (Cl (n + 4) i__law_pick [.ref 0, .ref 1, .ref a] S) (fun d T => d ∈ xs ∧ ∃ ys, S[1]? = some (.lst ys) ∧ (T = S.set 1 (.lst (ys ++ [.int 0])) ∨ T = S.set 1 (.lst (ys ++ [.int 0])) ++ [.lst []])) (fun _ _ => False) := by
  refine wp_def (b := b__law_pick) (L := [some (.ref 0), some (.ref 1), some (.ref a)]) rfl rfl rfl ?_
  walk_at "wp"
  have hp := List.length_pos_iff.mpr hx
  refine wp_lenr (xs := xs) (by simp only [seqOf, e]) ?_
  walk_at "wp"
  refine wp_use (t__law_draw n t xs.length ns S h hk (by omega)) ?_
  rintro _ T ⟨⟨v, rfl, h0, h1⟩, ys, ey, hT⟩
  obtain ⟨d, e1, hd⟩ := at?_mem h0 h1
  have ea : T[a]? = some (.lst xs) := by
    have : (S.set 1 (.lst (ys ++ [.int 0])))[a]? = some (.lst xs) := by rw [List.getElem?_set_ne (by omega)]; exact e
    rcases hT with rfl | rfl
    · exact this
    · exact get_app this _
  refine wp_ixr (xs := xs) (by simp only [seqOf, ea]) e1 ?_
  exact ⟨hd, ys, ey, hT⟩


end K32
end
section
namespace K32
open Bv
open Mir (Nu Flt Itm Mach)
local macro_rules
  | `(tactic| walk_at "wp") => `(tactic| repeat (first
    | with_reducible refine swp_cons ?_
    | with_reducible refine swp_nil ?_
    | with_reducible refine swp_set ?_
    | with_reducible refine swp_ret ?_
    | with_reducible refine swp_retN ?_
    | with_reducible refine swp_if ?_
    | with_reducible refine swp_expr ?_
    | with_reducible refine swp_par ?_
    | with_reducible refine swp_unp ?_
    | with_reducible refine swp_pass ?_
    | with_reducible refine swp_aug (by with_unfolding_all rfl) ?_
    | with_reducible refine ite_t ?_
    | with_reducible refine ite_f ?_
    | with_reducible refine wp_var (by with_unfolding_all rfl) ?_
    | with_reducible refine wp_con ?_
    | with_reducible refine wp_op ?_
    | with_reducible refine wp_cons ?_
    | with_reducible refine wp_nil ?_
    | with_reducible refine wp_ix ?_
    | with_reducible refine wp_call0 ?_
    | with_reducible refine wp_call ?_
    | with_reducible refine wp_callK ?_
    | with_reducible refine wp_prim ?_
    | with_reducible refine wp_meth ?_
    | with_reducible refine wp_cmp ?_
    | with_reducible refine wp_cmpT ?_
    | with_reducible refine wp_chain ?_
    | with_reducible refine wp_chainT ?_
    | with_reducible refine wp_and ?_
    | with_reducible refine wp_or ?_
    | with_reducible refine wp_not ?_
    | with_reducible refine wp_andT ?_
    | with_reducible refine wp_orT ?_
    | with_reducible refine wp_notT ?_
    | with_reducible refine wp_ite ?_
    | with_reducible refine wp_sl ?_
    | with_reducible refine wp_pn ?_
    | with_reducible refine wp_negc ?_
    | with_reducible refine wp_tup ?_
    | with_reducible refine And.intro (Nat.le_of_ble_eq_true (by with_unfolding_all rfl)) ?_
    | with_reducible refine wp_lst ?_
    | with_reducible refine wp_addi ?_
    | with_reducible refine wp_subi ?_
    | with_reducible refine wp_lt ?_
    | with_reducible refine wp_le ?_
    | with_reducible refine wp_gt ?_
    | with_reducible refine wp_ge ?_
    | with_reducible refine wp_ne ?_
    | with_reducible refine wp_eqi ?_
    | with_reducible refine wp_eqp ?_
    | with_reducible refine wp_truthb ?_
    | with_reducible refine wp_truthi ?_
    | with_reducible refine wp_max2 ?_
    | with_reducible refine wp_max3 ?_
    | with_reducible refine wp_min2 ?_
    | with_reducible refine wp_abs ?_
    | with_reducible refine wp_lent ?_
    | with_reducible refine wp_ixt (by with_unfolding_all rfl) ?_
    | with_reducible refine wp_isint (by with_unfolding_all decide) ?_
    | with_reducible refine wp_istup (by with_unfolding_all decide) ?_
    | with_reducible refine wp_isstr (by with_unfolding_all decide) ?_
    | with_reducible refine wt_var ?_
    | with_reducible refine wt_con ?_
    | with_reducible refine wt_ix ?_
    | with_reducible refine wt_prim ?_
    | with_reducible refine wt_call ?_
    | with_reducible refine wt_callK ?_
    | with_reducible refine wt_op ?_
    | with_reducible refine pt_var ?_
    | with_reducible refine pt_con ?_
    | with_reducible refine pt_op ?_
    | with_reducible refine wp_fld ?_
    | with_reducible refine wt_fld ?_
    | with_reducible refine pt_fld ?_
    | with_reducible refine pt_neg ?_
    | with_reducible refine wp_getF (by assumption) (by with_unfolding_all rfl) ?_
    | with_reducible refine wp_mcall ?_
    | with_reducible refine wt_mcall ?_
    | with_reducible refine wp_cls (by assumption) ?_
    | with_reducible refine ex_look (by with_unfolding_all rfl) ?_
    | with_reducible refine wp_rev ?_
    | with_reducible refine wp_dget2 ?_
    | with_reducible refine wp_dget1 ?_
    | with_reducible refine wp_isD (by assumption) ?_
    | with_reducible refine swp_asgF ?_
    | with_reducible refine swp_asgS ?_
    | with_reducible refine swp_augF ?_
    | with_reducible refine wp_auga ?_
    | with_reducible refine wp_inS ?_
    | with_reducible refine wp_ninS ?_
    | with_reducible refine wp_eqs ?_
    | with_reducible refine swp_rai0 ?_
    | with_reducible refine swp_rai1 ?_
    | with_reducible refine wp_dct ?_
    | with_reducible refine wp_recvS (by with_unfolding_all rfl) ?_
    | with_reducible refine wp_callV ?_
    | with_reducible refine wp_callVK ?_
    | with_reducible refine wp_xf (by with_unfolding_all rfl) ?_
    | with_reducible refine swp_tryRet ?_
    | with_reducible refine wp_xis (by with_unfolding_all rfl) ?_
    | with_reducible refine wt_xis ?_
    | with_reducible refine wp_xcall (by with_unfolding_all rfl) ?_))
  | `(tactic| walk_at "wq") => `(tactic| (walk_at "wp"; repeat ((first
    | with_reducible refine ite_tt (by with_unfolding_all decide) ?_
    | with_reducible refine ite_ff (by with_unfolding_all decide) ?_); walk_at "wp")))

/-! law -/
/-! the plain law: what is closed is reckoned by the kernel -/
def isTrueR : R Fl → Bool
  | .ok (.ret (.bl true)) _ => true
  | _ => false
theorem swp_check {r : R Fl} {N : Loc → Sto → Prop} {E' : Exn → Sto → Prop} (h : isTrueR r = true) : SWp r N (fun d _ => d = .bl true) E' := by
  unfold isTrueR at h
  split at h
  · exact rfl
  · cases h
theorem swp_eqn {r : R Fl} {L : Loc} {S : Sto} {N : Loc → Sto → Prop} {Rt : D → Sto → Prop} {E' : Exn → Sto → Prop} (e : r = .ok (.next L) S) (h : N L S) : SWp r N Rt E' := by rw [e]; exact h
def ini : St := match b_law with
  | .cons a (.cons b (.cons c (.cons d _))) => .cons a (.cons b (.cons c (.cons d .nil)))
  | _ => .nil
def draw : St := match b_law with
  | .cons _ (.cons _ (.cons _ (.cons _ (.cons f _)))) => f
  | _ => .nil
def fin : St := match b_law with
  | .cons _ (.cons _ (.cons _ (.cons _ (.cons _ r)))) => r
  | _ => .nil
def some0 : List D := [.non, .int 5, .ref 212, .tup [.int 0, .int 21], .tup [.int (-1)], .tup [.int 5, .int 0], .tup [.int 0, .int 0], .tup [.str [48]], .tup [.bl true], .tup [.int 0, .non], .str [48, 53], .tup [.int 0, .int 5, .int 5], .tup [.tup [.int 0]]]
def SS (ns : List Int) : Sto := [.ro (ns.map D.int),
 .lst [],
 .lst [.tup [.str [115, 97, 121], .str [97]]],
 .lst [.non, .tup [], .str [115, 97, 121], .tup [.tup [.str [115, 97, 121]]], .ref 2],
 .lst [],
 .lst [],
 .lst [],
 .lst [.bl false, .bl false, .bl false, .bl false, .bl false, .bl false, .bl true, .bl false, .bl false, .bl false, .bl false, .bl false, .bl false],
 .lst [.bl false, .bl false, .bl true, .bl false],
 .lst [.bl false, .bl false, .bl false, .bl false],
 .lst [],
 .lst [],
 .lst [],
 .lst [.bl false, .bl false, .bl false, .bl false, .bl false, .bl false, .bl true, .bl false, .bl false, .bl false, .bl false, .bl false, .bl false],
 .lst [.bl false, .bl false, .bl true, .bl false],
 .lst [.bl false, .bl false, .bl false, .bl false],
 .lst [],
 .lst [],
 .lst [.tup [.tup [.str [115, 97, 121], .str [97]], .int 1]],
 .lst [],
 .lst [.tup [.str [115, 97, 121], .int 2], .tup [.str [97], .int 2]],
 .lst [],
 .lst [],
 .lst [],
 .lst [.bl true],
 .lst [.str [97]],
 .lst [.bl false],
 .lst [.str [115, 97, 121, 32, 34, 97, 34]],
 .lst [.str [97]],
 .lst [.str [115, 97, 121], .str [34, 97, 34]],
 .lst [.bl false, .bl false],
 .ins 2 [(12, .ref 29), (13, .int 2)],
 .lst [.tup [.str [115, 97, 121], .str [97]]],
 .lst [],
 .lst [],
 .lst [],
 .lst [.bl false, .bl false, .bl false, .bl false, .bl false, .bl false, .bl true, .bl false, .bl false, .bl false, .bl false, .bl false, .bl false],
 .lst [.bl false, .bl false, .bl true, .bl false],
 .lst [.bl false, .bl false, .bl false, .bl false],
 .lst [],
 .lst [],
 .lst [],
 .lst [],
 .lst [],
 .lst [],
 .lst [],
 .ins 2 [(12, .ref 45), (13, .int 0)],
 .lst [],
 .lst [.bl false, .bl false, .bl false, .bl false, .bl false, .bl false, .bl true, .bl false, .bl false, .bl false, .bl false, .bl false, .bl false],
 .lst [.bl false, .bl false, .bl true, .bl false],
 .lst [.bl false, .bl false, .bl false, .bl false],
 .lst [],
 .lst [],
 .lst [],
 .lst [],
 .lst [],
 .lst [],
 .lst [],
 .ins 2 [(12, .ref 57), (13, .int 0)],
 .lst [],
 .lst [.bl false, .bl false, .bl false, .bl false, .bl false, .bl false, .bl true, .bl false, .bl false, .bl false, .bl false, .bl false, .bl false],
 .lst [.bl false, .bl false, .bl true, .bl false],
 .lst [.bl false, .bl false, .bl false, .bl false],
 .lst [],
 .lst [],
 .lst [.tup [.tup [.str [115, 97, 121], .str [97]], .int 1]],
 .lst [],
 .lst [.tup [.str [115, 97, 121], .int 2], .tup [.str [97], .int 2]],
 .lst [],
 .lst [],
 .lst [],
 .lst [.bl true],
 .lst [.str [97]],
 .lst [.bl false],
 .lst [.str [115, 97, 121, 32, 34, 97, 34]],
 .lst [.str [97]],
 .lst [.str [115, 97, 121], .str [34, 97, 34]],
 .lst [.bl false, .bl false],
 .ins 2 [(12, .ref 76), (13, .int 2)],
 .lst [.tup [.str [115, 97, 121], .str [97]]],
 .lst [],
 .lst [],
 .lst [],
 .lst [],
 .lst [],
 .lst [],
 .lst [],
 .ins 2 [(12, .ref 86), (13, .int 0)],
 .lst [],
 .lst [.bl false, .bl false, .bl false, .bl false, .bl false, .bl false, .bl true, .bl false, .bl false, .bl false, .bl false, .bl false, .bl false],
 .lst [.bl false, .bl false, .bl true, .bl false],
 .lst [.bl false, .bl false, .bl false, .bl false],
 .lst [],
 .lst [],
 .lst [],
 .lst [.bl false, .bl false, .bl false, .bl false, .bl false, .bl false, .bl true, .bl false, .bl false, .bl false, .bl false, .bl false, .bl false],
 .lst [.bl false, .bl false, .bl true, .bl false],
 .lst [.bl false, .bl false, .bl false, .bl false],
 .lst [],
 .lst [],
 .lst [],
 .lst [.bl false, .bl false, .bl false, .bl false, .bl false, .bl false, .bl true, .bl false, .bl false, .bl false, .bl false, .bl false, .bl false],
 .lst [.bl false, .bl false, .bl true, .bl false],
 .lst [.bl false, .bl false, .bl false, .bl false],
 .lst [],
 .lst [],
 .lst [.tup [.tup [.str [115, 97, 121], .str [97]], .int 1]],
 .lst [],
 .lst [.tup [.str [115, 97, 121], .int 2], .tup [.str [97], .int 2]],
 .lst [],
 .lst [],
 .lst [],
 .lst [.bl true],
 .lst [.str [97]],
 .lst [.bl false],
 .lst [.str [115, 97, 121, 32, 34, 97, 34]],
 .lst [.str [97]],
 .lst [.str [115, 97, 121], .str [34, 97, 34]],
 .lst [.bl false, .bl false],
 .ins 2 [(12, .ref 117), (13, .int 2)],
 .lst [.tup [.str [115, 97, 121], .str [97]]],
 .lst [],
 .lst [],
 .lst [],
 .lst [.bl false, .bl false, .bl false, .bl false, .bl false, .bl false, .bl true, .bl false, .bl false, .bl false, .bl false, .bl false, .bl false],
 .lst [.bl false, .bl false, .bl true, .bl false],
 .lst [.bl false, .bl false, .bl false, .bl false],
 .lst [],
 .lst [],
 .lst [.tup [.tup [.str [115, 97, 121]], .int 1]],
 .lst [],
 .lst [.tup [.str [115, 97, 121], .int 2]],
 .lst [],
 .lst [],
 .lst [.bl false],
 .lst [.bl false, .bl false, .bl false, .bl false, .bl false, .bl false, .bl true, .bl false, .bl false, .bl false, .bl false, .bl false, .bl false],
 .lst [.bl false, .bl false, .bl true, .bl false],
 .lst [.bl false, .bl false, .bl false, .bl false],
 .lst [],
 .lst [],
 .lst [.tup [.tup [.str [115, 97, 121]], .int 1]],
 .lst [],
 .lst [.tup [.str [115, 97, 121], .int 2]],
 .lst [],
 .lst [],
 .lst [.bl false],
 .lst [.bl false, .bl false, .bl false, .bl false, .bl false, .bl false, .bl true, .bl false, .bl false, .bl false, .bl false, .bl false, .bl false],
 .lst [.bl false, .bl false, .bl true, .bl false],
 .lst [.bl false, .bl false, .bl false, .bl false],
 .lst [],
 .lst [],
 .lst [.tup [.tup [.str [115, 97, 121], .str [97]], .int 1]],
 .lst [],
 .lst [.tup [.str [115, 97, 121], .int 2], .tup [.str [97], .int 2]],
 .lst [],
 .lst [],
 .lst [],
 .lst [.bl true],
 .lst [.str [97]],
 .lst [.bl false],
 .lst [.str [115, 97, 121, 32, 34, 97, 34]],
 .lst [.str [97]],
 .lst [.str [115, 97, 121], .str [34, 97, 34]],
 .lst [.bl false, .bl false],
 .ins 2 [(12, .ref 162), (13, .int 2)],
 .lst [.tup [.str [115, 97, 121], .str [97]]],
 .lst [],
 .lst [],
 .lst [.tup [.tup [.str [115, 97, 121]], .int 1]],
 .lst [],
 .lst [.tup [.str [115, 97, 121], .int 2]],
 .lst [],
 .lst [],
 .lst [.bl false],
 .lst [.bl false, .bl false, .bl false, .bl false, .bl false, .bl false, .bl true, .bl false, .bl false, .bl false, .bl false, .bl false, .bl false],
 .lst [.bl false, .bl false, .bl true, .bl false],
 .lst [.bl false, .bl false, .bl false, .bl false],
 .lst [],
 .lst [],
 .lst [],
 .lst [.bl false, .bl false, .bl false, .bl false, .bl false, .bl false, .bl true, .bl false, .bl false, .bl false, .bl false, .bl false, .bl false],
 .lst [.bl false, .bl false, .bl true, .bl false],
 .lst [.bl false, .bl false, .bl false, .bl false],
 .lst [],
 .lst [],
 .lst [],
 .lst [.bl false, .bl false, .bl false, .bl false, .bl false, .bl false, .bl true, .bl false, .bl false, .bl false, .bl false, .bl false, .bl false],
 .lst [.bl false, .bl false, .bl true, .bl false],
 .lst [.bl false, .bl false, .bl false, .bl false],
 .lst [],
 .lst [],
 .lst [.tup [.tup [.str [115, 97, 121], .str [97]], .int 1]],
 .lst [],
 .lst [.tup [.str [115, 97, 121], .int 2], .tup [.str [97], .int 2]],
 .lst [],
 .lst [],
 .lst [],
 .lst [.bl true],
 .lst [.str [97]],
 .lst [.bl false],
 .lst [.str [115, 97, 121, 32, 34, 97, 34]],
 .lst [.str [97]],
 .lst [.str [115, 97, 121], .str [34, 97, 34]],
 .lst [.bl false, .bl false],
 .ins 2 [(12, .ref 202), (13, .int 2)],
 .lst [.tup [.str [115, 97, 121], .str [97]]],
 .lst [],
 .lst [],
 .lst [],
 .lst [.bl false, .bl false, .bl false, .bl false, .bl false, .bl false, .bl true, .bl false, .bl false, .bl false, .bl false, .bl false, .bl false],
 .lst [.bl false, .bl false, .bl true, .bl false],
 .lst [.bl false, .bl false, .bl false, .bl false],
 .lst [.int 0, .int 5],
 .lst [.non, .int 5, .ref 212, .tup [.int 0, .int 21], .tup [.int (-1)], .tup [.int 5, .int 0], .tup [.int 0, .int 0], .tup [.str [48]], .tup [.bl true], .tup [.int 0, .non], .str [48, 53], .tup [.int 0, .int 5, .int 5], .tup [.tup [.int 0]]]]
def L0 : Loc := [some (.ref 0), some (.ref 1), some (.tup [.tup [.str [115, 97, 121], .str [97]]]), some (.ref 2), some (.ref 213)]
def LL (d : D) : Loc := [some (.ref 0), some (.ref 1), some (.tup [.tup [.str [115, 97, 121], .str [97]]]), some d, some (.ref 213)]
def T1 (ns : List Int) : Sto := (SS ns).set 1 (.lst ([] ++ [.int 0]))
def T2 (ns : List Int) : Sto := (SS ns).set 1 (.lst ([] ++ [.int 0])) ++ [.lst []]
theorem ini_eq (ns : List Int) : xs (callF tab 1000000 199) 1000000 ini [some (.ref 0), none, none, none, none] [.ro (ns.map D.int)] = .ok (.next L0) (SS ns) := by kernel_rfl
theorem fin0_1 (ns : List Int) : isTrueR (xs (callF tab 1000000 199) 1000000 fin (LL (.non)) (T1 ns)) = true := by kernel_rfl
theorem fin0_2 (ns : List Int) : isTrueR (xs (callF tab 1000000 199) 1000000 fin (LL (.non)) (T2 ns)) = true := by kernel_rfl
theorem fin1_1 (ns : List Int) : isTrueR (xs (callF tab 1000000 199) 1000000 fin (LL (.int 5)) (T1 ns)) = true := by kernel_rfl
theorem fin1_2 (ns : List Int) : isTrueR (xs (callF tab 1000000 199) 1000000 fin (LL (.int 5)) (T2 ns)) = true := by kernel_rfl
theorem fin2_1 (ns : List Int) : isTrueR (xs (callF tab 1000000 199) 1000000 fin (LL (.ref 212)) (T1 ns)) = true := by kernel_rfl
theorem fin2_2 (ns : List Int) : isTrueR (xs (callF tab 1000000 199) 1000000 fin (LL (.ref 212)) (T2 ns)) = true := by kernel_rfl
theorem fin3_1 (ns : List Int) : isTrueR (xs (callF tab 1000000 199) 1000000 fin (LL (.tup [.int 0, .int 21])) (T1 ns)) = true := by kernel_rfl
theorem fin3_2 (ns : List Int) : isTrueR (xs (callF tab 1000000 199) 1000000 fin (LL (.tup [.int 0, .int 21])) (T2 ns)) = true := by kernel_rfl
theorem fin4_1 (ns : List Int) : isTrueR (xs (callF tab 1000000 199) 1000000 fin (LL (.tup [.int (-1)])) (T1 ns)) = true := by kernel_rfl
theorem fin4_2 (ns : List Int) : isTrueR (xs (callF tab 1000000 199) 1000000 fin (LL (.tup [.int (-1)])) (T2 ns)) = true := by kernel_rfl
theorem fin5_1 (ns : List Int) : isTrueR (xs (callF tab 1000000 199) 1000000 fin (LL (.tup [.int 5, .int 0])) (T1 ns)) = true := by kernel_rfl
theorem fin5_2 (ns : List Int) : isTrueR (xs (callF tab 1000000 199) 1000000 fin (LL (.tup [.int 5, .int 0])) (T2 ns)) = true := by kernel_rfl
theorem fin6_1 (ns : List Int) : isTrueR (xs (callF tab 1000000 199) 1000000 fin (LL (.tup [.int 0, .int 0])) (T1 ns)) = true := by kernel_rfl
theorem fin6_2 (ns : List Int) : isTrueR (xs (callF tab 1000000 199) 1000000 fin (LL (.tup [.int 0, .int 0])) (T2 ns)) = true := by kernel_rfl
theorem fin7_1 (ns : List Int) : isTrueR (xs (callF tab 1000000 199) 1000000 fin (LL (.tup [.str [48]])) (T1 ns)) = true := by kernel_rfl
theorem fin7_2 (ns : List Int) : isTrueR (xs (callF tab 1000000 199) 1000000 fin (LL (.tup [.str [48]])) (T2 ns)) = true := by kernel_rfl
theorem fin8_1 (ns : List Int) : isTrueR (xs (callF tab 1000000 199) 1000000 fin (LL (.tup [.bl true])) (T1 ns)) = true := by kernel_rfl
theorem fin8_2 (ns : List Int) : isTrueR (xs (callF tab 1000000 199) 1000000 fin (LL (.tup [.bl true])) (T2 ns)) = true := by kernel_rfl
theorem fin9_1 (ns : List Int) : isTrueR (xs (callF tab 1000000 199) 1000000 fin (LL (.tup [.int 0, .non])) (T1 ns)) = true := by kernel_rfl
theorem fin9_2 (ns : List Int) : isTrueR (xs (callF tab 1000000 199) 1000000 fin (LL (.tup [.int 0, .non])) (T2 ns)) = true := by kernel_rfl
theorem fin10_1 (ns : List Int) : isTrueR (xs (callF tab 1000000 199) 1000000 fin (LL (.str [48, 53])) (T1 ns)) = true := by kernel_rfl
theorem fin10_2 (ns : List Int) : isTrueR (xs (callF tab 1000000 199) 1000000 fin (LL (.str [48, 53])) (T2 ns)) = true := by kernel_rfl
theorem fin11_1 (ns : List Int) : isTrueR (xs (callF tab 1000000 199) 1000000 fin (LL (.tup [.int 0, .int 5, .int 5])) (T1 ns)) = true := by kernel_rfl
theorem fin11_2 (ns : List Int) : isTrueR (xs (callF tab 1000000 199) 1000000 fin (LL (.tup [.int 0, .int 5, .int 5])) (T2 ns)) = true := by kernel_rfl
theorem fin12_1 (ns : List Int) : isTrueR (xs (callF tab 1000000 199) 1000000 fin (LL (.tup [.tup [.int 0]])) (T1 ns)) = true := by kernel_rfl
theorem fin12_2 (ns : List Int) : isTrueR (xs (callF tab 1000000 199) 1000000 fin (LL (.tup [.tup [.int 0]])) (T2 ns)) = true := by kernel_rfl
theorem all1 (ns : List Int) (d : D) (hd : d ∈ some0) : isTrueR (xs (callF tab 1000000 199) 1000000 fin (LL d) (T1 ns)) = true := by
  unfold some0 at hd
  simp only [List.mem_cons, List.not_mem_nil, or_false] at hd
  rcases hd with rfl | rfl | rfl | rfl | rfl | rfl | rfl | rfl | rfl | rfl | rfl | rfl | rfl
  · with_reducible exact fin0_1 ns
  · with_reducible exact fin1_1 ns
  · with_reducible exact fin2_1 ns
  · with_reducible exact fin3_1 ns
  · with_reducible exact fin4_1 ns
  · with_reducible exact fin5_1 ns
  · with_reducible exact fin6_1 ns
  · with_reducible exact fin7_1 ns
  · with_reducible exact fin8_1 ns
  · with_reducible exact fin9_1 ns
  · with_reducible exact fin10_1 ns
  · with_reducible exact fin11_1 ns
  · with_reducible exact fin12_1 ns
theorem all2 (ns : List Int) (d : D) (hd : d ∈ some0) : isTrueR (xs (callF tab 1000000 199) 1000000 fin (LL d) (T2 ns)) = true := by
  unfold some0 at hd
  simp only [List.mem_cons, List.not_mem_nil, or_false] at hd
  rcases hd with rfl | rfl | rfl | rfl | rfl | rfl | rfl | rfl | rfl | rfl | rfl | rfl | rfl
  · with_reducible exact fin0_2 ns
  · with_reducible exact fin1_2 ns
  · with_reducible exact fin2_2 ns
  · with_reducible exact fin3_2 ns
  · with_reducible exact fin4_2 ns
  · with_reducible exact fin5_2 ns
  · with_reducible exact fin6_2 ns
  · with_reducible exact fin7_2 ns
  · with_reducible exact fin8_2 ns
  · with_reducible exact fin9_2 ns
  · with_reducible exact fin10_2 ns
  · with_reducible exact fin11_2 ns
  · with_reducible exact fin12_2 ns
theorem cons_nx {C : Nat → List D → M D} {m : Nat} {a b : St} {L L' : Loc} {S S' : Sto} (h : xs C m (.cons a b) L S = .ok (.next L') S') : ∃ L1 S1, xs C m a L S = .ok (.next L1) S1 ∧ xs C m b L1 S1 = .ok (.next L') S' := by
  change sThen (xs C m a) (xs C m b) L S = _ at h
  unfold sThen at h
  cases x : xs C m a L S with
  | ok fl S1 =>
    rw [x] at h
    cases fl with
    | next L1 => exact ⟨L1, S1, rfl, h⟩
    | _ => simp at h
  | exc e S1 => rw [x] at h; simp at h
  | bad => rw [x] at h; simp at h
theorem four {C : Nat → List D → M D} {m : Nat} {a b c d r : St} {L L' : Loc} {S S' : Sto} {N : Loc → Sto → Prop} {Rt : D → Sto → Prop} {E' : Exn → Sto → Prop} (h : xs C m (.cons a (.cons b (.cons c (.cons d .nil)))) L S = .ok (.next L') S') (g : SWp (xs C m r L' S') N Rt E') : SWp (xs C m (.cons a (.cons b (.cons c (.cons d r)))) L S) N Rt E' := by
  obtain ⟨L1, S1, e1, h⟩ := cons_nx h
  obtain ⟨L2, S2, e2, h⟩ := cons_nx h
  obtain ⟨L3, S3, e3, h⟩ := cons_nx h
  obtain ⟨L4, S4, e4, h⟩ := cons_nx h
  cases h
  exact swp_cons (swp_eqn e1 (swp_cons (swp_eqn e2 (swp_cons (swp_eqn e3 (swp_cons (swp_eqn e4 g)))))))
def s1 : St := match b_law with
  | .cons a _ => a
  | _ => .nil
def s2 : St := match b_law with
  | .cons _ (.cons a _) => a
  | _ => .nil
def s3 : St := match b_law with
  | .cons _ (.cons _ (.cons a _)) => a
  | _ => .nil
def s4 : St := match b_law with
  | .cons _ (.cons _ (.cons _ (.cons a _))) => a
  | _ => .nil
theorem law_eq : b_law = .cons s1 (.cons s2 (.cons s3 (.cons s4 (.cons (.set 3 (.call i__law_pick (.cons (.var 0) (.cons (.var 1) (.cons (.var 4) .nil))) [])) fin)))) := by kernel_rfl
theorem ini_eq2 : ini = .cons s1 (.cons s2 (.cons s3 (.cons s4 .nil))) := by kernel_rfl
theorem ini_law (ns : List Int) : xs (callF tab 1000000 199) 1000000 (.cons s1 (.cons s2 (.cons s3 (.cons s4 .nil)))) [some (.ref 0), none, none, none, none] [.ro (ns.map D.int)] = .ok (.next L0) (SS ns) := by
  have h := ini_eq ns
  rw [ini_eq2] at h
  with_reducible exact h
theorem chk1 (ns : List Int) (d : D) (hd : d ∈ some0) : SWp (xs (callF tab 1000000 199) 1000000 fin (LL d) (T1 ns)) (fun _ _ => D.non = .bl true) (fun d _ => d = .bl true) (fun _ _ => False) := by
  with_reducible refine swp_check ?_
  with_reducible exact all1 ns d hd
theorem chk2 (ns : List Int) (d : D) (hd : d ∈ some0) : SWp (xs (callF tab 1000000 199) 1000000 fin (LL d) (T2 ns)) (fun _ _ => D.non = .bl true) (fun d _ => d = .bl true) (fun _ _ => False) := by
  with_reducible refine swp_check ?_
  with_reducible exact all2 ns d hd
theorem t_body (ns : List Int) : SWp (xs (callF tab 1000000 199) 1000000 b_law [some (.ref 0), none, none, none, none] [.ro (ns.map D.int)]) (fun _ _ => D.non = .bl true) (fun d _ => d = .bl true) (fun _ _ => False) := by
  rw [law_eq]
  with_reducible refine four (ini_law ns) ?_
  with_reducible refine swp_cons ?_
  with_reducible refine swp_set ?_
  unfold L0
  walk_at "wp"
  with_reducible refine wp_use (t__law_pick 195 0 213 some0 ns (SS ns) ⟨rfl, [], rfl, rfl⟩ (by decide) (by decide) rfl (by unfold some0; simp)) ?_
  rintro d T ⟨hd, ys, ey, hT⟩
  obtain rfl : [] = ys := by
    change some (O.lst []) = some (O.lst ys) at ey
    simpa using ey
  rcases hT with rfl | rfl
  · change SWp (xs (callF tab 1000000 199) 1000000 fin (LL d) (T1 ns)) _ _ _
    with_reducible exact chk1 ns d hd
  · change SWp (xs (callF tab 1000000 199) 1000000 fin (LL d) (T2 ns)) _ _ _
    with_reducible exact chk2 ns d hd
theorem t_law (ns : List Int) : ∃ S', Cl 200 i_law [.ref 0] [.ro (ns.map D.int)] = .ok (.bl true) S' := by
  with_reducible refine ex_of_wp ?_
  with_reducible refine wp_def (tab := tab) (wf := 1000000) (i := i_law) (ps := 1) (ns := 5) (n := 199) (b := b_law) (L := [some (.ref 0), none, none, none, none]) ?_ ?_ ?_ ?_
  · rfl
  · rfl
  · rfl
  · with_reducible exact t_body ns
theorem law_ok : ∀ ns : List Int, ∃ S', callF tab 1000000 200 i_law [.ref 0] [.ro (ns.map D.int)] = .ok (.bl true) S' := t_law

end K32
end
section
namespace K32
open PySem L2 Bv
theorem tab_eq : dfs.map (fnOfDf G ms) = tab := by kernel_rfl
abbrev Γ (K : PySem.W.Frag) : Gm := gmOf dfs cs ks K
theorem defs_ok {K : PySem.W.Frag} (c : He.SaysD fa fn K) (db : tdfB tds K = true) : AllI (fun i df => df.cr = none → DefOk (Γ K) i df) 0 dfs := ⟨fun _ => defOk_N c rfl (by decide +kernel) rfl rfl rfl rfl (fun _ _ _ _ _ _ us hl => match us, hl with | [_, _, _], _ => rfl),
  fun _ => defOk_N c rfl (by decide +kernel) rfl rfl rfl rfl (fun _ _ _ _ _ _ us hl => match us, hl with | [_], _ => rfl),
  fun _ => defOk_N c rfl (by decide +kernel) rfl rfl rfl rfl (fun _ _ _ _ _ _ us hl => match us, hl with | [_], _ => rfl),
  fun _ => defOk_N c rfl (by decide +kernel) rfl rfl rfl rfl (fun _ _ _ _ _ _ us hl => match us, hl with | [_, _, _], _ => rfl),
  fun _ => defOk_N c rfl (by decide +kernel) rfl rfl rfl rfl (fun _ _ _ _ _ _ us hl => match us, hl with | [_, _], _ => rfl),
  fun _ => defOk_N c rfl (by decide +kernel) rfl rfl rfl rfl (fun _ _ _ _ _ _ us hl => match us, hl with | [_], _ => rfl),
  fun _ => defOk_N c rfl (by decide +kernel) rfl rfl rfl rfl (fun _ _ _ _ _ _ us hl => match us, hl with | [_], _ => rfl),
  fun _ => defOk_N c rfl (by decide +kernel) rfl rfl rfl rfl (fun _ _ _ _ _ _ us hl => match us, hl with | [_], _ => rfl),
  fun _ => defOk_N c rfl (by decide +kernel) rfl rfl rfl rfl (fun _ _ _ _ _ _ us hl => match us, hl with | [_, _], _ => rfl),
  fun _ => defOk_N c rfl (by decide +kernel) rfl rfl rfl rfl (fun _ _ _ _ _ _ us hl => match us, hl with | [_, _], _ => rfl),
  fun _ => defOk_N c rfl (by decide +kernel) rfl rfl rfl rfl (fun _ _ _ _ _ _ us hl => match us, hl with | [_], _ => rfl),
  fun _ => defOk_N c rfl (by decide +kernel) rfl rfl rfl rfl (fun _ _ _ _ _ _ us hl => match us, hl with | [_], _ => rfl),
  fun _ => defOk_N c rfl (by decide +kernel) rfl rfl rfl rfl (fun _ _ _ _ _ _ us hl => match us, hl with | [_], _ => rfl),
  fun _ => defOk_N c rfl (by decide +kernel) rfl rfl rfl rfl (fun _ _ _ _ _ _ us hl => match us, hl with | [_, _], _ => rfl),
  fun _ => defOk_N c rfl (by decide +kernel) rfl rfl rfl rfl (fun _ _ _ _ _ _ us hl => match us, hl with | [_], _ => rfl),
  fun _ => defOk_KT c rfl (by decide +kernel) rfl rfl rfl rfl (tdf_rep db (zs := [0, 5, 20]) (by decide)) rfl (fun D _ _ _ _ _ us ks h1 h2 => match us, ks, h1, h2 with | [_, _], [_], _, _ => ⟨_, _, _, _, _, _, rfl, rfl, rfl⟩) (fun D _ _ _ _ _ us ws h1 h2 => match us, ws, h1, h2 with | [_, _], [_], _, _ => rfl),
  fun _ => defOk_KT c rfl (by decide +kernel) rfl rfl rfl rfl (tdf_rep db (zs := [0, 5, 20]) (by decide)) rfl (fun D _ _ _ _ _ us ks h1 h2 => match us, ks, h1, h2 with | [_], [_], _, _ => ⟨_, _, _, _, _, _, rfl, rfl, rfl⟩) (fun D _ _ _ _ _ us ws h1 h2 => match us, ws, h1, h2 with | [_], [_], _, _ => rfl),
  fun _ => defOk_N c rfl (by decide +kernel) rfl rfl rfl rfl (fun _ _ _ _ _ _ us hl => match us, hl with | [_, _], _ => rfl),
  fun _ => defOk_N c rfl (by decide +kernel) rfl rfl rfl rfl (fun _ _ _ _ _ _ us hl => match us, hl with | [_, _, _], _ => rfl),
  fun _ => defOk_N c rfl (by decide +kernel) rfl rfl rfl rfl (fun _ _ _ _ _ _ us hl => match us, hl with | [_, _, _], _ => rfl),
  fun _ => defOk_N c rfl (by decide +kernel) rfl rfl rfl rfl (fun _ _ _ _ _ _ us hl => match us, hl with | [_, _, _], _ => rfl),
  fun _ => defOk_N c rfl (by decide +kernel) rfl rfl rfl rfl (fun _ _ _ _ _ _ us hl => match us, hl with | [_], _ => rfl),
  fun _ => defOk_N c rfl (by decide +kernel) rfl rfl rfl rfl (fun _ _ _ _ _ _ us hl => match us, hl with | [_, _, _, _], _ => rfl),
  fun _ => defOk_N c rfl (by decide +kernel) rfl rfl rfl rfl (fun _ _ _ _ _ _ us hl => match us, hl with | [_], _ => rfl),
  fun _ => defOk_N c rfl (by decide +kernel) rfl rfl rfl rfl (fun _ _ _ _ _ _ us hl => match us, hl with | [_, _], _ => rfl),
  fun _ => defOk_N c rfl (by decide +kernel) rfl rfl rfl rfl (fun _ _ _ _ _ _ us hl => match us, hl with | [_, _], _ => rfl),
  fun _ => defOk_N c rfl (by decide +kernel) rfl rfl rfl rfl (fun _ _ _ _ _ _ us hl => match us, hl with | [_, _], _ => rfl),
  fun _ => defOk_N c rfl (by decide +kernel) rfl rfl rfl rfl (fun _ _ _ _ _ _ us hl => match us, hl with | [_, _], _ => rfl),
  fun _ => defOk_N c rfl (by decide +kernel) rfl rfl rfl rfl (fun _ _ _ _ _ _ us hl => match us, hl with | [_], _ => rfl),
  fun _ => defOk_N c rfl (by decide +kernel) rfl rfl rfl rfl (fun _ _ _ _ _ _ us hl => match us, hl with | [_, _], _ => rfl),
  fun _ => defOk_N c rfl (by decide +kernel) rfl rfl rfl rfl (fun _ _ _ _ _ _ us hl => match us, hl with | [_, _], _ => rfl),
  fun _ => defOk_N c rfl (by decide +kernel) rfl rfl rfl rfl (fun _ _ _ _ _ _ us hl => match us, hl with | [_, _, _], _ => rfl),
  fun _ => defOk_N c rfl (by decide +kernel) rfl rfl rfl rfl (fun _ _ _ _ _ _ us hl => match us, hl with | [_, _], _ => rfl),
  fun _ => defOk_N c rfl (by decide +kernel) rfl rfl rfl rfl (fun _ _ _ _ _ _ us hl => match us, hl with | [_, _], _ => rfl),
  fun _ => defOk_N c rfl (by decide +kernel) rfl rfl rfl rfl (fun _ _ _ _ _ _ us hl => match us, hl with | [_, _], _ => rfl),
  fun _ => defOk_N c rfl (by decide +kernel) rfl rfl rfl rfl (fun _ _ _ _ _ _ us hl => match us, hl with | [_], _ => rfl),
  fun _ => defOk_N c rfl (by decide +kernel) rfl rfl rfl rfl (fun _ _ _ _ _ _ us hl => match us, hl with | [_, _], _ => rfl),
  fun _ => defOk_N c rfl (by decide +kernel) rfl rfl rfl rfl (fun _ _ _ _ _ _ us hl => match us, hl with | [_, _], _ => rfl),
  fun _ => defOk_N c rfl (by decide +kernel) rfl rfl rfl rfl (fun _ _ _ _ _ _ us hl => match us, hl with | [_, _], _ => rfl),
  (fun z => nomatch z),
  (fun z => nomatch z), trivial⟩
theorem globs_ok {K : PySem.W.Frag} {h : Heap} {mg : PySem.Str → Option Value} (X : K.In h) (N : h.Ns mainGlobals mg) (c : He.SaysD fa fn K) (cb : clsB cs K = true) (mb : makB dfs mks K = true) (ub : tupB tps K = true) : AllG (GvOk (Γ K) dfs mg) G := ⟨⟨_, rfl, He.glo_ok X N (c.fact 0 rfl), rfl, rfl, rfl, rfl, rfl⟩,
  ⟨_, rfl, He.glo_ok X N (c.fact 1 rfl), rfl, rfl, rfl, rfl, rfl⟩,
  ⟨_, rfl, He.glo_ok X N (c.fact 2 rfl), rfl, rfl, rfl, rfl, rfl⟩,
  ⟨_, rfl, He.glo_ok X N (c.fact 3 rfl), rfl, rfl, rfl, rfl, rfl⟩,
  ⟨_, rfl, He.glo_ok X N (c.fact 4 rfl), rfl, rfl, rfl, rfl, rfl⟩,
  ⟨_, rfl, He.glo_ok X N (c.fact 5 rfl), rfl, rfl, rfl, rfl, rfl⟩,
  ⟨_, rfl, He.glo_ok X N (c.fact 6 rfl), rfl, rfl, rfl, rfl, rfl⟩,
  ⟨_, rfl, He.glo_ok X N (c.fact 7 rfl), rfl, rfl, rfl, rfl, rfl⟩,
  ⟨_, rfl, He.glo_ok X N (c.fact 8 rfl), rfl, rfl, rfl, rfl, rfl⟩,
  ⟨_, rfl, He.glo_ok X N (c.fact 9 rfl), rfl, rfl, rfl, rfl, rfl⟩,
  ⟨_, rfl, He.glo_ok X N (c.fact 10 rfl), rfl, rfl, rfl, rfl, rfl⟩,
  ⟨_, rfl, He.glo_ok X N (c.fact 11 rfl), rfl, rfl, rfl, rfl, rfl⟩,
  ⟨_, rfl, He.glo_ok X N (c.fact 12 rfl), rfl, rfl, rfl, rfl, rfl⟩,
  ⟨_, rfl, He.glo_ok X N (c.fact 13 rfl), rfl, rfl, rfl, rfl, rfl⟩,
  ⟨_, rfl, He.glo_ok X N (c.fact 14 rfl), rfl, rfl, rfl, rfl, rfl⟩,
  ⟨_, rfl, He.glo_ok X N (c.fact 15 rfl), rfl, rfl, rfl, rfl, rfl⟩,
  ⟨_, rfl, He.glo_ok X N (c.fact 16 rfl), rfl, rfl, rfl, rfl, rfl⟩,
  ⟨_, rfl, He.glo_ok X N (c.fact 17 rfl), rfl, rfl, rfl, rfl, rfl⟩,
  ⟨_, rfl, He.glo_ok X N (c.fact 18 rfl), rfl, rfl, rfl, rfl, rfl⟩,
  ⟨_, rfl, He.glo_ok X N (c.fact 19 rfl), rfl, rfl, rfl, rfl, rfl⟩,
  ⟨_, rfl, He.glo_ok X N (c.fact 20 rfl), rfl, rfl, rfl, rfl, rfl⟩,
  ⟨_, rfl, He.glo_ok X N (c.fact 21 rfl), rfl, rfl, rfl, rfl⟩,
  ⟨_, rfl, He.glo_ok X N (c.fact 22 rfl), rfl, rfl, rfl, rfl, rfl⟩,
  ⟨_, rfl, He.glo_ok X N (c.fact 23 rfl), rfl, rfl, rfl, rfl, rfl⟩,
  gv_int X N (c.fact 24 rfl),
  gv_int X N (c.fact 25 rfl),
  gv_str X N (c.fact 26 rfl) (by decide +kernel),
  gv_str X N (c.fact 27 rfl) (by decide +kernel),
  gv_str X N (c.fact 28 rfl) (by decide +kernel),
  gv_tup X N ub (ss := [[115, 99, 97, 108, 101], [105, 98, 97, 115, 101], [111, 98, 97, 115, 101]]) (List.mem_of_getElem? (i := 0) rfl),
  gv_str X N (c.fact 29 rfl) (by decide +kernel),
  gv_tup X N ub (ss := [[60, 61], [62, 61], [61, 61], [33, 61]]) (List.mem_of_getElem? (i := 1) rfl),
  gv_tup X N ub (ss := [[60], [60, 61], [62], [62, 61], [61, 61], [33, 61]]) (List.mem_of_getElem? (i := 2) rfl),
  gv_int X N (c.fact 30 rfl),
  gv_int X N (c.fact 31 rfl),
  gv_int X N (c.fact 32 rfl),
  gv_int X N (c.fact 33 rfl),
  gv_int X N (c.fact 34 rfl),
  gv_int X N (c.fact 35 rfl),
  gv_int X N (c.fact 36 rfl),
  gv_int X N (c.fact 37 rfl),
  gv_mk (kk := 2) (g := 27) X N (c.fact 65 rfl) mb (by decide) (by decide) rfl rfl rfl rfl rfl rfl rfl rfl rfl,
  gv_mk (kk := 1) (g := 33) X N (c.fact 66 rfl) mb (by decide) (by decide) rfl rfl rfl rfl rfl rfl rfl rfl rfl,
  gv_cls (j := 0) X N (c.fact 38 rfl) (c.fact 39 rfl) (by decide),
  gv_clsF (j := 1) X N (c.fact 40 rfl) (by decide) (one_ok (i := 24) c cb (by decide) rfl rfl rfl rfl rfl rfl rfl rfl),
  gv_cls (j := 2) X N (c.fact 41 rfl) (c.fact 42 rfl) (by decide),
  gv_cls (j := 3) X N (c.fact 43 rfl) (c.fact 44 rfl) (by decide),
  gv_cls (j := 4) X N (c.fact 45 rfl) (c.fact 46 rfl) (by decide),
  gv_cls (j := 5) X N (c.fact 47 rfl) (c.fact 48 rfl) (by decide),
  gv_clsF (j := 6) X N (c.fact 49 rfl) (by decide) (one_ok (i := 25) c cb (by decide) rfl rfl rfl rfl rfl rfl rfl rfl),
  gv_cls (j := 7) X N (c.fact 50 rfl) (c.fact 51 rfl) (by decide),
  gv_cls (j := 8) X N (c.fact 52 rfl) (c.fact 53 rfl) (by decide),
  gv_cls (j := 9) X N (c.fact 54 rfl) (c.fact 55 rfl) (by decide),
  gv_cls (j := 10) X N (c.fact 56 rfl) (c.fact 57 rfl) (by decide),
  gv_cls (j := 11) X N (c.fact 58 rfl) (c.fact 59 rfl) (by decide),
  gv_cls (j := 12) X N (c.fact 60 rfl) (c.fact 61 rfl) (by decide),
  gv_cls (j := 13) X N (c.fact 62 rfl) (c.fact 63 rfl) (by decide),
  gv_clsF (j := 14) X N (c.fact 64 rfl) (by decide) (one_ok (i := 26) c cb (by decide) rfl rfl rfl rfl rfl rfl rfl rfl),
  He.free_ok X N (c.fact 67 rfl),
  He.free_ok X N (c.fact 68 rfl),
  He.free_ok X N (c.fact 69 rfl),
  He.free_ok X N (c.fact 70 rfl),
  He.free_ok X N (c.fact 71 rfl),
  He.free_ok X N (c.fact 72 rfl),
  He.free_ok X N (c.fact 73 rfl),
  He.free_ok X N (c.fact 74 rfl),
  He.free_ok X N (c.fact 75 rfl),
  He.free_ok X N (c.fact 76 rfl),
  He.free_ok X N (c.fact 77 rfl),
  He.free_ok X N (c.fact 78 rfl),
  He.free_ok X N (c.fact 79 rfl),
  He.free_ok X N (c.fact 80 rfl),
  He.free_ok X N (c.fact 81 rfl),
  He.free_ok X N (c.fact 82 rfl), trivial⟩
end K32
open PySem PySem.W PySem.Calls PyProof.Rows
theorem K32.holds_of (hlaw : ∀ ns : List Int, ns.length ≤ 63 → (∀ z ∈ ns, Builtin.Int.intBits z ≤ 1048576) → ∃ S', Bv.callF K32.tab 1000000 200 23 [.ref 0] [.ro (ns.map Bv.D.int)] = .ok (.bl true) S') : PySem.Challenge.rw_scaledesk_k32_scales_refused.Holds := by
  w_on; o_law
  refine HandSHeadRun.head_any (r := OpenLaw.row PySem.Challenge.rw_scaledesk_k32_scales_refused) (q := view (OpenLaw.row PySem.Challenge.rw_scaledesk_k32_scales_refused).prog [99]) (H := K32.hk) (ob := K32.ob) (M := 100000) (loose := K32.names) (d := HandSHeadRun.topDef (OpenLaw.row PySem.Challenge.rw_scaledesk_k32_scales_refused).prog 99) (kwd := []) K32.ob_eq
    (by kernel_rfl) (fun s => by kernel_rfl) K32.run (by kernel_rfl) (by kernel_rfl) (by kernel_rfl) (by rfl) (by first | assumption | decide +kernel) (by decide +kernel) ⟨rfl, rfl, rfl, rfl, rfl, by decide +kernel⟩ ?hw ?hc
  case hw => w_witness2
  case hc =>
    refine L2.walk_ofEB (l := PySem.Challenge.rw_scaledesk_k32_scales_refused) (n := 63) (k := 200) (x := "script") rfl (by decide) (by kernel_rfl) ⟨rfl, by decide, by decide⟩ ?F
    intro w mg fa h Y G hmg0
    obtain ⟨K, KX, c, cb⟩ := Y
    obtain ⟨cb, kb, tb, mb, ub, db⟩ := Bv.allB_ok cb
    have hmg : mg ("law" : PySem.Str) = some (.ref fa) := by
      have e : (HandSHeadRun.topDef (OpenLaw.row PySem.Challenge.rw_scaledesk_k32_scales_refused).prog 99).name = ("law" : PySem.Str) := by kernel_rfl
      rw [← e]
      exact hmg0
    exact Bv.law_end (Γ := K32.Γ K) (i := 23) rfl (Bv.clsB_ok cb) (Bv.klsB_ok kb) (Bv.ms_ok (ms := K32.ms) (by decide +kernel) tb) KX G hmg (fun i df hi => Bv.AllI.get (K32.defs_ok c db) hi) (fun mg' h' X' N' x gv hx => Bv.AllG.get (K32.globs_ok X' N' c cb mb ub) hx) (df := K32.d23) rfl (Bv.law_fun c rfl rfl) (fun _ _ _ _ _ _ us hl => match us, hl with | [_], _ => rfl) rfl rfl K32.tab_eq hlaw
end
theorem PySem.Challenge.cw_scaledesk_k32_scales_refused_holds : PySem.Challenge.rw_scaledesk_k32_scales_refused.Holds := by
  exact K32.holds_of (fun ns _ _ => K32.law_ok ns)
