import PyProof.Rows.All
import Wide.All
import OpenK.AllK
import Wide.FinOn
import HandS.ForMost
import HandS.Wide
import HandS.Gcd
import HandS.Style
import HandS.IsInst
import HandS.Defaults
import HandS.SortKw
import HandS.Codes
import HandS.Evl
import HandS.SortInts
import HandS.SortRule
import HandS.Zip
import HandS.RaiseOp
import HandS.Head0
import HandS.Head1
import HandS.Head2
import HandS.HeadEnd
import HandS.HeadHook1
import HandS.HeadHook2
import HandS.HeadHook3
import HandS.HeadHook4
import HandS.Head3
import PySem.Challenge.RW_onewarmth_k79_rules_that_leave
set_option Elab.async false
set_option linter.all false
set_option maxRecDepth 100000
set_option maxHeartbeats 2000000
/-! PyA: plain data for a Python value, what an expression and a block compute over plain data (no heap). -/
namespace PyD
open PySem L2

/-- plain data: a list here is one that nobody changes any more; frl: a list that is only read (the script) -/
inductive D where
  | non | bl (b : Bool) | int (i : Int) | str (x : Str) | tup (ds : List D) | lst (ds : List D) | frl (ds : List D) | ktp (ds : List D) | ins (c : Nat) (fs : List (Str × D)) | rng (lo hi : Int) | adr (a : Addr)
/-- a list of one's own that may still change, with lists of its own in it -/
inductive T where
  | d (x : D) | l (ts : List T)
mutual
def T.toD : T → D
  | .d x => x
  | .l ts => .lst (T.toDs ts)
def T.toDs : List T → List D
  | [] => []
  | t :: ts => T.toD t :: T.toDs ts
end
/-- all of them data -/
def flatT : List T → Option (List D)
  | [] => some []
  | .d x :: ts => match flatT ts with
    | some ds => some (x :: ds)
    | none => none
  | .l _ :: _ => none
/-- the list at a path; it replaced -/
def T.get : List T → List Nat → Option (List T)
  | ts, [] => some ts
  | ts, k :: π => match ts[k]? with
    | some (.l us) => T.get us π
    | _ => none
def T.put : List T → List Nat → List T → List T
  | _, [], us => us
  | ts, k :: π, us => match ts[k]? with
    | some (.l vs) => ts.set k (.l (T.put vs π us))
    | _ => ts
def dAt : D → List Nat → Option D
  | d, [] => some d
  | .lst ds, k :: π => match ds[k]? with
    | some d => dAt d π
    | none => none
  | _, _ :: _ => none
/-- what a name holds: data, a list of its own, a list within the list of the name j -/
inductive W where
  | sh (d : D) | ow (ts : List T) | al (j : Nat) (π : List Nat)
/-- what an expression gives: data, a new list, a list within that of the name j -/
inductive R where
  | sh (d : D) | fr (ts : List T) | pt (j : Nat) (π : List Nat)
abbrev Env := List (Option W)
def gt : Env → Nat → Option W
  | [], _ => none
  | w :: _, 0 => w
  | _ :: ε, n + 1 => gt ε n
def st : Env → Nat → Option W → Env
  | [], _, _ => []
  | _ :: ε, 0, v => v :: ε
  | w :: ε, n + 1, v => w :: st ε n v
theorem st_length (v : Option W) : ∀ (ε : Env) (i : Nat), (st ε i v).length = ε.length
  | [], _ => rfl
  | _ :: _, 0 => rfl
  | _ :: ε, n + 1 => by simp [st, st_length v ε n]
theorem gt_st_same (v : Option W) : ∀ (ε : Env) (i : Nat), i < ε.length → gt (st ε i v) i = v
  | [], _, h => absurd h (by simp)
  | _ :: _, 0, _ => rfl
  | _ :: ε, n + 1, h => gt_st_same v ε n (by simpa using h)
theorem gt_st_ne (v : Option W) : ∀ (ε : Env) (i j : Nat), j ≠ i → gt (st ε i v) j = gt ε j
  | [], _, _, _ => rfl
  | _ :: _, 0, 0, h => absurd rfl h
  | _ :: _, 0, _ + 1, _ => rfl
  | _ :: _, _ + 1, 0, _ => rfl
  | _ :: ε, n + 1, m + 1, h => gt_st_ne v ε n m (by omega)
theorem gt_none : ∀ (ε : Env) (i : Nat), ε.length ≤ i → gt ε i = none
  | [], _, _ => rfl
  | _ :: _, 0, h => absurd h (by simp)
  | _ :: ε, n + 1, h => gt_none ε n (by simpa using h)
theorem gt_lt {ε : Env} {i : Nat} {w : W} (h : gt ε i = some w) : i < ε.length := by
  by_cases q : i < ε.length
  · exact q
  · rw [gt_none ε i (by omega)] at h; cases h

/-- slots that point into the list of j, now that it is the data d -/
def unal (j : Nat) (d : D) : Env → Env
  | [] => []
  | some (.al i π) :: ε => (if i = j then (dAt d π).map W.sh else some (.al i π)) :: unal j d ε
  | w :: ε => w :: unal j d ε
/-- .. now that the name has another list -/
def kill (j : Nat) : Env → Env
  | [] => []
  | some (.al i π) :: ε => (if i = j then none else some (.al i π)) :: kill j ε
  | w :: ε => w :: kill j ε
def put (ε : Env) (i : Nat) (w : Option W) : Env := match gt ε i with
  | some (.ow _) => st (kill i ε) i w
  | _ => st ε i w
/-- the data as it is now, at any depth -/
def peekH : R → Env → Option D
  | .sh d, _ => some d
  | .fr ts, _ => some (.lst (T.toDs ts))
  | .pt i π, ε => match gt ε i with
    | some (.ow ts) => (T.get ts π).map fun us => .lst (T.toDs us)
    | some (.sh d) => dAt d π
    | _ => none
/-- .. where no list of one's own is in it -/
def peek : R → Env → Option D
  | .sh d, _ => some d
  | .fr ts, _ => (flatT ts).map .lst
  | .pt i π, ε => match gt ε i with
    | some (.ow ts) => match T.get ts π with
      | some us => (flatT us).map .lst
      | none => none
    | some (.sh d) => dAt d π
    | _ => none
/-- from now on nobody changes it -/
def frz : R → Env → Option (D × Env)
  | .sh d, ε => some (d, ε)
  | .fr ts, ε => some (.lst (T.toDs ts), ε)
  | .pt i π, ε => match gt ε i with
    | some (.ow ts) => match dAt (.lst (T.toDs ts)) π with
      | some d => some (d, st (unal i (.lst (T.toDs ts)) ε) i (some (.sh (.lst (T.toDs ts)))))
      | none => none
    | some (.sh d) => match dAt d π with
      | some d' => some (d', ε)
      | none => none
    | _ => none
/-- as an item of a list of one's own -/
def asT : R → Env → Option (T × Env)
  | .fr ts, ε => some (.l ts, ε)
  | r, ε => match frz r ε with
    | some (d, ε') => some (.d d, ε')
    | none => none

/-! ### sizes: a number's bits -/
def bt (i : Int) : Nat := i.natAbs.log2
def mulOk (i j : Int) : Prop := bt i + bt j ≤ 100000000
instance (i j : Int) : Decidable (mulOk i j) := by unfold mulOk; infer_instance
def divOk (i j : Int) : Prop := j ≠ 0 ∧ bt j < 9000
instance (i j : Int) : Decidable (divOk i j) := by unfold divOk; infer_instance
def lenOk (n : Nat) : Prop := n ≤ sizeLine
instance (n : Nat) : Decidable (lenOk n) := by unfold lenOk; infer_instance
def rngOk (i : Int) : Prop := -(2 ^ 62) ≤ i ∧ i < 2 ^ 62
instance (i : Int) : Decidable (rngOk i) := by unfold rngOk; infer_instance

/-! ### operators on data -/
inductive Bop where
  | add | sub | mul | fdiv | mod | pow | shl
  deriving DecidableEq
inductive Cop where
  | lt | le | gt | ge | eq | ne | is | isnt | in_ | notin
  deriving DecidableEq

mutual
def D.py : D → Option PyData
  | .non => some .none
  | .bl b => some (.bool b)
  | .int i => some (.int i)
  | .str x => some (.str x)
  | .tup ds => (D.pys ds).map .tuple
  | .lst ds => (D.pys ds).map .list
  | .frl ds => (D.pys ds).map .list
  | .ktp ds => (D.pys ds).map .tuple
  | .ins _ _ => none
  | .rng _ _ => none
  | .adr _ => none
def D.pys : List D → Option (List PyData)
  | [] => some []
  | d :: ds => match D.py d, D.pys ds with
    | some a, some b => some (a :: b)
    | _, _ => none
end
def eqD (x y : D) : Option Bool := match x.py, y.py with
  | some a, some b => if SeqAt.shaped a = true ∧ SeqAt.shaped b = true then some (PyData.eqv a b) else none
  | _, _ => none
/-- flat: no list, tuple, object -/
def flatD : D → Bool
  | .non => true
  | .bl _ => true
  | .int _ => true
  | .str _ => true
  | _ => false
/-- the same sort of number or text -/
def sameD : D → D → Bool
  | .non, .non => true
  | .bl a, .bl b => a == b
  | .int a, .int b => decide (a = b)
  | .str a, .str b => decide (a = b)
  | .bl a, .int b => decide ((if a then 1 else 0) = b)
  | .int b, .bl a => decide ((if a then 1 else 0) = b)
  | _, _ => false
def binD : Bop → D → D → Option R
  | .add, .int i, .int j => some (.sh (.int (i + j)))
  | .add, .str x, .str y => if lenOk (x.length + y.length) then some (.sh (.str (x ++ y))) else none
  | .add, .tup xs, .tup ys => if xs ≠ [] ∧ lenOk (xs.length + ys.length) then some (.sh (.tup (xs ++ ys))) else none
  | .add, .lst xs, .lst ys => if lenOk (xs.length + ys.length) then some (.fr ((xs ++ ys).map .d)) else none
  | .sub, .int i, .int j => some (.sh (.int (i - j)))
  | .mul, .int i, .int j => if mulOk i j then some (.sh (.int (i * j))) else none
  | .mul, .lst xs, .int j => if rngOk j ∧ lenOk (xs.length * j.toNat) then some (.fr ((List.replicate j.toNat xs).flatten.map .d)) else none
  | .fdiv, .int i, .int j => if divOk i j then some (.sh (.int (i.fdiv j))) else none
  | .mod, .int i, .int j => if j ≠ 0 then some (.sh (.int (i.fmod j))) else none
  | .pow, .int i, .int j => if 0 ≤ j ∧ j ≤ 1000000 ∧ i.natAbs < 2 ^ 64 then some (.sh (.int (i ^ j.toNat))) else none
  | .shl, .int i, .int j => if 0 ≤ j ∧ j ≤ 1000000 ∧ i.natAbs < 2 ^ 64 then some (.sh (.int (i * 2 ^ j.toNat))) else none
  | _, _, _ => none
/-- what is in a list or tuple of flat things -/
def items : D → Option (List D)
  | .tup ds => some ds
  | .lst ds => some ds
  | .frl ds => some ds
  | .ktp ds => some ds
  | _ => none
def inD (x : D) (ys : List D) : Option Bool := if flatD x = true ∧ ys.all flatD = true then some (ys.any fun y => sameD y x) else none
def isD : D → D → Option Bool
  | .non, .non => some true
  | _, .non => some false
  | .bl a, .bl b => some (a == b)
  | _, .bl _ => some false
  | _, _ => none
def cmpD : Cop → D → D → Option Bool
  | .lt, .int i, .int j => some (decide (i < j))
  | .le, .int i, .int j => some (decide (i ≤ j))
  | .gt, .int i, .int j => some (decide (j < i))
  | .ge, .int i, .int j => some (decide (j ≤ i))
  | .eq, x, y => eqD x y
  | .ne, x, y => (eqD x y).map (!·)
  | .is, x, y => isD x y
  | .isnt, x, y => (isD x y).map (!·)
  | .in_, x, y => (items y).bind (inD x)
  | .notin, x, y => ((items y).bind (inD x)).map (!·)
  | _, _, _ => none
def negD : D → Option R
  | .int i => some (.sh (.int (-i)))
  | _ => none
def notD : D → Option Bool
  | .bl b => some (!b)
  | _ => none
/-- truth, where a test may be no bool -/
def truD : D → Option Bool
  | .bl b => some b
  | _ => none
def ixD : D → D → Option D
  | .tup ds, .int i => atI ds i
  | .lst ds, .int i => atI ds i
  | .frl ds, .int i => atI ds i
  | .ktp ds, .int i => atI ds i
  | _, _ => none
def intD : Option D → Option (Option Int)
  | none => some none
  | some (.int i) => some (some i)
  | _ => none
def cutD (ds : List D) (lo hi : Option Int) : List D := (ds.drop (HT.sIx ds.length 0 lo)).take (HT.sIx ds.length ds.length hi - HT.sIx ds.length 0 lo)
def slcD : D → Option Int → Option Int → Option R
  | .lst ds, lo, hi => some (.fr ((cutD ds lo hi).map .d))
  | .tup ds, lo, hi => some (.sh (.tup (cutD ds lo hi)))
  | _, _, _ => none
end PyD
set_option Elab.async false
set_option linter.all false
set_option maxRecDepth 100000
set_option maxHeartbeats 2000000
/-! PyB: expressions and blocks, what they compute. -/
namespace PyD
open PySem L2

/-- built-ins of one argument that look at it alone; of several -/
inductive B1 where
  | len | abs | sum | minL | maxL | int | bool | tuple | list | any | all | sortI | sortP | rng
  deriving DecidableEq
inductive B2 where
  | min | max | gcd | rng
  deriving DecidableEq
inductive Ty where
  | int | bool | str | tuple | list
  deriving DecidableEq
/-- what a for walks -/
inductive ItK where
  | seq | rng1 | rng2 | zip | enum
  deriving DecidableEq
inductive Tg where
  | one (i : Nat) | tup (is : List Nat)
  deriving DecidableEq

inductive E where
  | var (i : Nat)
  | con (d : D)
  | bin (o : Bop) (a b : E)
  | neg (a : E)
  | cmp (o : Cop) (a b : E)
  | and (a b : E)
  | or (a b : E)
  | not (a : E)
  | ite (c a b : E)
  | tup (es : List E)
  | lst (es : List E)
  | ix (a b : E)
  | slc (a lo hi : E)
  | slcF (a lo : E)
  | slcT (a hi : E)
  | call (k : Nat) (es : List E)
  | b1 (b : B1) (a : E)
  | b2 (b : B2) (a c : E)
  | isi (a : E) (t : Ty)
  | popI (i : Nat) (a : E)        -- xs.pop(a)
  | pop0 (i : Nat)
  | lc (elt : E) (tg : Tg) (k : ItK) (src : List E) (ifs : List E) (ws : List Nat)
  | fld (a : E) (f : Str) (cs : List Nat)
  | bad

inductive S where
  | set (i : Nat) (e : E)
  | setT (is : List Nat) (e : E)
  | setIx (i : Nat) (a e : E)
  | aug (i : Nat) (o : Bop) (e : E)
  | app (i : Nat) (e : E)
  | expr (e : E)
  | ret (e : E)
  | retN
  | ifS (c : E) (a b : List S)
  | whileS (c : E) (b : List S)
  | forS (tg : Tg) (k : ItK) (src : List E) (b : List S)
  | brk | cont | pass
  | bad

inductive O where
  | nx | bk | ct | rt (r : R)

/-! ### built-ins on data -/
def intsD : List D → Option (List Int)
  | [] => some []
  | .int i :: r => (intsD r).map (i :: ·)
  | _ => none
def boolsD : List D → Option (List Bool)
  | [] => some []
  | .bl i :: r => (boolsD r).map (i :: ·)
  | _ => none
def pairsD : List D → Option (List (Int × Int))
  | [] => some []
  | .tup [.int i, .int j] :: r => (pairsD r).map ((i, j) :: ·)
  | _ => none
def leastI : List Int → Option Int
  | [] => none
  | i :: r => some (r.foldl (fun m x => if x < m then x else m) i)
def mostI : List Int → Option Int
  | [] => none
  | i :: r => some (r.foldl (fun m x => if m < x then x else m) i)
def leP (a b : Int × Int) : Bool := decide (a.1 < b.1) || (decide (a.1 = b.1) && decide (a.2 ≤ b.2))
def leI (a b : Int) : Bool := decide (a ≤ b)
def pairD (p : Int × Int) : D := .tup [.int p.1, .int p.2]
/-- those that hand on items; the others look alone -/
def B1.deep : B1 → Bool
  | .tuple => false
  | .list => false
  | .sortI => false
  | .sortP => false
  | .rng => false
  | _ => true
/-- sorted of a list: numbers; pairs of numbers -/
def srtD : B1 → D → Option R
  | .sortI, .lst ds => (intsD ds).map fun ns => .fr (((ns.mergeSort leI).map D.int).map .d)
  | .sortP, .lst ds => (pairsD ds).map fun ns => .fr (((ns.mergeSort leP).map pairD).map .d)
  | _, _ => none
def b1D : B1 → D → Option R
  | .len, .str x => if lenOk x.length then some (.sh (.int x.length)) else none
  | .len, d => (items d).map fun ds => .sh (.int ds.length)
  | .abs, .int i => some (.sh (.int (if i < 0 then -i else i)))
  | .sum, d => ((items d).bind intsD).map fun ns => .sh (.int ns.sum)
  | .minL, d => (((items d).bind intsD).bind leastI).map fun i => .sh (.int i)
  | .maxL, d => (((items d).bind intsD).bind mostI).map fun i => .sh (.int i)
  | .int, .int i => some (.sh (.int i))
  | .int, .bl b => some (.sh (.int (if b then 1 else 0)))
  | .bool, .int i => some (.sh (.bl (i != 0)))
  | .bool, .bl b => some (.sh (.bl b))
  | .tuple, .ktp ds => some (.sh (.ktp ds))
  | .tuple, d => (items d).map fun ds => .sh (.tup ds)
  | .list, d => (items d).map fun ds => .fr (ds.map .d)
  | .any, .lst ds => (boolsD ds).map fun bs => .sh (.bl (bs.any id))
  | .all, .lst ds => (boolsD ds).map fun bs => .sh (.bl (bs.all id))
  | .rng, .int n => some (.sh (.rng 0 n))
  | .sortI, d => srtD .sortI d
  | .sortP, d => srtD .sortP d
  | _, _ => none
def b2D : B2 → D → D → Option R
  | .min, .int i, .int j => some (.sh (.int (if j < i then j else i)))
  | .max, .int i, .int j => some (.sh (.int (if j > i then j else i)))
  | .gcd, .int i, .int j => some (.sh (.int (Nat.gcd i.natAbs j.natAbs : Nat)))
  | _, _, _ => none
def isiD : D → Ty → Option Bool
  | .int _, .int => some true
  | .bl _, .int => some true
  | .bl _, .bool => some true
  | .str _, .str => some true
  | .tup _, .tuple => some true
  | .lst _, .list => some true
  | .frl _, .list => some true
  | .ktp _, .tuple => some true
  | .ins _ _, _ => none
  | .rng _ _, _ => none
  | .adr _, _ => none
  | .non, _ => some false
  | _, _ => some false
def rngD (lo hi : Int) : List D := (List.range (hi - lo).toNat).map fun (k : Nat) => D.int (lo + (k : Int))
def zipD : List D → List D → List D
  | a :: as, b :: bs => .tup [a, b] :: zipD as bs
  | _, _ => []
def enumD (n : Nat) : List D → List D
  | [] => []
  | d :: ds => .tup [.int n, d] :: enumD (n + 1) ds
/-- the items, in order -/
def itD : ItK → List D → Option (List D)
  | .seq, [.rng lo hi] => if rngOk lo ∧ rngOk hi then some (rngD lo hi) else none
  | .seq, [d] => items d
  | .rng1, [.int n] => if rngOk n then some (rngD 0 n) else none
  | .rng2, [.int i, .int j] => if rngOk i ∧ rngOk j then some (rngD i j) else none
  | .zip, [a, b] => match items a, items b with
    | some as, some bs => some (zipD as bs)
    | _, _ => none
  | .enum, [a] => (items a).map (enumD 0)
  | _, _ => none
def asgs : List Nat → List D → Env → Option Env
  | [], [], ε => some ε
  | i :: is, d :: ds, ε => if i < ε.length then asgs is ds (put ε i (some (.sh d))) else none
  | _, _, _ => none
def asg : Tg → D → Env → Option Env
  | .one i, d, ε => if i < ε.length then some (put ε i (some (.sh d))) else none
  | .tup is, .tup ds, ε => asgs is ds ε
  | .tup _, _, _ => none
def wipeE (ε : Env) : List Nat → Env
  | [] => ε
  | v :: vs => st (wipeE ε vs) v none
/-- none of these names holds a list of its own -/
def plainW (ε : Env) : List Nat → Bool
  | [] => true
  | v :: vs => (match gt ε v with
    | some (.ow _) => false
    | some (.al _ _) => false
    | _ => true) && plainW ε vs
/-- the names of ws as they were -/
def back (ε0 ε : Env) : List Nat → Env
  | [] => ε
  | v :: vs => st (back ε0 ε vs) v (gt ε0 v)

/-- a comprehension's turns -/
def lcF (tst el : Env → Option (R × Env)) (tg : Tg) (ws : List Nat) : List D → Env → List T → Option (List T × Env)
  | [], ε, acc => some (acc, ε)
  | d :: r, ε, acc => match asg tg d ε with
    | none => none
    | some ε1 => match tst ε1 with
      | some (.sh (.bl true), ε2) => match el ε2 with
        | none => none
        | some (x, ε3) => match asT x ε3 with
          | none => none
          | some (y, ε4) => if acc.length < 16000000 ∧ plainW ε4 ws = true then lcF tst el tg ws r (wipeE ε4 ws) (acc ++ [y]) else none
      | some (.sh (.bl false), ε2) => if plainW ε2 ws = true then lcF tst el tg ws r (wipeE ε2 ws) acc else none
      | _ => none

abbrev Fn := List D → Option R
mutual
/-- no list of a name is changed on the way -/
def calm : E → Bool
  | .bin _ a b => calm a && calm b
  | .neg a => calm a
  | .cmp _ a b => calm a && calm b
  | .and a b => calm a && calm b
  | .or a b => calm a && calm b
  | .not a => calm a
  | .ite c a b => calm c && (calm a && calm b)
  | .tup es => calms es
  | .lst es => calms es
  | .ix a b => calm a && calm b
  | .slc a lo hi => (calm a && calm lo) && calm hi
  | .slcF a lo => calm a && calm lo
  | .slcT a hi => calm a && calm hi
  | .call _ es => calms es
  | .b1 _ a => calm a
  | .b2 _ a c => calm a && calm c
  | .isi a _ => calm a
  | .popI _ _ => false
  | .pop0 _ => false
  | .lc .. => false
  | .fld a _ _ => calm a
  | _ => true
def calms : List E → Bool
  | [] => true
  | e :: es => calm e && calms es
end
/-- what waits while b is asked must not be changed -/
def waits (x : R) (b : E) : Bool := match x with
  | .pt _ (_ :: _) => calm b
  | _ => true
def ixR (x : R) (ε : Env) (y : D) : Option R := match y with
  | .int n => match x with
    | .sh d => (ixD d y).map .sh
    | .fr ts => match (ixN ts.length n).bind fun k => ts[k]? with
      | some (.d d) => some (.sh d)
      | _ => none
    | .pt j π => match gt ε j with
      | some (.sh d) => match dAt d π with
        | some d' => (ixD d' y).map .sh
        | none => none
      | some (.ow ts) => match T.get ts π with
        | some us => match ixN us.length n with
          | some k => match us[k]? with
            | some (.d d) => some (.sh d)
            | some (.l _) => some (.pt j (π ++ [k]))
            | none => none
          | none => none
        | none => none
      | _ => none
  | _ => none
/-- the list that a name stands for: whose it is, and the path -/
def locate (ε : Env) (i : Nat) : Option (Nat × List Nat) := match gt ε i with
  | some (.ow _) => some (i, [])
  | some (.al j π) => some (j, π)
  | _ => none
def listAt (ε : Env) (j : Nat) (π : List Nat) : Option (List T × List T) := match gt ε j with
  | some (.ow ts) => (T.get ts π).map fun us => (ts, us)
  | _ => none
def isData : Option T → Bool
  | some (.d _) => true
  | _ => false
section
variable (G : List Fn)
def callD (k : Nat) (ds : List D) : Option R := match G[k]? with
  | some F => F ds
  | none => none
mutual
def ev : E → Env → Option (R × Env)
  | .var i, ε => match gt ε i with
    | some (.sh d) => some (.sh d, ε)
    | some (.ow _) => some (.pt i [], ε)
    | some (.al j π) => some (.pt j π, ε)
    | none => none
  | .con d, ε => some (.sh d, ε)
  | .bin o a b, ε => match ev a ε with
    | none => none
    | some (x, ε1) => match ev b ε1 with
      | none => none
      | some (y, ε2) => match waits x b, peek x ε2, peek y ε2 with
        | true, some dx, some dy => (binD o dx dy).map fun r => (r, ε2)
        | _, _, _ => none
  | .neg a, ε => match ev a ε with
    | none => none
    | some (x, ε1) => ((peek x ε1).bind negD).map fun r => (r, ε1)
  | .cmp o a b, ε => match ev a ε with
    | none => none
    | some (x, ε1) => match ev b ε1 with
      | none => none
      | some (y, ε2) => match waits x b, peekH x ε2, peekH y ε2 with
        | true, some dx, some dy => (cmpD o dx dy).map fun r => (.sh (.bl r), ε2)
        | _, _, _ => none
  | .and a b, ε => match ev a ε with
    | some (.sh (.bl true), ε1) => ev b ε1
    | some (.sh (.bl false), ε1) => some (.sh (.bl false), ε1)
    | _ => none
  | .or a b, ε => match ev a ε with
    | some (.sh (.bl true), ε1) => some (.sh (.bl true), ε1)
    | some (.sh (.bl false), ε1) => ev b ε1
    | _ => none
  | .not a, ε => match ev a ε with
    | some (.sh (.bl b), ε1) => some (.sh (.bl (!b)), ε1)
    | _ => none
  | .ite c a b, ε => match ev c ε with
    | some (.sh (.bl true), ε1) => ev a ε1
    | some (.sh (.bl false), ε1) => ev b ε1
    | _ => none
  | .tup es, ε => match evs es ε with
    | none => none
    | some (ds, ε1) => if lenOk ds.length then some (.sh (.tup ds), ε1) else none
  | .lst es, ε => match evs es ε with
    | none => none
    | some (ds, ε1) => if lenOk ds.length then some (.fr (ds.map .d), ε1) else none
  | .ix a b, ε => match ev a ε with
    | none => none
    | some (x, ε1) => match ev b ε1 with
      | some (.sh y, ε2) => match waits x b with
        | true => (ixR x ε2 y).map fun r => (r, ε2)
        | false => none
      | _ => none
  | .slc a lo hi, ε => match ev a ε with
    | none => none
    | some (x, ε1) => match ev lo ε1 with
      | some (.sh (.int i), ε2) => match ev hi ε2 with
        | some (.sh (.int j), ε3) => match waits x lo && waits x hi, peek x ε3 with
          | true, some dx => (slcD dx (some i) (some j)).map fun r => (r, ε3)
          | _, _ => none
        | _ => none
      | _ => none
  | .slcF a lo, ε => match ev a ε with
    | none => none
    | some (x, ε1) => match ev lo ε1 with
      | some (.sh (.int i), ε2) => match waits x lo, peek x ε2 with
        | true, some dx => (slcD dx (some i) none).map fun r => (r, ε2)
        | _, _ => none
      | _ => none
  | .slcT a hi, ε => match ev a ε with
    | none => none
    | some (x, ε1) => match ev hi ε1 with
      | some (.sh (.int j), ε2) => match waits x hi, peek x ε2 with
        | true, some dx => (slcD dx none (some j)).map fun r => (r, ε2)
        | _, _ => none
      | _ => none
  | .call k es, ε => match evs es ε with
    | none => none
    | some (ds, ε1) => (callD G k ds).map fun r => (r, ε1)
  | .b1 b a, ε => match ev a ε with
    | none => none
    | some (x, ε1) => ((if b.deep then peekH x ε1 else peek x ε1).bind (b1D b)).map fun r => (r, ε1)
  | .b2 b a c, ε => match ev a ε with
    | some (.sh dx, ε1) => match ev c ε1 with
      | some (.sh dy, ε2) => (b2D b dx dy).map fun r => (r, ε2)
      | _ => none
    | _ => none
  | .isi a t, ε => match ev a ε with
    | none => none
    | some (x, ε1) => ((peekH x ε1).bind fun d => isiD d t).map fun b => (.sh (.bl b), ε1)
  | .popI i a, ε => match locate ε i, ev a ε with
    | some (j, π), some (.sh (.int n), ε1) => match listAt ε1 j π with
      | some (ts, us) => if rngOk n ∧ (flatT us).isSome = true then match ixN us.length n with
        | some k => match us[k]?, waits (.pt j π) a with
          | some (.d d), true => some (.sh d, st ε1 j (some (.ow (T.put ts π (us.eraseIdx k)))))
          | _, _ => none
        | none => none
        else none
      | none => none
    | _, _ => none
  | .pop0 i, ε => match locate ε i with
    | some (j, π) => match listAt ε j π with
      | some (ts, us) => if (flatT us).isSome = true then match us[us.length - 1]? with
        | some (.d d) => some (.sh d, st ε j (some (.ow (T.put ts π us.dropLast))))
        | _ => none
        else none
      | none => none
    | none => none
  | .lc elt tg k src ifs ws, ε => match evs src ε with
    | none => none
    | some (ds, ε1) => match itD k ds with
      | none => none
      | some its => match plainW ε1 ws, lcF (evT ifs) (ev elt) tg ws its (wipeE ε1 ws) [] with
        | true, some (out, ε2) => some (.fr out, back ε1 ε2 ws)
        | _, _ => none
  | .fld a f cs, ε => match ev a ε with
    | some (.sh (.ins c fs), ε1) => if c ∈ cs then (fs.lookup f).map fun d => (.sh d, ε1) else none
    | _ => none
  | .bad, ε => none
def evs : List E → Env → Option (List D × Env)
  | [], ε => some ([], ε)
  | e :: es, ε => match ev e ε with
    | none => none
    | some (x, ε1) => match frz x ε1 with
      | none => none
      | some (d, ε2) => match evs es ε2 with
        | none => none
        | some (ds, ε3) => some (d :: ds, ε3)
/-- the tests of a comprehension: none or one -/
def evT : List E → Env → Option (R × Env)
  | [], ε => some (.sh (.bl true), ε)
  | [e], ε => ev e ε
  | _, _ => none
end

def forF (body : Env → Option (O × Env)) (tg : Tg) : List D → Env → Option (O × Env)
  | [], ε => some (.nx, ε)
  | d :: r, ε => match asg tg d ε with
    | none => none
    | some ε1 => match body ε1 with
      | some (.nx, ε2) => forF body tg r ε2
      | some (.ct, ε2) => forF body tg r ε2
      | some (.bk, ε2) => some (.nx, ε2)
      | some (.rt x, ε2) => some (.rt x, ε2)
      | none => none
def whileF (test : Env → Option (R × Env)) (body : Env → Option (O × Env)) : Nat → Env → Option (O × Env)
  | 0, _ => none
  | n + 1, ε => match test ε with
    | some (.sh (.bl false), ε1) => some (.nx, ε1)
    | some (.sh (.bl true), ε1) => match body ε1 with
      | some (.nx, ε2) => whileF test body n ε2
      | some (.ct, ε2) => whileF test body n ε2
      | some (.bk, ε2) => some (.nx, ε2)
      | some (.rt x, ε2) => some (.rt x, ε2)
      | none => none
    | _ => none
/-- a name takes what an expression gives -/
def putR (i : Nat) : R → Env → Option Env
  | .sh d, ε => if i < ε.length then some (put ε i (some (.sh d))) else none
  | .fr ts, ε => if i < ε.length then some (put ε i (some (.ow ts))) else none
  | .pt j π, ε => match gt ε j with
    | some (.ow ts) => if i < ε.length ∧ i ≠ j ∧ (T.get ts π).isSome = true then some (put ε i (some (.al j π))) else none
    | some (.sh d) => match dAt d π with
      | some d' => if i < ε.length then some (put ε i (some (.sh d'))) else none
      | none => none
    | _ => none
mutual
def ex (n : Nat) : S → Env → Option (O × Env)
  | .set i e, ε => match ev G e ε with
    | none => none
    | some (x, ε1) => (putR i x ε1).map fun ε2 => (.nx, ε2)
  | .setT is e, ε => match ev G e ε with
    | some (.sh (.tup ds), ε1) => (asgs is ds ε1).map fun ε2 => (.nx, ε2)
    | _ => none
  | .setIx i a e, ε => match ev G e ε with
    | none => none
    | some (x, ε1) => match asT x ε1 with
      | none => none
      | some (t, ε2) => match locate ε2 i, ev G a ε2 with
        | some (j, π), some (.sh (.int m), ε3) => match listAt ε3 j π with
          | some (ts, us) => match ixN us.length m with
            | some k => if isData us[k]? = true ∧ calm a = true then some (.nx, st ε3 j (some (.ow (T.put ts π (us.set k t))))) else none
            | none => none
          | none => none
        | _, _ => none
  | .aug i o e, ε => match gt ε i with
    | some (.sh (.int m)) => match ev G e ε with
      | some (.sh (.int k), ε1) => match binD o (.int m) (.int k) with
        | some (.sh d) => some (.nx, st ε1 i (some (.sh d)))
        | _ => none
      | _ => none
    | _ => none
  | .app i e, ε => match locate ε i, ev G e ε with
    | some (j, π), some (x, ε1) => match asT x ε1 with
      | none => none
      | some (t, ε2) => match listAt ε2 j π with
        | some (ts, us) => if us.length < 16000000 ∧ waits (.pt j π) e = true then some (.nx, st ε2 j (some (.ow (T.put ts π (us ++ [t]))))) else none
        | none => none
    | _, _ => none
  | .expr e, ε => (ev G e ε).map fun q => (.nx, q.2)
  | .ret e, ε => (ev G e ε).map fun q => (.rt q.1, q.2)
  | .retN, ε => some (.rt (.sh .non), ε)
  | .ifS c a b, ε => match ev G c ε with
    | some (.sh (.bl true), ε1) => exs n a ε1
    | some (.sh (.bl false), ε1) => exs n b ε1
    | _ => none
  | .whileS c b, ε => whileF (ev G c) (exs n b) n ε
  | .forS tg k src b, ε => match evs G src ε with
    | none => none
    | some (ds, ε1) => match itD k ds with
      | none => none
      | some its => forF (exs n b) tg its ε1
  | .brk, ε => some (.bk, ε)
  | .cont, ε => some (.ct, ε)
  | .pass, ε => some (.nx, ε)
  | .bad, ε => none
def exs (n : Nat) : List S → Env → Option (O × Env)
  | [], ε => some (.nx, ε)
  | s :: r, ε => match ex n s ε with
    | some (.nx, ε1) => exs n r ε1
    | q => q
end
/-- what a function hands back -/
def fin : R → Env → Option R
  | .sh d, _ => some (.sh d)
  | .fr ts, _ => some (.fr ts)
  | .pt i π, ε => match gt ε i with
    | some (.ow ts) => (T.get ts π).map .fr
    | some (.sh d) => (dAt d π).map .sh
    | _ => none
def run (n : Nat) (m : Nat) (b : List S) (ds : List D) : Option R := match exs G n b (ds.map (fun d => some (.sh d)) ++ List.replicate m none) with
  | some (.rt r, ε) => fin r ε
  | some (.nx, _) => some (.sh .non)
  | _ => none
end
end PyD
set_option Elab.async false
set_option linter.all false
set_option maxRecDepth 100000
set_option maxHeartbeats 2000000
/-! PyC: which values and heaps stand for plain data. -/
namespace PyD
open PySem L2

mutual
def Rp (K : PySem.W.Frag) (cl : Nat → Addr) (H : Hp) : D → V → Prop
  | .non, v => v = .non
  | .bl b, v => v = .bl b
  | .int i, v => v = .int i
  | .str x, v => v = .str x
  | .tup ds, v => ∃ a xs, v = .ref a ∧ H a = some (.tup xs) ∧ Rps K cl H ds xs
  | .ktp ds, v => ∃ a xs, v = .ref a ∧ SqT K H a xs ∧ Rps K cl H ds xs
  | .lst ds, v => ∃ a xs, v = .ref a ∧ H a = some (.lst xs) ∧ Rps K cl H ds xs
  | .frl ds, v => ∃ a xs, v = .ref a ∧ SqL K H a xs ∧ Rps K cl H ds xs
  | .adr a, v => v = .ref a
  | .rng lo hi, v => ∃ a, v = .ref a ∧ H a = some (.rng lo hi)
  | .ins c fs, v => ∃ a dx vs, v = .ref a ∧ H a = some (.ins (cl c) dx vs) ∧ Rpf K cl H fs vs
def Rps (K : PySem.W.Frag) (cl : Nat → Addr) (H : Hp) : List D → List V → Prop
  | [], xs => xs = []
  | d :: ds, xs => ∃ x r, xs = x :: r ∧ Rp K cl H d x ∧ Rps K cl H ds r
def Rpf (K : PySem.W.Frag) (cl : Nat → Addr) (H : Hp) : List (Str × D) → List (Str × V) → Prop
  | [], xs => xs = []
  | p :: ds, xs => ∃ x r, xs = (p.1, x) :: r ∧ Rp K cl H p.2 x ∧ Rpf K cl H ds r
end
open Evl
section
variable {K : PySem.W.Frag} {cl : Nat → Addr} {H H' : Hp}
mutual
theorem Rp.ex (e : Ex H H') : ∀ (d : D) (v : V), Rp K cl H d v → Rp K cl H' d v
  | .non, _, h => h
  | .bl _, _, h => h
  | .int _, _, h => h
  | .str _, _, h => h
  | .tup ds, v, h => by
    obtain ⟨a, xs, e1, hs, hr⟩ := h
    exact ⟨a, xs, e1, e _ _ hs, Rps.ex e ds xs hr⟩
  | .ktp ds, v, h => by
    obtain ⟨a, xs, e1, hs, hr⟩ := h
    exact ⟨a, xs, e1, ex_t e hs, Rps.ex e ds xs hr⟩
  | .lst ds, v, h => by
    obtain ⟨a, xs, e1, hs, hr⟩ := h
    exact ⟨a, xs, e1, e _ _ hs, Rps.ex e ds xs hr⟩
  | .frl ds, v, h => by
    obtain ⟨a, xs, e1, hs, hr⟩ := h
    exact ⟨a, xs, e1, ex_l e hs, Rps.ex e ds xs hr⟩
  | .adr _, _, h => h
  | .rng _ _, v, h => by
    obtain ⟨a, e1, hs⟩ := h
    exact ⟨a, e1, e _ _ hs⟩
  | .ins c fs, v, h => by
    obtain ⟨a, dx, vs, e1, hs, hr⟩ := h
    exact ⟨a, dx, vs, e1, e _ _ hs, Rpf.ex e fs vs hr⟩
theorem Rps.ex (e : Ex H H') : ∀ (ds : List D) (xs : List V), Rps K cl H ds xs → Rps K cl H' ds xs
  | [], _, h => h
  | d :: ds, xs, h => by
    obtain ⟨x, r, e1, h1, h2⟩ := h
    exact ⟨x, r, e1, Rp.ex e d x h1, Rps.ex e ds r h2⟩
theorem Rpf.ex (e : Ex H H') : ∀ (ds : List (Str × D)) (xs : List (Str × V)), Rpf K cl H ds xs → Rpf K cl H' ds xs
  | [], _, h => h
  | p :: ds, xs, h => by
    obtain ⟨x, r, e1, h1, h2⟩ := h
    exact ⟨x, r, e1, Rp.ex e p.2 x h1, Rpf.ex e ds r h2⟩
end
theorem Rps.length : ∀ {ds : List D} {xs : List V}, Rps K cl H ds xs → ds.length = xs.length
  | [], _, h => by cases h; rfl
  | d :: ds, _, h => by
    obtain ⟨x, r, rfl, _, h2⟩ := h
    simp [Rps.length h2]
theorem Rps.get : ∀ {ds : List D} {xs : List V} {i : Nat} {d : D}, Rps K cl H ds xs → ds[i]? = some d → ∃ x, xs[i]? = some x ∧ Rp K cl H d x
  | [], _, _, _, _, e => by simp at e
  | d :: ds, _, 0, _, h, e => by
    obtain ⟨x, r, rfl, h1, _⟩ := h
    simp at e; subst e
    exact ⟨x, rfl, h1⟩
  | d :: ds, _, i + 1, _, h, e => by
    obtain ⟨x, r, rfl, _, h2⟩ := h
    obtain ⟨y, e2, h3⟩ := Rps.get (i := i) h2 (by simpa using e)
    exact ⟨y, by simpa using e2, h3⟩
theorem Rps.append : ∀ {ds es : List D} {xs ys : List V}, Rps K cl H ds xs → Rps K cl H es ys → Rps K cl H (ds ++ es) (xs ++ ys)
  | [], _, _, _, h, k => by cases h; exact k
  | d :: ds, _, _, _, h, k => by
    obtain ⟨x, r, rfl, h1, h2⟩ := h
    exact ⟨x, _, rfl, h1, Rps.append h2 k⟩
theorem Rps.set : ∀ {ds : List D} {xs : List V} (i : Nat) {d : D} {v : V}, Rps K cl H ds xs → Rp K cl H d v → Rps K cl H (ds.set i d) (xs.set i v)
  | [], _, _, _, _, h, _ => by cases h; rfl
  | d :: ds, _, 0, _, v, h, k => by
    obtain ⟨x, r, rfl, _, h2⟩ := h
    exact ⟨v, r, rfl, k, h2⟩
  | d :: ds, _, i + 1, _, v, h, k => by
    obtain ⟨x, r, rfl, h1, h2⟩ := h
    exact ⟨x, _, rfl, h1, Rps.set i h2 k⟩
theorem Rps.take : ∀ {ds : List D} {xs : List V} (n : Nat), Rps K cl H ds xs → Rps K cl H (ds.take n) (xs.take n)
  | _, _, 0, _ => by simp [Rps]
  | [], _, n + 1, h => by cases h; rfl
  | d :: ds, _, n + 1, h => by
    obtain ⟨x, r, rfl, h1, h2⟩ := h
    exact ⟨x, _, rfl, h1, Rps.take n h2⟩
theorem Rps.drop : ∀ {ds : List D} {xs : List V} (n : Nat), Rps K cl H ds xs → Rps K cl H (ds.drop n) (xs.drop n)
  | _, _, 0, h => by simpa using h
  | [], _, n + 1, h => by cases h; rfl
  | d :: ds, _, n + 1, h => by
    obtain ⟨x, r, rfl, h1, h2⟩ := h
    simpa using Rps.drop n h2
theorem Rps.eraseIdx : ∀ {ds : List D} {xs : List V} (n : Nat), Rps K cl H ds xs → Rps K cl H (ds.eraseIdx n) (xs.eraseIdx n)
  | [], _, _, h => by cases h; rfl
  | d :: ds, _, 0, h => by
    obtain ⟨x, r, rfl, h1, h2⟩ := h
    simpa using h2
  | d :: ds, _, n + 1, h => by
    obtain ⟨x, r, rfl, h1, h2⟩ := h
    exact ⟨x, _, rfl, h1, Rps.eraseIdx n h2⟩
theorem Rps.dropLast {ds : List D} {xs : List V} (h : Rps K cl H ds xs) : Rps K cl H ds.dropLast xs.dropLast := by
  rw [List.dropLast_eq_take, List.dropLast_eq_take, h.length]
  exact h.take _
theorem Rps.rep {ds : List D} {xs : List V} (h : Rps K cl H ds xs) : ∀ k : Nat, Rps K cl H (List.replicate k ds).flatten (List.replicate k xs).flatten
  | 0 => by simp [Rps]
  | k + 1 => by
    simp only [List.replicate_succ, List.flatten_cons]
    exact h.append (h.rep k)
theorem Rps.one {d : D} {v : V} (h : Rp K cl H d v) : Rps K cl H [d] [v] := ⟨v, [], rfl, h, rfl⟩
theorem Rps.map_of {α : Type} {f : α → D} {g : α → V} : ∀ {l : List α}, (∀ a ∈ l, Rp K cl H (f a) (g a)) → Rps K cl H (l.map f) (l.map g)
  | [], _ => rfl
  | a :: l, h => ⟨g a, _, rfl, h a (by simp), Rps.map_of fun b hb => h b (by simp [hb])⟩
theorem atI_rps {ds : List D} {xs : List V} {i : Int} {d : D} (h : Rps K cl H ds xs) (e : atI ds i = some d) : ∃ v, atI xs i = some v ∧ Rp K cl H d v := by
  unfold atI at e ⊢
  rw [h.length] at e
  cases q : ixN xs.length i with
  | none => rw [q] at e; cases e
  | some j =>
    rw [q] at e
    exact h.get e
/-! ### flat data -/
def flatOf : D → Option V
  | .non => some .non
  | .bl b => some (.bl b)
  | .int i => some (.int i)
  | .str x => some (.str x)
  | _ => none
theorem flat_rp {d : D} {v : V} (h : Rp K cl H d v) (f : flatD d = true) : flatOf d = some v ∧ flatV v = true := by
  cases d <;> simp_all [flatD, Rp, flatOf, flatV]
theorem intsD_rps : ∀ {ds : List D} {xs : List V} {ns : List Int}, Rps K cl H ds xs → intsD ds = some ns → xs = ns.map V.int ∧ ds = ns.map D.int
  | [], _, _, h, e => by cases h; simp [intsD] at e; subst e; exact ⟨rfl, rfl⟩
  | d :: ds, _, ns, h, e => by
    obtain ⟨x, r, rfl, h1, h2⟩ := h
    cases d with
    | int i =>
      simp only [intsD] at e
      cases q : intsD ds with
      | none => rw [q] at e; cases e
      | some ms =>
        rw [q] at e
        simp at e
        subst e
        obtain ⟨e1, e2⟩ := intsD_rps h2 q
        have hx : x = .int i := h1
        subst hx
        exact ⟨by simp [e1], by simp [e2]⟩
    | _ => simp [intsD] at e
theorem boolsD_rps : ∀ {ds : List D} {xs : List V} {ns : List Bool}, Rps K cl H ds xs → boolsD ds = some ns → xs = ns.map V.bl
  | [], _, _, h, e => by cases h; simp [boolsD] at e; subst e; rfl
  | d :: ds, _, ns, h, e => by
    obtain ⟨x, r, rfl, h1, h2⟩ := h
    cases d with
    | bl i =>
      simp only [boolsD] at e
      cases q : boolsD ds with
      | none => rw [q] at e; cases e
      | some ms =>
        rw [q] at e
        simp at e
        subst e
        have e1 := boolsD_rps h2 q
        have hx : x = .bl i := h1
        subst hx
        simp [e1]
    | _ => simp [boolsD] at e
mutual
theorem py_dp : ∀ (d : D) (v : V) (p : PyData), Rp K cl H d v → d.py = some p → Dp K H v p
  | .non, v, p, h, e => by
    have h1 : v = .non := h
    have e1 : (some PyData.none) = some p := e
    cases e1; subst h1; exact .non
  | .bl b, v, p, h, e => by
    have h1 : v = .bl b := h
    have e1 : (some (PyData.bool b)) = some p := e
    cases e1; subst h1; exact .bl b
  | .int b, v, p, h, e => by
    have h1 : v = .int b := h
    have e1 : (some (PyData.int b)) = some p := e
    cases e1; subst h1; exact .int b
  | .str b, v, p, h, e => by
    have h1 : v = .str b := h
    have e1 : (some (PyData.str b)) = some p := e
    cases e1; subst h1; exact .str b
  | .tup ds, v, p, h, e => by
    obtain ⟨a, xs, rfl, hs, hr⟩ := h
    have e1 : (D.pys ds).map PyData.tuple = some p := e
    cases q : D.pys ds with
    | none => rw [q] at e1; cases e1
    | some l => rw [q] at e1; cases e1; exact .tup (SqT.of hs) (pys_dp ds xs l hr q)
  | .ktp ds, v, p, h, e => by
    obtain ⟨a, xs, rfl, hs, hr⟩ := h
    have e1 : (D.pys ds).map PyData.tuple = some p := e
    cases q : D.pys ds with
    | none => rw [q] at e1; cases e1
    | some l => rw [q] at e1; cases e1; exact .tup hs (pys_dp ds xs l hr q)
  | .lst ds, v, p, h, e => by
    obtain ⟨a, xs, rfl, hs, hr⟩ := h
    have e1 : (D.pys ds).map PyData.list = some p := e
    cases q : D.pys ds with
    | none => rw [q] at e1; cases e1
    | some l => rw [q] at e1; cases e1; exact .lst (SqL.of hs) (pys_dp ds xs l hr q)
  | .frl ds, v, p, h, e => by
    obtain ⟨a, xs, rfl, hs, hr⟩ := h
    have e1 : (D.pys ds).map PyData.list = some p := e
    cases q : D.pys ds with
    | none => rw [q] at e1; cases e1
    | some l => rw [q] at e1; cases e1; exact .lst hs (pys_dp ds xs l hr q)
  | .ins _ _, v, p, h, e => by
    have e1 : (none : Option PyData) = some p := e
    cases e1
  | .rng _ _, v, p, h, e => by
    have e1 : (none : Option PyData) = some p := e
    cases e1
  | .adr _, v, p, h, e => by
    have e1 : (none : Option PyData) = some p := e
    cases e1
theorem pys_dp : ∀ (ds : List D) (vs : List V) (ps : List PyData), Rps K cl H ds vs → D.pys ds = some ps → DpAll K H vs ps
  | [], vs, ps, h, e => by
    have h1 : vs = [] := h
    have e1 : (some ([] : List PyData)) = some ps := e
    cases e1; subst h1; exact .nil
  | d :: ds, vs, ps, h, e => by
    obtain ⟨x, r, rfl, h1, h2⟩ := h
    have e1 : (match D.py d, D.pys ds with
      | some a, some b => some (a :: b)
      | _, _ => none) = some ps := e
    cases q1 : D.py d with
    | none => rw [q1] at e1; cases e1
    | some a =>
      cases q2 : D.pys ds with
      | none => rw [q1, q2] at e1; cases e1
      | some b =>
        rw [q1, q2] at e1
        cases e1
        exact .cons (py_dp d x a h1 q1) (pys_dp ds r b h2 q2)
end
end

/-! ### lists of one's own: the addresses as a tree -/
inductive AT where
  | leaf | node (p : Addr) (cs : List AT)
mutual
def AT.all : AT → List Addr
  | .leaf => []
  | .node p cs => p :: AT.alls cs
def AT.alls : List AT → List Addr
  | [] => []
  | c :: cs => AT.all c ++ AT.alls cs
end
def AT.get : AT → List Nat → Option AT
  | c, [] => some c
  | .node _ cs, k :: π => match cs[k]? with
    | some c => AT.get c π
    | none => none
  | .leaf, _ :: _ => none
def AT.put : AT → List Nat → AT → AT
  | _, [], c' => c'
  | .node p cs, k :: π, c' => match cs[k]? with
    | some c => .node p (cs.set k (AT.put c π c'))
    | none => .node p cs
  | .leaf, _ :: _, _ => .leaf
mutual
def RT (K : PySem.W.Frag) (cl : Nat → Addr) (F H : Hp) : T → V → AT → Prop
  | .d x, v, c => c = .leaf ∧ Rp K cl F x v
  | .l ts, v, c => ∃ p cs xs, c = .node p cs ∧ v = .ref p ∧ F p = none ∧ H p = some (.lst xs) ∧ RTs K cl F H ts xs cs
def RTs (K : PySem.W.Frag) (cl : Nat → Addr) (F H : Hp) : List T → List V → List AT → Prop
  | [], xs, cs => xs = [] ∧ cs = []
  | t :: ts, xs, cs => ∃ x r c q, xs = x :: r ∧ cs = c :: q ∧ RT K cl F H t x c ∧ RTs K cl F H ts r q
end
section
variable {K : PySem.W.Frag} {cl : Nat → Addr} {F H F' H' : Hp}
mutual
theorem RT.mono (e : Ex F F') : ∀ (t : T) (v : V) (c : AT), (∀ a ∈ AT.all c, F' a = none) → (∀ a ∈ AT.all c, ∀ o, H a = some o → H' a = some o) → RT K cl F H t v c → RT K cl F' H' t v c
  | .d x, v, c, _, _, h => ⟨h.1, Rp.ex e x v h.2⟩
  | .l ts, v, c, hF, hH, h => by
    obtain ⟨p, cs, xs, rfl, rfl, h1, h2, h3⟩ := h
    exact ⟨p, cs, xs, rfl, rfl, hF p List.mem_cons_self, hH p List.mem_cons_self _ h2, RTs.mono e ts xs cs (fun a m => hF a (List.mem_cons_of_mem _ m)) (fun a m => hH a (List.mem_cons_of_mem _ m)) h3⟩
theorem RTs.mono (e : Ex F F') : ∀ (ts : List T) (xs : List V) (cs : List AT), (∀ a ∈ AT.alls cs, F' a = none) → (∀ a ∈ AT.alls cs, ∀ o, H a = some o → H' a = some o) → RTs K cl F H ts xs cs → RTs K cl F' H' ts xs cs
  | [], _, _, _, _, h => h
  | t :: ts, _, _, hF, hH, h => by
    obtain ⟨x, r, c, q, rfl, rfl, h1, h2⟩ := h
    exact ⟨x, r, c, q, rfl, rfl, RT.mono e t x c (fun a m => hF a (List.mem_append_left _ m)) (fun a m => hH a (List.mem_append_left _ m)) h1,
      RTs.mono e ts r q (fun a m => hF a (List.mem_append_right _ m)) (fun a m => hH a (List.mem_append_right _ m)) h2⟩
end
mutual
theorem RT.lst : ∀ (t : T) (v : V) (c : AT), RT K cl F H t v c → ∀ a ∈ AT.all c, F a = none ∧ ∃ xs, H a = some (.lst xs)
  | .d x, v, c, h, a, m => by
    obtain ⟨rfl, _⟩ := h
    cases m
  | .l ts, v, c, h, a, m => by
    obtain ⟨p, cs, xs, rfl, rfl, h1, h2, h3⟩ := h
    rcases List.mem_cons.mp m with e | m
    · rw [e]; exact ⟨h1, xs, h2⟩
    · exact RTs.lst ts xs cs h3 a m
theorem RTs.lst : ∀ (ts : List T) (xs : List V) (cs : List AT), RTs K cl F H ts xs cs → ∀ a ∈ AT.alls cs, F a = none ∧ ∃ ys, H a = some (.lst ys)
  | [], _, _, h, a, m => by
    obtain ⟨_, rfl⟩ := h
    cases m
  | t :: ts, _, _, h, a, m => by
    obtain ⟨x, r, c, q, rfl, rfl, h1, h2⟩ := h
    rcases List.mem_append.mp m with m | m
    · exact RT.lst t x c h1 a m
    · exact RTs.lst ts r q h2 a m
end
/-- F with all lists of a tree added -/
def addT (F H : Hp) (as : List Addr) : Hp := fun a => if a ∈ as then H a else F a
theorem addT_in {as : List Addr} {a : Addr} (m : a ∈ as) : addT F H as a = H a := if_pos m
theorem addT_out {as : List Addr} {a : Addr} (m : a ∉ as) : addT F H as a = F a := if_neg m
theorem addT_ex {as : List Addr} (h : ∀ a ∈ as, F a = none) : Ex F (addT F H as) := fun a o e => by
  rw [addT_out fun m => by rw [h a m] at e; cases e]
  exact e
mutual
theorem RT.frz (e : Ex F F') : ∀ (t : T) (v : V) (c : AT), (∀ a ∈ AT.all c, F' a = H a) → RT K cl F H t v c → Rp K cl F' (T.toD t) v
  | .d x, v, c, _, h => Rp.ex e x v h.2
  | .l ts, v, c, hF, h => by
    obtain ⟨p, cs, xs, rfl, rfl, h1, h2, h3⟩ := h
    exact ⟨p, xs, rfl, by rw [hF p List.mem_cons_self]; exact h2, RTs.frz e ts xs cs (fun a m => hF a (List.mem_cons_of_mem _ m)) h3⟩
theorem RTs.frz (e : Ex F F') : ∀ (ts : List T) (xs : List V) (cs : List AT), (∀ a ∈ AT.alls cs, F' a = H a) → RTs K cl F H ts xs cs → Rps K cl F' (T.toDs ts) xs
  | [], _, _, _, h => h.1
  | t :: ts, _, _, hF, h => by
    obtain ⟨x, r, c, q, rfl, rfl, h1, h2⟩ := h
    exact ⟨x, r, rfl, RT.frz e t x c (fun a m => hF a (List.mem_append_left _ m)) h1, RTs.frz e ts r q (fun a m => hF a (List.mem_append_right _ m)) h2⟩
end
theorem RTs.len : ∀ {ts : List T} {xs : List V} {cs : List AT}, RTs K cl F H ts xs cs → ts.length = xs.length ∧ cs.length = xs.length
  | [], _, _, h => by
    obtain ⟨rfl, rfl⟩ := h
    exact ⟨rfl, rfl⟩
  | t :: ts, _, _, h => by
    obtain ⟨x, r, c, q, rfl, rfl, _, h2⟩ := h
    obtain ⟨e1, e2⟩ := RTs.len h2
    exact ⟨by simp [e1], by simp [e2]⟩
theorem RTs.nth : ∀ {ts : List T} {xs : List V} {cs : List AT} {k : Nat} {t : T}, RTs K cl F H ts xs cs → ts[k]? = some t → ∃ x c, xs[k]? = some x ∧ cs[k]? = some c ∧ RT K cl F H t x c
  | [], _, _, _, _, _, e => by simp at e
  | t :: ts, _, _, 0, _, h, e => by
    obtain ⟨x, r, c, q, rfl, rfl, h1, _⟩ := h
    simp at e; subst e
    exact ⟨x, c, rfl, rfl, h1⟩
  | t :: ts, _, _, k + 1, _, h, e => by
    obtain ⟨x, r, c, q, rfl, rfl, _, h2⟩ := h
    obtain ⟨y, d, e1, e2, h3⟩ := RTs.nth (k := k) h2 (by simpa using e)
    exact ⟨y, d, by simpa using e1, by simpa using e2, h3⟩
theorem alls_nth : ∀ {cs : List AT} {k : Nat} {c : AT}, cs[k]? = some c → ∀ a ∈ AT.all c, a ∈ AT.alls cs
  | [], _, _, e, _, _ => by simp at e
  | c :: cs, 0, _, e, a, m => by
    simp at e; subst e
    exact List.mem_append_left _ m
  | c :: cs, k + 1, _, e, a, m => List.mem_append_right _ (alls_nth (k := k) (by simpa using e) a m)
/-- data from flat items, flat items from data -/
theorem flat_rts : ∀ {ts : List T} {ds : List D} {xs : List V} {cs : List AT}, flatT ts = some ds → RTs K cl F H ts xs cs → Rps K cl F ds xs ∧ AT.alls cs = []
  | [], _, _, _, e, h => by
    cases e
    obtain ⟨rfl, rfl⟩ := h
    exact ⟨rfl, rfl⟩
  | .d x :: ts, _, _, _, e, h => by
    simp only [flatT] at e
    cases q : flatT ts with
    | none => rw [q] at e; cases e
    | some es =>
      rw [q] at e
      cases e
      obtain ⟨y, r, c, p, rfl, rfl, ⟨rfl, h1⟩, h2⟩ := h
      obtain ⟨g1, g2⟩ := flat_rts q h2
      exact ⟨⟨y, r, rfl, h1, g1⟩, g2⟩
  | .l _ :: _, _, _, _, e, _ => by cases e
theorem rts_of : ∀ {ds : List D} {xs : List V}, Rps K cl F ds xs → RTs K cl F H (ds.map T.d) xs (List.replicate xs.length .leaf)
  | [], _, h => by cases h; exact ⟨rfl, rfl⟩
  | d :: ds, _, h => by
    obtain ⟨x, r, rfl, h1, h2⟩ := h
    exact ⟨x, r, .leaf, _, rfl, rfl, ⟨rfl, h1⟩, rts_of h2⟩
theorem alls_leaf : ∀ n : Nat, AT.alls (List.replicate n .leaf) = []
  | 0 => rfl
  | n + 1 => alls_leaf n
theorem RTs.app : ∀ {ts us : List T} {xs ys : List V} {cs ds : List AT}, RTs K cl F H ts xs cs → RTs K cl F H us ys ds → RTs K cl F H (ts ++ us) (xs ++ ys) (cs ++ ds)
  | [], _, _, _, _, _, h, g => by
    obtain ⟨rfl, rfl⟩ := h
    exact g
  | t :: ts, _, _, _, _, _, h, g => by
    obtain ⟨x, r, c, q, rfl, rfl, h1, h2⟩ := h
    exact ⟨x, _, c, _, rfl, rfl, h1, RTs.app h2 g⟩
theorem RTs.setN : ∀ {ts : List T} {xs : List V} {cs : List AT} (k : Nat) {t : T} {v : V} {c : AT}, RTs K cl F H ts xs cs → RT K cl F H t v c → RTs K cl F H (ts.set k t) (xs.set k v) (cs.set k c)
  | [], _, _, _, _, _, _, h, _ => by
    obtain ⟨rfl, rfl⟩ := h
    exact ⟨rfl, rfl⟩
  | t :: ts, _, _, 0, _, v, c', h, g => by
    obtain ⟨x, r, c, q, rfl, rfl, _, h2⟩ := h
    exact ⟨v, r, c', q, rfl, rfl, g, h2⟩
  | t :: ts, _, _, k + 1, _, v, c', h, g => by
    obtain ⟨x, r, c, q, rfl, rfl, h1, h2⟩ := h
    exact ⟨x, _, c, _, rfl, rfl, h1, RTs.setN k h2 g⟩
theorem RTs.eraseN : ∀ {ts : List T} {xs : List V} {cs : List AT} (k : Nat), RTs K cl F H ts xs cs → RTs K cl F H (ts.eraseIdx k) (xs.eraseIdx k) (cs.eraseIdx k)
  | [], _, _, _, h => by
    obtain ⟨rfl, rfl⟩ := h
    exact ⟨rfl, rfl⟩
  | t :: ts, _, _, 0, h => by
    obtain ⟨x, r, c, q, rfl, rfl, _, h2⟩ := h
    exact h2
  | t :: ts, _, _, k + 1, h => by
    obtain ⟨x, r, c, q, rfl, rfl, h1, h2⟩ := h
    exact ⟨x, _, c, _, rfl, rfl, h1, RTs.eraseN k h2⟩
theorem alls_app : ∀ (cs ds : List AT), AT.alls (cs ++ ds) = AT.alls cs ++ AT.alls ds
  | [], _ => rfl
  | c :: cs, ds => by
    show AT.all c ++ AT.alls (cs ++ ds) = (AT.all c ++ AT.alls cs) ++ AT.alls ds
    rw [alls_app cs ds, List.append_assoc]
/-- the list at a path -/
theorem RT.path : ∀ (π : List Nat) {ts us : List T} {v : V} {c : AT}, RT K cl F H (.l ts) v c → T.get ts π = some us → ∃ p cs xs, AT.get c π = some (.node p cs) ∧ F p = none ∧ H p = some (.lst xs) ∧ RTs K cl F H us xs cs ∧ (∀ a ∈ p :: AT.alls cs, a ∈ AT.all c)
  | [], ts, us, v, c, h, e => by
    cases e
    obtain ⟨p, cs, xs, rfl, rfl, h1, h2, h3⟩ := h
    exact ⟨p, cs, xs, rfl, h1, h2, h3, fun _ m => m⟩
  | k :: π, ts, us, v, c, h, e => by
    obtain ⟨p, cs, xs, rfl, rfl, h1, h2, h3⟩ := h
    simp only [T.get] at e
    split at e
    · rename_i vs hk
      obtain ⟨x, c1, e1, e2, h4⟩ := h3.nth hk
      obtain ⟨q, ds, ys, g1, g2, g3, g4, g5⟩ := RT.path π h4 e
      exact ⟨q, ds, ys, by simp only [AT.get, e2]; exact g1, g2, g3, g4, fun a m => List.mem_cons_of_mem _ (alls_nth e2 a (g5 a m))⟩
    · cases e
theorem alls_mem : ∀ {cs : List AT} {a : Addr}, a ∈ AT.alls cs → ∃ (k : Nat) (c : AT), cs[k]? = some c ∧ a ∈ AT.all c
  | [], _, m => by cases m
  | c :: cs, a, m => by
    rcases List.mem_append.mp m with m | m
    · exact ⟨0, c, rfl, m⟩
    · obtain ⟨k, d, e, h⟩ := alls_mem m
      exact ⟨k + 1, d, by simpa using e, h⟩
theorem nd_app {l m : List Addr} (h : (l ++ m).Nodup) : l.Nodup ∧ m.Nodup ∧ ∀ a ∈ l, a ∉ m := by
  obtain ⟨h1, h2, h3⟩ := List.nodup_append.mp h
  exact ⟨h1, h2, fun a ha hm => h3 a ha a hm rfl⟩
theorem RTs.setP {p : Addr} (hH : ∀ a o, a ≠ p → H a = some o → H' a = some o) : ∀ {ts : List T} {xs : List V} {cs : List AT} {k : Nat} {t' : T} {x : V} {c c' : AT}, RTs K cl F H ts xs cs → (AT.alls cs).Nodup → cs[k]? = some c → p ∈ AT.all c → xs[k]? = some x → RT K cl F H' t' x c' → RTs K cl F H' (ts.set k t') xs (cs.set k c')
  | [], _, _, k, _, _, _, _, h, _, e, _, _, _ => by
    obtain ⟨rfl, rfl⟩ := h
    simp at e
  | t :: ts, _, _, 0, t', x, c, c', h, nd, e, m, ex, g => by
    obtain ⟨y, r, d, q, rfl, rfl, h1, h2⟩ := h
    simp at e ex
    subst e ex
    obtain ⟨_, _, dj⟩ := nd_app nd
    have g2 : RTs K cl F H' ts r q := RTs.mono (Ex.refl F) ts r q (fun a ma => (RTs.lst ts r q h2 a ma).1) (fun a ma o e => hH a o (fun z => dj p m (z ▸ ma)) e) h2
    exact ⟨y, r, c', q, rfl, rfl, g, g2⟩
  | t :: ts, _, _, k + 1, t', x, c, c', h, nd, e, m, ex, g => by
    obtain ⟨y, r, d, q, rfl, rfl, h1, h2⟩ := h
    obtain ⟨_, nq, dj⟩ := nd_app nd
    have e' : q[k]? = some c := by simpa using e
    have mq : p ∈ AT.alls q := alls_nth e' p m
    have g1 : RT K cl F H' t y d := RT.mono (Ex.refl F) t y d (fun a ma => (RT.lst t y d h1 a ma).1) (fun a ma o e => hH a o (fun z => dj p (z ▸ ma) mq) e) h1
    exact ⟨y, r, d, _, rfl, rfl, g1, RTs.setP hH h2 nq e' m (by simpa using ex) g⟩
theorem at_mem : ∀ (π : List Nat) {c : AT} {p : Addr} {cs : List AT}, AT.get c π = some (.node p cs) → ∀ a ∈ p :: AT.alls cs, a ∈ AT.all c
  | [], c, p, cs, e, a, m => by
    have e1 : some c = some (.node p cs) := by cases c <;> exact e
    cases e1
    exact m
  | k :: π, .node q ds, p, cs, e, a, m => by
    simp only [AT.get] at e
    cases h : ds[k]? with
    | none => rw [h] at e; cases e
    | some d =>
      rw [h] at e
      exact List.mem_cons_of_mem _ (alls_nth h a (at_mem π e a m))
  | k :: π, .leaf, p, cs, e, a, m => by cases e
theorem at_nil {c : AT} : AT.get c [] = some c := by cases c <;> rfl
theorem at_put_nil {c c' : AT} : AT.put c [] c' = c' := by cases c <;> rfl
/-- the list at a path changed -/
theorem RT.putP {p : Addr} {cs cs' : List AT} {us us' : List T} {xs' : List V} (hH : ∀ a o, a ≠ p → H a = some o → H' a = some o) (hp : H' p = some (.lst xs')) (hr : RTs K cl F H' us' xs' cs') :
    ∀ (π : List Nat) {ts : List T} {v : V} {c : AT}, RT K cl F H (.l ts) v c → T.get ts π = some us → AT.get c π = some (.node p cs) → (AT.all c).Nodup → RT K cl F H' (.l (T.put ts π us')) v (AT.put c π (.node p cs'))
  | [], ts, v, c, h, e, g, nd => by
    obtain ⟨q, ds, ys, rfl, rfl, h1, h2, h3⟩ := h
    rw [at_nil] at g
    cases g
    rw [at_put_nil]
    exact ⟨p, cs', xs', rfl, rfl, h1, hp, hr⟩
  | k :: π, ts, v, c, h, e, g, nd => by
    obtain ⟨q, ds, ys, rfl, rfl, h1, h2, h3⟩ := h
    simp only [T.get] at e
    split at e
    · rename_i vs hk
      obtain ⟨x, c1, e1, e2, h4⟩ := h3.nth hk
      simp only [AT.get, e2] at g
      have nd2 := List.nodup_cons.mp nd
      have mp : p ∈ AT.all c1 := at_mem π g p List.mem_cons_self
      have nq : q ≠ p := fun z => nd2.1 (alls_nth e2 q (z ▸ mp))
      have nd1 : (AT.all c1).Nodup := by
        have aux : ∀ (l : List AT) (k : Nat), (AT.alls l).Nodup → l[k]? = some c1 → (AT.all c1).Nodup := by
          intro l
          induction l with
          | nil => intro k _ e; simp at e
          | cons d l ih =>
            intro k n e
            obtain ⟨n1, n2, _⟩ := nd_app n
            cases k with
            | zero => simp at e; subst e; exact n1
            | succ k => exact ih k n2 (by simpa using e)
        exact aux ds k nd2.2 e2
      have ih := RT.putP hH hp hr π h4 e g nd1
      simp only [T.put, hk, AT.put, e2]
      exact ⟨q, _, ys, rfl, rfl, h1, hH q _ nq h2, RTs.setP hH h3 nd2.2 e2 mp e1 ih⟩
    · cases e
theorem alls_set {N : Addr → Prop} {c c' : AT} (n' : (AT.all c').Nodup) (sub : ∀ a ∈ AT.all c', a ∈ AT.all c ∨ N a) : ∀ {cs : List AT} {k : Nat}, cs[k]? = some c → (AT.alls cs).Nodup → (∀ a, N a → a ∉ AT.alls cs) →
    (AT.alls (cs.set k c')).Nodup ∧ ∀ a ∈ AT.alls (cs.set k c'), a ∈ AT.alls cs ∨ N a
  | [], _, e, _, _ => by simp at e
  | d :: cs, 0, e, nd, nn => by
    simp at e; subst e
    obtain ⟨n1, n2, dj⟩ := nd_app nd
    refine ⟨List.nodup_append.mpr ⟨n', n2, fun a m b mb z => ?_⟩, fun a m => ?_⟩
    · subst z
      rcases sub a m with h | h
      · exact dj a h mb
      · exact nn a h (List.mem_append_right _ mb)
    · rcases List.mem_append.mp m with m | m
      · rcases sub a m with h | h
        · exact .inl (List.mem_append_left _ h)
        · exact .inr h
      · exact .inl (List.mem_append_right _ m)
  | d :: cs, k + 1, e, nd, nn => by
    obtain ⟨n1, n2, dj⟩ := nd_app nd
    obtain ⟨h1, h2⟩ := alls_set n' sub (cs := cs) (k := k) (by simpa using e) n2 fun a h m => nn a h (List.mem_append_right _ m)
    refine ⟨List.nodup_append.mpr ⟨n1, h1, fun a m b mb z => ?_⟩, fun a m => ?_⟩
    · subst z
      rcases h2 a mb with h | h
      · exact dj a m h
      · exact nn a h (List.mem_append_left _ m)
    · rcases List.mem_append.mp m with m | m
      · exact .inl (List.mem_append_left _ m)
      · rcases h2 a m with h | h
        · exact .inl (List.mem_append_right _ h)
        · exact .inr h
theorem AT.put_ok {N : Addr → Prop} {p : Addr} {cs cs' : List AT} (n' : (AT.alls cs').Nodup) (np : p ∉ AT.alls cs') (sub : ∀ a ∈ AT.alls cs', a ∈ AT.alls cs ∨ N a) : ∀ (π : List Nat) {c : AT}, AT.get c π = some (.node p cs) → (AT.all c).Nodup → (∀ a, N a → a ∉ AT.all c) →
    (AT.all (AT.put c π (.node p cs'))).Nodup ∧ ∀ a ∈ AT.all (AT.put c π (.node p cs')), a ∈ AT.all c ∨ N a
  | [], c, g, nd, nn => by
    rw [at_nil] at g
    cases g
    rw [at_put_nil]
    refine ⟨List.nodup_cons.mpr ⟨np, n'⟩, fun a m => ?_⟩
    rcases List.mem_cons.mp m with e | m
    · exact .inl (e ▸ List.mem_cons_self)
    · rcases sub a m with h | h
      · exact .inl (List.mem_cons_of_mem _ h)
      · exact .inr h
  | k :: π, .leaf, g, _, _ => by cases g
  | k :: π, .node q ds, g, nd, nn => by
    simp only [AT.get] at g
    cases h : ds[k]? with
    | none => rw [h] at g; cases g
    | some c1 =>
      rw [h] at g
      have nd2 := List.nodup_cons.mp nd
      have nd1 : (AT.all c1).Nodup := by
        have aux : ∀ (l : List AT) (k : Nat), (AT.alls l).Nodup → l[k]? = some c1 → (AT.all c1).Nodup := by
          intro l
          induction l with
          | nil => intro k _ e; simp at e
          | cons d l ih =>
            intro k n e
            obtain ⟨n1, n2, _⟩ := nd_app n
            cases k with
            | zero => simp at e; subst e; exact n1
            | succ k => exact ih k n2 (by simpa using e)
        exact aux ds k nd2.2 h
      obtain ⟨i1, i2⟩ := AT.put_ok n' np sub π g nd1 fun a hN m => nn a hN (List.mem_cons_of_mem _ (alls_nth h a m))
      obtain ⟨j1, j2⟩ := alls_set i1 i2 h nd2.2 fun a hN m => nn a hN (List.mem_cons_of_mem _ m)
      simp only [AT.put, h]
      refine ⟨List.nodup_cons.mpr ⟨fun m => ?_, j1⟩, fun a m => ?_⟩
      · rcases j2 q m with z | z
        · exact nd2.1 z
        · exact nn q z List.mem_cons_self
      · rcases List.mem_cons.mp m with e | m
        · exact .inl (e ▸ List.mem_cons_self)
        · rcases j2 a m with z | z
          · exact .inl (List.mem_cons_of_mem _ z)
          · exact .inr z
/-- other paths lead on -/
theorem put_paths {us us' : List T} {p : Addr} {cs cs' : List AT} (hu : ∀ (k : Nat) (vs : List T), us[k]? = some (T.l vs) → us'[k]? = some (T.l vs)) (hc : ∀ (k : Nat) (vs : List T), us[k]? = some (T.l vs) → cs'[k]? = cs[k]?) :
    ∀ (π : List Nat) {ts : List T} {c : AT} (ρ : List Nat) {w : List T} {q : Addr} {ds : List AT}, T.get ts π = some us → AT.get c π = some (.node p cs) → T.get ts ρ = some w → AT.get c ρ = some (.node q ds) →
    (∃ w', T.get (T.put ts π us') ρ = some w') ∧ ∃ ds', AT.get (AT.put c π (.node p cs')) ρ = some (.node q ds')
  | [], ts, c, ρ, w, q, ds, e, g, e2, g2 => by
    cases e
    rw [at_nil] at g
    cases g
    rw [at_put_nil]
    cases ρ with
    | nil =>
      rw [at_nil] at g2
      cases g2
      exact ⟨⟨us', rfl⟩, cs', at_nil⟩
    | cons k ρ =>
      simp only [T.get] at e2
      split at e2
      · rename_i vs hk
        refine ⟨⟨w, ?_⟩, ds, ?_⟩
        · show T.get us' (k :: ρ) = some w
          simp only [T.get, hu k vs hk]
          exact e2
        · simp only [AT.get] at g2 ⊢
          rw [hc k vs hk]
          exact g2
      · cases e2
  | m :: π, ts, c, ρ, w, q, ds, e, g, e2, g2 => by
    simp only [T.get] at e
    split at e
    · rename_i vs hk
      cases c with
      | leaf => cases g
      | node p0 cs0 =>
        simp only [AT.get] at g
        cases h : cs0[m]? with
        | none => rw [h] at g; cases g
        | some c1 =>
          rw [h] at g
          simp only [T.put, hk, AT.put, h]
          cases ρ with
          | nil =>
            rw [at_nil] at g2
            cases g2
            exact ⟨⟨_, rfl⟩, _, at_nil⟩
          | cons k ρ =>
            by_cases z : k = m
            · subst z
              simp only [T.get, hk] at e2
              simp only [AT.get, h] at g2
              obtain ⟨⟨w', i1⟩, ds', i2⟩ := put_paths hu hc π ρ e g e2 g2
              have lt : k < ts.length := by
                rcases Nat.lt_or_ge k ts.length with z | z
                · exact z
                · rw [List.getElem?_eq_none z] at hk; cases hk
              have lc : k < cs0.length := by
                rcases Nat.lt_or_ge k cs0.length with z | z
                · exact z
                · rw [List.getElem?_eq_none z] at h; cases h
              refine ⟨⟨w', ?_⟩, ds', ?_⟩
              · simp only [T.get, List.getElem?_set_self lt]
                exact i1
              · simp only [AT.get, List.getElem?_set_self lc]
                exact i2
            · have ne : m ≠ k := fun y => z y.symm
              refine ⟨⟨w, ?_⟩, ds, ?_⟩
              · simp only [T.get, List.getElem?_set_ne ne] at e2 ⊢
                exact e2
              · simp only [AT.get, List.getElem?_set_ne ne] at g2 ⊢
                exact g2
    · cases e
end
end PyD
set_option Elab.async false
set_option linter.all false
set_option maxRecDepth 100000
set_option maxHeartbeats 2000000
/-! PyR: the state: what the names hold, what a step may do to it. -/
namespace PyD
open PySem L2 Evl

def Own (own : Nat → AT) (a : Addr) : Prop := ∃ i, a ∈ AT.all (own i)
structure Rel (K : PySem.W.Frag) (cl : Nat → Addr) (σ : L2.St) (ε : Env) (own : Nat → AT) (F H : Hp) : Prop where
  sub : Ex F H
  len : σ.length = ε.length
  sh : ∀ i d, gt ε i = some (.sh d) → ∃ v, σ[i]? = some (some v) ∧ Rp K cl F d v
  ow : ∀ i ts, gt ε i = some (.ow ts) → ∃ v, σ[i]? = some (some v) ∧ RT K cl F H (.l ts) v (own i)
  no : ∀ i, (∀ ts, gt ε i ≠ some (.ow ts)) → own i = .leaf
  nd : ∀ i, (AT.all (own i)).Nodup
  dj : ∀ i j, i ≠ j → ∀ a ∈ AT.all (own i), a ∉ AT.all (own j)
  al : ∀ i j π, gt ε i = some (.al j π) → ∃ p cs ts us, σ[i]? = some (some (.ref p)) ∧ gt ε j = some (.ow ts) ∧ T.get ts π = some us ∧ AT.get (own j) π = some (.node p cs)
/-- what happened to the heap: F grows, what is no name's own stays -/
structure Stp (P P' : Addr → Prop) (F H F' H' : Hp) : Prop where
  ex : Ex F F'
  keep : ∀ a o, H a = some o → ¬ P a → H' a = some o
  dom : ∀ a, H' a = none → H a = none
  news : ∀ a o, F' a = some o → F a = some o ∨ H a = none ∨ P a
  own : ∀ a, P' a → P a ∨ H a = none
theorem Stp.refl {P : Addr → Prop} {F H : Hp} : Stp P P F H F H := ⟨Ex.refl F, fun _ _ h _ => h, fun _ h => h, fun _ _ h => .inl h, fun _ h => .inl h⟩
theorem Stp.trans {P P' P'' : Addr → Prop} {F H F' H' F'' H'' : Hp} (a : Stp P P' F H F' H') (b : Stp P' P'' F' H' F'' H'') : Stp P P'' F H F'' H'' where
  ex := a.ex.trans b.ex
  keep := fun x o h n => b.keep x o (a.keep x o h n) fun p => by
    rcases a.own x p with q | q
    · exact n q
    · rw [q] at h; cases h
  dom := fun x h => a.dom x (b.dom x h)
  news := fun x o h => by
    rcases b.news x o h with q | q | q
    · exact a.news x o q
    · exact .inr (.inl (a.dom x q))
    · rcases a.own x q with r | r
      · exact .inr (.inr r)
      · exact .inr (.inl r)
  own := fun x p => by
    rcases b.own x p with q | q
    · exact a.own x q
    · exact .inr (a.dom x q)
/-- a name that holds something goes on to hold it; data stays the same -/
structure Up (ε ε' : Env) : Prop where
  sh : ∀ j d, gt ε j = some (.sh d) → gt ε' j = some (.sh d)
  ow : ∀ j ts, gt ε j = some (.ow ts) → (∃ ts', gt ε' j = some (.ow ts')) ∨ ∃ d, gt ε' j = some (.sh d)
theorem Up.refl (ε : Env) : Up ε ε := ⟨fun _ _ h => h, fun _ ts h => .inl ⟨ts, h⟩⟩
theorem Up.trans {ε ε' ε'' : Env} (a : Up ε ε') (b : Up ε' ε'') : Up ε ε'' := ⟨fun j d h => b.sh j d (a.sh j d h), fun j ts h => by
  rcases a.ow j ts h with ⟨ts', h'⟩ | ⟨d, h'⟩
  · exact b.ow j ts' h'
  · exact .inr ⟨d, b.sh j d h'⟩⟩
/-- no list of a name was changed: it stands as it stood, or is data now -/
structure Cal (ε : Env) (own : Nat → AT) (ε' : Env) (own' : Nat → AT) : Prop where
  ow : ∀ j ts, gt ε j = some (.ow ts) → (gt ε' j = some (.ow ts) ∧ own' j = own j) ∨ gt ε' j = some (.sh (.lst (T.toDs ts)))
theorem Cal.refl (ε : Env) (own : Nat → AT) : Cal ε own ε own := ⟨fun _ _ h => .inl ⟨h, rfl⟩⟩
theorem Cal.trans {ε ε' ε'' : Env} {own own' own'' : Nat → AT} (a : Cal ε own ε' own') (b : Cal ε' own' ε'' own'') (u : Up ε' ε'') : Cal ε own ε'' own'' := ⟨fun j ts h => by
  rcases a.ow j ts h with ⟨h1, h2⟩ | h1
  · rcases b.ow j ts h1 with ⟨h3, h4⟩ | h3
    · exact .inl ⟨h3, h4.trans h2⟩
    · exact .inr h3
  · exact .inr (u.sh j _ h1)⟩
/-- what an expression gives, as a value; H0: the heap ahead of it -/
def RepR (K : PySem.W.Frag) (cl : Nat → Addr) (σ : L2.St) (ε : Env) (own : Nat → AT) (H0 F H : Hp) (v : V) : R → Prop
  | .sh d => Rp K cl F d v
  | .fr ts => ∃ c, RT K cl F H (.l ts) v c ∧ (AT.all c).Nodup ∧ ∀ a ∈ AT.all c, H0 a = none ∧ ¬ Own own a
  | .pt j π => (∃ ts us p cs, gt ε j = some (.ow ts) ∧ T.get ts π = some us ∧ AT.get (own j) π = some (.node p cs) ∧ v = .ref p) ∨ (∃ d d', gt ε j = some (.sh d) ∧ dAt d π = some d' ∧ Rp K cl F d' v)
section
variable {K : PySem.W.Frag} {cl : Nat → Addr} {σ σ' : L2.St} {ε ε' : Env} {own own' : Nat → AT} {H0 F H F' H' : Hp} {v : V} {r : R}
/-- a value seen: its top at H, its items at F -/
def Pk (K : PySem.W.Frag) (cl : Nat → Addr) (F H : Hp) (d : D) (v : V) : Prop := Rp K cl F d v ∨ ∃ p xs ds, d = .lst ds ∧ v = .ref p ∧ H p = some (.lst xs) ∧ Rps K cl F ds xs
theorem Pk.rp (e : Ex F H) {d : D} (h : Pk K cl F H d v) : Rp K cl H d v := by
  rcases h with h | ⟨p, xs, ds, rfl, rfl, h1, h2⟩
  · exact Rp.ex e d v h
  · exact ⟨p, xs, rfl, h1, Rps.ex e ds xs h2⟩
theorem toDs_eq : ∀ ts : List T, T.toDs ts = ts.map T.toD
  | [] => rfl
  | t :: ts => congrArg (T.toD t :: ·) (toDs_eq ts)
theorem toDs_d (ds : List D) : T.toDs (ds.map T.d) = ds := by
  rw [toDs_eq, List.map_map]
  exact (List.map_congr_left (g := id) fun _ _ => rfl).trans (List.map_id ds)
theorem flatT_d : ∀ ds : List D, flatT (ds.map T.d) = some ds
  | [] => rfl
  | d :: ds => by
    show (match flatT (ds.map T.d) with
      | some es => some (d :: es)
      | none => none) = some (d :: ds)
    rw [flatT_d ds]
theorem flat_toDs : ∀ {ts : List T} {ds : List D}, flatT ts = some ds → T.toDs ts = ds
  | [], _, e => by cases e; rfl
  | .d x :: ts, _, e => by
    simp only [flatT] at e
    cases q : flatT ts with
    | none => rw [q] at e; cases e
    | some es =>
      rw [q] at e
      cases e
      show x :: T.toDs ts = x :: es
      rw [flat_toDs q]
  | .l _ :: _, _, e => by cases e
/-- a tree at rest is data in H -/
theorem RT.deep (e : Ex F H) {t : T} {c : AT} (h : RT K cl F H t v c) : Rp K cl H (T.toD t) v := RT.frz e t v c (fun _ _ => rfl) h
theorem peekH_ok (q : Rel K cl σ ε own F H) {d : D} (h : RepR K cl σ ε own H0 F H v r) (e : peekH r ε = some d) : Rp K cl H d v := by
  cases r with
  | sh d' => cases e; exact Rp.ex q.sub _ _ h
  | fr ts =>
    obtain ⟨c, h1, _⟩ := h
    cases e
    exact RT.deep q.sub h1
  | pt j π =>
    simp only [peekH] at e
    rcases h with ⟨ts, us, p, cs, h1, h2, h3, rfl⟩ | ⟨d1, d2, h1, h2, h3⟩
    · rw [h1] at e
      simp only [h2] at e
      cases e
      obtain ⟨v0, _, h4⟩ := q.ow j ts h1
      obtain ⟨p', cs', xs, g1, g2, g3, g4, _⟩ := RT.path π h4 h2
      rw [h3] at g1
      cases g1
      exact RT.deep (t := .l us) q.sub ⟨p, cs, xs, rfl, rfl, g2, g3, g4⟩
    · rw [h1] at e
      simp only [h2] at e
      cases e
      exact Rp.ex q.sub _ _ h3
theorem peek_ok (q : Rel K cl σ ε own F H) {d : D} (h : RepR K cl σ ε own H0 F H v r) (e : peek r ε = some d) : Pk K cl F H d v := by
  cases r with
  | sh d' => cases e; exact .inl h
  | fr ts =>
    obtain ⟨c, ⟨p, cs, xs, rfl, rfl, h1, h2, h3⟩, _⟩ := h
    simp only [peek] at e
    cases z : flatT ts with
    | none => rw [z] at e; cases e
    | some ds =>
      rw [z] at e
      cases e
      exact .inr ⟨p, xs, ds, rfl, rfl, h2, (flat_rts z h3).1⟩
  | pt j π =>
    simp only [peek] at e
    rcases h with ⟨ts, us, p, cs, h1, h2, h3, rfl⟩ | ⟨d1, d2, h1, h2, h3⟩
    · rw [h1] at e
      simp only [h2] at e
      cases z : flatT us with
      | none => rw [z] at e; cases e
      | some ds =>
        rw [z] at e
        cases e
        obtain ⟨v0, _, h4⟩ := q.ow j ts h1
        obtain ⟨p', cs', xs, g1, g2, g3, g4, _⟩ := RT.path π h4 h2
        rw [h3] at g1
        cases g1
        exact .inr ⟨p, xs, ds, rfl, rfl, g3, (flat_rts z g4).1⟩
    · rw [h1] at e
      simp only [h2] at e
      cases e
      exact .inl h3
/-- a path in data -/
theorem path_frz (sub : Ex F' H') (ext : ∀ a ∈ AT.all c, ∀ o, H a = some o → H' a = some o) : ∀ (π : List Nat) {ts us : List T} {v : V} {p : Addr} {cs : List AT}, (∀ a ∈ AT.all c, ∀ o, H a = some o → H' a = some o) → RT K cl F H (.l ts) v c → T.get ts π = some us → AT.get c π = some (.node p cs) →
    Rp K cl F' (.lst (T.toDs ts)) v → dAt (.lst (T.toDs ts)) π = some (.lst (T.toDs us)) ∧ Rp K cl F' (.lst (T.toDs us)) (.ref p) := by
  intro π
  induction π generalizing c with
  | nil =>
    intro ts us v p cs ext h e g hr
    cases e
    rw [at_nil] at g
    cases g
    obtain ⟨p', cs', xs, e1, rfl, _⟩ := h
    cases e1
    exact ⟨rfl, hr⟩
  | cons k π ih =>
    intro ts us v p cs ext h e g hr
    obtain ⟨q, ds, xs, rfl, rfl, h1, h2, h3⟩ := h
    obtain ⟨q', xs', e1, e2, hr2⟩ := hr
    cases e1
    have e3 := ext q List.mem_cons_self _ h2
    have e4 := sub q _ e2
    rw [e3] at e4
    cases e4
    simp only [T.get] at e
    split at e
    · rename_i vs hk
      obtain ⟨x, c1, f1, f2, h4⟩ := h3.nth hk
      simp only [AT.get, f2] at g
      have hk2 : (T.toDs ts)[k]? = some (.lst (T.toDs vs)) := by
        rw [toDs_eq, List.getElem?_map, hk]
        rfl
      obtain ⟨y, g1, g2⟩ := hr2.get hk2
      rw [f1] at g1
      cases g1
      have ext' : ∀ a ∈ AT.all c1, ∀ o, H a = some o → H' a = some o := fun a m => ext a (List.mem_cons_of_mem _ (alls_nth f2 a m))
      obtain ⟨i1, i2⟩ := ih ext' ext' h4 e g g2
      exact ⟨by simp only [dAt, hk2]; exact i1, i2⟩
    · cases e
end
end PyD
set_option Elab.async false
set_option linter.all false
set_option maxRecDepth 100000
set_option maxHeartbeats 2000000
/-! PyS: steps on the state. -/
namespace PyD
open PySem L2 Evl

theorem gt_unal (j : Nat) (d : D) : ∀ (ε : Env) (k : Nat), gt (unal j d ε) k = match gt ε k with
    | some (.al i π) => if i = j then (dAt d π).map W.sh else some (.al i π)
    | w => w
  | [], _ => rfl
  | w :: ε, k => by
    cases k with
    | zero =>
      cases w with
      | none => rfl
      | some w => cases w <;> rfl
    | succ k =>
      have ih := gt_unal j d ε k
      cases w with
      | none => exact ih
      | some w => cases w <;> exact ih
theorem unal_length (j : Nat) (d : D) : ∀ ε : Env, (unal j d ε).length = ε.length
  | [] => rfl
  | w :: ε => by
    have ih := unal_length j d ε
    cases w with
    | none => simp [unal, ih]
    | some w => cases w <;> simp [unal, ih]
theorem gt_kill (j : Nat) : ∀ (ε : Env) (k : Nat), gt (kill j ε) k = match gt ε k with
    | some (.al i π) => if i = j then none else some (.al i π)
    | w => w
  | [], _ => rfl
  | w :: ε, k => by
    cases k with
    | zero =>
      cases w with
      | none => rfl
      | some w => cases w <;> rfl
    | succ k =>
      have ih := gt_kill j ε k
      cases w with
      | none => exact ih
      | some w => cases w <;> exact ih
theorem kill_length (j : Nat) : ∀ ε : Env, (kill j ε).length = ε.length
  | [] => rfl
  | w :: ε => by
    have ih := kill_length j ε
    cases w with
    | none => simp [kill, ih]
    | some w => cases w <;> simp [kill, ih]
theorem put_length (ε : Env) (i : Nat) (w : Option W) : (put ε i w).length = ε.length := by
  unfold put
  split
  · rw [st_length, kill_length]
  · rw [st_length]
section
variable {K : PySem.W.Frag} {cl : Nat → Addr} {σ σ' : L2.St} {ε ε' : Env} {own own' : Nat → AT} {H0 F H F' H' : Hp} {v : V} {r : R}
theorem Rel.own_lst (q : Rel K cl σ ε own F H) {a : Addr} (h : Own own a) : F a = none ∧ ∃ xs, H a = some (.lst xs) := by
  obtain ⟨i, m⟩ := h
  cases w : gt ε i with
  | none => rw [q.no i (fun ts z => by rw [w] at z; cases z)] at m; cases m
  | some w' =>
    cases w' with
    | ow ts =>
      obtain ⟨v, _, h2⟩ := q.ow i ts w
      exact RT.lst _ _ _ h2 a m
    | sh d => rw [q.no i (fun ts z => by rw [w] at z; cases z)] at m; cases m
    | al j π => rw [q.no i (fun ts z => by rw [w] at z; cases z)] at m; cases m
theorem Rel.f_none (q : Rel K cl σ ε own F H) {p : Addr} (hp : H p = none) : F p = none := by
  cases e : F p with
  | none => rfl
  | some u => rw [q.sub p u e] at hp; cases hp
/-- the same names over a grown heap -/
theorem Rel.grow (q : Rel K cl σ ε own F H) (eF : Ex F F') (eH : Ex H H') (sub : Ex F' H') (nF : ∀ a, Own own a → F' a = none) : Rel K cl σ ε own F' H' where
  sub := sub
  len := q.len
  sh := fun i d h => let ⟨v, e1, e2⟩ := q.sh i d h; ⟨v, e1, Rp.ex eF _ _ e2⟩
  ow := fun i ts h => let ⟨v, e1, e2⟩ := q.ow i ts h; ⟨v, e1, RT.mono eF _ _ _ (fun a m => nF a ⟨i, m⟩) (fun a _ o z => eH a o z) e2⟩
  no := q.no
  nd := q.nd
  dj := q.dj
  al := q.al
/-- a new thing that is read from now on -/
theorem Rel.new (q : Rel K cl σ ε own F H) {p : Addr} {o : HO} (hp : H p = none) : Rel K cl σ ε own (upd F p o) (upd H p o) ∧ Stp (Own own) (Own own) F H (upd F p o) (upd H p o) := by
  have fp := q.f_none hp
  refine ⟨q.grow (Ex.new fp) (Ex.new hp) (fun a u e => ?_) (fun a m => ?_), ⟨Ex.new fp, fun a u h _ => Ex.new hp a u h, fun a h => ?_, fun a u h => ?_, fun a h => .inl h⟩⟩
  · by_cases c : a = p
    · subst c; rw [upd_same] at e ⊢; exact e
    · rw [upd_ne c] at e ⊢; exact q.sub a u e
  · obtain ⟨h1, xs, h2⟩ := q.own_lst m
    rw [upd_ne (fun z => by subst z; rw [h2] at hp; cases hp)]
    exact h1
  · by_cases c : a = p
    · subst c; exact hp
    · rw [upd_ne c] at h; exact h
  · by_cases c : a = p
    · subst c; exact .inr (.inl hp)
    · rw [upd_ne c] at h; exact .inl h
/-- a new thing that stands by itself -/
theorem Rel.fresh (q : Rel K cl σ ε own F H) {p : Addr} {o : HO} (hp : H p = none) : Rel K cl σ ε own F (upd H p o) ∧ Stp (Own own) (Own own) F H F (upd H p o) := by
  refine ⟨q.grow (Ex.refl F) (Ex.new hp) (q.sub.trans (Ex.new hp)) (fun a m => (q.own_lst m).1), ⟨Ex.refl F, fun a u h _ => Ex.new hp a u h, fun a h => ?_, fun a u h => .inl h, fun a h => .inl h⟩⟩
  by_cases c : a = p
  · subst c; exact hp
  · rw [upd_ne c] at h; exact h
/-- a tree that stands by itself becomes data -/
theorem Rel.freeze (q : Rel K cl σ ε own F H) {t : T} {c : AT} (h : RT K cl F H t v c) (no : ∀ a ∈ AT.all c, ¬ Own own a) :
    Rel K cl σ ε own (addT F H (AT.all c)) H ∧ Rp K cl (addT F H (AT.all c)) (T.toD t) v ∧ Ex F (addT F H (AT.all c)) := by
  have eF : Ex F (addT F H (AT.all c)) := addT_ex fun a m => (RT.lst _ _ _ h a m).1
  refine ⟨q.grow eF (Ex.refl H) (fun a o e => ?_) (fun a m => ?_), RT.frz eF t v c (fun a m => addT_in m) h, eF⟩
  · by_cases m : a ∈ AT.all c
    · rw [addT_in m] at e; exact e
    · rw [addT_out m] at e; exact q.sub a o e
  · have : a ∉ AT.all c := fun z => no a z m
    rw [addT_out this]
    exact (q.own_lst m).1
/-- freezing what an expression gave -/
theorem frz_ok (q : Rel K cl σ ε own F H) {d : D} (h : RepR K cl σ ε own H0 F H v r) (e : frz r ε = some (d, ε')) :
    ∃ own' F', Rel K cl σ ε' own' F' H ∧ Ex F F' ∧ Rp K cl F' d v ∧ (∀ a o, F' a = some o → F a = some o ∨ H0 a = none ∨ Own own a) ∧ (∀ a, Own own' a → Own own a) ∧ Up ε ε' ∧ Cal ε own ε' own' := by
  cases r with
  | sh d' =>
    have e1 : some (d', ε) = some (d, ε') := e
    cases e1
    exact ⟨own, F, q, Ex.refl F, h, fun _ _ h => .inl h, fun _ h => h, Up.refl ε, Cal.refl ε own⟩
  | fr ts =>
    have e1 : some (D.lst (T.toDs ts), ε) = some (d, ε') := e
    cases e1
    obtain ⟨c, h1, _, h3⟩ := h
    obtain ⟨q', hr, eF⟩ := q.freeze h1 fun a m => (h3 a m).2
    refine ⟨own, _, q', eF, hr, fun a o z => ?_, fun _ h => h, Up.refl ε, Cal.refl ε own⟩
    by_cases m : a ∈ AT.all c
    · exact .inr (.inl (h3 a m).1)
    · rw [addT_out m] at z; exact .inl z
  | pt i π =>
    simp only [frz] at e
    rcases h with ⟨ts, us, p, cs, h1, h2, h3, rfl⟩ | ⟨d1, d2, h1, h2, h3⟩
    · rw [h1] at e
      simp only at e
      obtain ⟨v0, f1, f2⟩ := q.ow i ts h1
      have eF : Ex F (addT F H (AT.all (own i))) := addT_ex fun a m => (RT.lst _ _ _ f2 a m).1
      have subF : Ex (addT F H (AT.all (own i))) H := fun a o z => by
        by_cases m : a ∈ AT.all (own i)
        · rw [addT_in m] at z; exact z
        · rw [addT_out m] at z; exact q.sub a o z
      have root : Rp K cl (addT F H (AT.all (own i))) (.lst (T.toDs ts)) v0 := RT.frz eF (.l ts) v0 (own i) (fun a m => addT_in m) f2
      have path : ∀ (ρ : List Nat) {ws : List T} {p' : Addr} {cs' : List AT}, T.get ts ρ = some ws → AT.get (own i) ρ = some (.node p' cs') → dAt (.lst (T.toDs ts)) ρ = some (.lst (T.toDs ws)) ∧ Rp K cl (addT F H (AT.all (own i))) (.lst (T.toDs ws)) (.ref p') := fun ρ ws p' cs' g1 g2 =>
        path_frz subF (fun a _ o z => z) ρ (fun a _ o z => z) f2 g1 g2 root
      obtain ⟨p1, p2⟩ := path π h2 h3
      rw [p1] at e
      cases e
      have lt := gt_lt h1
      have lt' : i < (unal i (.lst (T.toDs ts)) ε).length := by rw [unal_length]; exact lt
      refine ⟨fun k => if k = i then .leaf else own k, addT F H (AT.all (own i)), ⟨subF, by rw [st_length, unal_length]; exact q.len, fun k d0 hk => ?_, fun k us' hk => ?_, fun k hk => ?_, fun k => ?_, fun k l hkl a ma => ?_, fun k l ρ hk => ?_⟩, eF, p2, fun a o z => ?_, fun a m => ?_, ⟨fun k d0 hk => ?_, fun k us' hk => ?_⟩, ⟨fun k us' hk => ?_⟩⟩
      · by_cases c : k = i
        · subst c
          rw [gt_st_same _ _ _ lt'] at hk
          cases hk
          exact ⟨v0, f1, root⟩
        · rw [gt_st_ne _ _ _ _ c, gt_unal] at hk
          cases w : gt ε k with
          | none => rw [w] at hk; cases hk
          | some w' =>
            rw [w] at hk
            cases w' with
            | sh d' =>
              cases hk
              obtain ⟨v1, g1, g2⟩ := q.sh k _ w
              exact ⟨v1, g1, Rp.ex eF _ _ g2⟩
            | ow _ => cases hk
            | al j ρ =>
              simp only at hk
              split at hk
              · rename_i hj
                subst hj
                obtain ⟨p', cs', ts', us', g1, g2, g3, g4⟩ := q.al k j ρ w
                rw [h1] at g2
                cases g2
                obtain ⟨i1, i2⟩ := path ρ g3 g4
                rw [i1] at hk
                cases hk
                exact ⟨_, g1, i2⟩
              · cases hk
      · have c : k ≠ i := fun z => by subst z; rw [gt_st_same _ _ _ lt'] at hk; cases hk
        rw [gt_st_ne _ _ _ _ c, gt_unal] at hk
        cases w : gt ε k with
        | none => rw [w] at hk; cases hk
        | some w' =>
          rw [w] at hk
          cases w' with
          | sh d' => cases hk
          | ow _ =>
            cases hk
            obtain ⟨v1, g1, g2⟩ := q.ow k _ w
            refine ⟨v1, g1, ?_⟩
            rw [if_neg c]
            refine RT.mono eF _ _ _ (fun a m => ?_) (fun a _ o z => z) g2
            rw [addT_out (q.dj k i c a m)]
            exact (RT.lst _ _ _ g2 a m).1
          | al j ρ =>
            simp only at hk
            split at hk
            · cases z : dAt (.lst (T.toDs ts)) ρ with
              | none => rw [z] at hk; cases hk
              | some _ => rw [z] at hk; cases hk
            · cases hk
      · by_cases c : k = i
        · simp [c]
        · simp only [if_neg c]
          refine q.no k fun ts' z => hk ts' ?_
          rw [gt_st_ne _ _ _ _ c, gt_unal, z]
      · by_cases c : k = i
        · simp [c, AT.all]
        · simp only [if_neg c]; exact q.nd k
      · by_cases c : k = i
        · simp [c, AT.all] at ma
        · simp only [if_neg c] at ma
          by_cases c2 : l = i
          · simp [c2, AT.all]
          · simp only [if_neg c2]; exact q.dj k l hkl a ma
      · have c : k ≠ i := fun z => by subst z; rw [gt_st_same _ _ _ lt'] at hk; cases hk
        rw [gt_st_ne _ _ _ _ c, gt_unal] at hk
        cases w : gt ε k with
        | none => rw [w] at hk; cases hk
        | some w' =>
          rw [w] at hk
          cases w' with
          | sh d' => cases hk
          | ow _ => cases hk
          | al j ρ' =>
            simp only at hk
            split at hk
            · cases z : dAt (.lst (T.toDs ts)) ρ' with
              | none => rw [z] at hk; cases hk
              | some _ => rw [z] at hk; cases hk
            · rename_i hj
              cases hk
              obtain ⟨p', cs', ts', us', g1, g2, g3, g4⟩ := q.al k l ρ w
              refine ⟨p', cs', ts', us', g1, ?_, g3, ?_⟩
              · rw [gt_st_ne _ _ _ _ hj, gt_unal, g2]
              · simp only [if_neg hj]; exact g4
      · by_cases m : a ∈ AT.all (own i)
        · exact .inr (.inr ⟨i, m⟩)
        · rw [addT_out m] at z; exact .inl z
      · obtain ⟨k, m⟩ := m
        by_cases c : k = i
        · simp [c, AT.all] at m
        · simp only [if_neg c] at m; exact ⟨k, m⟩
      · have c : k ≠ i := fun z => by subst z; rw [h1] at hk; cases hk
        rw [gt_st_ne _ _ _ _ c, gt_unal, hk]
      · by_cases c : k = i
        · subst c
          exact .inr ⟨_, gt_st_same _ _ _ lt'⟩
        · exact .inl ⟨us', by rw [gt_st_ne _ _ _ _ c, gt_unal, hk]⟩
      · by_cases c : k = i
        · subst c
          rw [h1] at hk
          cases hk
          exact .inr (gt_st_same _ _ _ lt')
        · refine .inl ⟨by rw [gt_st_ne _ _ _ _ c, gt_unal, hk], ?_⟩
          simp only [if_neg c]
    · rw [h1] at e
      simp only [h2] at e
      cases e
      exact ⟨own, F, q, Ex.refl F, h3, fun _ _ h => .inl h, fun _ h => h, Up.refl _, Cal.refl _ _⟩
/-- .. as an item of a list of one's own -/
theorem asT_ok (q : Rel K cl σ ε own F H) {t : T} (h : RepR K cl σ ε own H0 F H v r) (e : asT r ε = some (t, ε')) :
    ∃ own' F' c, Rel K cl σ ε' own' F' H ∧ Ex F F' ∧ RT K cl F' H t v c ∧ (AT.all c).Nodup ∧ (∀ a ∈ AT.all c, H0 a = none ∧ ¬ Own own' a) ∧ (∀ a o, F' a = some o → F a = some o ∨ H0 a = none ∨ Own own a) ∧ (∀ a, Own own' a → Own own a) ∧ Up ε ε' ∧ Cal ε own ε' own' := by
  cases r with
  | fr ts =>
    have e1 : some (T.l ts, ε) = some (t, ε') := e
    cases e1
    obtain ⟨c, h1, h2, h3⟩ := h
    exact ⟨own, F, c, q, Ex.refl F, h1, h2, h3, fun _ _ h => .inl h, fun _ h => h, Up.refl _, Cal.refl _ _⟩
  | sh d' =>
    simp only [asT] at e
    cases z : frz (.sh d') ε with
    | none => rw [z] at e; cases e
    | some y =>
      obtain ⟨d, ε1⟩ := y
      rw [z] at e
      cases e
      obtain ⟨own', F', a1, a2, a3, a4, a5, a6, a7⟩ := frz_ok q h z
      exact ⟨own', F', .leaf, a1, a2, ⟨rfl, a3⟩, List.nodup_nil, fun a m => (by cases m), a4, a5, a6, a7⟩
  | pt j π =>
    simp only [asT] at e
    cases z : frz (.pt j π) ε with
    | none => rw [z] at e; cases e
    | some y =>
      obtain ⟨d, ε1⟩ := y
      rw [z] at e
      cases e
      obtain ⟨own', F', a1, a2, a3, a4, a5, a6, a7⟩ := frz_ok q h z
      exact ⟨own', F', .leaf, a1, a2, ⟨rfl, a3⟩, List.nodup_nil, fun a m => (by cases m), a4, a5, a6, a7⟩
/-- what was given stays what it is -/
theorem RepR.step (q : Rel K cl σ ε own F H) (q' : Rel K cl σ ε' own' F' H') (s : Stp (Own own) (Own own') F H F' H') (u : Up ε ε') (cal : (∃ j k π, r = .pt j (k :: π)) → Cal ε own ε' own' ∧ Ex H H')
    (h : RepR K cl σ ε own H0 F H v r) : RepR K cl σ ε' own' H0 F' H' v r := by
  cases r with
  | sh d => exact Rp.ex s.ex d v h
  | fr ts =>
    obtain ⟨c, h1, h2, h3⟩ := h
    have old : ∀ a ∈ AT.all c, F a = none ∧ ∃ xs, H a = some (.lst xs) := RT.lst _ _ _ h1
    refine ⟨c, RT.mono s.ex _ _ _ (fun a m => ?_) (fun a m o e => s.keep a o e (h3 a m).2) h1, h2, fun a m => ⟨(h3 a m).1, fun z => ?_⟩⟩
    · obtain ⟨e1, xs, e2⟩ := old a m
      cases e : F' a with
      | none => rfl
      | some o =>
        rcases s.news a o e with z | z | z
        · rw [e1] at z; cases z
        · rw [e2] at z; cases z
        · exact absurd z (h3 a m).2
    · obtain ⟨_, xs, e2⟩ := old a m
      rcases s.own a z with w | w
      · exact (h3 a m).2 w
      · rw [e2] at w; cases w
  | pt j π =>
    cases π with
    | nil =>
      rcases h with ⟨ts, us, p, cs, h1, h2, h3, rfl⟩ | ⟨d, d', h1, h2, h3⟩
      · obtain ⟨v0, g1, g2⟩ := q.ow j ts h1
        obtain ⟨p0, cs0, xs0, g3, g4, _⟩ := g2
        rw [at_nil, g3] at h3
        cases h3
        subst g4
        rcases u.ow j ts h1 with ⟨ts', k1⟩ | ⟨d, k1⟩
        · obtain ⟨v1, k2, k3⟩ := q'.ow j ts' k1
          rw [g1] at k2
          cases k2
          obtain ⟨p1, cs1, xs1, k4, k5, _⟩ := k3
          cases k5
          exact .inl ⟨ts', ts', p, cs1, k1, rfl, by rw [at_nil, k4], rfl⟩
        · obtain ⟨v1, k2, k3⟩ := q'.sh j d k1
          rw [g1] at k2
          cases k2
          refine .inr ⟨d, d, k1, ?_, k3⟩
          cases d <;> rfl
      · exact .inr ⟨d, d', u.sh j d h1, h2, Rp.ex s.ex _ _ h3⟩
    | cons k π =>
      obtain ⟨cal, eH⟩ := cal ⟨j, k, π, rfl⟩
      rcases h with ⟨ts, us, p, cs, h1, h2, h3, rfl⟩ | ⟨d, d', h1, h2, h3⟩
      · rcases cal.ow j ts h1 with ⟨k1, k2⟩ | k1
        · exact .inl ⟨ts, us, p, cs, k1, h2, by rw [k2]; exact h3, rfl⟩
        · obtain ⟨v0, g1, g2⟩ := q.ow j ts h1
          obtain ⟨v1, k2, k3⟩ := q'.sh j _ k1
          rw [g1] at k2
          cases k2
          obtain ⟨i1, i2⟩ := path_frz q'.sub (fun a _ o e => eH a o e) (k :: π) (fun a _ o e => eH a o e) g2 h2 h3 k3
          exact .inr ⟨_, _, k1, i1, i2⟩
      · exact .inr ⟨d, d', u.sh j d h1, h2, Rp.ex s.ex _ _ h3⟩
end
end PyD
set_option Elab.async false
set_option linter.all false
set_option maxRecDepth 100000
set_option maxHeartbeats 2000000
/-! PyP: operators and built-ins keep to what is said of plain data. -/
namespace PyD
open PySem L2 Evl PyProof.Rows

/-! ### what the hand layer lacks: sum, min, max of a tuple; the whole of a tuple as a slice; is True -/
section
variable {prog : Program} {w : World} {A : Around} {E : Value → Shared → Prop} {s : Shared} {l : Addr} {xs : Array (Int × Tok)}
def tIterO (l : Addr) : Obj := { cls := .type "tuple_iterator", data := .fields #[.ref l, .int 0 0] }
theorem iter_tupI {Q : Value → Shared → Prop} (hl : s.heap.IsTuple l (intItems xs))
    (h : ∀ s₂ : Shared, s₂ = { s with heap := s.heap.push (tIterO l) } → (s₂.heap.IsTupleIter s.heap.objs.size l 0 ∧ s₂.heap.IsTuple l (intItems xs)) → (∀ b ∈ [s.heap.objs.size, l], b < s₂.heap.objs.size) → l ≠ s.heap.objs.size → Q (.ref s.heap.objs.size) s₂) :
    wpAny (model prog w) A (pyIter (.ref l)) Q E s := by
  have hlt : l < s.heap.objs.size := by
    obtain ⟨_, e, _⟩ := hl
    exact Heap.lt_size e
  have keep : ∀ b o, s.heap.get? b = some o → (s.heap.push (tIterO l)).get? b = some o := fun b o e => Heap.get?_push_of_some _ e
  refine wpAny_pyIter_tuple hl ?_
  refine h { s with heap := s.heap.push (tIterO l) } rfl ⟨⟨_, Heap.get?_push_size _ rfl, rfl, rfl⟩, hl.at fun o e => keep _ o e⟩ (fun b hb => ?_) (Nat.ne_of_lt hlt)
  show b < (s.heap.push (tIterO l)).objs.size
  rw [Heap.size_push]
  simp only [List.mem_cons, List.not_mem_nil, or_false] at hb
  rcases hb with e | e
  · rw [e]; exact Nat.lt_succ_self _
  · rw [e]; exact Nat.lt_succ_of_lt hlt
theorem kept_tup {h' : Heap} (hk : ∀ b o, b ∉ [s.heap.objs.size] → (s.heap.push (tIterO l)).get? b = some o → h'.get? b = some o) : ∀ b o, s.heap.get? b = some o → h'.get? b = some o := fun b o e => by
  refine hk b o (fun m => ?_) (Heap.get?_push_of_some _ e)
  simp only [List.mem_cons, List.not_mem_nil, or_false] at m
  exact Nat.lt_irrefl _ (m ▸ Heap.lt_size e)
theorem sum_tupI {Q : Value → Shared → Prop} (hh : A.handled = none) (hl : s.heap.IsTuple l (intItems xs))
    (h : ∀ h' tk t', (∀ b o, s.heap.get? b = some o → h'.get? b = some o) → Q (.int (preSum (numAt xs) xs.size) t') { s with heap := h', toks := tk }) : wpAny (model prog w) A (call (.builtin "sum") [.ref l]) Q E s := by
  refine call_sum_walkG (iter_tupI hl fun s₂ e st hfp hlI => ?_)
  subst e
  refine ⟨_, _, _, _, _, _, numAt xs, rfl, Walks.tuple (A := A.in1) hh _ l hlI (intItems xs), st, hfp, (fun _ _ q => intItems_at q), fun h' tk t' hk => ?_⟩
  have q := h h' tk t' (kept_tup hk)
  have e : (intItems xs).size = xs.size := by simp [intItems]
  rw [e]
  exact q
theorem max_tupI {Q : Value → Shared → Prop} (hh : A.handled = none) (hl : s.heap.IsTuple l (intItems xs)) (hne : 0 < xs.size)
    (h : ∀ v h' tk, (intItems xs)[argBest (fun i j => decide (numAt xs i > numAt xs j)) (xs.size - 1)]? = some v → (∀ b o, s.heap.get? b = some o → h'.get? b = some o) → Q v { s with heap := h', toks := tk }) :
    wpAny (model prog w) A (call (.builtin "max") [.ref l]) Q E s := by
  have e : (intItems xs).size = xs.size := by simp [intItems]
  refine call_max_walk (iter_tupI hl fun s₂ e2 st hfp hlI => ?_)
  subst e2
  exact ⟨_, _, _, _, _, _, _, rfl, Walks.tuple (A := A.in1) hh _ l hlI (intItems xs), st, hfp, by rw [e]; exact hne, CmpOf.ints_gt (numAt xs) (fun _ _ q => intItems_at q), fun v h' tk hP hk => h v h' tk (by rw [e] at hP; exact hP) (kept_tup hk)⟩
theorem min_tupI {Q : Value → Shared → Prop} (hh : A.handled = none) (hl : s.heap.IsTuple l (intItems xs)) (hne : 0 < xs.size)
    (h : ∀ v h' tk, (intItems xs)[argBest (fun i j => decide (numAt xs i < numAt xs j)) (xs.size - 1)]? = some v → (∀ b o, s.heap.get? b = some o → h'.get? b = some o) → Q v { s with heap := h', toks := tk }) :
    wpAny (model prog w) A (call (.builtin "min") [.ref l]) Q E s := by
  have e : (intItems xs).size = xs.size := by simp [intItems]
  refine call_min_walk (iter_tupI hl fun s₂ e2 st hfp hlI => ?_)
  subst e2
  exact ⟨_, _, _, _, _, _, _, rfl, Walks.tuple (A := A.in1) hh _ l hlI (intItems xs), st, hfp, by rw [e]; exact hne, CmpOf.ints_lt (numAt xs) (fun _ _ q => intItems_at q), fun v h' tk hP hk => h v h' tk (by rw [e] at hP; exact hP) (kept_tup hk)⟩
theorem beq_bl {x : V} {v : Value} {b : Bool} (r : RelV x v) : (v == Value.bool b) = decide (x = .bl b) := by
  cases x with
  | non => cases r; rfl
  | bl c =>
    cases r
    cases c <;> cases b <;> rfl
  | int _ => obtain ⟨t, e⟩ := r; rw [e]; rfl
  | str _ => obtain ⟨t, e⟩ := r; rw [e]; rfl
  | byt _ => obtain ⟨t, e⟩ := r; rw [e]; rfl
  | flt _ => obtain ⟨t, e⟩ := r; rw [e]; rfl
  | ref _ => cases r; rfl
  | ty _ => cases r; rfl
theorem is_bool_gen {M : Model} {x : V} {v : Value} {b : Bool} {Q : Value → Shared → Prop} (r : RelV x v) (h : Q (.bool (decide (x = .bl b))) s) : wpAny M A (compareOp .Is v (.bool b)) Q E s := by
  rw [← beq_bl r] at h
  cases x with
  | non => cases r; exact wpAny_pure h
  | bl c => cases r; exact wpAny_pure h
  | int _ => obtain ⟨t, e⟩ := r; subst e; exact wpAny_pure h
  | str _ => obtain ⟨t, e⟩ := r; subst e; exact wpAny_pure h
  | byt _ => obtain ⟨t, e⟩ := r; subst e; exact wpAny_pure h
  | flt _ => obtain ⟨t, e⟩ := r; subst e; exact wpAny_pure h
  | ref _ => cases r; exact wpAny_pure h
  | ty _ => cases r; exact wpAny_pure h
theorem isnot_bool_gen {M : Model} {x : V} {v : Value} {b : Bool} {Q : Value → Shared → Prop} (r : RelV x v) (h : Q (.bool (!decide (x = .bl b))) s) : wpAny M A (compareOp .IsNot v (.bool b)) Q E s := by
  rw [← beq_bl r] at h
  cases x with
  | non => cases r; exact wpAny_pure h
  | bl c => cases r; exact wpAny_pure h
  | int _ => obtain ⟨t, e⟩ := r; subst e; exact wpAny_pure h
  | str _ => obtain ⟨t, e⟩ := r; subst e; exact wpAny_pure h
  | byt _ => obtain ⟨t, e⟩ := r; subst e; exact wpAny_pure h
  | flt _ => obtain ⟨t, e⟩ := r; subst e; exact wpAny_pure h
  | ref _ => cases r; exact wpAny_pure h
  | ty _ => cases r; exact wpAny_pure h
end
section
variable {X : Cx}
theorem nums_of {its : List Value} {ns : List Int} (hi : IntsAre its ns) : ∃ xs : Array (Int × Tok), its.toArray = intItems xs ∧ ns = xs.toList.map (·.1) := by
  obtain ⟨xs, e⟩ := hi.allInts.items
  refine ⟨xs, e, ?_⟩
  have hn : numsOf (intItems xs).toList = ns := by rw [← e]; exact hi.numsOf
  rw [nums_intItems] at hn
  exact hn.symm
theorem istuple_of {h : Heap} {a : Addr} {its : Array Value} (p : IsTup h a its) : h.IsTuple a its := p
theorem cr_sumT (hc : X.calm = true) : CallR X (.builtin "sum") (fun vs H Q => ∃ (a : Addr) (ns : List Int), vs = [V.ref a] ∧ SqT X.K H a (ns.map V.int) ∧ Q (.int ns.sum) H) := by
  intro pins s σ H vs us Q I r h
  obtain ⟨a, ns, rfl, hs, q⟩ := h
  obtain ⟨its, rv, hl, _⟩ := I.tuple hs
  rw [Vals.ref1 r]
  obtain ⟨xs, e, en⟩ := nums_of rv.ints
  rw [e] at hl
  refine sum_tupI (I.ok.hd hc) (istuple_of hl) fun h' tk t' hk => ?_
  have e2 : preSum (numAt xs) xs.size = ns.sum := by
    rw [PySem.preSum_eq, List.take_of_length_le (by simp), ← en]
  rw [e2]
  exact ⟨.int _, H, I.kept hk, ⟨_, rfl⟩, q⟩

theorem leastI_is : ∀ (r : List Int) (m : Int), (r.foldl (fun m x => if x < m then x else m) m ∈ m :: r) ∧ ∀ y ∈ m :: r, r.foldl (fun m x => if x < m then x else m) m ≤ y
  | [], m => by simp
  | x :: r, m => by
    obtain ⟨h1, h2⟩ := leastI_is r (if x < m then x else m)
    simp only [List.foldl_cons]
    refine ⟨?_, fun y hy => ?_⟩
    · rcases List.mem_cons.mp h1 with e | e
      · rw [e]
        by_cases c : x < m
        · rw [if_pos c]; simp
        · rw [if_neg c]; simp
      · exact List.mem_cons_of_mem _ (List.mem_cons_of_mem _ e)
    · have h3 := h2 _ List.mem_cons_self
      have h4 : (if x < m then x else m) ≤ m ∧ (if x < m then x else m) ≤ x := by split <;> omega
      generalize (if x < m then x else m) = k at h2 h3 h4 ⊢
      rcases List.mem_cons.mp hy with e | e
      · rw [e]; omega
      · rcases List.mem_cons.mp e with e | e
        · rw [e]; omega
        · exact h2 y (List.mem_cons_of_mem _ e)
theorem mostI_is : ∀ (r : List Int) (m : Int), (r.foldl (fun m x => if m < x then x else m) m ∈ m :: r) ∧ ∀ y ∈ m :: r, y ≤ r.foldl (fun m x => if m < x then x else m) m
  | [], m => by simp
  | x :: r, m => by
    obtain ⟨h1, h2⟩ := mostI_is r (if m < x then x else m)
    simp only [List.foldl_cons]
    refine ⟨?_, fun y hy => ?_⟩
    · rcases List.mem_cons.mp h1 with e | e
      · rw [e]
        by_cases c : m < x
        · rw [if_pos c]; simp
        · rw [if_neg c]; simp
      · exact List.mem_cons_of_mem _ (List.mem_cons_of_mem _ e)
    · have h3 := h2 _ List.mem_cons_self
      have h4 : m ≤ (if m < x then x else m) ∧ x ≤ (if m < x then x else m) := by split <;> omega
      generalize (if m < x then x else m) = k at h2 h3 h4 ⊢
      rcases List.mem_cons.mp hy with e | e
      · rw [e]; omega
      · rcases List.mem_cons.mp e with e | e
        · rw [e]; omega
        · exact h2 y (List.mem_cons_of_mem _ e)
theorem least_one {ns : List Int} {i m : Int} (h : leastI ns = some i) (h1 : m ∈ ns) (h2 : ∀ y ∈ ns, m ≤ y) : m = i := by
  cases ns with
  | nil => cases h
  | cons a r =>
    have e : r.foldl (fun m x => if x < m then x else m) a = i := Option.some.inj h
    obtain ⟨q1, q2⟩ := leastI_is r a
    rw [e] at q1 q2
    have a1 := h2 i q1
    have a2 := q2 m h1
    omega
theorem most_one {ns : List Int} {i m : Int} (h : mostI ns = some i) (h1 : m ∈ ns) (h2 : ∀ y ∈ ns, y ≤ m) : m = i := by
  cases ns with
  | nil => cases h
  | cons a r =>
    have e : r.foldl (fun m x => if m < x then x else m) a = i := Option.some.inj h
    obtain ⟨q1, q2⟩ := mostI_is r a
    rw [e] at q1 q2
    have a1 := h2 i q1
    have a2 := q2 m h1
    omega
theorem cr_maxT (hc : X.calm = true) : CallR X (.builtin "max") (fun vs H Q => ∃ (a : Addr) (ns : List Int), vs = [V.ref a] ∧ SqT X.K H a (ns.map V.int) ∧ 0 < ns.length ∧ ∀ m, m ∈ ns → (∀ y, y ∈ ns → y ≤ m) → Q (.int m) H) := by
  intro pins s σ H vs us Q I r h
  obtain ⟨a, ns, rfl, hs, hne, q⟩ := h
  obtain ⟨its, rv, hl, _⟩ := I.tuple hs
  rw [Vals.ref1 r]
  obtain ⟨xs, e, en⟩ := nums_of rv.ints
  rw [e] at hl
  have hsz : 0 < xs.size := by rw [en] at hne; simpa using hne
  refine max_tupI (I.ok.hd hc) (istuple_of hl) hsz fun v h' tk hv hk => ?_
  obtain ⟨t, rfl⟩ := intItems_at hv
  obtain ⟨h1, h2⟩ := argBest_gt (numAt xs) (xs.size - 1)
  refine ⟨.int _, H, I.kept hk, ⟨_, rfl⟩, q _ ?_ fun y hy => ?_⟩
  · rw [en, numAt_eq]
    exact PySem.getD_mem (by rw [List.length_map, Array.length_toList]; omega)
  · rw [en] at hy
    obtain ⟨j, hj, rfl⟩ := mem_getD hy
    rw [List.length_map, Array.length_toList] at hj
    rw [← numAt_eq]
    exact h2 j (by omega)
theorem cr_minT (hc : X.calm = true) : CallR X (.builtin "min") (fun vs H Q => ∃ (a : Addr) (ns : List Int), vs = [V.ref a] ∧ SqT X.K H a (ns.map V.int) ∧ 0 < ns.length ∧ ∀ m, m ∈ ns → (∀ y, y ∈ ns → m ≤ y) → Q (.int m) H) := by
  intro pins s σ H vs us Q I r h
  obtain ⟨a, ns, rfl, hs, hne, q⟩ := h
  obtain ⟨its, rv, hl, _⟩ := I.tuple hs
  rw [Vals.ref1 r]
  obtain ⟨xs, e, en⟩ := nums_of rv.ints
  rw [e] at hl
  have hsz : 0 < xs.size := by rw [en] at hne; simpa using hne
  refine min_tupI (I.ok.hd hc) (istuple_of hl) hsz fun v h' tk hv hk => ?_
  obtain ⟨t, rfl⟩ := intItems_at hv
  obtain ⟨h1, h2⟩ := argBest_lt (numAt xs) (xs.size - 1)
  refine ⟨.int _, H, I.kept hk, ⟨_, rfl⟩, q _ ?_ fun y hy => ?_⟩
  · rw [en, numAt_eq]
    exact PySem.getD_mem (by rw [List.length_map, Array.length_toList]; omega)
  · rw [en] at hy
    obtain ⟨j, hj, rfl⟩ := mem_getD hy
    rw [List.length_map, Array.length_toList] at hj
    rw [← numAt_eq]
    exact h2 j (by omega)
end

/-! ### what a value-level rule must give -/
/-- what follows an operation that gives r; nothing but one new thing at most was laid -/
def Aft (K : PySem.W.Frag) (cl : Nat → Addr) (F H : Hp) (Q : VK) : R → Prop
  | .sh d => (∀ v, Rp K cl F d v → Q v H) ∧ ∀ v p o, H p = none → Rp K cl (upd F p o) d v → Q v (upd H p o)
  | .fr ts => ∀ p xs ds, ts = ds.map T.d → H p = none → Rps K cl F ds xs → Q (.ref p) (upd H p (.lst xs))
  | .pt _ _ => False
def rU1 (K : PySem.W.Frag) (cl : Nat → Addr) (g : D → Option R) : V → Hp → VK → Prop := fun x H Q => ∃ F d r, Ex F H ∧ Pk K cl F H d x ∧ g d = some r ∧ Aft K cl F H Q r
def rB2 (K : PySem.W.Frag) (cl : Nat → Addr) (g : D → D → Option R) : R2 := fun x y H Q => ∃ F dx dy r, Ex F H ∧ Pk K cl F H dx x ∧ Pk K cl F H dy y ∧ g dx dy = some r ∧ Aft K cl F H Q r
section
variable {K : PySem.W.Frag} {cl : Nat → Addr} {F H : Hp} {Q : VK} {x y v : V}
theorem Aft.here {d : D} (h : Aft K cl F H Q (.sh d)) (r : Rp K cl F d v) : Q v H := h.1 v r
theorem Pk.int {i : Int} (h : Pk K cl F H (.int i) x) : x = .int i := by
  rcases h with h | ⟨p, xs, ds, e, _⟩
  · exact h
  · cases e
theorem Pk.bl {i : Bool} (h : Pk K cl F H (.bl i) x) : x = .bl i := by
  rcases h with h | ⟨p, xs, ds, e, _⟩
  · exact h
  · cases e
theorem Pk.non (h : Pk K cl F H .non x) : x = .non := by
  rcases h with h | ⟨p, xs, ds, e, _⟩
  · exact h
  · cases e
theorem Pk.str {z : Str} (h : Pk K cl F H (.str z) x) : x = .str z := by
  rcases h with h | ⟨p, xs, ds, e, _⟩
  · exact h
  · cases e
theorem Pk.tup (e : Ex F H) {ds : List D} (h : Pk K cl F H (.tup ds) x) : ∃ a xs, x = .ref a ∧ H a = some (.tup xs) ∧ F a = some (.tup xs) ∧ Rps K cl F ds xs := by
  rcases h with ⟨a, xs, h1, h2, h3⟩ | ⟨p, xs, ds, e, _⟩
  · exact ⟨a, xs, h1, e _ _ h2, h2, h3⟩
  · cases e
theorem Pk.lst (e : Ex F H) {ds : List D} (h : Pk K cl F H (.lst ds) x) : ∃ a xs, x = .ref a ∧ H a = some (.lst xs) ∧ Rps K cl F ds xs := by
  rcases h with ⟨a, xs, h1, h2, h3⟩ | ⟨p, xs, ds', e, h1, h2, h3⟩
  · exact ⟨a, xs, h1, e _ _ h2, h3⟩
  · cases e; exact ⟨p, xs, h1, h2, h3⟩
theorem Pk.frl (e : Ex F H) {ds : List D} (h : Pk K cl F H (.frl ds) x) : ∃ a xs, x = .ref a ∧ SqL K H a xs ∧ Rps K cl F ds xs := by
  rcases h with ⟨a, xs, h1, h2, h3⟩ | ⟨p, xs, ds', e, h1, h2, h3⟩
  · exact ⟨a, xs, h1, ex_l e h2, h3⟩
  · cases e
theorem Pk.ktp (e : Ex F H) {ds : List D} (h : Pk K cl F H (.ktp ds) x) : ∃ a xs, x = .ref a ∧ SqT K H a xs ∧ Rps K cl F ds xs := by
  rcases h with ⟨a, xs, h1, h2, h3⟩ | ⟨p, xs, ds', e, h1, h2, h3⟩
  · exact ⟨a, xs, h1, ex_t e h2, h3⟩
  · cases e
theorem Pk.items (e : Ex F H) {d : D} {ds : List D} (h : Pk K cl F H d x) (i : items d = some ds) : ∃ a xs, x = .ref a ∧ (SqL K H a xs ∨ SqT K H a xs) ∧ Rps K cl F ds xs := by
  cases d with
  | tup ds' =>
    cases i
    obtain ⟨a, xs, h1, h2, _, h3⟩ := h.tup e
    exact ⟨a, xs, h1, .inr (SqT.of h2), h3⟩
  | lst ds' =>
    cases i
    obtain ⟨a, xs, h1, h2, h3⟩ := h.lst e
    exact ⟨a, xs, h1, .inl (SqL.of h2), h3⟩
  | frl ds' =>
    cases i
    obtain ⟨a, xs, h1, h2, h3⟩ := h.frl e
    exact ⟨a, xs, h1, .inl h2, h3⟩
  | ktp ds' =>
    cases i
    obtain ⟨a, xs, h1, h2, h3⟩ := h.ktp e
    exact ⟨a, xs, h1, .inr h2, h3⟩
  | _ => cases i
theorem flat_rps : ∀ {ds : List D} {xs : List V}, Rps K cl F ds xs → ds.all flatD = true → xs.all flatV = true
  | [], _, h, _ => by cases h; rfl
  | d :: ds, _, h, f => by
    obtain ⟨z, r, rfl, h1, h2⟩ := h
    simp only [List.all_cons, Bool.and_eq_true] at f ⊢
    exact ⟨(flat_rp h1 f.1).2, flat_rps h2 f.2⟩
theorem same_eqV {d e : D} (h1 : Rp K cl F d x) (h2 : Rp K cl F e y) (f1 : flatD d = true) (f2 : flatD e = true) : eqV x y = sameD d e := by
  cases d with
  | non =>
    cases (show x = .non from h1)
    cases e with
    | non => cases (show y = .non from h2); rfl
    | bl b => cases (show y = .bl b from h2); rfl
    | int b => cases (show y = .int b from h2); rfl
    | str b => cases (show y = .str b from h2); rfl
    | _ => cases f2
  | bl a =>
    cases (show x = .bl a from h1)
    cases e with
    | non => cases (show y = .non from h2); rfl
    | bl b => cases (show y = .bl b from h2); rfl
    | int b =>
      cases (show y = .int b from h2)
      show ((if a then (1 : Int) else 0) == b) = decide ((if a then (1 : Int) else 0) = b)
      exact Bool.beq_eq_decide_eq _ _
    | str b => cases (show y = .str b from h2); rfl
    | _ => cases f2
  | int a =>
    cases (show x = .int a from h1)
    cases e with
    | non => cases (show y = .non from h2); rfl
    | bl b =>
      cases (show y = .bl b from h2)
      show (a == (if b then (1 : Int) else 0)) = decide ((if b then (1 : Int) else 0) = a)
      rw [Bool.beq_eq_decide_eq]
      exact decide_eq_decide.mpr eq_comm
    | int b =>
      cases (show y = .int b from h2)
      exact Bool.beq_eq_decide_eq _ _
    | str b => cases (show y = .str b from h2); rfl
    | _ => cases f2
  | str a =>
    cases (show x = .str a from h1)
    cases e with
    | non => cases (show y = .non from h2); rfl
    | bl b => cases (show y = .bl b from h2); rfl
    | int b => cases (show y = .int b from h2); rfl
    | str b =>
      cases (show y = .str b from h2)
      exact Bool.beq_eq_decide_eq _ _
    | _ => cases f2
  | _ => cases f1
theorem inV_ok {d : D} (h1 : Rp K cl F d x) (f1 : flatD d = true) : ∀ {ds : List D} {xs : List V}, Rps K cl F ds xs → ds.all flatD = true → inV x xs = ds.any fun e => sameD e d
  | [], _, h, _ => by cases h; rfl
  | e :: ds, _, h, f => by
    obtain ⟨z, r, rfl, h3, h4⟩ := h
    simp only [List.all_cons, Bool.and_eq_true] at f
    have ih := inV_ok h1 f1 h4 f.2
    unfold inV at ih ⊢
    rw [List.any_cons, List.any_cons, ih, same_eqV h3 h1 f.1 f1]
theorem cut_rps {ds : List D} {xs : List V} (h : Rps K cl F ds xs) (lo hi : Option Int) : Rps K cl F (cutD ds lo hi) (cutV xs lo hi) := by
  unfold cutD cutV
  rw [h.length]
  exact (h.drop _).take _
end
end PyD
set_option Elab.async false
set_option linter.all false
set_option maxRecDepth 100000
set_option maxHeartbeats 2000000
/-! PyQ: each operator and built-in as a rule over plain data. -/
namespace PyD
open PySem L2 Evl PyProof.Rows
namespace Whole
open PySem.SeqAt PySem.AutoSeq1 PySem.MeetsSeq PySem.MeetsSeq2 PySem.MeetsSeq3 HT
section
variable {prog : Program} {w : World} {A : Around} {E : Value → Shared → Prop} {s : Shared}
theorem getItem_tuple_all {t sl : Addr} {items : Array Value} {vl vu : Value} {lo hi : Option Int} {Q : Value → Shared → Prop} (ht : IsTup s.heap t items) (hs : s.heap.IsSliceOf sl vl vu .none) (pl : IsPart vl lo) (pu : IsPart vu hi)
    (h0 : sIx items.size 0 lo = 0) (h1 : sIx items.size items.size hi = items.size) (h : Q (.ref t) s) : wpAny (model prog w) A (getItem (.ref t) (.ref sl)) Q E s := by
  obtain ⟨os, hos, hcs, hds⟩ := id hs
  have ty : s.TypeIs (.ref sl) "slice" := ⟨os, hos, hcs⟩
  unfold getItem
  try with_reducible refine wpAny_holding ?_
  first | refine wpAny_bind (wpAny_pure ?_) | skip
  refine wpAny_bind (wpAny_sequenceKey ht.typeIs (by decide) ?_)
  refine wpAny_bind (wpAny_callSpecial?_slot (name := Str.ofString "__getitem__") ht.typeIs slot_tuple_getitem (wpAny_call_entry slot_tuple_getitem ht.typeIs entry_tuple_getitem ?_ (args_tuple_getitem _ _)))
  show wpAny _ _ (Builtin.Tuple.tupleItemsOf (.ref t) >>= _) _ _ s
  refine wpAny_bind (tupleItemsOf_ ht (wpAny_bind (wpAny_typeOf ty ?_)))
  rw [if_pos (by decide)]
  refine wpAny_bind (sliceApplied_gen hs pl pu ?_)
  have yes : (((sIx items.size 0 lo : Nat) : Int) == 0 && (1 : Int) == 1 && (sIx items.size items.size hi - sIx items.size 0 lo) == items.size) = true := by
    rw [h0, h1]
    simp
  show wpAny _ _ (if (((sIx items.size 0 lo : Nat) : Int) == 0 && (1 : Int) == 1 && (sIx items.size items.size hi - sIx items.size 0 lo) == items.size) = true then _ else _) _ _ s
  rw [if_pos yes]
  unfold Builtin.Tuple.tupleIsExact
  refine wpAny_bind (wpAny_bind (wpAny_typeOf ht.typeIs (wpAny_pure ?_)))
  rw [if_pos (by decide)]
  first
    | exact wpAny_bind (wpAny_rule (wpAny_pure ⟨_, rfl, wpAny_pure h⟩))
    | exact wpAny_bind (wpAny_pure (wpAny_pure ⟨_, rfl, wpAny_pure h⟩))
    | exact wpAny_bind (by unfold rule; exact wpAny_pure (wpAny_pure ⟨_, rfl, wpAny_pure h⟩))
end
end Whole
section
variable {X : Cx} {cl : Nat → Addr}
theorem sl_tupAll : SlR X (fun x lo hi H Q => ∃ a xs, x = .ref a ∧ SqT X.K H a xs ∧ HT.sIx xs.length 0 lo = 0 ∧ HT.sIx xs.length xs.length hi = xs.length ∧ Q (.ref a) H) := by
  intro pins s σ H x v vl vu lo hi sl Q I rx hs pl pu h
  obtain ⟨a, xs, rfl, hx, h0, h1, q⟩ := h
  cases rx
  obtain ⟨its, r, ht, hz⟩ := I.tuple hx
  have hlen : its.toArray.size = xs.length := by rw [List.size_toArray]; exact r.length.symm
  refine ⟨"tuple", _, slot_tuple_getitem.lookup, ht.typeIs, ?_⟩
  exact Whole.getItem_tuple_all ht hs pl pu (by rw [hlen]; exact h0) (by rw [hlen]; exact h1) ⟨.ref a, H, I, rfl, q⟩

/-! ### two operands -/
def bopO : Bop → Operator
  | .add => .Add | .sub => .Sub | .mul => .Mult | .fdiv => .FloorDiv | .mod => .Mod | .pow => .Pow | .shl => .LShift
theorem log_bits (i : Int) : Builtin.Int.intBits i ≤ bt i + 1 := by
  unfold Builtin.Int.intBits bt
  split <;> omega
theorem mulOk.ok {i j : Int} (h : mulOk i j) : IntMulOk i j := by
  have h1 := log_bits i
  have h2 := log_bits j
  have h3 : bt i + bt j ≤ 100000000 := h
  have e : bitsLine = 134217728 := by decide
  unfold IntMulOk
  intro z
  have z2 := (Bool.and_eq_true_iff.mp z).2
  unfold Builtin.Int.intTooBig at z2
  have z3 := of_decide_eq_true z2
  rw [e] at z3
  omega
theorem op_mulX : OpR X (binaryOp .Mult) (rI mulOk fun i j => .int (i * j)) := opI fun _ _ _ _ _ _ _ hc q => mul_int q hc.ok
theorem op_divX : OpR X (binaryOp .FloorDiv) (rI divOk fun i j => .int (i.fdiv j)) := opI fun _ _ _ _ _ _ _ hc q => floordiv_int hc.1 q (.inl (PyProof.noPylong_of_log2 hc.2))
theorem iop_mulX : OpR X (inplaceOp .Mult) (rI mulOk fun i j => .int (i * j)) := opI fun _ _ _ _ _ _ _ hc q => imul_int q hc.ok
theorem iop_divX : OpR X (inplaceOp .FloorDiv) (rI divOk fun i j => .int (i.fdiv j)) := opI fun _ _ _ _ _ _ _ hc q => ifloordiv_int hc.1 q (.inl (PyProof.noPylong_of_log2 hc.2))
theorem iop_modX : OpR X (inplaceOp .Mod) (rI (fun _ j => j ≠ 0) fun i j => .int (i.fmod j)) := opI fun _ _ _ _ _ _ _ hc q => imod_int hc q
theorem op_bin (o : Bop) : OpR X (binaryOp (bopO o)) (rB2 X.K cl (binD o)) := by
  intro pins s σ H x y v u Q I rx ry h
  obtain ⟨F, dx, dy, r, e, hx, hy, hg, q⟩ := h
  have two : ∀ {i j : Int}, dx = .int i → dy = .int j → x = .int i ∧ y = .int j := fun a b => by subst a; subst b; exact ⟨hx.int, hy.int⟩
  cases o with
  | add =>
    cases dx with
    | int i =>
      cases dy with
      | int j =>
        cases hg
        obtain ⟨ex, ey⟩ := two rfl rfl
        exact op_add pins s σ H x y v u Q I rx ry ⟨i, j, ex, ey, q.here rfl⟩
      | _ => cases hg
    | str i =>
      cases dy with
      | str j =>
        simp only [binD] at hg
        split at hg
        · rename_i c
          cases hg
          exact op_add_str pins s σ H x y v u Q I rx ry ⟨i, j, hx.str, hy.str, c, q.here rfl⟩
        · cases hg
      | _ => cases hg
    | tup ds =>
      cases dy with
      | tup es =>
        simp only [binD] at hg
        split at hg
        · rename_i c
          cases hg
          obtain ⟨a, xs, ex, hxa, fxa, rxs⟩ := hx.tup e
          obtain ⟨b, ys, ey, hyb, fyb, rys⟩ := hy.tup e
          refine op_catT pins s σ H x y v u Q I rx ry ⟨a, b, xs, ys, ex, ey, SqT.of hxa, SqT.of hyb, fun z => c.1 ?_, by rw [← rxs.length, ← rys.length]; exact c.2, fun z => ?_, fun z p hp => ?_⟩
          · subst z
            have := rxs.length
            exact List.eq_nil_of_length_eq_zero (by simpa using this)
          · subst z
            have en : es = [] := by
              have := rys.length
              exact List.eq_nil_of_length_eq_zero (by simpa using this)
            subst en
            refine q.1 _ ⟨a, xs, rfl, fxa, by simpa using rxs⟩
          · have fp : F p = none := by
              cases z : F p with
              | none => rfl
              | some o => rw [e _ _ z] at hp; cases hp
            exact q.2 _ p _ hp ⟨p, _, rfl, upd_same, Rps.ex (Ex.new fp) _ _ (rxs.append rys)⟩
        · cases hg
      | _ => cases hg
    | lst ds =>
      cases dy with
      | lst es =>
        simp only [binD] at hg
        split at hg
        · rename_i c
          cases hg
          obtain ⟨a, xs, ex, hxa, rxs⟩ := hx.lst e
          obtain ⟨b, ys, ey, hyb, rys⟩ := hy.lst e
          exact op_cat pins s σ H x y v u Q I rx ry ⟨a, b, xs, ys, ex, ey, hxa, hyb, by rw [← rxs.length, ← rys.length]; exact c, fun p hp => q p _ _ rfl hp (rxs.append rys)⟩
        · cases hg
      | _ => cases hg
    | _ => cases dy <;> cases hg
  | sub =>
    cases dx with
    | int i =>
      cases dy with
      | int j =>
        cases hg
        obtain ⟨ex, ey⟩ := two rfl rfl
        exact op_sub pins s σ H x y v u Q I rx ry ⟨i, j, ex, ey, q.here rfl⟩
      | _ => cases hg
    | _ => cases dy <;> cases hg
  | mul =>
    cases dx with
    | int i =>
      cases dy with
      | int j =>
        simp only [binD] at hg
        split at hg
        · rename_i c
          cases hg
          obtain ⟨ex, ey⟩ := two rfl rfl
          exact op_mulX pins s σ H x y v u Q I rx ry ⟨i, j, ex, ey, c, q.here rfl⟩
        · cases hg
      | _ => cases hg
    | lst ds =>
      cases dy with
      | int j =>
        simp only [binD] at hg
        split at hg
        · rename_i c
          cases hg
          obtain ⟨a, xs, ex, hxa, rxs⟩ := hx.lst e
          obtain ⟨⟨c1, c2⟩, c3⟩ := c
          have c4 : xs.length * j.toNat ≤ sizeLine := by rw [← rxs.length]; exact c3
          exact op_rep pins s σ H x y v u Q I rx ry ⟨a, j, xs, ex, hy.int, hxa, by omega, by omega, c4, fun p hp => q p _ _ rfl hp (rxs.rep _)⟩
        · cases hg
      | _ => cases hg
    | _ => cases dy <;> cases hg
  | fdiv =>
    cases dx with
    | int i =>
      cases dy with
      | int j =>
        simp only [binD] at hg
        split at hg
        · rename_i c
          cases hg
          obtain ⟨ex, ey⟩ := two rfl rfl
          exact op_divX pins s σ H x y v u Q I rx ry ⟨i, j, ex, ey, c, q.here rfl⟩
        · cases hg
      | _ => cases hg
    | _ => cases dy <;> cases hg
  | mod =>
    cases dx with
    | int i =>
      cases dy with
      | int j =>
        simp only [binD] at hg
        split at hg
        · rename_i c
          cases hg
          obtain ⟨ex, ey⟩ := two rfl rfl
          exact op_modN pins s σ H x y v u Q I rx ry ⟨i, j, ex, ey, c, q.here rfl⟩
        · cases hg
      | _ => cases hg
    | _ => cases dy <;> cases hg
  | pow =>
    cases dx with
    | int i =>
      cases dy with
      | int j =>
        simp only [binD] at hg
        split at hg
        · rename_i c
          cases hg
          obtain ⟨ex, ey⟩ := two rfl rfl
          exact op_pow pins s σ H x y v u Q I rx ry ⟨i, j, ex, ey, c, q.here rfl⟩
        · cases hg
      | _ => cases hg
    | _ => cases dy <;> cases hg
  | shl =>
    cases dx with
    | int i =>
      cases dy with
      | int j =>
        simp only [binD] at hg
        split at hg
        · rename_i c
          cases hg
          obtain ⟨ex, ey⟩ := two rfl rfl
          exact op_shl pins s σ H x y v u Q I rx ry ⟨i, j, ex, ey, c, q.here rfl⟩
        · cases hg
      | _ => cases hg
    | _ => cases dy <;> cases hg

/-! ### comparisons: a bool, the heap as it is -/
def rC2 (K : PySem.W.Frag) (cl : Nat → Addr) (g : D → D → Option Bool) : R2 := fun x y H Q => ∃ dx dy b, Rp K cl H dx x ∧ Rp K cl H dy y ∧ g dx dy = some b ∧ Q (.bl b) H
def copO : Cop → CmpOp
  | .lt => .Lt | .le => .LtE | .gt => .Gt | .ge => .GtE | .eq => .Eq | .ne => .NotEq | .is => .Is | .isnt => .IsNot | .in_ => .In | .notin => .NotIn
theorem rp_items {K : PySem.W.Frag} {H : Hp} {x : V} {d : D} {ds : List D} (h : Rp K cl H d x) (i : items d = some ds) : ∃ a xs, x = .ref a ∧ (SqL K H a xs ∨ SqT K H a xs) ∧ Rps K cl H ds xs := by
  exact Pk.items (Ex.refl H) (.inl h) i
theorem isD_non {K : PySem.W.Frag} {H : Hp} {x : V} {d : D} (h : Rp K cl H d x) : isD d .non = some (decide (x = .non)) := by
  cases d with
  | non => cases (show x = .non from h); rfl
  | bl b => cases (show x = .bl b from h); simp [isD]
  | int b => cases (show x = .int b from h); simp [isD]
  | str b => cases (show x = .str b from h); simp [isD]
  | tup ds => obtain ⟨a, xs, rfl, _⟩ := h; simp [isD]
  | lst ds => obtain ⟨a, xs, rfl, _⟩ := h; simp [isD]
  | frl ds => obtain ⟨a, xs, rfl, _⟩ := h; simp [isD]
  | ktp ds => obtain ⟨a, xs, rfl, _⟩ := h; simp [isD]
  | ins c fs => obtain ⟨a, dx, xs, rfl, _⟩ := h; simp [isD]
  | rng lo hi => obtain ⟨a, rfl, _⟩ := h; simp [isD]
  | adr a => cases (show x = .ref a from h); simp [isD]
theorem isD_bl {K : PySem.W.Frag} {H : Hp} {x : V} {d : D} {b : Bool} (h : Rp K cl H d x) : isD d (.bl b) = some (decide (x = .bl b)) := by
  cases d with
  | non => cases (show x = .non from h); simp [isD]
  | bl c =>
    cases (show x = .bl c from h)
    cases c <;> cases b <;> rfl
  | int b => cases (show x = .int b from h); simp [isD]
  | str b => cases (show x = .str b from h); simp [isD]
  | tup ds => obtain ⟨a, xs, rfl, _⟩ := h; simp [isD]
  | lst ds => obtain ⟨a, xs, rfl, _⟩ := h; simp [isD]
  | frl ds => obtain ⟨a, xs, rfl, _⟩ := h; simp [isD]
  | ktp ds => obtain ⟨a, xs, rfl, _⟩ := h; simp [isD]
  | ins c fs => obtain ⟨a, dx, xs, rfl, _⟩ := h; simp [isD]
  | rng lo hi => obtain ⟨a, rfl, _⟩ := h; simp [isD]
  | adr a => cases (show x = .ref a from h); simp [isD]
theorem isD_some {d e : D} {b : Bool} (h : isD d e = some b) : e = .non ∨ ∃ c, e = .bl c := by
  cases e with
  | non => exact .inl rfl
  | bl c => exact .inr ⟨c, rfl⟩
  | _ => cases d <;> cases h
theorem op_cmp (hu : X.A.units + 64 < cLine) (o : Cop) : OpR X (compareOp (copO o)) (rC2 X.K cl (cmpD o)) := by
  intro pins s σ H x y v u Q I rx ry h
  obtain ⟨dx, dy, b, hx, hy, hg, q⟩ := h
  have ord : ∀ (p : Int → Int → Bool) (o' : CmpOp), (∀ i j, dx = .int i → dy = .int j → some (p i j) = some b) → (∀ {dz : D}, (dx = dz → (∃ i, dz = .int i)) → True) → True := fun _ _ _ _ => trivial
  cases o with
  | lt =>
    cases dx with
    | int i =>
      cases dy with
      | int j => cases hg; exact op_lt pins s σ H x y v u Q I rx ry ⟨i, j, hx, hy, q⟩
      | _ => cases hg
    | _ => cases dy <;> cases hg
  | le =>
    cases dx with
    | int i =>
      cases dy with
      | int j => cases hg; exact op_le pins s σ H x y v u Q I rx ry ⟨i, j, hx, hy, q⟩
      | _ => cases hg
    | _ => cases dy <;> cases hg
  | gt =>
    cases dx with
    | int i =>
      cases dy with
      | int j => cases hg; exact op_gt pins s σ H x y v u Q I rx ry ⟨i, j, hx, hy, q⟩
      | _ => cases hg
    | _ => cases dy <;> cases hg
  | ge =>
    cases dx with
    | int i =>
      cases dy with
      | int j => cases hg; exact op_ge pins s σ H x y v u Q I rx ry ⟨i, j, hx, hy, q⟩
      | _ => cases hg
    | _ => cases dy <;> cases hg
  | eq =>
    have hg' : eqD dx dy = some b := by cases dx <;> cases dy <;> exact hg
    unfold eqD at hg'
    cases a1 : dx.py with
    | none => rw [a1] at hg'; cases hg'
    | some p1 =>
      cases a2 : dy.py with
      | none => rw [a1, a2] at hg'; cases hg'
      | some p2 =>
        rw [a1, a2] at hg'
        simp only at hg'
        split at hg'
        · rename_i c
          cases hg'
          exact op_eqD hu pins s σ H x y v u Q I rx ry ⟨p1, p2, py_dp _ _ _ hx a1, py_dp _ _ _ hy a2, c.1, c.2, q⟩
        · cases hg'
  | ne =>
    have hg' : (eqD dx dy).map (!·) = some b := by cases dx <;> cases dy <;> exact hg
    unfold eqD at hg'
    cases a1 : dx.py with
    | none => rw [a1] at hg'; cases hg'
    | some p1 =>
      cases a2 : dy.py with
      | none => rw [a1, a2] at hg'; cases hg'
      | some p2 =>
        rw [a1, a2] at hg'
        simp only at hg'
        split at hg'
        · rename_i c
          cases hg'
          exact op_neD hu pins s σ H x y v u Q I rx ry ⟨p1, p2, py_dp _ _ _ hx a1, py_dp _ _ _ hy a2, c.1, c.2, q⟩
        · cases hg'
  | is =>
    have hg' : isD dx dy = some b := by cases dx <;> cases dy <;> exact hg
    rcases isD_some hg' with rfl | ⟨c, rfl⟩
    · rw [isD_non hx] at hg'
      cases hg'
      exact op_isN pins s σ H x y v u Q I rx ry ⟨hy, q⟩
    · rw [isD_bl hx] at hg'
      cases hg'
      cases (show y = .bl c from hy)
      cases ry
      exact is_bool_gen rx ⟨.bl _, H, I, rfl, q⟩
  | isnt =>
    have hg' : (isD dx dy).map (!·) = some b := by cases dx <;> cases dy <;> exact hg
    cases z : isD dx dy with
    | none => rw [z] at hg'; cases hg'
    | some b' =>
      rw [z] at hg'
      cases hg'
      rcases isD_some z with rfl | ⟨c, rfl⟩
      · rw [isD_non hx] at z
        cases z
        exact op_notN pins s σ H x y v u Q I rx ry ⟨hy, q⟩
      · rw [isD_bl hx] at z
        cases z
        cases (show y = .bl c from hy)
        cases ry
        exact isnot_bool_gen rx ⟨.bl _, H, I, rfl, q⟩
  | in_ =>
    have hg' : (items dy).bind (inD dx) = some b := by cases dx <;> cases dy <;> exact hg
    cases z : items dy with
    | none => rw [z] at hg'; cases hg'
    | some es =>
      rw [z] at hg'
      have hg2 : inD dx es = some b := hg'
      unfold inD at hg2
      split at hg2
      · rename_i c
        cases hg2
        obtain ⟨a, xs, e1, e2, e3⟩ := rp_items hy z
        refine op_in_seq pins s σ H x y v u Q I rx ry ⟨a, xs, e1, e2, (flat_rp hx c.1).2, flat_rps e3 c.2, ?_⟩
        rw [inV_ok hx c.1 e3 c.2]
        exact q
      · cases hg2
  | notin =>
    have hg' : ((items dy).bind (inD dx)).map (!·) = some b := by cases dx <;> cases dy <;> exact hg
    cases z : items dy with
    | none => rw [z] at hg'; cases hg'
    | some es =>
      rw [z] at hg'
      have hg2 : (inD dx es).map (!·) = some b := hg'
      unfold inD at hg2
      split at hg2
      · rename_i c
        cases hg2
        obtain ⟨a, xs, e1, e2, e3⟩ := rp_items hy z
        refine op_notIn_seq pins s σ H x y v u Q I rx ry ⟨a, xs, e1, e2, (flat_rp hx c.1).2, flat_rps e3 c.2, ?_⟩
        rw [inV_ok hx c.1 e3 c.2]
        exact q
      · cases hg2
end
end PyD
set_option Elab.async false
set_option linter.all false
set_option maxRecDepth 100000
set_option maxHeartbeats 2000000
/-! PyU: built-ins as rules over plain data. -/
namespace PyD
open PySem L2 Evl PyProof.Rows

theorem sortI_is {a b : List Int} (hp : a.Perm b) (ha : a.Pairwise (· ≤ ·)) : a = b.mergeSort leI := by
  refine List.Perm.eq_of_pairwise (le := fun x y => x ≤ y) (fun x y _ _ h1 h2 => Int.le_antisymm h1 h2) ha ?_ (hp.trans (List.mergeSort_perm b leI).symm)
  have h := List.pairwise_mergeSort (le := leI) (fun a b c h1 h2 => by unfold leI at *; simp only [decide_eq_true_eq] at *; omega) (fun a b => by unfold leI; simp only [Bool.or_eq_true, decide_eq_true_eq]; omega) b
  exact h.imp fun h => by unfold leI at h; simpa using h
theorem leP_iff {a b : Int × Int} : leP a b = true ↔ a.1 < b.1 ∨ (a.1 = b.1 ∧ a.2 ≤ b.2) := by
  unfold leP
  simp only [Bool.or_eq_true, Bool.and_eq_true, decide_eq_true_eq]
theorem sortP_is {a b : List (Int × Int)} (hp : a.Perm b) (ha : a.Pairwise (fun x y => leP x y = true)) : a = b.mergeSort leP := by
  refine List.Perm.eq_of_pairwise (le := fun x y => leP x y = true) (fun x y _ _ h1 h2 => ?_) ha ?_ (hp.trans (List.mergeSort_perm b leP).symm)
  · rw [leP_iff] at h1 h2
    refine Prod.ext ?_ ?_ <;> omega
  · exact List.pairwise_mergeSort (le := leP) (fun a b c h1 h2 => by rw [leP_iff] at *; omega) (fun a b => by rw [Bool.or_eq_true, leP_iff, leP_iff]; omega) b
def b1V : B1 → Value
  | .len => .builtin "len" | .abs => .builtin "abs" | .sum => .builtin "sum" | .minL => .builtin "min" | .maxL => .builtin "max" | .int => .type "int" | .bool => .type "bool"
  | .tuple => .type "tuple" | .list => .type "list" | .any => .builtin "any" | .all => .builtin "all" | .sortI => .builtin "sorted" | .sortP => .builtin "sorted" | .rng => .type "range"
def b1N : B1 → Str
  | .len => "len" | .abs => "abs" | .sum => "sum" | .minL => "min" | .maxL => "max" | .int => "int" | .bool => "bool"
  | .tuple => "tuple" | .list => "list" | .any => "any" | .all => "all" | .sortI => "sorted" | .sortP => "sorted" | .rng => "range"
/-- how it sees its argument -/
def See (K : PySem.W.Frag) (cl : Nat → Addr) (b : B1) (F H : Hp) (d : D) (x : V) : Prop := if b.deep = true then Rp K cl H d x else Pk K cl F H d x
theorem See.deep {K : PySem.W.Frag} {cl : Nat → Addr} {b : B1} {F H : Hp} {d : D} {x : V} (h : See K cl b F H d x) (hb : b.deep = true) : Rp K cl H d x := by
  unfold See at h
  rw [if_pos hb] at h
  exact h
def rB1 (K : PySem.W.Frag) (cl : Nat → Addr) (b : B1) : List V → Hp → VK → Prop := fun xs H Q => ∃ F x d r, Ex F H ∧ xs = [x] ∧ See K cl b F H d x ∧ b1D b d = some r ∧ Aft K cl F H Q r
section
variable {X : Cx} {cl : Nat → Addr}
theorem mostI_pos {ns : List Int} {i : Int} (h : mostI ns = some i) : 0 < ns.length := by
  cases ns with
  | nil => cases h
  | cons _ _ => simp
theorem leastI_pos {ns : List Int} {i : Int} (h : leastI ns = some i) : 0 < ns.length := by
  cases ns with
  | nil => cases h
  | cons _ _ => simp
def keyP (H : Hp) : V → Int × Int
  | .ref t => match H t with
    | some (.tup [.int i, .int j]) => (i, j)
    | _ => (0, 0)
  | _ => (0, 0)
theorem pairs_rps {K : PySem.W.Frag} {F : Hp} : ∀ {ds : List D} {xs : List V} {ns : List (Int × Int)}, Rps K cl F ds xs → pairsD ds = some ns → (∀ x ∈ xs, ∃ t, x = .ref t ∧ F t = some (.tup [.int (keyP F x).1, .int (keyP F x).2])) ∧ xs.map (keyP F) = ns
  | [], _, _, h, e => by
    cases h
    cases e
    exact ⟨fun x m => (by cases m), rfl⟩
  | d :: ds, _, ns, h, e => by
    obtain ⟨x, r, rfl, h1, h2⟩ := h
    cases d with
    | tup es =>
      match es, e, h1 with
      | [.int i, .int j], e, h1 =>
        simp only [pairsD] at e
        cases q : pairsD ds with
        | none => rw [q] at e; cases e
        | some ms =>
          rw [q] at e
          cases e
          obtain ⟨i1, i2⟩ := pairs_rps h2 q
          obtain ⟨a, ys, rfl, h3, h4⟩ := h1
          obtain ⟨y1, r1, rfl, g1, y2, r2, rfl, g2, g3⟩ := h4
          cases (show y1 = .int i from g1)
          cases (show y2 = .int j from g2)
          cases (show r2 = [] from g3)
          have hk : keyP F (.ref a) = (i, j) := by unfold keyP; simp only [h3]
          refine ⟨fun x m => ?_, ?_⟩
          · rcases List.mem_cons.mp m with e | m
            · subst e
              exact ⟨a, rfl, by rw [hk]; exact h3⟩
            · exact i1 x m
          · rw [List.map_cons, hk, i2]
    | _ => simp [pairsD] at e
theorem rps_pairs {K : PySem.W.Frag} {F : Hp} : ∀ {ys : List V}, (∀ x ∈ ys, ∃ t, x = .ref t ∧ F t = some (.tup [.int (keyP F x).1, .int (keyP F x).2])) → Rps K cl F ((ys.map (keyP F)).map pairD) ys
  | [], _ => rfl
  | y :: ys, h => by
    obtain ⟨t, e, g⟩ := h y List.mem_cons_self
    refine ⟨y, ys, rfl, ⟨t, _, e, g, ⟨_, _, rfl, rfl, _, _, rfl, rfl, rfl⟩⟩, rps_pairs fun x m => h x (List.mem_cons_of_mem _ m)⟩
theorem cr_range1 : CallR X (.type "range") (fun vs H Q => ∃ j, vs = [V.int j] ∧ ∀ p, H p = none → Q (.ref p) (upd H p (.rng 0 j))) := by
  intro pins s σ H vs us Q I r h
  obtain ⟨j, rfl, q⟩ := h
  obtain ⟨u1, rfl, t, rfl⟩ := vals1 r
  refine call_range_1 ⟨.ref s.heap.objs.size, upd H s.heap.objs.size (.rng 0 j), I.laid (t' := _) (fun b o e => Heap.get?_push_of_some _ e) (Nat.le_refl _) ?_, rfl, q _ (I.hok.fresh (Nat.le_refl _))⟩
  exact ⟨_, _, _, Heap.get?_push_size _ rfl⟩
theorem b1_ok (hc : X.calm = true) (b : B1) : CallR X (b1V b) (rB1 X.K cl b) := by
  intro pins s σ H xs us Q I rv h
  obtain ⟨F, x, d, r, e, rfl, hs, hg, q⟩ := h
  have seq : ∀ {ds : List D}, b.deep = true → items d = some ds → ∃ a ys, x = .ref a ∧ (SqL X.K H a ys ∨ SqT X.K H a ys) ∧ Rps X.K cl H ds ys := fun hb hi => by
    exact rp_items (hs.deep hb) hi
  cases b with
  | len =>
    have hi : (items d).map (fun ds => R.sh (.int ds.length)) = some r → ∃ ds, items d = some ds ∧ r = .sh (.int ds.length) := fun h => by
      cases z : items d with
      | none => rw [z] at h; cases h
      | some ds => rw [z] at h; cases h; exact ⟨ds, rfl, rfl⟩
    cases d with
    | str z =>
      simp only [b1D] at hg
      split at hg
      · rename_i c
        cases hg
        cases (show x = .str z from hs.deep rfl)
        exact call_len_str pins s σ H _ us Q I rv ⟨z, rfl, c, q.here rfl⟩
      · cases hg
    | _ =>
      obtain ⟨ds, z, rfl⟩ := hi hg
      obtain ⟨a, ys, rfl, h1, h2⟩ := seq rfl z
      exact call_len_seq pins s σ H _ us Q I rv ⟨a, ys, rfl, h1, q.here (by show _ = _; rw [h2.length])⟩
  | abs =>
    cases d with
    | int i =>
      cases hg
      cases (show x = .int i from hs.deep rfl)
      exact call_abs pins s σ H _ us Q I rv ⟨i, rfl, q.here rfl⟩
    | _ => cases hg
  | sum =>
    simp only [b1D] at hg
    cases z : items d with
    | none => rw [z] at hg; cases hg
    | some ds =>
      rw [z] at hg
      simp only [Option.bind_some] at hg
      cases z2 : intsD ds with
      | none => rw [z2] at hg; cases hg
      | some ns =>
        rw [z2] at hg
        cases hg
        obtain ⟨a, ys, rfl, h1, h2⟩ := seq rfl z
        obtain ⟨rfl, _⟩ := intsD_rps h2 z2
        rcases h1 with h1 | h1
        · exact cr_sum hc pins s σ H _ us Q I rv ⟨a, ns, rfl, h1, q.here rfl⟩
        · exact cr_sumT hc pins s σ H _ us Q I rv ⟨a, ns, rfl, h1, q.here rfl⟩
  | minL =>
    simp only [b1D] at hg
    cases z : items d with
    | none => rw [z] at hg; cases hg
    | some ds =>
      rw [z] at hg
      simp only [Option.bind_some] at hg
      cases z2 : intsD ds with
      | none => rw [z2] at hg; cases hg
      | some ns =>
        rw [z2] at hg
        simp only [Option.bind_some] at hg
        cases z3 : leastI ns with
        | none => rw [z3] at hg; cases hg
        | some i =>
          rw [z3] at hg
          cases hg
          obtain ⟨a, ys, rfl, h1, h2⟩ := seq rfl z
          obtain ⟨rfl, _⟩ := intsD_rps h2 z2
          have fin : ∀ m, m ∈ ns → (∀ y, y ∈ ns → m ≤ y) → Q (.int m) H := fun m m1 m2 => by
            rw [least_one z3 m1 m2]
            exact q.here rfl
          rcases h1 with h1 | h1
          · exact cr_min hc pins s σ H _ us Q I rv ⟨a, ns, rfl, h1, leastI_pos z3, fin⟩
          · exact cr_minT hc pins s σ H _ us Q I rv ⟨a, ns, rfl, h1, leastI_pos z3, fin⟩
  | maxL =>
    simp only [b1D] at hg
    cases z : items d with
    | none => rw [z] at hg; cases hg
    | some ds =>
      rw [z] at hg
      simp only [Option.bind_some] at hg
      cases z2 : intsD ds with
      | none => rw [z2] at hg; cases hg
      | some ns =>
        rw [z2] at hg
        simp only [Option.bind_some] at hg
        cases z3 : mostI ns with
        | none => rw [z3] at hg; cases hg
        | some i =>
          rw [z3] at hg
          cases hg
          obtain ⟨a, ys, rfl, h1, h2⟩ := seq rfl z
          obtain ⟨rfl, _⟩ := intsD_rps h2 z2
          have fin : ∀ m, m ∈ ns → (∀ y, y ∈ ns → y ≤ m) → Q (.int m) H := fun m m1 m2 => by
            rw [most_one z3 m1 m2]
            exact q.here rfl
          rcases h1 with h1 | h1
          · exact cr_max hc pins s σ H _ us Q I rv ⟨a, ns, rfl, h1, mostI_pos z3, fin⟩
          · exact cr_maxT hc pins s σ H _ us Q I rv ⟨a, ns, rfl, h1, mostI_pos z3, fin⟩
  | int =>
    have hs := hs.deep rfl
    cases d with
    | int i =>
      cases hg
      cases (show x = .int i from hs)
      exact call_int1 pins s σ H _ us Q I rv (.inl ⟨i, rfl, q.here rfl⟩)
    | bl i =>
      cases hg
      cases (show x = .bl i from hs)
      exact call_int1 pins s σ H _ us Q I rv (.inr ⟨i, rfl, q.here rfl⟩)
    | _ => cases hg
  | bool =>
    have hs := hs.deep rfl
    cases d with
    | int i =>
      cases hg
      cases (show x = .int i from hs)
      exact call_bool1 pins s σ H _ us Q I rv (.inl ⟨i, rfl, q.here rfl⟩)
    | bl i =>
      cases hg
      cases (show x = .bl i from hs)
      exact call_bool1 pins s σ H _ us Q I rv (.inr ⟨i, rfl, q.here rfl⟩)
    | _ => cases hg
  | tuple =>
    have hs : Pk X.K cl F H d x := by simpa [See, B1.deep] using hs
    simp only [b1D] at hg
    have mk : ∀ {ds : List D} {a : Addr} {ys : List V}, r = .sh (.tup ds) → Rps X.K cl F ds ys → ∀ p, H p = none → Q (.ref p) (upd H p (.tup ys)) := fun {ds a ys} hr h p hp => by
      subst hr
      have fp : F p = none := by
        cases z : F p with
        | none => rfl
        | some o => rw [e _ _ z] at hp; cases hp
      exact q.2 _ p _ hp ⟨p, ys, rfl, upd_same, Rps.ex (Ex.new fp) _ _ h⟩
    cases d with
    | tup ds =>
      cases hg
      obtain ⟨a, ys, rfl, h1, h2, h3⟩ := hs.tup e
      exact call_tuple_of pins s σ H _ us Q I rv ⟨a, ys, rfl, .inr ⟨SqT.of h1, q.1 _ ⟨a, ys, rfl, h2, h3⟩⟩⟩
    | lst ds =>
      cases hg
      obtain ⟨a, ys, rfl, h1, h3⟩ := hs.lst e
      exact call_tuple_of pins s σ H _ us Q I rv ⟨a, ys, rfl, .inl ⟨SqL.of h1, mk (a := a) rfl h3⟩⟩
    | frl ds =>
      cases hg
      obtain ⟨a, ys, rfl, h1, h3⟩ := hs.frl e
      exact call_tuple_of pins s σ H _ us Q I rv ⟨a, ys, rfl, .inl ⟨h1, mk (a := a) rfl h3⟩⟩
    | ktp ds =>
      cases hg
      have hr := hs
      obtain ⟨a, ys, rfl, h1, h3⟩ := hs.ktp e
      refine call_tuple_of pins s σ H _ us Q I rv ⟨a, ys, rfl, .inr ⟨h1, q.1 _ ?_⟩⟩
      rcases hr with h | ⟨_, _, _, z, _⟩
      · exact h
      · cases z
    | _ => cases hg
  | list =>
    have hs : Pk X.K cl F H d x := by simpa [See, B1.deep] using hs
    simp only [b1D] at hg
    cases z : items d with
    | none => rw [z] at hg; cases hg
    | some ds =>
      rw [z] at hg
      cases hg
      obtain ⟨a, ys, rfl, h1, h2⟩ := hs.items e z
      exact call_list_of pins s σ H _ us Q I rv ⟨a, ys, rfl, h1, fun l hl => q l ys ds rfl hl h2⟩
  | any =>
    have hs := hs.deep rfl
    cases d with
    | lst ds =>
      simp only [b1D] at hg
      cases z2 : boolsD ds with
      | none => rw [z2] at hg; cases hg
      | some bs =>
        rw [z2] at hg
        cases hg
        obtain ⟨a, ys, rfl, h1, h2⟩ := hs
        have := boolsD_rps h2 z2
        subst this
        exact cr_any hc pins s σ H _ us Q I rv ⟨a, bs, rfl, SqL.of h1, q.here rfl⟩
    | _ => cases hg
  | all =>
    have hs := hs.deep rfl
    cases d with
    | lst ds =>
      simp only [b1D] at hg
      cases z2 : boolsD ds with
      | none => rw [z2] at hg; cases hg
      | some bs =>
        rw [z2] at hg
        cases hg
        obtain ⟨a, ys, rfl, h1, h2⟩ := hs
        have := boolsD_rps h2 z2
        subst this
        exact cr_all hc pins s σ H _ us Q I rv ⟨a, bs, rfl, SqL.of h1, q.here rfl⟩
    | _ => cases hg
  | sortI =>
    have hs : Pk X.K cl F H d x := by simpa [See, B1.deep] using hs
    cases d with
    | lst ds =>
      simp only [b1D, srtD] at hg
      cases z2 : intsD ds with
      | none => rw [z2] at hg; cases hg
      | some ns =>
        rw [z2] at hg
        cases hg
        obtain ⟨a, ys, rfl, h1, h2⟩ := hs.lst e
        obtain ⟨rfl, _⟩ := intsD_rps h2 z2
        refine cr_sortedI pins s σ H _ us Q I rv ⟨a, ns, rfl, SqL.of h1, fun ns' p hp hw hn => ?_⟩
        rw [sortI_is hp hw]
        exact q p _ _ rfl hn (Rps.map_of fun i _ => rfl)
    | _ => cases hg
  | sortP =>
    have hs : Pk X.K cl F H d x := by simpa [See, B1.deep] using hs
    cases d with
    | lst ds =>
      simp only [b1D, srtD] at hg
      cases z2 : pairsD ds with
      | none => rw [z2] at hg; cases hg
      | some ns =>
        rw [z2] at hg
        cases hg
        obtain ⟨a, ys, rfl, h1, h2⟩ := hs.lst e
        obtain ⟨g1, g2⟩ := pairs_rps h2 z2
        refine cr_sortedPO pins s σ H _ us Q I rv ⟨a, ys, keyP F, rfl, SqL.of h1, fun y m => ?_, fun zs p hw hst hn => ?_⟩
        · obtain ⟨t, e1, e2⟩ := g1 y m
          exact ⟨t, e1, e _ _ e2⟩
        · have hp := hst.perm
          have e3 : zs.map (keyP F) = ns.mergeSort leP := by
            refine sortP_is (by rw [← g2]; exact hp.map _) ?_
            refine List.pairwise_map.mpr (hw.imp fun {a b} hab => ?_)
            have hab : SrtO.lexB (keyP F b) (keyP F a) = false := hab
            rw [SrtO.lexB_no] at hab
            rw [leP_iff]
            omega
          refine q p zs _ rfl hn ?_
          rw [← e3]
          exact rps_pairs fun y m => g1 y (hp.mem_iff.mp m)
    | _ => cases hg
  | rng =>
    have hs : Pk X.K cl F H d x := by simpa [See, B1.deep] using hs
    cases d with
    | int n =>
      cases hg
      have hx := hs.int
      subst hx
      refine cr_range1 pins s σ H _ us Q I rv ⟨n, rfl, fun p hp => q.2 _ p _ hp ⟨p, rfl, upd_same⟩⟩
    | _ => cases hg
/-! ### two arguments -/
def b2V : B2 → Value
  | .min => .builtin "min" | .max => .builtin "max" | .gcd => .builtin "math.gcd" | .rng => .type "range"
def b2N : B2 → Str
  | .min => "min" | .max => "max" | .gcd => "gcd" | .rng => "range"
def rB2c (K : PySem.W.Frag) (cl : Nat → Addr) (b : B2) : List V → Hp → VK → Prop := fun xs H Q => ∃ F x y dx dy r, xs = [x, y] ∧ Rp K cl F dx x ∧ Rp K cl F dy y ∧ b2D b dx dy = some r ∧ Aft K cl F H Q r
theorem b2_ok (hc : X.calm = true) (b : B2) : CallR X (b2V b) (rB2c X.K cl b) := by
  intro pins s σ H xs us Q I rv h
  obtain ⟨F, x, y, dx, dy, r, rfl, hx, hy, hg, q⟩ := h
  cases dx with
  | int i =>
    cases dy with
    | int j =>
      cases (show x = .int i from hx)
      cases (show y = .int j from hy)
      cases b with
      | min => cases hg; exact call_min2 hc pins s σ H _ us Q I rv ⟨i, j, rfl, q.here rfl⟩
      | max => cases hg; exact call_max2 hc pins s σ H _ us Q I rv ⟨i, j, rfl, q.here rfl⟩
      | gcd => cases hg; exact cr_gcd pins s σ H _ us Q I rv ⟨i, j, rfl, q.here rfl⟩
      | rng => cases hg
    | _ => cases b <;> cases hg
  | _ => cases b <;> cases dy <;> cases hg
/-! ### isinstance -/
def tyV' : Ty → String
  | .int => "int" | .bool => "bool" | .str => "str" | .tuple => "tuple" | .list => "list"
theorem tyN_of {K : PySem.W.Frag} {H : Hp} {d : D} {x : V} {t : Ty} {b : Bool} (h : Rp K cl H d x) (e : isiD d t = some b) : ∃ tn : String, TyX K H x (.type tn) ∧ kitB tn (tyV' t) = some b := by
  cases d with
  | non => cases (show x = .non from h); refine ⟨"NoneType", .base .non, ?_⟩; cases t <;> cases e <;> decide +kernel
  | bl c => cases (show x = .bl c from h); refine ⟨"bool", .base (.bl c), ?_⟩; cases t <;> cases e <;> decide +kernel
  | int c => cases (show x = .int c from h); refine ⟨"int", .base (.int c), ?_⟩; cases t <;> cases e <;> decide +kernel
  | str c => cases (show x = .str c from h); refine ⟨"str", .base (.str c), ?_⟩; cases t <;> cases e <;> decide +kernel
  | tup ds => obtain ⟨a, xs, rfl, h1, _⟩ := h; refine ⟨"tuple", .base (.tup h1), ?_⟩; cases t <;> cases e <;> decide +kernel
  | lst ds => obtain ⟨a, xs, rfl, h1, _⟩ := h; refine ⟨"list", .base (.lst h1), ?_⟩; cases t <;> cases e <;> decide +kernel
  | frl ds =>
    obtain ⟨a, xs, rfl, h1, _⟩ := h
    refine ⟨"list", ?_, ?_⟩
    · rcases h1 with (h1 | ⟨o, h1⟩) | ⟨o, its, n, h1, h2, _⟩
      · exact .base (.lst h1)
      · exact .base (.frz h1)
      · exact .kList h1 h2
    · cases t <;> cases e <;> decide +kernel
  | ktp ds =>
    obtain ⟨a, xs, rfl, h1, _⟩ := h
    refine ⟨"tuple", ?_, ?_⟩
    · rcases h1 with (h1 | ⟨o, h1⟩) | ⟨o, its, n, h1, h2, _⟩
      · exact .base (.tup h1)
      · exact .fTuple h1
      · exact .kTuple h1 h2
    · cases t <;> cases e <;> decide +kernel
  | ins c fs => cases t <;> cases e
  | rng lo hi => cases t <;> cases e
  | adr a => cases t <;> cases e
def rIsiD (K : PySem.W.Frag) (cl : Nat → Addr) (t : Ty) : List V → Hp → VK → Prop := fun xs H Q => ∃ x d b, xs = [x, .ty (tyV' t)] ∧ Rp K cl H d x ∧ isiD d t = some b ∧ Q (.bl b) H
theorem isi_ok (t : Ty) : CallR X (.builtin "isinstance") (rIsiD X.K cl t) := by
  intro pins s σ H xs us Q I rv h
  obtain ⟨x, d, b, rfl, h1, h2, q⟩ := h
  obtain ⟨tn, ty, k⟩ := tyN_of h1 h2
  exact call_isi pins s σ H _ us Q I rv ⟨x, _, _, _, b, rfl, .ty _, ty, kit_ty k, q⟩
end
end PyD
set_option Elab.async false
set_option linter.all false
set_option maxRecDepth 100000
set_option maxHeartbeats 2000000
/-! PyV: readings by what is computed. -/
namespace PyD
open PySem L2 Evl PyProof.Rows

theorem itT {p q : Prop} (h : p) : if (true = true) then p else q := by rw [if_pos rfl]; exact h
theorem itF {p q : Prop} (h : q) : if (false = true) then p else q := by rw [if_neg Bool.false_ne_true]; exact h
/-- from one state to another -/
structure Acc (K : PySem.W.Frag) (cl : Nat → Addr) (c : Bool) (σ : L2.St) (ε : Env) (own : Nat → AT) (F H : Hp) (ε' : Env) (own' : Nat → AT) (F' H' : Hp) : Prop where
  rel : Rel K cl σ ε' own' F' H'
  stp : Stp (Own own) (Own own') F H F' H'
  up : Up ε ε'
  cal : c = true → Cal ε own ε' own' ∧ Ex H H'
structure Res (K : PySem.W.Frag) (cl : Nat → Addr) (c : Bool) (σ : L2.St) (ε : Env) (own : Nat → AT) (F H : Hp) (ε' : Env) (own' : Nat → AT) (F' H' : Hp) (v : V) (r : R) : Prop extends Acc K cl c σ ε own F H ε' own' F' H' where
  rep : RepR K cl σ ε' own' H F' H' v r
section
variable {K : PySem.W.Frag} {cl : Nat → Addr} {c c1 c2 : Bool} {σ : L2.St} {ε ε1 ε2 : Env} {own own1 own2 : Nat → AT} {F H F1 H1 F2 H2 : Hp} {v u : V} {r : R} {Q : VK}
theorem Acc.refl (q : Rel K cl σ ε own F H) : Acc K cl c σ ε own F H ε own F H := ⟨q, Stp.refl, Up.refl ε, fun _ => ⟨Cal.refl ε own, Ex.refl H⟩⟩
theorem Acc.trans (a : Acc K cl c1 σ ε own F H ε1 own1 F1 H1) (b : Acc K cl c2 σ ε1 own1 F1 H1 ε2 own2 F2 H2) : Acc K cl (c1 && c2) σ ε own F H ε2 own2 F2 H2 :=
  ⟨b.rel, a.stp.trans b.stp, a.up.trans b.up, fun z => by
    rw [Bool.and_eq_true] at z
    obtain ⟨a1, a2⟩ := a.cal z.1
    obtain ⟨b1, b2⟩ := b.cal z.2
    exact ⟨a1.trans b1 b.up, a2.trans b2⟩⟩
theorem Acc.weak (a : Acc K cl c σ ε own F H ε1 own1 F1 H1) (h : c2 = true → c = true) : Acc K cl c2 σ ε own F H ε1 own1 F1 H1 := ⟨a.rel, a.stp, a.up, fun z => a.cal (h z)⟩
/-- what was given ahead, behind a further step -/
theorem Res.later (a : Res K cl c1 σ ε own F H ε1 own1 F1 H1 v r) (q : Rel K cl σ ε own F H) (b : Acc K cl c2 σ ε1 own1 F1 H1 ε2 own2 F2 H2) (w : (∃ j k π, r = .pt j (k :: π)) → c2 = true) : RepR K cl σ ε2 own2 H F2 H2 v r :=
  RepR.step a.rel b.rel b.stp b.up (fun z => b.cal (w z)) a.rep
theorem RepR.back {H0 H0' : Hp} (h : RepR K cl σ ε own H0 F H v r) (d : ∀ a, H0 a = none → H0' a = none) : RepR K cl σ ε own H0' F H v r := by
  cases r with
  | sh d => exact h
  | fr ts =>
    obtain ⟨c, h1, h2, h3⟩ := h
    exact ⟨c, h1, h2, fun a m => ⟨d a (h3 a m).1, (h3 a m).2⟩⟩
  | pt j π => exact h
theorem Acc.res (a : Acc K cl c1 σ ε own F H ε1 own1 F1 H1) (b : Res K cl c2 σ ε1 own1 F1 H1 ε2 own2 F2 H2 v r) : Res K cl (c1 && c2) σ ε own F H ε2 own2 F2 H2 v r :=
  ⟨a.trans b.toAcc, b.rep.back a.stp.dom⟩
theorem Res.weak (a : Res K cl c σ ε own F H ε1 own1 F1 H1 v r) (h : c2 = true → c = true) : Res K cl c2 σ ε own F H ε1 own1 F1 H1 v r := ⟨a.toAcc.weak h, a.rep⟩
theorem waits_ok {x : R} {b : E} (h : waits x b = true) (z : ∃ j k π, x = .pt j (k :: π)) : calm b = true := by
  obtain ⟨j, k, π, rfl⟩ := z
  exact h
/-- an operation's end -/
theorem Aft.of (a : Acc K cl c σ ε own F H ε1 own1 F1 H1) (hQ : ∀ v own' F' H', Res K cl c σ ε own F H ε1 own' F' H' v r → Q v H') (np : ∀ j π, r ≠ .pt j π) : Aft K cl F1 H1 Q r := by
  cases r with
  | sh d =>
    refine ⟨fun v h => hQ v own1 F1 H1 ⟨a, h⟩, fun v p o hp h => ?_⟩
    obtain ⟨r1, s1⟩ := a.rel.new (o := o) hp
    exact hQ v own1 _ _ ⟨⟨r1, a.stp.trans s1, a.up, fun z => ⟨(a.cal z).1, (a.cal z).2.trans (Ex.new hp)⟩⟩, h⟩
  | fr ts =>
    intro p xs ds e hp h
    subst e
    obtain ⟨r1, s1⟩ := a.rel.fresh (o := .lst xs) hp
    refine hQ (.ref p) own1 _ _ ⟨⟨r1, a.stp.trans s1, a.up, fun z => ⟨(a.cal z).1, (a.cal z).2.trans (Ex.new hp)⟩⟩, .node p (List.replicate xs.length .leaf), ?_, ?_, fun b m => ?_⟩
    · exact ⟨p, _, xs, rfl, rfl, a.rel.f_none hp, upd_same, rts_of h⟩
    · show (p :: AT.alls (List.replicate xs.length .leaf)).Nodup
      rw [alls_leaf]
      exact List.nodup_cons.mpr ⟨by simp, List.nodup_nil⟩
    · have m' : b ∈ p :: AT.alls (List.replicate xs.length .leaf) := m
      rw [alls_leaf] at m'
      have e : b = p := by simpa using m'
      subst e
      refine ⟨a.stp.dom _ hp, fun z => ?_⟩
      obtain ⟨_, ys, e2⟩ := a.rel.own_lst z
      rw [hp] at e2
      cases e2
  | pt j π => exact absurd rfl (np j π)

/-! ### readings -/
def tEv (K : PySem.W.Frag) (cl : Nat → Addr) (c : Bool) (f : Env → Option (R × Env)) : TE := fun σ H Q => ∃ ε own F r ε', Rel K cl σ ε own F H ∧ f ε = some (r, ε') ∧ ∀ v own' F' H', Res K cl c σ ε own F H ε' own' F' H' v r → Q v H'
def tTv (K : PySem.W.Frag) (cl : Nat → Addr) (c : Bool) (f : Env → Option (R × Env)) : TT := fun σ H Q => ∃ ε own F b ε', Rel K cl σ ε own F H ∧ f ε = some (.sh (.bl b), ε') ∧ ∀ own' F' H', Acc K cl c σ ε own F H ε' own' F' H' → Q b H'
def tAv (K : PySem.W.Frag) (cl : Nat → Addr) (c : Bool) (f : Env → Option (List D × Env)) : TA := fun σ H Q => ∃ ε own F ds ε', Rel K cl σ ε own F H ∧ f ε = some (ds, ε') ∧ ∀ vs own' F' H', Acc K cl c σ ε own F H ε' own' F' H' → Rps K cl F' ds vs → Q vs H'
theorem PE.imp {X : Cx} {e : Expr} {t t' : TE} (h : PE X e t) (w : ∀ σ H Q, t' σ H Q → t σ H Q) : PE X e t' := ⟨fun pins s σ H Q I z => h.run pins s σ H Q I (w σ H Q z)⟩
theorem PT.imp {X : Cx} {e : Expr} {t t' : TT} (h : PT X e t) (w : ∀ σ H Q, t' σ H Q → t σ H Q) : PT X e t' := ⟨fun pins s σ H Q I z => h.run pins s σ H Q I (w σ H Q z)⟩
theorem PW.imp {X : Cx} {e : Expr} {t t' : TT} (h : PW X e t) (w : ∀ σ H Q, t' σ H Q → t σ H Q) : PW X e t' := ⟨fun wh pins s σ H Q I z => h.run wh pins s σ H Q I (w σ H Q z)⟩
theorem PA.imp {X : Cx} {es : List Expr} {t t' : TA} (h : PA X es t) (w : ∀ σ H Q, t' σ H Q → t σ H Q) : PA X es t' := ⟨fun pos pins s σ H Q I z => h.run pos pins s σ H Q I (w σ H Q z)⟩
variable {X : Cx} {a b : Expr} {ea eb : E} {G : List Fn} {pos : Pos}
/-- as a test: an expression that gives a bool -/
theorem pt_of (h : PE X a (tEv X.K cl c (ev G ea))) (he : ∀ whole, isTrue a X.env whole = (do let v ← whole; standAt a.pos; holding [v] (truthy v))) : PT X a (tTv X.K cl c (ev G ea)) :=
  PT.imp (pt_val h he) fun σ H Q ⟨ε, own, F, b, ε', q, e, k⟩ => ⟨ε, own, F, _, ε', q, e, fun v own' F' H' r => ⟨b, r.rep, k own' F' H' r.toAcc⟩⟩
theorem pe_var_ok {i : Nat} {x : Str} (hN : X.N[i]? = some x) (hv : Vis X.env.scope x) (hd : (x == ("__debug__" : Str)) = false) (hcd : (x == ("__classdict__" : Str)) = false) : PE X (.Name x pos) (tEv X.K cl true (ev G (.var i))) := by
  refine PE.imp (pe_var hN hv hd hcd) fun σ H Q ⟨ε, own, F, r, ε', q, e, k⟩ => ?_
  simp only [ev] at e
  cases w : gt ε i with
  | none => rw [w] at e; cases e
  | some w' =>
    rw [w] at e
    cases w' with
    | sh d =>
      cases e
      obtain ⟨v, h1, h2⟩ := q.sh i d w
      exact ⟨v, h1, k v own F H ⟨Acc.refl q, h2⟩⟩
    | ow ts =>
      cases e
      obtain ⟨v, h1, h2⟩ := q.ow i ts w
      obtain ⟨p, cs, xs, h3, rfl, _⟩ := id h2
      exact ⟨_, h1, k _ own F H ⟨Acc.refl q, .inl ⟨ts, ts, p, cs, w, rfl, by rw [at_nil, h3], rfl⟩⟩⟩
    | al j π =>
      cases e
      obtain ⟨p, cs, ts, us, h1, h2, h3, h4⟩ := q.al i j π w
      exact ⟨_, h1, k _ own F H ⟨Acc.refl q, .inl ⟨ts, us, p, cs, h2, h3, h4, rfl⟩⟩⟩
theorem con_ok {d : D} {v : V} (hp : PE X a (tC v)) (hv : ∀ F, Rp X.K cl F d v) : PE X a (tEv X.K cl true (ev G (.con d))) :=
  PE.imp hp fun σ H Q ⟨ε, own, F, r, ε', q, e, k⟩ => by
    cases e
    exact k v own F H ⟨Acc.refl q, hv F⟩
theorem bin_np {o : Bop} {dx dy : D} {r : R} (h : binD o dx dy = some r) : ∀ j π, r ≠ .pt j π := by
  intro j π z
  subst z
  cases o <;> cases dx <;> cases dy <;> simp [binD] at h
theorem bin_ok {o : Bop} (ha : PE X a (tEv X.K cl (calm ea) (ev G ea))) (hb : PE X b (tEv X.K cl (calm eb) (ev G eb))) : PE X (.BinOp a (bopO o) b pos) (tEv X.K cl (calm (.bin o ea eb)) (ev G (.bin o ea eb))) := by
  refine PE.imp (pe_op (op_bin (cl := cl) o) ha hb) fun σ H Q ⟨ε, own, F, r, ε', q, e, k⟩ => ?_
  simp only [ev] at e
  cases e1 : ev G ea ε with
  | none => rw [e1] at e; cases e
  | some y1 =>
    obtain ⟨x, ε1⟩ := y1
    rw [e1] at e
    simp only at e
    cases e2 : ev G eb ε1 with
    | none => rw [e2] at e; cases e
    | some y2 =>
      obtain ⟨y, ε2⟩ := y2
      rw [e2] at e
      simp only at e
      split at e
      · rename_i dx dy hw hx hy
        cases e3 : binD o dx dy with
        | none => rw [e3] at e; cases e
        | some r' =>
          rw [e3] at e
          cases e
          refine ⟨ε, own, F, x, ε1, q, e1, fun v own1 F1 H1 R1 => ⟨ε1, own1, F1, y, _, R1.rel, e2, fun u own2 F2 H2 R2 => ?_⟩⟩
          have rx := R1.later q R2.toAcc (waits_ok hw)
          exact ⟨F2, dx, dy, _, R2.rel.sub, peek_ok R2.rel rx hx, peek_ok R2.rel R2.rep hy, e3, Aft.of (R1.toAcc.trans R2.toAcc) k (bin_np e3)⟩
      · cases e
theorem neg_ok (ha : PE X a (tEv X.K cl (calm ea) (ev G ea))) : PE X (.UnaryOp .USub a pos) (tEv X.K cl (calm (.neg ea)) (ev G (.neg ea))) := by
  refine PE.imp (pe_un un_neg ha) fun σ H Q ⟨ε, own, F, r, ε', q, e, k⟩ => ?_
  simp only [ev] at e
  cases e1 : ev G ea ε with
  | none => rw [e1] at e; cases e
  | some y1 =>
    obtain ⟨x, ε1⟩ := y1
    rw [e1] at e
    simp only at e
    cases hx : peek x ε1 with
    | none => rw [hx] at e; cases e
    | some dx =>
      rw [hx] at e
      cases dx with
      | int i =>
        cases e
        refine ⟨ε, own, F, x, _, q, e1, fun v own1 F1 H1 R1 => ?_⟩
        have hv := (peek_ok R1.rel R1.rep hx).int
        exact ⟨i, hv, k _ own1 F1 H1 ⟨R1.toAcc, rfl⟩⟩
      | _ => cases e
theorem cmp_ok {o : Cop} (hu : X.A.units + 64 < cLine) (ha : PE X a (tEv X.K cl (calm ea) (ev G ea))) (hb : PE X b (tEv X.K cl (calm eb) (ev G eb))) (hm : behindInMarks (copO o) b = false) :
    PE X (.Compare a [copO o] [b] pos) (tEv X.K cl (calm (.cmp o ea eb)) (ev G (.cmp o ea eb))) ∧ PT X (.Compare a [copO o] [b] pos) (tTv X.K cl (calm (.cmp o ea eb)) (ev G (.cmp o ea eb))) := by
  have core : ∀ σ H (Q : VK), (∃ ε own F r ε', Rel X.K cl σ ε own F H ∧ ev G (.cmp o ea eb) ε = some (r, ε') ∧ ∀ b own' F' H', r = .sh (.bl b) → Acc X.K cl (calm (.cmp o ea eb)) σ ε own F H ε' own' F' H' → Q (.bl b) H') → tOp (rC2 X.K cl (cmpD o)) (tEv X.K cl (calm ea) (ev G ea)) (tEv X.K cl (calm eb) (ev G eb)) σ H Q := by
    rintro σ H Q ⟨ε, own, F, r, ε', q, e, k⟩
    simp only [ev] at e
    cases e1 : ev G ea ε with
    | none => rw [e1] at e; cases e
    | some y1 =>
      obtain ⟨x, ε1⟩ := y1
      rw [e1] at e
      simp only at e
      cases e2 : ev G eb ε1 with
      | none => rw [e2] at e; cases e
      | some y2 =>
        obtain ⟨y, ε2⟩ := y2
        rw [e2] at e
        simp only at e
        split at e
        · rename_i dx dy hw hx hy
          cases e3 : cmpD o dx dy with
          | none => rw [e3] at e; cases e
          | some r' =>
            rw [e3] at e
            cases e
            refine ⟨ε, own, F, x, ε1, q, e1, fun v own1 F1 H1 R1 => ⟨ε1, own1, F1, y, _, R1.rel, e2, fun u own2 F2 H2 R2 => ?_⟩⟩
            have rx := R1.later q R2.toAcc (waits_ok hw)
            exact ⟨dx, dy, _, peekH_ok R2.rel rx hx, peekH_ok R2.rel R2.rep hy, e3, k _ own2 F2 H2 rfl (R1.toAcc.trans R2.toAcc)⟩
        · cases e
  refine ⟨PE.imp (pe_cmpR (op_cmp hu o) ha hb hm) fun σ H Q ⟨ε, own, F, r, ε', q, e, k⟩ => core σ H Q ⟨ε, own, F, r, ε', q, e, fun b own' F' H' hr A => ?_⟩,
    PT.imp (pt_cmpR (op_cmp hu o) ha hb hm) fun σ H Q ⟨ε, own, F, b, ε', q, e, k⟩ => core σ H _ ⟨ε, own, F, _, ε', q, e, fun b' own' F' H' hr A => ?_⟩⟩
  · subst hr
    exact k _ own' F' H' ⟨A, rfl⟩
  · cases hr
    exact ⟨_, rfl, k own' F' H' A⟩
theorem not_ok (ha : PE X a (tEv X.K cl (calm ea) (ev G ea))) (ta : PT X a (tTv X.K cl (calm ea) (ev G ea))) :
    PE X (.UnaryOp .Not a pos) (tEv X.K cl (calm (.not ea)) (ev G (.not ea))) ∧ PT X (.UnaryOp .Not a pos) (tTv X.K cl (calm (.not ea)) (ev G (.not ea))) := by
  have inv : ∀ {ε r ε'}, ev G (.not ea) ε = some (r, ε') → ∃ b, ev G ea ε = some (.sh (.bl b), ε') ∧ r = .sh (.bl (!b)) := by
    intro ε r ε' e
    simp only [ev] at e
    split at e
    · rename_i b ε1 h
      cases e
      exact ⟨b, h, rfl⟩
    · cases e
  refine ⟨PE.imp (pe_not ha) fun σ H Q ⟨ε, own, F, r, ε', q, e, k⟩ => ?_, PT.imp (pt_not ta) fun σ H Q ⟨ε, own, F, b, ε', q, e, k⟩ => ?_⟩
  · obtain ⟨b, e1, rfl⟩ := inv e
    exact ⟨ε, own, F, _, ε', q, e1, fun v own1 F1 H1 R1 => ⟨b, R1.rep, k _ own1 F1 H1 ⟨R1.toAcc, rfl⟩⟩⟩
  · obtain ⟨b', e1, e2⟩ := inv e
    cases e2
    exact ⟨ε, own, F, b', ε', q, e1, fun own1 F1 H1 A => k own1 F1 H1 A⟩
/-- and, or: inversion -/
theorem and_inv {ε r ε'} (e : ev G (.and ea eb) ε = some (r, ε')) : (∃ ε1, ev G ea ε = some (.sh (.bl true), ε1) ∧ ev G eb ε1 = some (r, ε')) ∨ (ev G ea ε = some (.sh (.bl false), ε') ∧ r = .sh (.bl false)) := by
  simp only [ev] at e
  split at e
  · rename_i ε1 h; exact .inl ⟨ε1, h, e⟩
  · rename_i ε1 h; cases e; exact .inr ⟨h, rfl⟩
  · cases e
theorem or_inv {ε r ε'} (e : ev G (.or ea eb) ε = some (r, ε')) : (∃ ε1, ev G ea ε = some (.sh (.bl false), ε1) ∧ ev G eb ε1 = some (r, ε')) ∨ (ev G ea ε = some (.sh (.bl true), ε') ∧ r = .sh (.bl true)) := by
  simp only [ev] at e
  split at e
  · rename_i ε1 h; cases e; exact .inr ⟨h, rfl⟩
  · rename_i ε1 h; exact .inl ⟨ε1, h, e⟩
  · cases e
variable {rest : List Expr}
theorem and_ok (ha : PE X a (tEv X.K cl (calm ea) (ev G ea))) (hb : PE X (.BoolOp .And (b :: rest) pos) (tEv X.K cl (calm eb) (ev G eb))) : PE X (.BoolOp .And (a :: b :: rest) pos) (tEv X.K cl (calm (.and ea eb)) (ev G (.and ea eb))) := by
  refine PE.imp (pe_and ha hb) fun σ H Q ⟨ε, own, F, r, ε', q, e, k⟩ => ?_
  rcases and_inv e with ⟨ε1, e1, e2⟩ | ⟨e1, rfl⟩
  · exact ⟨ε, own, F, _, ε1, q, e1, fun v own1 F1 H1 R1 => ⟨true, R1.rep, itT <| ⟨ε1, own1, F1, r, ε', R1.rel, e2, fun u own2 F2 H2 R2 => k u own2 F2 H2 (R1.toAcc.res R2)⟩⟩⟩
  · exact ⟨ε, own, F, _, ε', q, e1, fun v own1 F1 H1 R1 => ⟨false, R1.rep, itF <| k _ own1 F1 H1 ⟨R1.toAcc.weak fun z => (Bool.and_eq_true_iff.mp z).1, rfl⟩⟩⟩
theorem or_ok (ha : PE X a (tEv X.K cl (calm ea) (ev G ea))) (hb : PE X (.BoolOp .Or (b :: rest) pos) (tEv X.K cl (calm eb) (ev G eb))) : PE X (.BoolOp .Or (a :: b :: rest) pos) (tEv X.K cl (calm (.or ea eb)) (ev G (.or ea eb))) := by
  refine PE.imp (pe_or ha hb) fun σ H Q ⟨ε, own, F, r, ε', q, e, k⟩ => ?_
  rcases or_inv e with ⟨ε1, e1, e2⟩ | ⟨e1, rfl⟩
  · exact ⟨ε, own, F, _, ε1, q, e1, fun v own1 F1 H1 R1 => ⟨false, R1.rep, itF <| ⟨ε1, own1, F1, r, ε', R1.rel, e2, fun u own2 F2 H2 R2 => k u own2 F2 H2 (R1.toAcc.res R2)⟩⟩⟩
  · exact ⟨ε, own, F, _, ε', q, e1, fun v own1 F1 H1 R1 => ⟨true, R1.rep, itT <| k _ own1 F1 H1 ⟨R1.toAcc.weak fun z => (Bool.and_eq_true_iff.mp z).1, rfl⟩⟩⟩
theorem wand_ok (ha : PT X a (tTv X.K cl (calm ea) (ev G ea))) (hb : PW X (.BoolOp .And (b :: rest) pos) (tTv X.K cl (calm eb) (ev G eb))) : PW X (.BoolOp .And (a :: b :: rest) pos) (tTv X.K cl (calm (.and ea eb)) (ev G (.and ea eb))) := by
  refine PW.imp (pw_and ha hb) fun σ H Q ⟨ε, own, F, b, ε', q, e, k⟩ => ?_
  rcases and_inv e with ⟨ε1, e1, e2⟩ | ⟨e1, e2⟩
  · exact ⟨ε, own, F, _, ε1, q, e1, fun own1 F1 H1 A1 => itT <| ⟨ε1, own1, F1, b, ε', A1.rel, e2, fun own2 F2 H2 A2 => k own2 F2 H2 (A1.trans A2)⟩⟩
  · cases e2
    exact ⟨ε, own, F, _, ε', q, e1, fun own1 F1 H1 A1 => itF <| k own1 F1 H1 (A1.weak fun z => (Bool.and_eq_true_iff.mp z).1)⟩
theorem wor_ok (ha : PT X a (tTv X.K cl (calm ea) (ev G ea))) (hb : PW X (.BoolOp .Or (b :: rest) pos) (tTv X.K cl (calm eb) (ev G eb))) : PW X (.BoolOp .Or (a :: b :: rest) pos) (tTv X.K cl (calm (.or ea eb)) (ev G (.or ea eb))) := by
  refine PW.imp (pw_or ha hb) fun σ H Q ⟨ε, own, F, b, ε', q, e, k⟩ => ?_
  rcases or_inv e with ⟨ε1, e1, e2⟩ | ⟨e1, e2⟩
  · exact ⟨ε, own, F, _, ε1, q, e1, fun own1 F1 H1 A1 => itF <| ⟨ε1, own1, F1, b, ε', A1.rel, e2, fun own2 F2 H2 A2 => k own2 F2 H2 (A1.trans A2)⟩⟩
  · cases e2
    exact ⟨ε, own, F, _, ε', q, e1, fun own1 F1 H1 A1 => itT <| k own1 F1 H1 (A1.weak fun z => (Bool.and_eq_true_iff.mp z).1)⟩
theorem ite_ok {ce : Expr} {ec : E} (hc : PT X ce (tTv X.K cl (calm ec) (ev G ec))) (ha : PE X a (tEv X.K cl (calm ea) (ev G ea))) (hb : PE X b (tEv X.K cl (calm eb) (ev G eb))) : PE X (.IfExp ce a b pos) (tEv X.K cl (calm (.ite ec ea eb)) (ev G (.ite ec ea eb))) := by
  refine PE.imp (pe_ifExp hc ha hb) fun σ H Q ⟨ε, own, F, r, ε', q, e, k⟩ => ?_
  simp only [ev] at e
  split at e
  · rename_i ε1 h
    exact ⟨ε, own, F, _, ε1, q, h, fun own1 F1 H1 A1 => itT <| ⟨ε1, own1, F1, r, ε', A1.rel, e, fun u own2 F2 H2 R2 => k u own2 F2 H2 ((A1.res R2).weak fun z => by
      simp only [calm, Bool.and_eq_true] at z ⊢
      exact ⟨z.1, z.2.1⟩)⟩⟩
  · rename_i ε1 h
    exact ⟨ε, own, F, _, ε1, q, h, fun own1 F1 H1 A1 => itF <| ⟨ε1, own1, F1, r, ε', A1.rel, e, fun u own2 F2 H2 R2 => k u own2 F2 H2 ((A1.res R2).weak fun z => by
      simp only [calm, Bool.and_eq_true] at z ⊢
      exact ⟨z.1, z.2.2⟩)⟩⟩
  · cases e
/-! ### argument lists, displays -/
theorem frz_acc {d : D} (R1 : Res K cl c σ ε own F H ε1 own1 F1 H1 v r) (e : frz r ε1 = some (d, ε2)) : ∃ own2 F2, Acc K cl c σ ε own F H ε2 own2 F2 H1 ∧ Rp K cl F2 d v := by
  obtain ⟨own2, F2, a1, a2, a3, a4, a5, a6, a7⟩ := frz_ok R1.rel R1.rep e
  refine ⟨own2, F2, ⟨a1, ⟨R1.stp.ex.trans a2, R1.stp.keep, R1.stp.dom, fun a o h => ?_, fun a h => R1.stp.own a (a5 a h)⟩, R1.up.trans a6, fun z => ⟨(R1.cal z).1.trans a7 a6, (R1.cal z).2⟩⟩, a3⟩
  rcases a4 a o h with g | g | g
  · exact R1.stp.news a o g
  · exact .inr (.inl g)
  · rcases R1.stp.own a g with g | g
    · exact .inr (.inr g)
    · exact .inr (.inl g)
theorem pa_nil_ok : PA X [] (tAv X.K cl (calms []) (evs G [])) := PA.imp pa_nil fun σ H Q ⟨ε, own, F, ds, ε', q, e, k⟩ => by
  cases e
  exact k [] own F H (Acc.refl q) rfl
theorem pa_cons_ok {es : List Expr} {Es : List E} (ha : PE X a (tEv X.K cl (calm ea) (ev G ea))) (hr : PA X es (tAv X.K cl (calms Es) (evs G Es))) (hs : starEach (a :: es) X.env = (false, eval a X.env) :: starEach es X.env) :
    PA X (a :: es) (tAv X.K cl (calms (ea :: Es)) (evs G (ea :: Es))) := by
  refine PA.imp (pa_cons ha hr hs) fun σ H Q ⟨ε, own, F, ds, ε', q, e, k⟩ => ?_
  simp only [evs] at e
  cases e1 : ev G ea ε with
  | none => rw [e1] at e; cases e
  | some y1 =>
    obtain ⟨x, ε1⟩ := y1
    rw [e1] at e
    simp only at e
    cases e2 : frz x ε1 with
    | none => rw [e2] at e; cases e
    | some y2 =>
      obtain ⟨d, ε2⟩ := y2
      rw [e2] at e
      simp only at e
      cases e3 : evs G Es ε2 with
      | none => rw [e3] at e; cases e
      | some y3 =>
        obtain ⟨ds', ε3⟩ := y3
        rw [e3] at e
        cases e
        refine ⟨ε, own, F, x, ε1, q, e1, fun v own1 F1 H1 R1 => ?_⟩
        obtain ⟨own2, F2, A2, hd⟩ := frz_acc R1 e2
        refine ⟨ε2, own2, F2, ds', ε', A2.rel, e3, fun vs own3 F3 H3 A3 hds => ?_⟩
        exact k (v :: vs) own3 F3 H3 (A2.trans A3) ⟨v, vs, rfl, Rp.ex A3.stp.ex _ _ hd, hds⟩
theorem tup_ok {es : List Expr} {Es : List E} {kk : Nat} (h : PA X es (tAv X.K cl (calms Es) (evs G Es))) : PE X (.Tuple es kk pos) (tEv X.K cl (calm (.tup Es)) (ev G (.tup Es))) := by
  refine PE.imp (pe_tup h) fun σ H Q ⟨ε, own, F, r, ε', q, e, k⟩ => ?_
  simp only [ev] at e
  cases e1 : evs G Es ε with
  | none => rw [e1] at e; cases e
  | some y1 =>
    obtain ⟨ds, ε1⟩ := y1
    rw [e1] at e
    simp only at e
    split at e
    · rename_i hl
      cases e
      refine ⟨ε, own, F, ds, _, q, e1, fun vs own1 F1 H1 A1 hds => ⟨by rw [← hds.length]; exact hl, fun p hp => ?_⟩⟩
      have fp := A1.rel.f_none hp
      exact (Aft.of A1 k (fun j π z => by cases z)).2 (.ref p) p _ hp ⟨p, vs, rfl, upd_same, Rps.ex (Ex.new fp) _ _ hds⟩
    · cases e
theorem lst_ok {es : List Expr} {Es : List E} (h : PA X es (tAv X.K cl (calms Es) (evs G Es))) : PE X (.List es pos) (tEv X.K cl (calm (.lst Es)) (ev G (.lst Es))) := by
  refine PE.imp (pe_lst h) fun σ H Q ⟨ε, own, F, r, ε', q, e, k⟩ => ?_
  simp only [ev] at e
  cases e1 : evs G Es ε with
  | none => rw [e1] at e; cases e
  | some y1 =>
    obtain ⟨ds, ε1⟩ := y1
    rw [e1] at e
    simp only at e
    split at e
    · rename_i hl
      cases e
      refine ⟨ε, own, F, ds, _, q, e1, fun vs own1 F1 H1 A1 hds => ⟨by rw [← hds.length]; exact hl, fun p hp => ?_⟩⟩
      exact Aft.of A1 k (fun j π z => by cases z) p vs ds rfl hp hds
    · cases e
end
end PyD
set_option Elab.async false
set_option linter.all false
set_option maxRecDepth 100000
set_option maxHeartbeats 2000000
/-! PyW: subscripts, slices, built-ins, calls, methods of lists. -/
namespace PyD
open PySem L2 Evl PyProof.Rows

theorem get_snoc : ∀ (π : List Nat) {ts us vs : List T} {k : Nat}, T.get ts π = some us → us[k]? = some (.l vs) → T.get ts (π ++ [k]) = some vs
  | [], ts, us, vs, k, e, h => by
    cases e
    show T.get ts [k] = some vs
    simp only [T.get, h]
  | m :: π, ts, us, vs, k, e, h => by
    simp only [T.get] at e
    split at e
    · rename_i ws hk
      show T.get ts (m :: (π ++ [k])) = some vs
      simp only [T.get, hk]
      exact get_snoc π e h
    · cases e
theorem at_snoc : ∀ (π : List Nat) {c c' : AT} {p : Addr} {cs : List AT} {k : Nat}, AT.get c π = some (.node p cs) → cs[k]? = some c' → AT.get c (π ++ [k]) = some c'
  | [], c, c', p, cs, k, e, h => by
    rw [at_nil] at e
    cases e
    show AT.get (.node p cs) [k] = some c'
    simp only [AT.get, h]
  | m :: π, .node q ds, c', p, cs, k, e, h => by
    simp only [AT.get] at e
    cases hk : ds[m]? with
    | none => rw [hk] at e; cases e
    | some d =>
      rw [hk] at e
      show AT.get (.node q ds) (m :: (π ++ [k])) = some c'
      simp only [AT.get, hk]
      exact at_snoc π e h
  | m :: π, .leaf, c', p, cs, k, e, h => by cases e
section
variable {K : PySem.W.Frag} {cl : Nat → Addr} {σ : L2.St} {ε : Env} {own : Nat → AT} {H0 F H : Hp} {v : V} {r x : R}
theorem ixD_ok (e : Ex F H) {d dr : D} {n : Int} (h : Rp K cl F d v) (g : ixD d (.int n) = some dr) : ∃ p xs w, v = .ref p ∧ (SqL K H p xs ∨ SqT K H p xs) ∧ atI xs n = some w ∧ Rp K cl F dr w := by
  cases d with
  | tup ds =>
    obtain ⟨a, xs, rfl, h1, h2⟩ := h
    obtain ⟨w, g1, g2⟩ := atI_rps h2 (show atI ds n = some dr from g)
    exact ⟨a, xs, w, rfl, .inr (SqT.of (e _ _ h1)), g1, g2⟩
  | lst ds =>
    obtain ⟨a, xs, rfl, h1, h2⟩ := h
    obtain ⟨w, g1, g2⟩ := atI_rps h2 (show atI ds n = some dr from g)
    exact ⟨a, xs, w, rfl, .inl (SqL.of (e _ _ h1)), g1, g2⟩
  | frl ds =>
    obtain ⟨a, xs, rfl, h1, h2⟩ := h
    obtain ⟨w, g1, g2⟩ := atI_rps h2 (show atI ds n = some dr from g)
    exact ⟨a, xs, w, rfl, .inl (ex_l e h1), g1, g2⟩
  | ktp ds =>
    obtain ⟨a, xs, rfl, h1, h2⟩ := h
    obtain ⟨w, g1, g2⟩ := atI_rps h2 (show atI ds n = some dr from g)
    exact ⟨a, xs, w, rfl, .inr (ex_t e h1), g1, g2⟩
  | _ => cases g
theorem ixR_ok (q : Rel K cl σ ε own F H) {n : Int} (h : RepR K cl σ ε own H0 F H v x) (g : ixR x ε (.int n) = some r) : ∃ p xs w, v = .ref p ∧ (SqL K H p xs ∨ SqT K H p xs) ∧ atI xs n = some w ∧ ∀ H1, RepR K cl σ ε own H1 F H w r := by
  cases x with
  | sh d =>
    simp only [ixR] at g
    cases z : ixD d (.int n) with
    | none => rw [z] at g; cases g
    | some dr =>
      rw [z] at g
      cases g
      obtain ⟨p, xs, w, h1, h2, h3, h4⟩ := ixD_ok q.sub h z
      exact ⟨p, xs, w, h1, h2, h3, fun _ => h4⟩
  | fr ts =>
    obtain ⟨c, ⟨p, cs, xs, rfl, rfl, h1, h2, h3⟩, _⟩ := h
    simp only [ixR] at g
    cases z : ixN ts.length n with
    | none => rw [z] at g; cases g
    | some k =>
      rw [z] at g
      simp only [Option.bind_some] at g
      split at g
      · rename_i d hk
        cases g
        obtain ⟨w, c', e1, e2, e3, e4⟩ := h3.nth hk
        refine ⟨p, xs, w, rfl, .inl (SqL.of h2), ?_, fun _ => e4⟩
        unfold atI
        rw [← h3.len.1, z]
        exact e1
      · cases g
  | pt j π =>
    simp only [ixR] at g
    rcases h with ⟨ts, us, p, cs, h1, h2, h3, rfl⟩ | ⟨d, d', h1, h2, h3⟩
    · rw [h1] at g
      simp only [h2] at g
      obtain ⟨v0, _, h4⟩ := q.ow j ts h1
      obtain ⟨p', cs', xs, g1, g2, g3, g4, _⟩ := RT.path π h4 h2
      rw [h3] at g1
      cases g1
      cases z : ixN us.length n with
      | none => rw [z] at g; cases g
      | some k =>
        rw [z] at g
        simp only at g
        have at_ : ∀ {w : V}, xs[k]? = some w → atI xs n = some w := fun e1 => by
          unfold atI
          rw [← g4.len.1, z]
          exact e1
        split at g
        · rename_i d hk
          cases g
          obtain ⟨w, c', e1, e2, e3, e4⟩ := g4.nth hk
          exact ⟨p, xs, w, rfl, .inl (SqL.of g3), at_ e1, fun _ => e4⟩
        · rename_i vs hk
          cases g
          obtain ⟨w, c', e1, e2, e3⟩ := g4.nth hk
          obtain ⟨p2, cs2, xs2, rfl, rfl, _⟩ := e3
          exact ⟨p, xs, _, rfl, .inl (SqL.of g3), at_ e1, fun _ => .inl ⟨ts, vs, p2, cs2, h1, get_snoc π h2 hk, at_snoc π h3 e2, rfl⟩⟩
        · cases g
    · rw [h1] at g
      simp only [h2] at g
      cases z : ixD d' (.int n) with
      | none => rw [z] at g; cases g
      | some dr =>
        rw [z] at g
        cases g
        obtain ⟨p, xs, w, e1, e2, e3, e4⟩ := ixD_ok q.sub h3 z
        exact ⟨p, xs, w, e1, e2, e3, fun _ => e4⟩
variable {X : Cx} {a b lo hi : Expr} {ea eb el eh : E} {G : List Fn} {pos p2 : Pos} {Q : VK}
theorem ixR_int {y : D} (g : ixR x ε y = some r) : ∃ n, y = .int n := by
  cases y with
  | int n => exact ⟨n, rfl⟩
  | _ => cases g
theorem ix_ok (ha : PE X a (tEv X.K cl (calm ea) (ev G ea))) (hb : PE X b (tEv X.K cl (calm eb) (ev G eb))) (hs : PlainIx b) : PE X (.Subscript a b pos) (tEv X.K cl (calm (.ix ea eb)) (ev G (.ix ea eb))) := by
  refine PE.imp (pe_ix ix_seq ha hb hs) fun σ H Q ⟨ε, own, F, r, ε', q, e, k⟩ => ?_
  simp only [ev] at e
  cases e1 : ev G ea ε with
  | none => rw [e1] at e; cases e
  | some y1 =>
    obtain ⟨x, ε1⟩ := y1
    rw [e1] at e
    simp only at e
    split at e
    · rename_i y ε2 e2
      split at e
      · rename_i hw
        cases e3 : ixR x ε2 y with
        | none => rw [e3] at e; cases e
        | some r' =>
          rw [e3] at e
          cases e
          refine ⟨ε, own, F, x, ε1, q, e1, fun v own1 F1 H1 R1 => ⟨ε1, own1, F1, _, _, R1.rel, e2, fun u own2 F2 H2 R2 => ?_⟩⟩
          have rx := R1.later q R2.toAcc (waits_ok hw)
          obtain ⟨n, rfl⟩ := ixR_int e3
          cases (show u = .int n from R2.rep)
          obtain ⟨p, xs, w, h1, h2, h3, h4⟩ := ixR_ok R2.rel rx e3
          have fin := k w own2 F2 H2 ⟨R1.toAcc.trans R2.toAcc, h4 H⟩
          rcases h2 with h2 | h2
          · exact .inl ⟨p, xs, n, w, h1, rfl, h2, h3, fin⟩
          · exact .inr (.inl ⟨p, xs, n, w, h1, rfl, h2, h3, fin⟩)
      · cases e
    · cases e
/-! ### slices -/
def rSlD (K : PySem.W.Frag) (cl : Nat → Addr) : V → Option Int → Option Int → Hp → VK → Prop := fun x lo hi H Q => ∃ F d r, Ex F H ∧ Pk K cl F H d x ∧ slcD d lo hi = some r ∧ Aft K cl F H Q r
theorem sl_ok : SlR X (rSlD X.K cl) := by
  intro pins s σ H x v vl vu lo hi sl Q I rx hs pl pu h
  obtain ⟨F, d, r, e, hx, g, q⟩ := h
  cases d with
  | lst ds =>
    cases g
    obtain ⟨a, xs, h1, h2, h3⟩ := hx.lst e
    exact sl_list pins s σ H x v vl vu lo hi sl Q I rx hs pl pu ⟨a, xs, h1, SqL.of h2, fun p hp => q p _ _ rfl hp (cut_rps h3 lo hi)⟩
  | tup ds =>
    cases g
    obtain ⟨a, xs, h1, h2, h2f, h3⟩ := hx.tup e
    by_cases w : HT.sIx xs.length 0 lo = 0 ∧ HT.sIx xs.length xs.length hi = xs.length
    · refine sl_tupAll pins s σ H x v vl vu lo hi sl Q I rx hs pl pu ⟨a, xs, h1, SqT.of h2, w.1, w.2, q.1 _ ⟨a, xs, rfl, h2f, ?_⟩⟩
      have hl := h3.length
      unfold cutD
      rw [hl, w.1, w.2, List.drop_zero, Nat.sub_zero, List.take_of_length_le (by omega)]
      exact h3
    · refine sl_tup pins s σ H x v vl vu lo hi sl Q I rx hs pl pu ⟨a, xs, h1, SqT.of h2, w, fun p hp => ?_⟩
      have fp : F p = none := by
        cases z : F p with
        | none => rfl
        | some o => rw [e _ _ z] at hp; cases hp
      exact q.2 _ p _ hp ⟨p, _, rfl, upd_same, Rps.ex (Ex.new fp) _ _ (cut_rps h3 lo hi)⟩
  | _ => cases g
theorem slc_np {d : D} {lo hi : Option Int} (g : slcD d lo hi = some r) : ∀ j π, r ≠ .pt j π := by
  intro j π z
  subst z
  cases d <;> cases g
theorem slc_ok (ha : PE X a (tEv X.K cl (calm ea) (ev G ea))) (hl : PE X lo (tEv X.K cl (calm el) (ev G el))) (hh : PE X hi (tEv X.K cl (calm eh) (ev G eh))) : PE X (.Subscript a (.Slice (some lo) (some hi) none p2) pos) (tEv X.K cl (calm (.slc ea el eh)) (ev G (.slc ea el eh))) := by
  refine PE.imp (pe_slice (sl_ok (cl := cl)) ha (po_some hl) (po_some hh)) fun σ H Q ⟨ε, own, F, r, ε', q, e, k⟩ => ?_
  simp only [ev] at e
  cases e1 : ev G ea ε with
  | none => rw [e1] at e; cases e
  | some y1 =>
    obtain ⟨x, ε1⟩ := y1
    rw [e1] at e
    simp only at e
    split at e
    · rename_i i ε2 e2
      split at e
      · rename_i j ε3 e3
        split at e
        · rename_i dx hw hx
          rw [Bool.and_eq_true] at hw
          cases e4 : slcD dx (some i) (some j) with
          | none => rw [e4] at e; cases e
          | some r' =>
            rw [e4] at e
            cases e
            refine ⟨ε, own, F, x, ε1, q, e1, fun v own1 F1 H1 R1 => ⟨ε1, own1, F1, _, _, R1.rel, e2, fun u own2 F2 H2 R2 => ⟨i, R2.rep, ε2, own2, F2, _, _, R2.rel, e3, fun u' own3 F3 H3 R3 => ⟨j, R3.rep, ?_⟩⟩⟩⟩
            have rx := R1.later q (R2.toAcc.trans R3.toAcc) fun z => by rw [waits_ok hw.1 z, waits_ok hw.2 z]; rfl
            exact ⟨F3, dx, _, R3.rel.sub, peek_ok R3.rel rx hx, e4, Aft.of ((R1.toAcc.trans R2.toAcc).trans R3.toAcc) k (slc_np e4)⟩
        · cases e
      · cases e
    · cases e
theorem slcF_ok (ha : PE X a (tEv X.K cl (calm ea) (ev G ea))) (hl : PE X lo (tEv X.K cl (calm el) (ev G el))) : PE X (.Subscript a (.Slice (some lo) none none p2) pos) (tEv X.K cl (calm (.slcF ea el)) (ev G (.slcF ea el))) := by
  refine PE.imp (pe_slice (sl_ok (cl := cl)) ha (po_some hl) po_none) fun σ H Q ⟨ε, own, F, r, ε', q, e, k⟩ => ?_
  simp only [ev] at e
  cases e1 : ev G ea ε with
  | none => rw [e1] at e; cases e
  | some y1 =>
    obtain ⟨x, ε1⟩ := y1
    rw [e1] at e
    simp only at e
    split at e
    · rename_i i ε2 e2
      split at e
      · rename_i dx hw hx
        cases e4 : slcD dx (some i) none with
        | none => rw [e4] at e; cases e
        | some r' =>
          rw [e4] at e
          cases e
          refine ⟨ε, own, F, x, ε1, q, e1, fun v own1 F1 H1 R1 => ⟨ε1, own1, F1, _, _, R1.rel, e2, fun u own2 F2 H2 R2 => ⟨i, R2.rep, ?_⟩⟩⟩
          have rx := R1.later q R2.toAcc (waits_ok hw)
          exact ⟨F2, dx, _, R2.rel.sub, peek_ok R2.rel rx hx, e4, Aft.of (R1.toAcc.trans R2.toAcc) k (slc_np e4)⟩
      · cases e
    · cases e
theorem slcT_ok (ha : PE X a (tEv X.K cl (calm ea) (ev G ea))) (hl : PE X hi (tEv X.K cl (calm eh) (ev G eh))) : PE X (.Subscript a (.Slice none (some hi) none p2) pos) (tEv X.K cl (calm (.slcT ea eh)) (ev G (.slcT ea eh))) := by
  refine PE.imp (pe_slice (sl_ok (cl := cl)) ha po_none (po_some hl)) fun σ H Q ⟨ε, own, F, r, ε', q, e, k⟩ => ?_
  simp only [ev] at e
  cases e1 : ev G ea ε with
  | none => rw [e1] at e; cases e
  | some y1 =>
    obtain ⟨x, ε1⟩ := y1
    rw [e1] at e
    simp only at e
    split at e
    · rename_i i ε2 e2
      split at e
      · rename_i dx hw hx
        cases e4 : slcD dx none (some i) with
        | none => rw [e4] at e; cases e
        | some r' =>
          rw [e4] at e
          cases e
          refine ⟨ε, own, F, x, ε1, q, e1, fun v own1 F1 H1 R1 => ⟨ε1, own1, F1, _, _, R1.rel, e2, fun u own2 F2 H2 R2 => ⟨i, R2.rep, ?_⟩⟩⟩
          have rx := R1.later q R2.toAcc (waits_ok hw)
          exact ⟨F2, dx, _, R2.rel.sub, peek_ok R2.rel rx hx, e4, Aft.of (R1.toAcc.trans R2.toAcc) k (slc_np e4)⟩
      · cases e
    · cases e
/-! ### built-ins -/
theorem b1_np {bb : B1} {d : D} (g : b1D bb d = some r) : ∀ j π, r ≠ .pt j π := by
  intro j π z
  subst z
  have m : ∀ {α : Type} {o : Option α} {f : α → R}, o.map f = some (.pt j π) → (∀ a, f a ≠ .pt j π) → False := fun {α o f} h w => by
    cases o with
    | none => cases h
    | some a => exact w a (Option.some.inj h)
  cases bb <;> cases d <;> first
    | (simp only [b1D, srtD] at g; first | (exact m g fun a z => by cases z) | (split at g <;> cases g) | cases g)
    | cases g
theorem b1_ok' (hc : X.calm = true) (bb : B1) {p : Pos} (ha : PE X a (tEv X.K cl (calm ea) (ev G ea))) (hp : PE X (.Call (.Name (b1N bb) p) [a] [] pos) (tCB (rB1 X.K cl bb) (tCons (tEv X.K cl (calm ea) (ev G ea)) tNil))) :
    PE X (.Call (.Name (b1N bb) p) [a] [] pos) (tEv X.K cl (calm (.b1 bb ea)) (ev G (.b1 bb ea))) := by
  refine PE.imp hp fun σ H Q ⟨ε, own, F, r, ε', q, e, k⟩ => ?_
  simp only [ev] at e
  cases e1 : ev G ea ε with
  | none => rw [e1] at e; cases e
  | some y1 =>
    obtain ⟨x, ε1⟩ := y1
    rw [e1] at e
    simp only at e
    cases hx : (if bb.deep then peekH x ε1 else peek x ε1) with
    | none => rw [hx] at e; cases e
    | some d =>
      rw [hx] at e
      simp only [Option.bind_some] at e
      cases e4 : b1D bb d with
      | none => rw [e4] at e; cases e
      | some r' =>
        rw [e4] at e
        cases e
        refine ⟨ε, own, F, x, _, q, e1, fun v own1 F1 H1 R1 => ⟨F1, v, d, _, R1.rel.sub, rfl, ?_, e4, Aft.of R1.toAcc k (b1_np e4)⟩⟩
        unfold See
        split
        · rename_i hb
          rw [if_pos hb] at hx
          exact peekH_ok R1.rel R1.rep hx
        · rename_i hb
          rw [if_neg hb] at hx
          exact peek_ok R1.rel R1.rep hx
theorem b2_np {bb : B2} {d d' : D} (g : b2D bb d d' = some r) : ∀ j π, r ≠ .pt j π := by
  intro j π z
  subst z
  cases bb <;> cases d <;> cases d' <;> cases g
theorem b2_ok' (bb : B2) {n : Str} {p : Pos} (hp : PE X (.Call (.Name n p) [a, b] [] pos) (tCB (rB2c X.K cl bb) (tCons (tEv X.K cl (calm ea) (ev G ea)) (tCons (tEv X.K cl (calm eb) (ev G eb)) tNil)))) :
    PE X (.Call (.Name n p) [a, b] [] pos) (tEv X.K cl (calm (.b2 bb ea eb)) (ev G (.b2 bb ea eb))) := by
  refine PE.imp hp fun σ H Q ⟨ε, own, F, r, ε', q, e, k⟩ => ?_
  simp only [ev] at e
  split at e
  · rename_i dx ε1 e1
    split at e
    · rename_i dy ε2 e2
      cases e4 : b2D bb dx dy with
      | none => rw [e4] at e; cases e
      | some r' =>
        rw [e4] at e
        cases e
        refine ⟨ε, own, F, _, ε1, q, e1, fun v own1 F1 H1 R1 => ⟨ε1, own1, F1, _, _, R1.rel, e2, fun u own2 F2 H2 R2 => ?_⟩⟩
        exact ⟨F2, v, u, dx, dy, _, rfl, Rp.ex R2.stp.ex _ _ R1.rep, R2.rep, e4, Aft.of (R1.toAcc.trans R2.toAcc) k (b2_np e4)⟩
    · cases e
  · cases e
theorem isi_ok' (t : Ty) {n : Str} {p pt : Pos} (hp : PE X (.Call (.Name n p) [a, b] [] pos) (tCB (rIsiD X.K cl t) (tCons (tEv X.K cl (calm ea) (ev G ea)) (tCons (tC (.ty (tyV' t))) tNil)))) :
    PE X (.Call (.Name n p) [a, b] [] pos) (tEv X.K cl (calm (.isi ea t)) (ev G (.isi ea t))) := by
  refine PE.imp hp fun σ H Q ⟨ε, own, F, r, ε', q, e, k⟩ => ?_
  simp only [ev] at e
  cases e1 : ev G ea ε with
  | none => rw [e1] at e; cases e
  | some y1 =>
    obtain ⟨x, ε1⟩ := y1
    rw [e1] at e
    simp only at e
    cases hx : peekH x ε1 with
    | none => rw [hx] at e; cases e
    | some d =>
      rw [hx] at e
      simp only [Option.bind_some] at e
      cases e4 : isiD d t with
      | none => rw [e4] at e; cases e
      | some b' =>
        rw [e4] at e
        cases e
        refine ⟨ε, own, F, x, _, q, e1, fun v own1 F1 H1 R1 => ?_⟩
        exact ⟨v, d, b', rfl, peekH_ok R1.rel R1.rep hx, e4, k _ own1 F1 H1 ⟨R1.toAcc, rfl⟩⟩
/-! ### a field -/
theorem rpf_look : ∀ {fs : List (Str × D)} {vs : List (Str × V)} {f : Str} {d : D}, Rpf K cl F fs vs → fs.lookup f = some d → ∃ w, vs.lookup f = some w ∧ Rp K cl F d w
  | [], _, _, _, _, e => by cases e
  | (g, d') :: fs, _, f, d, h, e => by
    obtain ⟨x, r, rfl, h1, h2⟩ := h
    rw [List.lookup_cons] at e ⊢
    cases z : f == g with
    | true => rw [z] at e; cases e; exact ⟨x, rfl, h1⟩
    | false => rw [z] at e; exact rpf_look h2 e
theorem fld_ok {f : Str} {cs : List Nat} (hc : ∀ c ∈ cs, Cls X.K (cl c) ∧ NoAttr X.K (cl c) f) (ha : PE X a (tEv X.K cl (calm ea) (ev G ea))) (hb : attributeBase a f X.env (eval a X.env) = eval a X.env) : PE X (.Attribute a f pos) (tEv X.K cl (calm (.fld ea f cs)) (ev G (.fld ea f cs))) := by
  refine PE.imp (pe_fld ha hb) fun σ H Q ⟨ε, own, F, r, ε', q, e, k⟩ => ?_
  simp only [ev] at e
  split at e
  · rename_i c fs ε1 e1
    split at e
    · rename_i hm
      cases e2 : fs.lookup f with
      | none => rw [e2] at e; cases e
      | some d =>
        rw [e2] at e
        cases e
        refine ⟨ε, own, F, _, _, q, e1, fun v own1 F1 H1 R1 => ?_⟩
        obtain ⟨b, dx, vs, rfl, h1, h2⟩ := R1.rep
        obtain ⟨w, w1, w2⟩ := rpf_look h2 e2
        exact ⟨b, cl c, dx, vs, w, rfl, R1.rel.sub _ _ h1, (hc c hm).1, (hc c hm).2, w1, k w own1 F1 H1 ⟨R1.toAcc, w2⟩⟩
    · cases e
  · cases e
/-! ### a def's promise over plain data -/
def RepF (K : PySem.W.Frag) (cl : Nat → Addr) (H F' H' : Hp) (v : V) : R → Prop
  | .sh d => Rp K cl F' d v
  | .fr ts => ∃ c, RT K cl F' H' (.l ts) v c ∧ (AT.all c).Nodup ∧ ∀ a ∈ AT.all c, H a = none
  | .pt _ _ => False
structure StpF (F H F' H' : Hp) : Prop where
  ex : Ex F F'
  keep : Ex H H'
  dom : ∀ a, H' a = none → H a = none
  news : ∀ a o, F' a = some o → F a = some o ∨ H a = none
  sub : Ex F' H'
def spD (K : PySem.W.Frag) (cl : Nat → Addr) (f : Fn) : Sp := fun vs H Q _ => ∃ F ds r, Ex F H ∧ Rps K cl F ds vs ∧ f ds = some r ∧ ∀ v F' H', StpF F H F' H' → RepF K cl H F' H' v r → Q v H'
/-- behind a call -/
theorem Acc.call {c : Bool} {ε1 : Env} {own1 : Nat → AT} {F1 H1 F2 H2 : Hp} (a : Acc K cl c σ ε own F H ε1 own1 F1 H1) (s : StpF F1 H1 F2 H2) (h : RepF K cl H1 F2 H2 v r) : Res K cl c σ ε own F H ε1 own1 F2 H2 v r := by
  have nF : ∀ b, Own own1 b → F2 b = none := fun b m => by
    obtain ⟨e1, xs, e2⟩ := a.rel.own_lst m
    cases z : F2 b with
    | none => rfl
    | some o =>
      rcases s.news b o z with w | w
      · rw [e1] at w; cases w
      · rw [e2] at w; cases w
  have rel : Rel K cl σ ε1 own1 F2 H2 := a.rel.grow s.ex s.keep s.sub nF
  have stp1 : Stp (Own own1) (Own own1) F1 H1 F2 H2 := ⟨s.ex, fun b o e _ => s.keep b o e, s.dom, fun b o e => (s.news b o e).elim .inl fun z => .inr (.inl z), fun b m => .inl m⟩
  refine ⟨⟨rel, a.stp.trans stp1, a.up, fun z => ⟨(a.cal z).1, (a.cal z).2.trans s.keep⟩⟩, ?_⟩
  cases r with
  | sh d => exact h
  | fr ts =>
    obtain ⟨c, h1, h2, h3⟩ := h
    refine ⟨c, h1, h2, fun b m => ⟨a.stp.dom b (h3 b m), fun z => ?_⟩⟩
    obtain ⟨_, xs, e2⟩ := a.rel.own_lst z
    rw [h3 b m] at e2
    cases e2
  | pt j π => exact h.elim
theorem call_ok {es : List Expr} {Es : List E} {j : Nat} {f : Fn} {n : Str} {p : Pos} (hj : G[j]? = some f) (hp : PE X (.Call (.Name n p) es [] pos) (fun σ H Q => tAv X.K cl (calms Es) (evs G Es) σ H fun vs H1 => spD X.K cl f vs H1 Q fun _ _ _ => False)) :
    PE X (.Call (.Name n p) es [] pos) (tEv X.K cl (calm (.call j Es)) (ev G (.call j Es))) := by
  refine PE.imp hp fun σ H Q ⟨ε, own, F, r, ε', q, e, k⟩ => ?_
  simp only [ev] at e
  cases e1 : evs G Es ε with
  | none => rw [e1] at e; cases e
  | some y1 =>
    obtain ⟨ds, ε1⟩ := y1
    rw [e1] at e
    simp only [callD, hj] at e
    cases e2 : f ds with
    | none => rw [e2] at e; cases e
    | some r' =>
      rw [e2] at e
      cases e
      refine ⟨ε, own, F, ds, _, q, e1, fun vs own1 F1 H1 A1 hds => ⟨F1, ds, _, A1.rel.sub, hds, e2, fun v F2 H2 s h => k v own1 F2 H2 (A1.call s h)⟩⟩
end
end PyD
set_option Elab.async false
set_option linter.all false
set_option maxRecDepth 100000
set_option maxHeartbeats 2000000
/-! PyX: lists of names changed; small statements. -/
namespace PyD
open PySem L2 Evl PyProof.Rows

section
variable {K : PySem.W.Frag} {cl : Nat → Addr} {σ : L2.St} {ε ε0 : Env} {own own0 : Nat → AT} {H0 F0 F H : Hp} {v : V} {r x : R} {c : Bool}
theorem RTs.wr {p : Addr} {o : HO} {ts : List T} {xs : List V} {cs : List AT} (h : RTs K cl F H ts xs cs) (np : p ∉ AT.alls cs) : RTs K cl F (upd H p o) ts xs cs :=
  RTs.mono (Ex.refl F) ts xs cs (fun a m => (RTs.lst ts xs cs h a m).1) (fun a m u e => by rw [upd_ne (by rintro rfl; exact np m)]; exact e) h
theorem RT.wr {p : Addr} {o : HO} {t : T} {x : V} {c : AT} (h : RT K cl F H t x c) (np : p ∉ AT.all c) : RT K cl F (upd H p o) t x c :=
  RT.mono (Ex.refl F) t x c (fun a m => (RT.lst t x c h a m).1) (fun a m u e => by rw [upd_ne (by rintro rfl; exact np m)]; exact e) h
theorem Rel.write {N : Addr → Prop} {j : Nat} {π : List Nat} {ts us us' : List T} {p : Addr} {cs cs' : List AT} {xs' : List V} (q : Rel K cl σ ε own F H) (hj : gt ε j = some (.ow ts)) (hu : T.get ts π = some us) (hc : AT.get (own j) π = some (.node p cs))
    (hr : RTs K cl F (L2.upd H p (.lst xs')) us' xs' cs') (n' : (AT.alls cs').Nodup) (np : p ∉ AT.alls cs') (sub : ∀ a ∈ AT.alls cs', a ∈ AT.alls cs ∨ N a) (nn : ∀ a, N a → ¬ Own own a)
    (hp : ∀ (k : Nat) (vs : List T), us[k]? = some (T.l vs) → us'[k]? = some (T.l vs) ∧ cs'[k]? = cs[k]?) :
    ∃ own', Rel K cl σ (st ε j (some (.ow (T.put ts π us')))) own' F (L2.upd H p (.lst xs')) ∧ (∀ a, Own own' a → Own own a ∨ N a) ∧ Own own p := by
  obtain ⟨v0, f1, f2⟩ := q.ow j ts hj
  have hpj : p ∈ AT.all (own j) := at_mem π hc p List.mem_cons_self
  have Fp : F p = none := (q.own_lst ⟨j, hpj⟩).1
  have lt := gt_lt hj
  obtain ⟨m1, m2⟩ := AT.put_ok n' np sub π hc (q.nd j) fun a hN m => nn a hN ⟨j, m⟩
  have own_of : ∀ a, a ∈ AT.all (AT.put (own j) π (.node p cs')) → Own own a ∨ N a := fun a m => (m2 a m).elim (fun z => .inl ⟨j, z⟩) .inr
  have hH : ∀ a o, a ≠ p → H a = some o → L2.upd H p (.lst xs') a = some o := fun a o ne e => by rw [upd_ne ne]; exact e
  have old : ∀ k, k ≠ j → ∀ a ∈ AT.all (own k), a ≠ p := fun k ne a m z => by subst z; exact q.dj k j ne a m hpj
  refine ⟨fun k => if k = j then AT.put (own j) π (.node p cs') else own k, ⟨fun a o e => ?_, by rw [st_length]; exact q.len, fun k d hk => ?_, fun k ts' hk => ?_, fun k hk => ?_, fun k => ?_, fun k l kl a ma => ?_, fun k l ρ hk => ?_⟩, fun a m => ?_, ⟨j, hpj⟩⟩
  · exact hH a o (fun z => by subst z; rw [Fp] at e; cases e) (q.sub a o e)
  · have ne : k ≠ j := fun z => by subst z; rw [gt_st_same _ _ _ lt] at hk; cases hk
    rw [gt_st_ne _ _ _ _ ne] at hk
    exact q.sh k d hk
  · by_cases ne : k = j
    · subst ne
      rw [gt_st_same _ _ _ lt] at hk
      cases hk
      refine ⟨v0, f1, ?_⟩
      rw [if_pos rfl]
      exact RT.putP hH upd_same hr π f2 hu hc (q.nd k)
    · rw [gt_st_ne _ _ _ _ ne] at hk
      obtain ⟨w, g1, g2⟩ := q.ow k ts' hk
      refine ⟨w, g1, ?_⟩
      rw [if_neg ne]
      exact RT.wr g2 fun m => old k ne p m rfl
  · by_cases ne : k = j
    · subst ne
      exact absurd (gt_st_same _ _ _ lt) (hk _)
    · simp only [if_neg ne]
      refine q.no k fun ts' z => hk ts' ?_
      rw [gt_st_ne _ _ _ _ ne, z]
  · by_cases ne : k = j
    · simp only [if_pos ne]; exact m1
    · simp only [if_neg ne]; exact q.nd k
  · by_cases ne : k = j
    · simp only [if_pos ne] at ma
      have nl : l ≠ j := fun z => kl (ne.trans z.symm)
      simp only [if_neg nl]
      rcases m2 a ma with z | z
      · exact q.dj j l (fun y => nl y.symm) a z
      · exact fun y => nn a z ⟨l, y⟩
    · simp only [if_neg ne] at ma
      by_cases nl : l = j
      · simp only [if_pos nl]
        intro z
        rcases m2 a z with z | z
        · exact q.dj k j ne a ma z
        · exact nn a z ⟨k, ma⟩
      · simp only [if_neg nl]; exact q.dj k l kl a ma
  · have ne : k ≠ j := fun z => by subst z; rw [gt_st_same _ _ _ lt] at hk; cases hk
    rw [gt_st_ne _ _ _ _ ne] at hk
    obtain ⟨p', ds, ts', us2, g1, g2, g3, g4⟩ := q.al k l ρ hk
    by_cases nl : l = j
    · subst nl
      rw [hj] at g2
      cases g2
      obtain ⟨⟨w', i1⟩, ds', i2⟩ := put_paths (fun k vs e => (hp k vs e).1) (fun k vs e => (hp k vs e).2) π ρ hu hc g3 g4
      exact ⟨p', ds', _, w', g1, gt_st_same _ _ _ lt, i1, by simp only [if_pos]; exact i2⟩
    · exact ⟨p', ds, ts', us2, g1, by rw [gt_st_ne _ _ _ _ nl]; exact g2, g3, by simp only [if_neg nl]; exact g4⟩
  · obtain ⟨k, m⟩ := m
    by_cases ne : k = j
    · simp only [if_pos ne] at m; exact own_of a m
    · simp only [if_neg ne] at m; exact .inl ⟨k, m⟩
theorem up_write {j : Nat} {w : List T} (h : ∃ ts, gt ε j = some (.ow ts)) : Up ε (st ε j (some (.ow w))) := by
  obtain ⟨ts, h⟩ := h
  refine ⟨fun k d e => ?_, fun k us e => ?_⟩
  · rw [gt_st_ne _ _ _ _ (fun z => by subst z; rw [h] at e; cases e)]; exact e
  · by_cases ne : k = j
    · subst ne; exact .inl ⟨_, gt_st_same _ _ _ (gt_lt h)⟩
    · exact .inl ⟨us, by rw [gt_st_ne _ _ _ _ ne]; exact e⟩
theorem Acc.write {N : Addr → Prop} {j : Nat} {π : List Nat} {ts us us' : List T} {p : Addr} {cs cs' : List AT} {xs' : List V} (A : Acc K cl c σ ε0 own0 F0 H0 ε own F H) (nN : ∀ a, N a → H0 a = none) (hj : gt ε j = some (.ow ts)) (hu : T.get ts π = some us) (hc : AT.get (own j) π = some (.node p cs))
    (hr : RTs K cl F (L2.upd H p (.lst xs')) us' xs' cs') (n' : (AT.alls cs').Nodup) (np : p ∉ AT.alls cs') (sub : ∀ a ∈ AT.alls cs', a ∈ AT.alls cs ∨ N a) (nn : ∀ a, N a → ¬ Own own a)
    (hp : ∀ (k : Nat) (vs : List T), us[k]? = some (T.l vs) → us'[k]? = some (T.l vs) ∧ cs'[k]? = cs[k]?) :
    ∃ own', Acc K cl false σ ε0 own0 F0 H0 (st ε j (some (.ow (T.put ts π us')))) own' F (L2.upd H p (.lst xs')) := by
  obtain ⟨own', r1, r2, r3⟩ := A.rel.write hj hu hc hr n' np sub nn hp
  refine ⟨own', r1, ⟨A.stp.ex, fun a o e n => ?_, fun a e => ?_, A.stp.news, fun a m => ?_⟩, A.up.trans (up_write ⟨ts, hj⟩), fun z => by cases z⟩
  · rw [upd_ne fun z => ?_]
    · exact A.stp.keep a o e n
    · subst z
      rcases A.stp.own a r3 with w | w
      · exact n w
      · rw [w] at e; cases e
  · by_cases z : a = p
    · subst z; rw [upd_same] at e; cases e
    · rw [upd_ne z] at e; exact A.stp.dom a e
  · rcases r2 a m with z | z
    · exact A.stp.own a z
    · exact .inr (nN a z)
theorem locate_var {G : List Fn} {i j : Nat} {π : List Nat} (h : locate ε i = some (j, π)) : ev G (.var i) ε = some (.pt j π, ε) := by
  unfold locate at h
  simp only [ev]
  cases w : gt ε i with
  | none => rw [w] at h; cases h
  | some w' =>
    rw [w] at h
    cases w' with
    | sh d => cases h
    | ow ts => cases h; rfl
    | al j' π' => cases h; rfl
theorem listAt_inv {j : Nat} {π : List Nat} {ts us : List T} (h : listAt ε j π = some (ts, us)) : gt ε j = some (.ow ts) ∧ T.get ts π = some us := by
  unfold listAt at h
  split at h
  · rename_i ts' w
    cases z : T.get ts' π with
    | none => rw [z] at h; cases h
    | some us' =>
      rw [z] at h
      cases h
      exact ⟨w, z⟩
  · cases h
/-- the list itself -/
theorem pt_list {j : Nat} {π : List Nat} {ts us : List T} (q : Rel K cl σ ε own F H) (h : RepR K cl σ ε own H0 F H v (.pt j π)) (l : listAt ε j π = some (ts, us)) : ∃ p cs xs, v = .ref p ∧ gt ε j = some (.ow ts) ∧ T.get ts π = some us ∧ AT.get (own j) π = some (.node p cs) ∧ H p = some (.lst xs) ∧ RTs K cl F H us xs cs ∧ (AT.alls cs).Nodup ∧ p ∉ AT.alls cs := by
  obtain ⟨l1, l2⟩ := listAt_inv l
  rcases h with ⟨ts', us', p, cs, h1, h2, h3, rfl⟩ | ⟨d, d', h1, h2, h3⟩
  · rw [l1] at h1
    cases h1
    rw [l2] at h2
    cases h2
    obtain ⟨v0, _, h4⟩ := q.ow j ts l1
    obtain ⟨p', cs', xs, g1, g2, g3, g4, g5⟩ := RT.path π h4 l2
    rw [h3] at g1
    cases g1
    have nd : ∀ (π : List Nat) {c : AT} {p : Addr} {cs : List AT}, (AT.all c).Nodup → AT.get c π = some (.node p cs) → (p :: AT.alls cs).Nodup := by
      intro π
      induction π with
      | nil => intro c p cs n e; rw [at_nil] at e; cases e; exact n
      | cons k π ih =>
        intro c p cs n e
        cases c with
        | leaf => cases e
        | node q ds =>
          simp only [AT.get] at e
          cases hk : ds[k]? with
          | none => rw [hk] at e; cases e
          | some d =>
            rw [hk] at e
            refine ih ?_ e
            have n2 := (List.nodup_cons.mp n).2
            have aux : ∀ (l : List AT) (k : Nat), (AT.alls l).Nodup → l[k]? = some d → (AT.all d).Nodup := by
              intro l
              induction l with
              | nil => intro k _ e; simp at e
              | cons d' l ih =>
                intro k n e
                obtain ⟨n1, n2, _⟩ := nd_app n
                cases k with
                | zero => simp at e; subst e; exact n1
                | succ k => exact ih k n2 (by simpa using e)
            exact aux ds k n2 hk
    have nn := List.nodup_cons.mp (nd π (q.nd j) h3)
    exact ⟨p, cs, xs, rfl, l1, l2, h3, g3, g4, nn.2, nn.1⟩
  · rw [l1] at h1
    cases h1
theorem eraseIdx_alls : ∀ {cs : List AT} (k : Nat), AT.alls cs = [] → AT.alls (cs.eraseIdx k) = []
  | [], _, _ => rfl
  | c :: cs, 0, h => (List.append_eq_nil_iff.mp h).2
  | c :: cs, k + 1, h => by
    obtain ⟨h1, h2⟩ := List.append_eq_nil_iff.mp h
    show AT.all c ++ AT.alls (cs.eraseIdx k) = []
    rw [h1, eraseIdx_alls k h2]
    rfl
theorem flat_no {us : List T} {ds : List D} (h : flatT us = some ds) {k : Nat} {vs : List T} : us[k]? ≠ some (T.l vs) := by
  induction us generalizing ds k with
  | nil => simp
  | cons t us ih =>
    cases t with
    | d x =>
      simp only [flatT] at h
      cases q : flatT us with
      | none => rw [q] at h; cases h
      | some es =>
        cases k with
        | zero => simp
        | succ k => simpa using ih q
    | l _ => cases h
variable {X : Cx} {a b : Expr} {ea eb : E} {G : List Fn} {pos : Pos}
theorem ty_list {p : Addr} {xs : List V} (h : H p = some (.lst xs)) : tyV K "list" (.ref p) H := .inl ⟨rfl, xs, SqL.of h⟩
theorem pt_addr {j : Nat} {π : List Nat} (q : Rel K cl σ ε own F H) (h : RepR K cl σ ε own H0 F H v (.pt j π)) (l : ∃ ts, gt ε j = some (.ow ts)) : ∃ p xs, v = .ref p ∧ H p = some (.lst xs) := by
  obtain ⟨ts, l⟩ := l
  rcases h with ⟨ts', us', p, cs, h1, h2, h3, rfl⟩ | ⟨d, d', h1, h2, h3⟩
  · obtain ⟨v0, _, h4⟩ := q.ow j ts' h1
    obtain ⟨p', cs', xs, g1, g2, g3, g4, g5⟩ := RT.path π h4 h2
    rw [h3] at g1
    cases g1
    exact ⟨p, xs, rfl, g3⟩
  · rw [l] at h1
    cases h1
theorem locate_ow {i j : Nat} {π : List Nat} (q : Rel K cl σ ε own F H) (h : locate ε i = some (j, π)) : ∃ ts, gt ε j = some (.ow ts) := by
  unfold locate at h
  split at h
  · rename_i ts w
    cases h
    exact ⟨ts, w⟩
  · rename_i j' π' w
    cases h
    obtain ⟨_, _, ts, _, _, h2, _⟩ := q.al i _ _ w
    exact ⟨ts, h2⟩
  · cases h
/-- xs.pop() -/
theorem pop0_ok {i : Nat} {o : Expr} (ho : PE X o (tEv X.K cl true (ev G (.var i)))) (hp : ∀ {to : TE}, PE X o to → PE X (.Call (.Attribute o ("pop" : Str) pos) [] [] pos') (tBM0 X.K "list" rPop to)) : PE X (.Call (.Attribute o ("pop" : Str) pos) [] [] pos') (tEv X.K cl (calm (.pop0 i)) (ev G (.pop0 i))) := by
  refine PE.imp (hp ho) fun σ H Q ⟨ε, own, F, r, ε', q, e, k⟩ => ?_
  simp only [ev] at e
  cases e1 : locate ε i with
  | none => rw [e1] at e; cases e
  | some y1 =>
    obtain ⟨j, π⟩ := y1
    rw [e1] at e
    simp only at e
    cases e2 : listAt ε j π with
    | none => rw [e2] at e; cases e
    | some y2 =>
      obtain ⟨ts, us⟩ := y2
      rw [e2] at e
      simp only at e
      split at e
      · rename_i hf
        split at e
        · rename_i d hd
          cases e
          refine ⟨ε, own, F, .pt j π, ε, q, locate_var e1, fun v own1 F1 H1 R1 => ?_⟩
          obtain ⟨p, cs, xs, rfl, g1, g2, g3, g4, g5, g6, g7⟩ := pt_list R1.rel R1.rep e2
          obtain ⟨ds, hf⟩ := Option.isSome_iff_exists.mp hf
          obtain ⟨fl1, fl2⟩ := flat_rts hf g5
          obtain ⟨y, c, y1, y2, y3⟩ := g5.nth hd
          have hlen := g5.len.1
          refine ⟨ty_list g4, p, xs, y, rfl, rfl, g4, by rw [← hlen]; exact y1, ?_⟩
          have e5 : us.dropLast = us.eraseIdx (us.length - 1) := by
            rw [List.dropLast_eq_take, List.eraseIdx_eq_take_drop_succ]
            by_cases hz : us = []
            · subst hz; rfl
            · have : 0 < us.length := List.length_pos_iff.mpr hz
              rw [List.drop_eq_nil_of_le (by omega), List.append_nil]
          have e6 : xs.dropLast = xs.eraseIdx (us.length - 1) := by
            rw [List.dropLast_eq_take, List.eraseIdx_eq_take_drop_succ, hlen]
            by_cases hz : xs = []
            · subst hz; rfl
            · have : 0 < xs.length := List.length_pos_iff.mpr hz
              rw [List.drop_eq_nil_of_le (by omega), List.append_nil]
          have nil := eraseIdx_alls (us.length - 1) fl2
          rw [e6]
          have hr := (g5.eraseN (us.length - 1)).wr (p := p) (o := .lst (xs.eraseIdx (us.length - 1))) (by rw [nil]; simp)
          obtain ⟨own', A⟩ := R1.toAcc.write (N := fun _ => False) (fun _ z => z.elim) g1 g2 g3 hr (by rw [nil]; exact List.nodup_nil) (by rw [nil]; simp) (fun a m => by rw [nil] at m; cases m) (fun _ z => z.elim) (fun k vs z => absurd z (flat_no hf))
          rw [← e5] at A
          exact k y own' F1 _ ⟨A, y3.2⟩
        · cases e
      · cases e
/-- xs.pop(a) -/
theorem popI_ok {i : Nat} {o : Expr} (ho : PE X o (tEv X.K cl true (ev G (.var i)))) (ha : PE X a (tEv X.K cl (calm ea) (ev G ea)))
    (hp : ∀ {to ta : TE}, PE X o to → PE X a ta → PE X (.Call (.Attribute o ("pop" : Str) pos) [a] [] pos') (tBM X.K "list" rPopAt to (tCons ta tNil))) : PE X (.Call (.Attribute o ("pop" : Str) pos) [a] [] pos') (tEv X.K cl (calm (.popI i ea)) (ev G (.popI i ea))) := by
  refine PE.imp (hp ho ha) fun σ H Q ⟨ε, own, F, r, ε', q, e, k⟩ => ?_
  simp only [ev] at e
  split at e
  · rename_i j π n ε1 e1 e2
    cases e3 : listAt ε1 j π with
    | none => rw [e3] at e; cases e
    | some y2 =>
      obtain ⟨ts, us⟩ := y2
      rw [e3] at e
      simp only at e
      split at e
      · rename_i hf
        obtain ⟨hb, hf⟩ := hf
        cases e4 : ixN us.length n with
        | none => rw [e4] at e; cases e
        | some m =>
          rw [e4] at e
          simp only at e
          split at e
          · rename_i d hd hw
            cases e
            refine ⟨ε, own, F, .pt j π, ε, q, locate_var e1, fun v own1 F1 H1 R1 => ?_⟩
            obtain ⟨p0, xs0, rfl, t0⟩ := pt_addr R1.rel R1.rep (locate_ow q e1)
            refine ⟨ty_list t0, ε, own1, F1, _, ε1, R1.rel, e2, fun u own2 F2 H2 R2 => ?_⟩
            have rx := R1.later q R2.toAcc (waits_ok hw)
            obtain ⟨p, cs, xs, hv, g1, g2, g3, g4, g5, g6, g7⟩ := pt_list R2.rel rx e3
            injection hv with hv
            subst hv
            cases (show u = .int n from R2.rep)
            obtain ⟨ds, hf⟩ := Option.isSome_iff_exists.mp hf
            obtain ⟨fl1, fl2⟩ := flat_rts hf g5
            obtain ⟨y, c, y1, y2, y3⟩ := g5.nth hd
            have hlen := g5.len.1
            rw [hlen] at e4
            obtain ⟨ix1, ix2, ix3, ix4⟩ := ixN_seq e4
            unfold rngOk at hb
            refine ⟨p0, xs, n, m, y, rfl, rfl, g4, by omega, by omega, ix1, y1, ?_⟩
            have nil := eraseIdx_alls m fl2
            have hr := (g5.eraseN m).wr (p := p0) (o := .lst (xs.eraseIdx m)) (by rw [nil]; simp)
            obtain ⟨own', A⟩ := (R1.toAcc.trans R2.toAcc).write (N := fun _ => False) (fun _ z => z.elim) g1 g2 g3 hr (by rw [nil]; exact List.nodup_nil) (by rw [nil]; simp) (fun a m => by rw [nil] at m; cases m) (fun _ z => z.elim) (fun k vs z => absurd z (flat_no hf))
            exact k y own' F2 _ ⟨A, y3.2⟩
          · cases e
      · cases e
  · cases e
end
end PyD
set_option Elab.async false
set_option linter.all false
set_option maxRecDepth 100000
set_option maxHeartbeats 2000000
/-! PyY: names assigned; small statements. -/
namespace PyD
open PySem L2 Evl PyProof.Rows

section
variable {K : PySem.W.Frag} {cl : Nat → Addr} {σ : L2.St} {ε ε0 ε1 ε2 ε' : Env} {own own0 own1 own' : Nat → AT} {H0 F0 F H F1 H1 F' H' : Hp} {v : V} {r x : R} {c : Bool} {t : T} {ct : AT}
theorem asT_acc (R1 : Res K cl c σ ε own F H ε1 own1 F1 H1 v r) (e : asT r ε1 = some (t, ε2)) : ∃ own2 F2 ct, Acc K cl c σ ε own F H ε2 own2 F2 H1 ∧ RT K cl F2 H1 t v ct ∧ (AT.all ct).Nodup ∧ ∀ a ∈ AT.all ct, H a = none ∧ ¬ Own own2 a := by
  obtain ⟨own2, F2, ct, a1, a2, a3, b1, b2, a4, a5, a6, a7⟩ := asT_ok R1.rel R1.rep e
  refine ⟨own2, F2, ct, ⟨a1, ⟨R1.stp.ex.trans a2, R1.stp.keep, R1.stp.dom, fun a o h => ?_, fun a h => R1.stp.own a (a5 a h)⟩, R1.up.trans a6, fun z => ⟨(R1.cal z).1.trans a7 a6, (R1.cal z).2⟩⟩, a3, b1, b2⟩
  rcases a4 a o h with g | g | g
  · exact R1.stp.news a o g
  · exact .inr (.inl g)
  · rcases R1.stp.own a g with g | g
    · exact .inr (.inr g)
    · exact .inr (.inl g)
theorem news_none {P P' : Addr → Prop} (s : Stp P P' F H F' H') {a : Addr} {o : HO} (f : F a = none) (h : H a = some o) (n : ¬ P a) : F' a = none ∧ H' a = some o ∧ ¬ P' a := by
  refine ⟨?_, s.keep a o h n, fun z => ?_⟩
  · cases e : F' a with
    | none => rfl
    | some u =>
      rcases s.news a u e with w | w | w
      · rw [f] at w; cases w
      · rw [h] at w; cases w
      · exact absurd w n
  · rcases s.own a z with w | w
    · exact n w
    · rw [h] at w; cases w
theorem RT.acc {P P' : Addr → Prop} (s : Stp P P' F H F' H') (h : RT K cl F H t v ct) (no : ∀ a ∈ AT.all ct, ¬ P a) : RT K cl F' H' t v ct ∧ ∀ a ∈ AT.all ct, ¬ P' a := by
  have old := RT.lst _ _ _ h
  refine ⟨RT.mono s.ex _ _ _ (fun a m => ?_) (fun a m o e => s.keep a o e (no a m)) h, fun a m => ?_⟩
  · obtain ⟨e1, xs, e2⟩ := old a m
    exact (news_none s e1 e2 (no a m)).1
  · obtain ⟨e1, xs, e2⟩ := old a m
    exact (news_none s e1 e2 (no a m)).2.2
theorem RTs.acc {P P' : Addr → Prop} {ts : List T} {xs : List V} {cs : List AT} (s : Stp P P' F H F' H') (h : RTs K cl F H ts xs cs) (no : ∀ a ∈ AT.alls cs, ¬ P a) : RTs K cl F' H' ts xs cs ∧ ∀ a ∈ AT.alls cs, ¬ P' a := by
  have old := RTs.lst _ _ _ h
  refine ⟨RTs.mono s.ex _ _ _ (fun a m => ?_) (fun a m o e => s.keep a o e (no a m)) h, fun a m => ?_⟩
  · obtain ⟨e1, xs, e2⟩ := old a m
    exact (news_none s e1 e2 (no a m)).1
  · obtain ⟨e1, xs, e2⟩ := old a m
    exact (news_none s e1 e2 (no a m)).2.2
/-! ### a name takes a value -/
theorem gt_put_ne {i k : Nat} {w : Option W} (ne : k ≠ i) {w' : W} (h : gt (put ε i w) k = some w') : gt ε k = some w' ∧ ∀ π ts, w' = .al i π → gt ε i ≠ some (.ow ts) := by
  unfold put at h
  split at h
  · rename_i ts e
    rw [gt_st_ne _ _ _ _ ne, gt_kill] at h
    cases g : gt ε k with
    | none => rw [g] at h; cases h
    | some y =>
      rw [g] at h
      cases y with
      | sh d => cases h; exact ⟨rfl, fun _ _ z => by cases z⟩
      | ow d => cases h; exact ⟨rfl, fun _ _ z => by cases z⟩
      | al j ρ =>
        simp only at h
        split at h
        · cases h
        · rename_i hj
          cases h
          exact ⟨rfl, fun π ts z => by cases z; exact absurd rfl hj⟩
  · rename_i e
    rw [gt_st_ne _ _ _ _ ne] at h
    exact ⟨h, fun π ts _ z => e ts z⟩
theorem gt_put_ow {i k : Nat} {w : Option W} (ne : k ≠ i) {ts : List T} (h : gt ε k = some (.ow ts)) : gt (put ε i w) k = some (.ow ts) := by
  unfold put
  split
  · rw [gt_st_ne _ _ _ _ ne, gt_kill, h]
  · rw [gt_st_ne _ _ _ _ ne, h]
theorem gt_put_sh {i k : Nat} {w : Option W} (ne : k ≠ i) {d : D} (h : gt ε k = some (.sh d)) : gt (put ε i w) k = some (.sh d) := by
  unfold put
  split
  · rw [gt_st_ne _ _ _ _ ne, gt_kill, h]
  · rw [gt_st_ne _ _ _ _ ne, h]
theorem gt_put_same {i : Nat} {w : Option W} (hi : i < ε.length) : gt (put ε i w) i = w := by
  unfold put
  split
  · exact gt_st_same _ _ _ (by rw [kill_length]; exact hi)
  · exact gt_st_same _ _ _ hi
/-- what v is, for a name -/
def WOk (K : PySem.W.Frag) (cl : Nat → Addr) (ε : Env) (own : Nat → AT) (F H : Hp) (i : Nat) (v : V) (c : AT) : W → Prop
  | .sh d => Rp K cl F d v ∧ c = .leaf
  | .ow ts => RT K cl F H (.l ts) v c
  | .al j π => c = .leaf ∧ i ≠ j ∧ ∃ p cs ts us, v = .ref p ∧ gt ε j = some (.ow ts) ∧ T.get ts π = some us ∧ AT.get (own j) π = some (.node p cs)
theorem Rel.put (q : Rel K cl σ ε own F H) {i : Nat} (hi : i < ε.length) {w : W} {c : AT} (h : WOk K cl ε own F H i v c w) (nd : (AT.all c).Nodup) (no : ∀ a ∈ AT.all c, ¬ Own own a) :
    Rel K cl (σ.set i (some v)) (put ε i (some w)) (fun k => if k = i then c else own k) F H := by
  have hs : (σ.set i (some v))[i]? = some (some v) := List.getElem?_set_self (by rw [q.len]; exact hi)
  have hn : ∀ k, k ≠ i → (σ.set i (some v))[k]? = σ[k]? := fun k ne => List.getElem?_set_ne (fun z => ne z.symm)
  refine ⟨q.sub, by rw [List.length_set, put_length]; exact q.len, fun k d hk => ?_, fun k ts hk => ?_, fun k hk => ?_, fun k => ?_, fun k l kl a ma => ?_, fun k l ρ hk => ?_⟩
  · by_cases ne : k = i
    · subst ne
      rw [gt_put_same hi] at hk
      cases hk
      exact ⟨v, hs, h.1⟩
    · rw [hn k ne]
      exact q.sh k d (gt_put_ne ne hk).1
  · by_cases ne : k = i
    · subst ne
      rw [gt_put_same hi] at hk
      cases hk
      simp only [if_pos]
      exact ⟨v, hs, h⟩
    · rw [hn k ne]
      simp only [if_neg ne]
      exact q.ow k ts (gt_put_ne ne hk).1
  · by_cases ne : k = i
    · subst ne
      simp only [if_pos]
      cases w with
      | sh d => exact h.2
      | ow ts => exact absurd (gt_put_same hi) (hk ts)
      | al j π => exact h.1
    · simp only [if_neg ne]
      exact q.no k fun ts z => hk ts (gt_put_ow ne z)
  · by_cases ne : k = i
    · simp only [if_pos ne]; exact nd
    · simp only [if_neg ne]; exact q.nd k
  · by_cases ne : k = i
    · simp only [if_pos ne] at ma
      have nl : l ≠ i := fun z => kl (ne.trans z.symm)
      simp only [if_neg nl]
      exact fun z => no a ma ⟨l, z⟩
    · simp only [if_neg ne] at ma
      by_cases nl : l = i
      · simp only [if_pos nl]
        exact fun z => no a z ⟨k, ma⟩
      · simp only [if_neg nl]; exact q.dj k l kl a ma
  · by_cases ne : k = i
    · subst ne
      rw [gt_put_same hi] at hk
      cases hk
      obtain ⟨_, ij, p, cs, ts, us, rfl, h2, h3, h4⟩ := h
      exact ⟨p, cs, ts, us, hs, gt_put_ow (fun z => ij z.symm) h2, h3, by simp only [if_neg (fun z => ij (Eq.symm z) : ¬ l = k)]; exact h4⟩
    · obtain ⟨g1, g2⟩ := gt_put_ne ne hk
      obtain ⟨p, cs, ts, us, h1, h2, h3, h4⟩ := q.al k l ρ g1
      have nl : l ≠ i := fun z => by subst z; exact g2 ρ ts rfl h2
      exact ⟨p, cs, ts, us, by rw [hn k ne]; exact h1, gt_put_ow nl h2, h3, by simp only [if_neg nl]; exact h4⟩
/-- a statement's step -/
structure Acs (K : PySem.W.Frag) (cl : Nat → Addr) (ε : Env) (own : Nat → AT) (F H : Hp) (σ' : L2.St) (ε' : Env) (own' : Nat → AT) (F' H' : Hp) : Prop where
  rel : Rel K cl σ' ε' own' F' H'
  stp : Stp (Own own) (Own own') F H F' H'
theorem Acc.acs (a : Acc K cl c σ ε own F H ε' own' F' H') : Acs K cl ε own F H σ ε' own' F' H' := ⟨a.rel, a.stp⟩
theorem Acs.put (a : Acs K cl ε0 own0 F0 H0 σ ε own F H) {i : Nat} (hi : i < ε.length) {w : W} {c : AT} (h : WOk K cl ε own F H i v c w) (nd : (AT.all c).Nodup) (no : ∀ a ∈ AT.all c, ¬ Own own a) (h0 : ∀ a ∈ AT.all c, H0 a = none) :
    ∃ own', Acs K cl ε0 own0 F0 H0 (σ.set i (some v)) (PyD.put ε i (some w)) own' F H := by
  refine ⟨_, a.rel.put hi h nd no, a.stp.ex, a.stp.keep, a.stp.dom, a.stp.news, fun b ⟨k, m⟩ => ?_⟩
  by_cases ne : k = i
  · simp only [if_pos ne] at m
    exact .inr (h0 b m)
  · simp only [if_neg ne] at m
    exact a.stp.own b ⟨k, m⟩
theorem Acs.sh (a : Acs K cl ε0 own0 F0 H0 σ ε own F H) {i : Nat} (hi : i < ε.length) {d : D} (h : Rp K cl F d v) : ∃ own', Acs K cl ε0 own0 F0 H0 (σ.set i (some v)) (PyD.put ε i (some (.sh d))) own' F H :=
  a.put hi (w := .sh d) (c := .leaf) ⟨h, rfl⟩ List.nodup_nil (fun _ m => by cases m) (fun _ m => by cases m)
theorem putR_ok {i : Nat} (R1 : Res K cl c σ ε0 own0 F0 H0 ε own F H v r) (e : putR i r ε = some ε') : ∃ own', Acs K cl ε0 own0 F0 H0 (σ.set i (some v)) ε' own' F H := by
  cases r with
  | sh d =>
    simp only [putR] at e
    split at e
    · rename_i hi
      cases e
      exact R1.toAcc.acs.sh hi R1.rep
    · cases e
  | fr ts =>
    simp only [putR] at e
    split at e
    · rename_i hi
      cases e
      obtain ⟨c, h1, h2, h3⟩ := R1.rep
      exact R1.toAcc.acs.put hi (w := .ow ts) h1 h2 (fun a m => (h3 a m).2) fun a m => (h3 a m).1
    · cases e
  | pt j π =>
    simp only [putR] at e
    rcases R1.rep with ⟨ts, us, p, cs, h1, h2, h3, rfl⟩ | ⟨d, d', h1, h2, h3⟩
    · rw [h1] at e
      simp only at e
      split at e
      · rename_i hi
        cases e
        exact R1.toAcc.acs.put hi.1 (w := .al j π) (c := .leaf) ⟨rfl, hi.2.1, p, cs, ts, us, rfl, h1, h2, h3⟩ List.nodup_nil (fun _ m => by cases m) (fun _ m => by cases m)
      · cases e
    · rw [h1] at e
      simp only [h2] at e
      split at e
      · rename_i hi
        cases e
        exact R1.toAcc.acs.sh hi h3
      · cases e
/-- several names -/
def gNames : List Nat → TGs
  | [] => gNil
  | i :: is => gCons (gName i) (gNames is)
def gTg (K : PySem.W.Frag) : Tg → TG
  | .one i => gName i
  | .tup is => gTup K is.length (gNames is)
theorem asgs_ok {Q : L2.St → Hp → Prop} : ∀ {is : List Nat} {ds : List D} {vs : List V} {σ : L2.St} {ε : Env} {own : Nat → AT}, Acs K cl ε0 own0 F0 H0 σ ε own F H → asgs is ds ε = some ε' → Rps K cl F ds vs → (∀ σ' own', Acs K cl ε0 own0 F0 H0 σ' ε' own' F H → Q σ' H) → gNames is vs σ H Q
  | [], [], vs, σ, ε, own, a, e, h, k => by
    cases e
    exact ⟨h, k σ own a⟩
  | i :: is, d :: ds, vs, σ, ε, own, a, e, h, k => by
    obtain ⟨v, r, rfl, h1, h2⟩ := h
    simp only [asgs] at e
    split at e
    · rename_i hi
      obtain ⟨own1, a1⟩ := a.sh hi h1
      exact ⟨v, r, rfl, asgs_ok a1 e h2 k⟩
    · cases e
  | [], _ :: _, _, _, _, _, _, e, _, _ => by cases e
  | _ :: _, [], _, _, _, _, _, e, _, _ => by cases e
theorem asgs_len : ∀ {is : List Nat} {ds : List D} {ε ε' : Env}, asgs is ds ε = some ε' → is.length = ds.length
  | [], [], _, _, _ => rfl
  | i :: is, d :: ds, ε, ε', e => by
    simp only [asgs] at e
    split at e
    · simp [asgs_len e]
    · cases e
  | [], _ :: _, _, _, e => by cases e
  | _ :: _, [], _, _, e => by cases e
theorem asg_ok {Q : L2.St → Hp → Prop} {tg : Tg} {d : D} (a : Acs K cl ε0 own0 F0 H0 σ ε own F H) (e : asg tg d ε = some ε') (h : Rp K cl F d v) (k : ∀ σ' own', Acs K cl ε0 own0 F0 H0 σ' ε' own' F H → Q σ' H) : gTg K tg v σ H Q := by
  cases tg with
  | one i =>
    simp only [asg] at e
    split at e
    · rename_i hi
      cases e
      obtain ⟨own1, a1⟩ := a.sh hi h
      exact k _ own1 a1
    · cases e
  | tup is =>
    cases d with
    | tup ds =>
      obtain ⟨b, xs, rfl, h1, h2⟩ := h
      exact ⟨b, xs, rfl, SqT.of (a.rel.sub _ _ h1), by rw [← h2.length, asgs_len e], asgs_ok a e h2 k⟩
    | _ => cases e
/-! ### statements -/
def Ends.at_ (K : PySem.W.Frag) (cl : Nat → Addr) (D : Ends) (H : Hp) (σ' : L2.St) (ε' : Env) (own' : Nat → AT) (F' H' : Hp) : O → Prop
  | .nx => D.nx σ' H'
  | .bk => D.bk σ' H'
  | .ct => D.ct σ' H'
  | .rt r => ∀ v, RepR K cl σ' ε' own' H F' H' v r → D.rt v H'
def tSv (K : PySem.W.Frag) (cl : Nat → Addr) (f : Env → Option (O × Env)) : TS := fun D σ H => ∃ ε own F o ε', Rel K cl σ ε own F H ∧ f ε = some (o, ε') ∧ ∀ σ' own' F' H', Acs K cl ε own F H σ' ε' own' F' H' → Ends.at_ K cl D H σ' ε' own' F' H' o
theorem PS.imp {X : Cx} {s : Stmt} {t t' : TS} (h : PS X s t) (w : ∀ D σ H, t' D σ H → t D σ H) : PS X s t' := ⟨fun pins s σ H D I z => h.run pins s σ H D I (w D σ H z)⟩
theorem PSs.imp {X : Cx} {s : List Stmt} {t t' : TS} (h : PSs X s t) (w : ∀ D σ H, t' D σ H → t D σ H) : PSs X s t' := ⟨fun pins s σ H D I z => h.run pins s σ H D I (w D σ H z)⟩
variable {X : Cx} {a b : Expr} {ea eb : E} {G : List Fn} {pos : Pos} {n : Nat} {st st' : Stmt} {s : S} {ss : List S} {sts : List Stmt}
theorem Stp.back (A : Stp (Own own) (Own own1) F H F1 H1) {σ' : L2.St} (h : RepR K cl σ' ε' own' H1 F' H' v r) : RepR K cl σ' ε' own' H F' H' v r := RepR.back h A.dom
theorem nil_ok : PSs X [] (tSv X.K cl (exs G n [])) := PSs.imp pss_nil fun D σ H ⟨ε, own, F, o, ε', q, e, k⟩ => by
  cases e
  exact k σ own F H ⟨q, Stp.refl⟩
theorem cons_ok (h1 : PS X st (tSv X.K cl (ex G n s))) (h2 : PSs X sts (tSv X.K cl (exs G n ss))) : PSs X (st :: sts) (tSv X.K cl (exs G n (s :: ss))) := by
  refine PSs.imp (pss_cons h1 h2) fun D σ H ⟨ε, own, F, o, ε', q, e, k⟩ => ?_
  simp only [exs] at e
  cases e1 : ex G n s ε with
  | none => rw [e1] at e; cases e
  | some y1 =>
    obtain ⟨o1, ε1⟩ := y1
    rw [e1] at e
    refine ⟨ε, own, F, o1, ε1, q, e1, fun σ1 own1 F1 H1 A1 => ?_⟩
    cases o1 with
    | nx =>
      refine ⟨ε1, own1, F1, o, ε', A1.rel, e, fun σ2 own2 F2 H2 A2 => ?_⟩
      have z := k σ2 own2 F2 H2 ⟨A2.rel, A1.stp.trans A2.stp⟩
      cases o with
      | rt r => exact fun v h => z v (A1.stp.back h)
      | _ => exact z
    | bk => cases e; exact k σ1 own1 F1 H1 A1
    | ct => cases e; exact k σ1 own1 F1 H1 A1
    | rt r => cases e; exact k σ1 own1 F1 H1 A1
theorem one_ok (h1 : PS X st (tSv X.K cl (ex G n s))) : PSs X [st] (tSv X.K cl (exs G n [s])) := cons_ok h1 nil_ok
theorem pass_ok : PS X (.Pass pos) (tSv X.K cl (ex G n .pass)) := PS.imp ps_pass fun D σ H ⟨ε, own, F, o, ε', q, e, k⟩ => by
  cases e
  exact k σ own F H ⟨q, Stp.refl⟩
theorem doc_ok {x j pos'} : PS X (.Expr (.Constant (.str x) j pos) pos') (tSv X.K cl (ex G n .pass)) := PS.imp ps_doc fun D σ H ⟨ε, own, F, o, ε', q, e, k⟩ => by
  cases e
  exact k σ own F H ⟨q, Stp.refl⟩
theorem brk_ok : PS X (.Break pos) (tSv X.K cl (ex G n .brk)) := PS.imp ps_break fun D σ H ⟨ε, own, F, o, ε', q, e, k⟩ => by
  cases e
  exact k σ own F H ⟨q, Stp.refl⟩
theorem cont_ok : PS X (.Continue pos) (tSv X.K cl (ex G n .cont)) := PS.imp ps_continue fun D σ H ⟨ε, own, F, o, ε', q, e, k⟩ => by
  cases e
  exact k σ own F H ⟨q, Stp.refl⟩
theorem bad_ok : PS X st (tSv X.K cl (ex G n .bad)) := PS.imp ps_never fun D σ H ⟨ε, own, F, o, ε', q, e, k⟩ => by cases e
theorem ret_ok (ha : PE X a (tEv X.K cl (calm ea) (ev G ea))) : PS X (.Return (some a) pos) (tSv X.K cl (ex G n (.ret ea))) := by
  refine PS.imp (ps_ret ha) fun D σ H ⟨ε, own, F, o, ε', q, e, k⟩ => ?_
  simp only [ex] at e
  cases e1 : ev G ea ε with
  | none => rw [e1] at e; cases e
  | some y1 =>
    obtain ⟨x, ε1⟩ := y1
    rw [e1] at e
    cases e
    exact ⟨ε, own, F, x, _, q, e1, fun v own1 F1 H1 R1 => k σ own1 F1 H1 R1.toAcc.acs v R1.rep⟩
theorem retN_ok : PS X (.Return none pos) (tSv X.K cl (ex G n .retN)) := PS.imp ps_retN fun D σ H ⟨ε, own, F, o, ε', q, e, k⟩ => by
  cases e
  exact k σ own F H ⟨q, Stp.refl⟩ .non rfl
theorem if_ok {ce : Expr} {ec : E} {sa sb : List S} {ta tb : List Stmt} (hc : PT X ce (tTv X.K cl (calm ec) (ev G ec))) (ha : PSs X ta (tSv X.K cl (exs G n sa))) (hb : PSs X tb (tSv X.K cl (exs G n sb))) : PS X (.If ce ta tb pos) (tSv X.K cl (ex G n (.ifS ec sa sb))) := by
  refine PS.imp (ps_if hc ha hb) fun D σ H ⟨ε, own, F, o, ε', q, e, k⟩ => ?_
  have fin : ∀ {own1 F1 H1 ε1}, Acc X.K cl (calm ec) σ ε own F H ε1 own1 F1 H1 → ∀ σ2 own2 F2 H2, Acs X.K cl ε1 own1 F1 H1 σ2 ε' own2 F2 H2 → Ends.at_ X.K cl D H1 σ2 ε' own2 F2 H2 o := fun {own1 F1 H1 ε1} A1 σ2 own2 F2 H2 A2 => by
    have z := k σ2 own2 F2 H2 ⟨A2.rel, A1.stp.trans A2.stp⟩
    cases o with
    | rt r => exact fun v h => z v (A1.stp.back h)
    | _ => exact z
  simp only [ex] at e
  split at e
  · rename_i ε1 h
    exact ⟨ε, own, F, _, ε1, q, h, fun own1 F1 H1 A1 => itT <| ⟨ε1, own1, F1, o, ε', A1.rel, e, fin A1⟩⟩
  · rename_i ε1 h
    exact ⟨ε, own, F, _, ε1, q, h, fun own1 F1 H1 A1 => itF <| ⟨ε1, own1, F1, o, ε', A1.rel, e, fin A1⟩⟩
  · cases e
theorem expr_ok (hp : PS X st (tDrop (tEv X.K cl (calm ea) (ev G ea)))) : PS X st (tSv X.K cl (ex G n (.expr ea))) := by
  refine PS.imp hp fun D σ H ⟨ε, own, F, o, ε', q, e, k⟩ => ?_
  simp only [ex] at e
  cases e1 : ev G ea ε with
  | none => rw [e1] at e; cases e
  | some y1 =>
    obtain ⟨x, ε1⟩ := y1
    rw [e1] at e
    cases e
    exact ⟨ε, own, F, x, _, q, e1, fun v own1 F1 H1 R1 => k σ own1 F1 H1 R1.toAcc.acs⟩
/-- name = e -/
theorem set_ok {i : Nat} (hp : PS X st (tAsg (tEv X.K cl (calm ea) (ev G ea)) (gName i))) : PS X st (tSv X.K cl (ex G n (.set i ea))) := by
  refine PS.imp hp fun D σ H ⟨ε, own, F, o, ε', q, e, k⟩ => ?_
  simp only [ex] at e
  cases e1 : ev G ea ε with
  | none => rw [e1] at e; cases e
  | some y1 =>
    obtain ⟨x, ε1⟩ := y1
    rw [e1] at e
    simp only at e
    cases e2 : putR i x ε1 with
    | none => rw [e2] at e; cases e
    | some ε2 =>
      rw [e2] at e
      cases e
      refine ⟨ε, own, F, x, _, q, e1, fun v own1 F1 H1 R1 => ?_⟩
      obtain ⟨own2, A2⟩ := putR_ok R1 e2
      exact k _ own2 F1 H1 A2
/-- a, b = e -/
theorem setT_ok {is : List Nat} (hp : PS X st (tAsg (tEv X.K cl (calm ea) (ev G ea)) (gTg X.K (.tup is)))) : PS X st (tSv X.K cl (ex G n (.setT is ea))) := by
  refine PS.imp hp fun D σ H ⟨ε, own, F, o, ε', q, e, k⟩ => ?_
  simp only [ex] at e
  split at e
  · rename_i ds ε1 e1
    cases e2 : asgs is ds ε1 with
    | none => rw [e2] at e; cases e
    | some ε2 =>
      rw [e2] at e
      cases e
      refine ⟨ε, own, F, _, _, q, e1, fun v own1 F1 H1 R1 => ?_⟩
      exact asg_ok (tg := .tup is) (d := .tup ds) R1.toAcc.acs (show asg (.tup is) (.tup ds) ε1 = some _ from e2) R1.rep fun σ' own' A => k σ' own' F1 H1 A
  · cases e
/-- xs.append(e) -/
theorem app_ok {i : Nat} {o : Expr} (ho : PE X o (tEv X.K cl true (ev G (.var i)))) (ha : PE X a (tEv X.K cl (calm ea) (ev G ea))) (hp : ∀ {to ta : TE}, PE X o to → PE X a ta → PS X st (tDrop (tBM X.K "list" rAppend to (tCons ta tNil)))) :
    PS X st (tSv X.K cl (ex G n (.app i ea))) := by
  refine PS.imp (hp ho ha) fun D σ H ⟨ε, own, F, oo, ε', q, e, k⟩ => ?_
  simp only [ex] at e
  split at e
  · rename_i j π x ε1 e1 e2
    cases e3 : asT x ε1 with
    | none => rw [e3] at e; cases e
    | some y3 =>
      obtain ⟨t, ε2⟩ := y3
      rw [e3] at e
      simp only at e
      cases e4 : listAt ε2 j π with
      | none => rw [e4] at e; cases e
      | some y4 =>
        obtain ⟨ts, us⟩ := y4
        rw [e4] at e
        simp only at e
        split at e
        · rename_i hl
          cases e
          refine ⟨ε, own, F, .pt j π, ε, q, locate_var e1, fun v own1 F1 H1 R1 => ?_⟩
          obtain ⟨p0, xs0, rfl, t0⟩ := pt_addr R1.rel R1.rep (locate_ow q e1)
          refine ⟨ty_list t0, ε, own1, F1, x, ε1, R1.rel, e2, fun u own2 F2 H2 R2 => ?_⟩
          obtain ⟨own3, F3, ct, A3, h1, h2, h3⟩ := asT_acc R2 e3
          have rx := R1.later q A3 (waits_ok hl.2)
          obtain ⟨p, cs, xs, hv, g1, g2, g3, g4, g5, g6, g7⟩ := pt_list A3.rel rx e4
          injection hv with hv
          subst hv
          have hlen := g5.len.1
          refine ⟨p0, xs, u, rfl, rfl, g4, by rw [← hlen]; exact Nat.lt_of_lt_of_le hl.1 (by decide), ?_⟩
          have ownc : ∀ a ∈ AT.alls cs, Own own3 a := fun a m => ⟨j, at_mem π g3 a (List.mem_cons_of_mem _ m)⟩
          have hp0 : Own own3 p0 := ⟨j, at_mem π g3 _ List.mem_cons_self⟩
          have al : AT.alls (cs ++ [ct]) = AT.alls cs ++ AT.all ct := by
            rw [alls_app]
            show AT.alls cs ++ (AT.all ct ++ []) = _
            rw [List.append_nil]
          have hr : RTs X.K cl F3 H2 (us ++ [t]) (xs ++ [u]) (cs ++ [ct]) := g5.app ⟨u, [], ct, [], rfl, rfl, h1, rfl, rfl⟩
          have np : p0 ∉ AT.alls (cs ++ [ct]) := by
            rw [al]
            intro m
            rcases List.mem_append.mp m with m | m
            · exact g7 m
            · exact (h3 _ m).2 hp0
          obtain ⟨own', A⟩ := (R1.toAcc.trans A3).write (N := fun a => a ∈ AT.all ct) (fun a m => R1.stp.dom a (h3 a m).1) g1 g2 g3 (hr.wr (p := p0) (o := .lst (xs ++ [u])) np) (by
            rw [al]
            exact List.nodup_append.mpr ⟨g6, h2, fun a m b mb z => by subst z; exact (h3 a mb).2 (ownc a m)⟩) np (fun a m => by
            rw [al] at m
            exact List.mem_append.mp m) (fun a m => (h3 a m).2) (fun kk vs z => by
            have lt : kk < us.length := by
              rcases Nat.lt_or_ge kk us.length with w | w
              · exact w
              · rw [List.getElem?_eq_none w] at z; cases z
            have lc : kk < cs.length := by rw [g5.len.2, ← hlen]; exact lt
            exact ⟨by rw [List.getElem?_append_left lt]; exact z, List.getElem?_append_left lc⟩)
          exact k σ own' F3 _ A.acs
        · cases e
  · cases e
/-- xs[i] = e -/
theorem setIx_ok {i : Nat} {o : Expr} (ho : PE X o (tEv X.K cl true (ev G (.var i)))) (hb : PE X b (tEv X.K cl (calm eb) (ev G eb))) (ha : PE X a (tEv X.K cl (calm ea) (ev G ea)))
    (hp : ∀ {to tb ta : TE}, PE X o to → PE X b tb → PE X a ta → PS X st (tAsg ta (gSub to tb rSetL))) : PS X st (tSv X.K cl (ex G n (.setIx i eb ea))) := by
  refine PS.imp (hp ho hb ha) fun D σ H ⟨ε, own, F, oo, ε', q, e, k⟩ => ?_
  simp only [ex] at e
  cases e1 : ev G ea ε with
  | none => rw [e1] at e; cases e
  | some y1 =>
    obtain ⟨x, ε1⟩ := y1
    rw [e1] at e
    simp only at e
    cases e2 : asT x ε1 with
    | none => rw [e2] at e; cases e
    | some y2 =>
      obtain ⟨t, ε2⟩ := y2
      rw [e2] at e
      simp only at e
      split at e
      · rename_i j π m ε3 e3 e4
        cases e5 : listAt ε3 j π with
        | none => rw [e5] at e; cases e
        | some y5 =>
          obtain ⟨ts, us⟩ := y5
          rw [e5] at e
          simp only at e
          cases e6 : ixN us.length m with
          | none => rw [e6] at e; cases e
          | some kk =>
            rw [e6] at e
            simp only at e
            split at e
            · rename_i hd
              cases e
              refine ⟨ε, own, F, x, ε1, q, e1, fun v own1 F1 H1 R1 => ?_⟩
              obtain ⟨own2, F2, ct, A2, h1, h2, h3⟩ := asT_acc R1 e2
              refine ⟨ε2, own2, F2, .pt j π, ε2, A2.rel, locate_var e3, fun u own3 F3 H3 R3 => ?_⟩
              refine ⟨ε2, own3, F3, _, ε3, R3.rel, e4, fun w own4 F4 H4 R4 => ?_⟩
              have rx := R3.later A2.rel R4.toAcc (fun _ => hd.2)
              obtain ⟨p, cs, xs, rfl, g1, g2, g3, g4, g5, g6, g7⟩ := pt_list R4.rel rx e5
              cases (show w = .int m from R4.rep)
              have A34 := R3.toAcc.trans R4.toAcc
              obtain ⟨h1', h3'⟩ := RT.acc A34.stp h1 (fun a m => (h3 a m).2)
              have hlen := g5.len.1
              refine ⟨p, xs, m, kk, rfl, rfl, g4, by rw [← hlen]; exact e6, ?_⟩
              have hp0 : Own own4 p := ⟨j, at_mem π g3 _ List.mem_cons_self⟩
              have ownc : ∀ a ∈ AT.alls cs, Own own4 a := fun a m => ⟨j, at_mem π g3 a (List.mem_cons_of_mem _ m)⟩
              obtain ⟨dd, hdd⟩ : ∃ dd, us[kk]? = some (.d dd) := by
                have z := hd.1
                unfold isData at z
                split at z
                · rename_i dd z'; exact ⟨dd, z'⟩
                · cases z
              obtain ⟨y, c0, y1, y2, y3⟩ := g5.nth hdd
              have c0l : c0 = .leaf := y3.1
              subst c0l
              obtain ⟨s1, s2⟩ := alls_set (N := fun a => a ∈ AT.all ct) h2 (fun a m => .inr m) y2 g6 (fun a m z => h3' a m (ownc a z))
              have np : p ∉ AT.alls (cs.set kk ct) := fun m => by
                rcases s2 p m with z | z
                · exact g7 z
                · exact h3' p z hp0
              obtain ⟨own', A⟩ := (A2.trans A34).write (N := fun a => a ∈ AT.all ct) (fun a m => (h3 a m).1) g1 g2 g3 ((g5.setN kk h1').wr (p := p) (o := .lst (xs.set kk v)) np) s1 np s2 h3' (fun k' vs z => by
                have ne : kk ≠ k' := fun z' => by subst z'; rw [hdd] at z; cases z
                exact ⟨by rw [List.getElem?_set_ne ne]; exact z, List.getElem?_set_ne ne⟩)
              exact k σ own' F4 _ A.acs
            · cases e
      · cases e
end
end PyD
set_option Elab.async false
set_option linter.all false
set_option maxRecDepth 100000
set_option maxHeartbeats 2000000
/-! PyZ: loops. -/
namespace PyD
open PySem L2 Evl PyProof.Rows

section
variable {K : PySem.W.Frag} {cl : Nat → Addr} {σ : L2.St} {ε ε0 ε1 ε2 ε' : Env} {own own0 own1 own' : Nat → AT} {H0 F0 F H F1 H1 F' H' : Hp} {v : V} {r x : R} {c : Bool} {t : T} {ct : AT}
variable {X : Cx} {a b : Expr} {ea eb : E} {G : List Fn} {pos : Pos} {n : Nat} {st st' : Stmt} {s : S} {ss : List S} {sts : List Stmt}
/-- name += e, name -= e on numbers -/
theorem st_put {i : Nat} {w : Option W} (h : ∀ ts, gt ε i ≠ some (.ow ts)) : put ε i w = PyD.st ε i w := by
  unfold put
  split
  · rename_i ts e; exact absurd e (h ts)
  · rfl
theorem aug_ok {i : Nat} {o : Bop} (ho : o = .add ∨ o = .sub) (hp : ∀ {ti : TIp}, PIp X (bopO o) ti → PS X st (tAug i (tEv X.K cl (calm ea) (ev G ea)) ti)) : PS X st (tSv X.K cl (ex G n (.aug i o ea))) := by
  have key : ∃ f : Int → Int → Int, PIp X (bopO o) (ipI f) ∧ ∀ m k, binD o (.int m) (.int k) = some (.sh (.int (f m k))) := by
    rcases ho with rfl | rfl
    · exact ⟨_, ip_add, fun m k => rfl⟩
    · exact ⟨_, ip_sub, fun m k => rfl⟩
  obtain ⟨f, h1, h2⟩ := key
  refine PS.imp (hp h1) fun D σ H ⟨ε, own, F, oo, ε', q, e, k⟩ => ?_
  simp only [ex] at e
  split at e
  · rename_i m e1
    split at e
    · rename_i k1 ε1 e2
      rw [h2] at e
      cases e
      obtain ⟨v0, g1, g2⟩ := q.sh i _ e1
      refine ⟨v0, g1, ε, own, F, _, ε1, q, e2, fun v own1 F1 H1 R1 => ⟨m, k1, g2, R1.rep, ?_⟩⟩
      have hi := gt_lt (R1.up.sh i _ e1)
      obtain ⟨own2, A2⟩ := R1.toAcc.acs.sh hi (d := .int (f m k1)) (v := .int (f m k1)) rfl
      rw [st_put fun ts z => by rw [R1.up.sh i _ e1] at z; cases z] at A2
      exact k _ own2 F1 H1 A2
    · cases e
  · cases e
theorem at_back {D : Ends} {σ' : L2.St} {o : O} (s : Stp (Own own) (Own own1) F H F1 H1) (h : Ends.at_ K cl D H σ' ε' own' F' H' o) : Ends.at_ K cl D H1 σ' ε' own' F' H' o := by
  cases o with
  | rt r => exact fun v z => h v (s.back z)
  | _ => exact h
/-- while -/
theorem while_ok {ce : Expr} {ec : E} {sb : List S} {tb : List Stmt} (hp : PassesOwn (model X.prog X.w) X.A X.env X.xe) (hc : PT X ce (tTv X.K cl (calm ec) (ev G ec))) (hb : PSs X tb (tSv X.K cl (exs G n sb))) : PS X (.While ce tb [] pos) (tSv X.K cl (ex G n (.whileS ec sb))) := by
  refine PS.imp (ps_while hp hc hb) fun D σ0 H0 ⟨ε0, own0, F0, o, ε', q0, e, k⟩ => ?_
  simp only [ex] at e
  refine ⟨fun m σ H => ∃ ε own F, Acs X.K cl ε0 own0 F0 H0 σ ε own F H ∧ whileF (ev G ec) (exs G n sb) m ε = some (o, ε'), ⟨n, ε0, own0, F0, ⟨q0, Stp.refl⟩, e⟩, ?_⟩
  rintro m σ H ⟨ε, own, F, A, e⟩
  cases m with
  | zero => cases e
  | succ m =>
    simp only [whileF] at e
    split at e
    · rename_i ε1 e1
      cases e
      refine ⟨ε, own, F, _, _, A.rel, e1, fun own1 F1 H1 A1 => itF ?_⟩
      exact k σ own1 F1 H1 ⟨A1.rel, A.stp.trans A1.stp⟩
    · rename_i ε1 e1
      refine ⟨ε, own, F, _, ε1, A.rel, e1, fun own1 F1 H1 A1 => itT ?_⟩
      refine ⟨fun σ' H' => ∃ ε own F, Acs X.K cl ε0 own0 F0 H0 σ' ε own F H' ∧ whileF (ev G ec) (exs G n sb) m ε = some (o, ε'), fun σ' H' h => ⟨m, Nat.lt_succ_self m, h⟩, ?_⟩
      have A01 := A.stp.trans A1.stp
      split at e
      · rename_i ε2 e2
        exact ⟨ε1, own1, F1, _, ε2, A1.rel, e2, fun σ2 own2 F2 H2 A2 => ⟨ε2, own2, F2, ⟨A2.rel, A01.trans A2.stp⟩, e⟩⟩
      · rename_i ε2 e2
        exact ⟨ε1, own1, F1, _, ε2, A1.rel, e2, fun σ2 own2 F2 H2 A2 => ⟨ε2, own2, F2, ⟨A2.rel, A01.trans A2.stp⟩, e⟩⟩
      · rename_i ε2 e2
        cases e
        exact ⟨ε1, own1, F1, _, _, A1.rel, e2, fun σ2 own2 F2 H2 A2 => k σ2 own2 F2 H2 ⟨A2.rel, A01.trans A2.stp⟩⟩
      · rename_i x ε2 e2
        cases e
        exact ⟨ε1, own1, F1, _, _, A1.rel, e2, fun σ2 own2 F2 H2 A2 => fun v z => k σ2 own2 F2 H2 ⟨A2.rel, A01.trans A2.stp⟩ v (A01.back z)⟩
      · cases e
    · cases e
/-! ### what is walked -/
def JOk (K : PySem.W.Frag) (cl : Nat → Addr) (F : Hp) (its : List D) (J : It) : Prop := ∀ i F' H', Ex F F' → Ex F' H' → (∀ d, its[i]? = some d → J.go i H' ∧ ∀ x H'', J.yld i H' x H'' → ∃ F'', StpF F' H' F'' H'' ∧ Rp K cl F'' d x) ∧ (its.length ≤ i → J.stop i H')
theorem StpF.refl (s : Ex F H) : StpF F H F H := ⟨Ex.refl F, Ex.refl H, fun _ h => h, fun _ _ h => .inl h, s⟩
def iSv (K : PySem.W.Frag) (cl : Nat → Addr) (c : Bool) (kd : ItK) (f : Env → Option (List D × Env)) : TI := fun σ H R => ∃ ε own F ds its ε', Rel K cl σ ε own F H ∧ f ε = some (ds, ε') ∧ itD kd ds = some its ∧ ∀ J own' F' H', Acc K cl c σ ε own F H ε' own' F' H' → JOk K cl F' its J → R J H'
theorem jok_tup {p : Addr} {xs : List V} {ds : List D} (h : SqT K F p xs) (hr : Rps K cl F ds xs) : JOk K cl F ds (Itt K p) := by
  intro i F' H' e1 e2
  have hs := ex_t (e1.trans e2) h
  refine ⟨fun d hd => ?_, fun hl => ⟨xs, hs, by rw [← hr.length]; exact hl⟩⟩
  obtain ⟨x, hx, rx⟩ := hr.get hd
  refine ⟨⟨xs, x, hs, hx⟩, fun y H'' ⟨z1, z2⟩ => ?_⟩
  subst z1
  have := z2 xs hs
  rw [hx] at this
  cases this
  exact ⟨F', StpF.refl e2, Rp.ex e1 _ _ rx⟩
theorem jok_rng {lo hi : Int} : JOk K cl F (rngD lo hi) (Itr lo (hi - lo).toNat) := by
  intro i F' H' e1 e2
  have hl : (rngD lo hi).length = (hi - lo).toNat := by simp [rngD]
  refine ⟨fun d hd => ?_, fun h => by rw [hl] at h; exact h⟩
  have lt : i < (hi - lo).toNat := by
    rcases Nat.lt_or_ge i (rngD lo hi).length with z | z
    · rwa [hl] at z
    · rw [List.getElem?_eq_none z] at hd; cases hd
  refine ⟨lt, fun y H'' ⟨z1, z2⟩ => ?_⟩
  subst z1 z2
  have : d = .int (lo + i) := by
    simp only [rngD, List.getElem?_map, List.getElem?_range lt] at hd
    exact (Option.some.inj hd).symm
  subst this
  exact ⟨F', StpF.refl e2, rfl⟩
/-- the walk of a list or of a tuple -/
def iSeq (K : PySem.W.Frag) (tl : TE) : TI := fun σ H R => tl σ H fun x H1 => ∃ a xs, x = .ref a ∧ ((SqL K H1 a xs ∧ R (Itl K a) H1) ∨ (SqT K H1 a xs ∧ R (Itt K a) H1) ∨ ∃ lo hi, H1 a = some (.rng lo hi) ∧ (rngOk lo ∧ rngOk hi) ∧ R (Itr lo (hi - lo).toNat) H1)
theorem pi_seq {tg l : Expr} {tl : TE} (hl : PE X l tl) : PI X tg l (iSeq X.K tl) := by
  refine ⟨fun pins s σ H R I h => ?_⟩
  refine thn (hl.run pins s σ H _ I h) fun v s1 ⟨x, H1, I1, r1, a, xs, e, q⟩ => ?_
  subst e
  have fp : ∀ b ∈ [s1.heap.objs.size], FpOk X pins H1 b := fun b hb => by
    have e : b = s1.heap.objs.size := by simpa using hb
    subst e
    exact I1.fpOk (Nat.le_refl _) (I1.hok.fresh (Nat.le_refl _))
  cases r1
  rcases q with ⟨hq, q⟩ | ⟨hq, q⟩ | ⟨lo, hi, hq, ⟨⟨b1, b2⟩, b3, b4⟩, q⟩
  · obtain ⟨its, rv, p, hz⟩ := I1.list hq
    exact wpAny_pyIter_list p.isList ⟨s1.heap.objs.size, [s1.heap.objs.size], _, _, H1, rfl, I1.kept (t' := s1.toks) fun b o e => Heap.get?_push_of_some _ e, turn_list a _, ⟨_, Heap.get?_push_size _ rfl, rfl, rfl⟩, fp, q⟩
  · obtain ⟨its, rv, p, hz⟩ := I1.tuple hq
    exact wpAny_pyIter_tuple (show s1.heap.IsTuple a its.toArray from p) ⟨s1.heap.objs.size, [s1.heap.objs.size], _, _, H1, rfl, I1.kept (t' := s1.toks) fun b o e => Heap.get?_push_of_some _ e, turn_tuple a _, ⟨_, Heap.get?_push_size _ rfl, rfl, rfl⟩, fp, q⟩
  · obtain ⟨t, u, w, ho⟩ : ∃ t u w, s1.heap.get? a = some { cls := .type "range", data := .fields #[.int lo t, .int hi u, .int 1 w] } := I1.hok a _ hq
    refine wpAny_pyIter_range ho (small_one b1 b2 b3 b4) ?_
    refine ⟨s1.heap.objs.size, [s1.heap.objs.size], _, _, H1, rfl, I1.kept (t' := s1.toks) fun b o e => Heap.get?_push_of_some _ e, turn_range _ lo (hi - lo).toNat, ?_, fp, q⟩
    have e1 : lo + ((0 : Nat) : Int) * 1 = lo := by simp
    have e2 : (((hi - lo).toNat : Nat) : Int) - ((0 : Nat) : Int) = Builtin.Range.rangeSize lo hi 1 := by rw [rangeSize_one]; split <;> omega
    show IsRangeIter _ _ (lo + ((0 : Nat) : Int) * 1) ((((hi - lo).toNat : Nat) : Int) - ((0 : Nat) : Int)) 1
    rw [e1, e2]
    exact Heap.get?_push_size _ rfl
theorem PI.imp {tg l : Expr} {t t' : TI} (h : PI X tg l t) (w : ∀ σ H R, t' σ H R → t σ H R) : PI X tg l t' := ⟨fun pins s σ H R I z => h.run pins s σ H R I (w σ H R z)⟩
theorem evs_one {ds : List D} (e : evs G [ea] ε = some (ds, ε')) : ∃ x ε1 d, ev G ea ε = some (x, ε1) ∧ frz x ε1 = some (d, ε') ∧ ds = [d] := by
  simp only [evs] at e
  cases e1 : ev G ea ε with
  | none => rw [e1] at e; cases e
  | some y1 =>
    obtain ⟨x, ε1⟩ := y1
    rw [e1] at e
    simp only at e
    cases e2 : frz x ε1 with
    | none => rw [e2] at e; cases e
    | some y2 =>
      obtain ⟨d, ε2⟩ := y2
      rw [e2] at e
      cases e
      exact ⟨x, ε1, d, rfl, e2, rfl⟩
theorem jok_list' {p : Addr} {xs : List V} {ds : List D} (h : SqL K F p xs) (hr : Rps K cl F ds xs) : JOk K cl F ds (Itl K p) := by
  intro i F' H' e1 e2
  have hs := ex_l (e1.trans e2) h
  refine ⟨fun d hd => ?_, fun hl => ⟨xs, hs, by rw [← hr.length]; exact hl⟩⟩
  obtain ⟨x, hx, rx⟩ := hr.get hd
  refine ⟨⟨xs, x, hs, hx⟩, fun y H'' ⟨z1, z2⟩ => ?_⟩
  subst z1
  have := z2 xs hs
  rw [hx] at this
  cases this
  exact ⟨F', StpF.refl e2, Rp.ex e1 _ _ rx⟩
theorem seq_ok {tg : Expr} (ha : PE X a (tEv X.K cl (calm ea) (ev G ea))) : PI X tg a (iSv X.K cl (calms [ea]) .seq (evs G [ea])) := by
  refine PI.imp (pi_seq ha) fun σ H R ⟨ε, own, F, ds, its, ε', q, e, ei, k⟩ => ?_
  obtain ⟨x, ε1, d, e1, e2, rfl⟩ := evs_one e
  refine ⟨ε, own, F, x, ε1, q, e1, fun v own1 F1 H1 R1 => ?_⟩
  obtain ⟨own2, F2, A2, hd⟩ := frz_acc R1 e2
  have A2' : Acc X.K cl (calms [ea]) σ ε own F H ε' own2 F2 H1 := A2.weak fun z => by simpa [calms] using z
  by_cases hr : ∃ lo hi, d = .rng lo hi
  · obtain ⟨lo, hi, rfl⟩ := hr
    simp only [itD] at ei
    split at ei
    · rename_i hb
      cases ei
      obtain ⟨p, rfl, h1⟩ := hd
      exact ⟨p, [], rfl, .inr (.inr ⟨lo, hi, A2.rel.sub _ _ h1, hb, k _ own2 F2 H1 A2' jok_rng⟩)⟩
    · cases ei
  · have ei : items d = some its := by
      cases d <;> first | exact ei | exact absurd ⟨_, _, rfl⟩ hr
    obtain ⟨p, xs, rfl, h1, h2⟩ := rp_items hd ei
    rcases h1 with h1 | h1
    · exact ⟨p, xs, rfl, .inl ⟨ex_l A2.rel.sub h1, k _ own2 F2 H1 A2' (jok_list' h1 h2)⟩⟩
    · exact ⟨p, xs, rfl, .inr (.inl ⟨ex_t A2.rel.sub h1, k _ own2 F2 H1 A2' (jok_tup h1 h2)⟩)⟩
theorem rng1_inv {ds its : List D} (e : itD .rng1 ds = some its) : ∃ m, ds = [.int m] ∧ rngOk m ∧ its = rngD 0 m := by
  rcases ds with _ | ⟨d, _ | ⟨d2, r⟩⟩
  · cases e
  · cases d with
    | int m =>
      simp only [itD] at e
      split at e
      · rename_i h; cases e; exact ⟨m, rfl, h, rfl⟩
      · cases e
    | _ => cases e
  · cases d <;> cases e
theorem rng2_inv {ds its : List D} (e : itD .rng2 ds = some its) : ∃ m j, ds = [.int m, .int j] ∧ (rngOk m ∧ rngOk j) ∧ its = rngD m j := by
  rcases ds with _ | ⟨d, _ | ⟨d2, _ | ⟨d3, r⟩⟩⟩
  · cases e
  · cases d <;> cases e
  · cases d with
    | int m =>
      cases d2 with
      | int j =>
        simp only [itD] at e
        split at e
        · rename_i h; cases e; exact ⟨m, j, rfl, h, rfl⟩
        · cases e
      | _ => cases e
    | _ => cases e
  · cases d <;> cases d2 <;> cases e
theorem rng1_ok {tg it : Expr} {es : List Expr} {Es : List E} (ha : PA X es (tAv X.K cl (calms Es) (evs G Es))) (hp : ∀ {ta : TA}, PA X es ta → PI X tg it (iRng1 ta)) : PI X tg it (iSv X.K cl (calms Es) .rng1 (evs G Es)) := by
  refine PI.imp (hp ha) fun σ H R ⟨ε, own, F, ds, its, ε', q, e, ei, k⟩ => ?_
  refine ⟨ε, own, F, ds, ε', q, e, fun vs own1 F1 H1 A1 hds => ?_⟩
  obtain ⟨m, rfl, hm, rfl⟩ := rng1_inv ei
  obtain ⟨v, r, rfl, h1, h2⟩ := hds
  cases (show v = .int m from h1)
  cases (show r = [] from h2)
  refine ⟨m, rfl, hm.1, hm.2, ?_⟩
  have z := k (Itr 0 (m - 0).toNat) own1 F1 H1 A1 jok_rng
  rwa [Int.sub_zero] at z
theorem rng2_ok {tg it : Expr} {es : List Expr} {Es : List E} (ha : PA X es (tAv X.K cl (calms Es) (evs G Es))) (hp : ∀ {ta : TA}, PA X es ta → PI X tg it (iRng2 ta)) : PI X tg it (iSv X.K cl (calms Es) .rng2 (evs G Es)) := by
  refine PI.imp (hp ha) fun σ H R ⟨ε, own, F, ds, its, ε', q, e, ei, k⟩ => ?_
  refine ⟨ε, own, F, ds, ε', q, e, fun vs own1 F1 H1 A1 hds => ?_⟩
  obtain ⟨m, j, rfl, hm, rfl⟩ := rng2_inv ei
  obtain ⟨v, r, rfl, h1, h2⟩ := hds
  obtain ⟨u, r, rfl, h3, h4⟩ := h2
  cases (show v = .int m from h1)
  cases (show u = .int j from h3)
  cases (show r = [] from h4)
  exact ⟨m, j, rfl, ⟨hm.1.1, hm.1.2, hm.2.1, hm.2.2⟩, k _ own1 F1 H1 A1 jok_rng⟩
theorem Acs.stpF {F2 H2 : Hp} (a : Acs K cl ε0 own0 F0 H0 σ ε own F H) (s : StpF F H F2 H2) : Acs K cl ε0 own0 F0 H0 σ ε own F2 H2 := by
  have A := (Acc.refl (c := true) a.rel).call s (v := .non) (r := .sh .non) rfl
  exact ⟨A.rel, a.stp.trans A.stp⟩
/-- for -/
theorem for_ok {tge ite : Expr} {tg : Tg} {kd : ItK} {src : List E} {sb : List S} {tb : List Stmt} (hc : X.calm = true) (hp : PassesOwn (model X.prog X.w) X.A X.env X.xe) (hi : PI X tge ite (iSv X.K cl (calms src) kd (evs G src))) (hg : PG X tge (gTg X.K tg)) (hb : PSs X tb (tSv X.K cl (exs G n sb)))
    (hs : ∀ x, foldedSetIterable ite X.env x = pure x) : PS X (.For tge ite tb [] pos) (tSv X.K cl (ex G n (.forS tg kd src sb))) := by
  refine PS.imp (ps_for hp hc hi hg hb hs) fun D σ0 H0 ⟨ε0, own0, F0, o, ε', q0, e, k⟩ => ?_
  simp only [ex] at e
  cases e1 : evs G src ε0 with
  | none => rw [e1] at e; cases e
  | some y1 =>
    obtain ⟨ds, ε1⟩ := y1
    rw [e1] at e
    simp only at e
    cases e2 : itD kd ds with
    | none => rw [e2] at e; cases e
    | some its =>
      rw [e2] at e
      simp only at e
      refine ⟨ε0, own0, F0, ds, its, ε1, q0, e1, e2, fun J own1 F1 H1 A1 hJ => ?_⟩
      refine ⟨fun i m σ H => m = its.length - i ∧ i ≤ its.length ∧ ∃ ε own F, Acs X.K cl ε0 own0 F0 H0 σ ε own F H ∧ Ex F1 F ∧ forF (exs G n sb) tg (its.drop i) ε = some (o, ε'), ⟨its.length, rfl, Nat.zero_le _, ε1, own1, F1, A1.acs, Ex.refl F1, e⟩, ?_⟩
      rintro i m σ H ⟨rfl, hi, ε, own, F, A, eF, e⟩
      obtain ⟨j1, j2⟩ := hJ i F H eF A.rel.sub
      rcases Nat.lt_or_ge i its.length with lt | ge
      · obtain ⟨d, hd⟩ : ∃ d, its[i]? = some d := ⟨its[i], List.getElem?_eq_getElem lt⟩
        have hdrop : its.drop i = d :: its.drop (i + 1) := by
          rw [List.drop_eq_getElem_cons lt]
          rw [List.getElem?_eq_getElem lt] at hd
          cases hd
          rfl
        obtain ⟨go, yl⟩ := j1 d hd
        refine .inr ⟨go, fun σ' H' => (i + 1) ≤ its.length ∧ ∃ ε own F, Acs X.K cl ε0 own0 F0 H0 σ' ε own F H' ∧ Ex F1 F ∧ forF (exs G n sb) tg (its.drop (i + 1)) ε = some (o, ε'), fun σ' H' h => ⟨its.length - (i + 1), by omega, rfl, h⟩, fun x H2 y => ?_⟩
        obtain ⟨F2, s2, rx⟩ := yl x H2 y
        have A2 := A.stpF s2
        rw [hdrop] at e
        simp only [forF] at e
        cases e3 : asg tg d ε with
        | none => rw [e3] at e; cases e
        | some ε3 =>
          rw [e3] at e
          simp only at e
          refine asg_ok A2 e3 rx fun σ3 own3 A3 => ?_
          have eF2 : Ex F1 F2 := eF.trans s2.ex
          split at e
          · rename_i ε4 e4
            exact ⟨ε3, own3, F2, _, ε4, A3.rel, e4, fun σ4 own4 F4 H4 A4 => ⟨lt, ε4, own4, F4, ⟨A4.rel, A3.stp.trans A4.stp⟩, eF2.trans A4.stp.ex, e⟩⟩
          · rename_i ε4 e4
            exact ⟨ε3, own3, F2, _, ε4, A3.rel, e4, fun σ4 own4 F4 H4 A4 => ⟨lt, ε4, own4, F4, ⟨A4.rel, A3.stp.trans A4.stp⟩, eF2.trans A4.stp.ex, e⟩⟩
          · rename_i ε4 e4
            cases e
            exact ⟨ε3, own3, F2, _, _, A3.rel, e4, fun σ4 own4 F4 H4 A4 => k σ4 own4 F4 H4 ⟨A4.rel, A3.stp.trans A4.stp⟩⟩
          · rename_i x4 ε4 e4
            cases e
            exact ⟨ε3, own3, F2, _, _, A3.rel, e4, fun σ4 own4 F4 H4 A4 => fun v z => k σ4 own4 F4 H4 ⟨A4.rel, A3.stp.trans A4.stp⟩ v (A3.stp.back z)⟩
          · cases e
      · have he : i = its.length := by omega
        subst he
        rw [List.drop_length] at e
        simp only [forF] at e
        cases e
        exact .inl ⟨j2 (Nat.le_refl _), k σ own F H A⟩
end
end PyD
set_option Elab.async false
set_option linter.all false
set_option maxRecDepth 100000
set_option maxHeartbeats 2000000
/-! PyI: list comprehensions. -/
namespace PyD
open PySem L2 Evl PyProof.Rows

section
variable {K : PySem.W.Frag} {cl : Nat → Addr} {σ : L2.St} {ε ε0 ε1 ε2 ε' : Env} {own own0 own1 own' : Nat → AT} {H0 F0 F H F1 H1 F' H' : Hp} {v : V} {r x : R} {c : Bool} {t : T} {ct : AT} {ws : List Nat}
theorem gt_wipeE : ∀ (ws : List Nat) (ε : Env) (k : Nat), gt (wipeE ε ws) k = if k ∈ ws then none else gt ε k
  | [], ε, k => by simp [wipeE]
  | v :: vs, ε, k => by
    have ih := gt_wipeE vs ε k
    simp only [wipeE, List.mem_cons]
    by_cases e : k = v
    · subst e
      simp only [true_or, if_true]
      by_cases l : k < (wipeE ε vs).length
      · exact gt_st_same _ _ _ l
      · exact gt_none _ _ (by rw [st_length]; omega)
    · rw [gt_st_ne _ _ _ _ e, ih]
      simp only [e, false_or]
theorem wipeE_length (ε : Env) : ∀ ws : List Nat, (wipeE ε ws).length = ε.length
  | [] => rfl
  | v :: vs => by simp only [wipeE, st_length, wipeE_length ε vs]
theorem gt_back : ∀ (ws : List Nat) (ε0 ε : Env) (k : Nat), k < ε.length → gt (back ε0 ε ws) k = if k ∈ ws then gt ε0 k else gt ε k
  | [], _, _, _, _ => by simp [back]
  | v :: vs, ε0, ε, k, l => by
    have ih := gt_back vs ε0 ε k l
    have hl : (back ε0 ε vs).length = ε.length := by
      clear ih
      induction vs with
      | nil => rfl
      | cons w vs ih => simp only [back, st_length, ih]
    simp only [back, List.mem_cons]
    by_cases e : k = v
    · subst e
      simp only [true_or, if_true]
      exact gt_st_same _ _ _ (by rw [hl]; exact l)
    · rw [gt_st_ne _ _ _ _ e, ih]
      simp only [e, false_or]
theorem back_length (ε0 ε : Env) : ∀ ws : List Nat, (back ε0 ε ws).length = ε.length
  | [] => rfl
  | v :: vs => by simp only [back, st_length, back_length ε0 ε vs]
theorem plainW_no : ∀ {ws : List Nat} {ε : Env}, plainW ε ws = true → ∀ v ∈ ws, (∀ ts, gt ε v ≠ some (.ow ts)) ∧ ∀ j π, gt ε v ≠ some (.al j π)
  | [], _, _, _, m => by cases m
  | w :: ws, ε, h, v, m => by
    simp only [plainW, Bool.and_eq_true] at h
    rcases List.mem_cons.mp m with e | m
    · subst e
      refine ⟨fun ts z => ?_, fun j π z => ?_⟩
      · rw [z] at h; exact absurd h.1 (by simp)
      · rw [z] at h; exact absurd h.1 (by simp)
    · exact plainW_no h.2 v m
theorem wipe_get : ∀ (ws : List Nat) (σ : L2.St) (k : Nat), k ∉ ws → (wipe σ ws)[k]? = σ[k]?
  | [], _, _, _ => rfl
  | v :: vs, σ, k, h => by
    rw [List.mem_cons, not_or] at h
    simp only [wipe]
    rw [List.getElem?_set_ne (fun z => h.1 z.symm)]
    exact wipe_get vs σ k h.2
theorem wipe_in : ∀ (ws : List Nat) (σ : L2.St) (k : Nat), k ∈ ws → k < σ.length → (wipe σ ws)[k]? = some none
  | v :: vs, σ, k, h, l => by
    simp only [wipe]
    by_cases e : v = k
    · subst e
      rw [List.getElem?_set_self (by rw [wipe_length]; exact l)]
    · rw [List.getElem?_set_ne e]
      exact wipe_in vs σ k ((List.mem_cons.mp h).resolve_left fun z => e z.symm) l
theorem wipe_eq {σ σ' : L2.St} (hl : σ'.length = σ.length) (h : ∀ k, k ∉ ws → σ'[k]? = σ[k]?) : wipe σ' ws = wipe σ ws := by
  refine List.ext_getElem? fun k => ?_
  by_cases m : k ∈ ws
  · by_cases l : k < σ.length
    · rw [wipe_in ws σ k m l, wipe_in ws σ' k m (by rw [hl]; exact l)]
    · rw [List.getElem?_eq_none (by rw [wipe_length]; omega), List.getElem?_eq_none (by rw [wipe_length]; omega)]
  · rw [wipe_get ws σ k m, wipe_get ws σ' k m, h k m]
theorem Rel.wipe (q : Rel K cl σ ε own F H) (h : plainW ε ws = true) : Rel K cl (L2.wipe σ ws) (wipeE ε ws) own F H := by
  have pl := plainW_no h
  have out : ∀ {k w}, gt (wipeE ε ws) k = some w → k ∉ ws ∧ gt ε k = some w := fun {k w} e => by
    rw [gt_wipeE] at e
    split at e
    · cases e
    · rename_i m; exact ⟨m, e⟩
  refine ⟨q.sub, by rw [wipe_length, wipeE_length]; exact q.len, fun k d hk => ?_, fun k ts hk => ?_, fun k hk => ?_, q.nd, q.dj, fun k j π hk => ?_⟩
  · obtain ⟨m, e⟩ := out hk
    rw [wipe_get ws σ k m]
    exact q.sh k d e
  · obtain ⟨m, e⟩ := out hk
    rw [wipe_get ws σ k m]
    exact q.ow k ts e
  · refine q.no k fun ts e => ?_
    by_cases m : k ∈ ws
    · exact (pl k m).1 ts e
    · exact hk ts (by rw [gt_wipeE, if_neg m]; exact e)
  · obtain ⟨m, e⟩ := out hk
    obtain ⟨p, cs, ts, us, h1, h2, h3, h4⟩ := q.al k j π e
    have mj : j ∉ ws := fun z => (pl j z).1 ts h2
    exact ⟨p, cs, ts, us, by rw [wipe_get ws σ k m]; exact h1, by rw [gt_wipeE, if_neg mj]; exact h2, h3, h4⟩
theorem Rel.back (q1 : Rel K cl σ ε1 own1 F1 H1) (h : plainW ε1 ws = true) (e : Ex F1 F) (q : Rel K cl (L2.wipe σ ws) ε own F H) (no : ∀ k ∈ ws, gt ε k = none) : Rel K cl σ (back ε1 ε ws) own F H := by
  have pl := plainW_no h
  have ll : ε.length = ε1.length := by rw [← q.len, wipe_length, q1.len]
  have out : ∀ {k w}, gt (PyD.back ε1 ε ws) k = some w → (k ∈ ws ∧ gt ε1 k = some w) ∨ (k ∉ ws ∧ gt ε k = some w) := fun {k w} e => by
    have l : k < ε.length := by
      have := gt_lt e
      rwa [back_length] at this
    rw [gt_back ws ε1 ε k l] at e
    split at e
    · rename_i m; exact .inl ⟨m, e⟩
    · rename_i m; exact .inr ⟨m, e⟩
  refine ⟨q.sub, by rw [back_length, ← q.len, wipe_length], fun k d hk => ?_, fun k ts hk => ?_, fun k hk => ?_, q.nd, q.dj, fun k j π hk => ?_⟩
  · rcases out hk with ⟨m, g⟩ | ⟨m, g⟩
    · obtain ⟨v, h1, h2⟩ := q1.sh k d g
      exact ⟨v, h1, Rp.ex e _ _ h2⟩
    · rw [← wipe_get ws σ k m]
      exact q.sh k d g
  · rcases out hk with ⟨m, g⟩ | ⟨m, g⟩
    · exact absurd g ((pl k m).1 ts)
    · rw [← wipe_get ws σ k m]
      exact q.ow k ts g
  · refine q.no k fun ts g => ?_
    by_cases m : k ∈ ws
    · rw [no k m] at g; cases g
    · exact hk ts (by rw [gt_back ws ε1 ε k (gt_lt g), if_neg m]; exact g)
  · rcases out hk with ⟨m, g⟩ | ⟨m, g⟩
    · exact absurd g ((pl k m).2 j π)
    · obtain ⟨p, cs, ts, us, h1, h2, h3, h4⟩ := q.al k j π g
      have mj : j ∉ ws := fun z => by rw [no j z] at h2; cases h2
      exact ⟨p, cs, ts, us, by rw [← wipe_get ws σ k m]; exact h1, by rw [gt_back ws ε1 ε j (gt_lt h2), if_neg mj]; exact h2, h3, h4⟩
/-- a thing outside changes -/
theorem Rel.out (q : Rel K cl σ ε own F H) {p : Addr} {o : HO} (f : F p = none) (no : ¬ Own own p) : Rel K cl σ ε own F (upd H p o) where
  sub := fun a u e => by rw [upd_ne (by rintro rfl; rw [f] at e; cases e)]; exact q.sub a u e
  len := q.len
  sh := q.sh
  ow := fun i ts h => let ⟨v, e1, e2⟩ := q.ow i ts h; ⟨v, e1, e2.wr fun m => no ⟨i, m⟩⟩
  no := q.no
  nd := q.nd
  dj := q.dj
  al := q.al
/-- names hold on, but for ws -/
structure Upw (ws : List Nat) (ε ε' : Env) : Prop where
  sh : ∀ j d, j ∉ ws → gt ε j = some (.sh d) → gt ε' j = some (.sh d)
  ow : ∀ j ts, j ∉ ws → gt ε j = some (.ow ts) → (∃ ts', gt ε' j = some (.ow ts')) ∨ ∃ d, gt ε' j = some (.sh d)
theorem Upw.of (u : Up ε ε') : Upw ws ε ε' := ⟨fun j d _ h => u.sh j d h, fun j ts _ h => u.ow j ts h⟩
theorem Upw.trans (a : Upw ws ε ε') (b : Upw ws ε' ε2) : Upw ws ε ε2 := ⟨fun j d m h => b.sh j d m (a.sh j d m h), fun j ts m h => by
  rcases a.ow j ts m h with ⟨ts', h'⟩ | ⟨d, h'⟩
  · exact b.ow j ts' m h'
  · exact .inr ⟨d, b.sh j d m h'⟩⟩
theorem Upw.wipe : Upw ws ε (wipeE ε ws) := ⟨fun j d m h => by rw [gt_wipeE, if_neg m]; exact h, fun j ts m h => .inl ⟨ts, by rw [gt_wipeE, if_neg m]; exact h⟩⟩
theorem Upw.put {i : Nat} {w : Option W} (hi : i ∈ ws) : Upw ws ε (put ε i w) :=
  ⟨fun j d m h => gt_put_sh (by rintro rfl; exact m hi) h, fun j ts m h => .inl ⟨ts, gt_put_ow (by rintro rfl; exact m hi) h⟩⟩
theorem Up.back (u : Upw ws ε1 ε) (l : ε.length = ε1.length) : Up ε1 (PyD.back ε1 ε ws) := by
  refine ⟨fun j d h => ?_, fun j ts h => ?_⟩
  · rw [gt_back ws ε1 ε j (by rw [l]; exact gt_lt h)]
    split
    · exact h
    · rename_i m; exact u.sh j d m h
  · rw [gt_back ws ε1 ε j (by rw [l]; exact gt_lt h)]
    split
    · exact .inl ⟨ts, h⟩
    · rename_i m; exact u.ow j ts m h
/-- names within ws assigned -/
def tgW (ws : List Nat) : Tg → Bool
  | .one i => decide (i ∈ ws)
  | .tup is => is.all fun i => decide (i ∈ ws)
structure Asw (K : PySem.W.Frag) (cl : Nat → Addr) (ws : List Nat) (σ0 : L2.St) (ε : Env) (own : Nat → AT) (F H : Hp) (σ' : L2.St) (ε' : Env) (own' : Nat → AT) : Prop where
  acs : Acs K cl ε own F H σ' ε' own' F H
  up : Upw ws ε ε'
  wi : L2.wipe σ' ws = L2.wipe σ0 ws
theorem asgs_ok2 {σ0 : L2.St} {Q : L2.St → Hp → Prop} : ∀ {is : List Nat} {ds : List D} {vs : List V} {σ : L2.St} {ε : Env} {own : Nat → AT}, (∀ i ∈ is, i ∈ ws) → Asw K cl ws σ0 ε0 own0 F H σ ε own → asgs is ds ε = some ε' → Rps K cl F ds vs → (∀ σ' own', Asw K cl ws σ0 ε0 own0 F H σ' ε' own' → Q σ' H) → gNames is vs σ H Q
  | [], [], vs, σ, ε, own, _, a, e, h, k => by
    cases e
    exact ⟨h, k σ own a⟩
  | i :: is, d :: ds, vs, σ, ε, own, hw, a, e, h, k => by
    obtain ⟨v, r, rfl, h1, h2⟩ := h
    simp only [asgs] at e
    split at e
    · rename_i hi
      obtain ⟨own1, a1⟩ := a.acs.sh hi h1
      have hiw := hw i List.mem_cons_self
      exact ⟨v, r, rfl, asgs_ok2 (fun j m => hw j (List.mem_cons_of_mem _ m)) ⟨a1, a.up.trans (.put hiw), (wipe_eq List.length_set fun k m => List.getElem?_set_ne (by rintro rfl; exact m hiw)).trans a.wi⟩ e h2 k⟩
    · cases e
  | [], _ :: _, _, _, _, _, _, _, e, _, _ => by cases e
  | _ :: _, [], _, _, _, _, _, _, e, _, _ => by cases e
theorem asg_ok2 {Q : L2.St → Hp → Prop} {tg : Tg} {d : D} (hw : tgW ws tg = true) (a : Rel K cl σ ε own F H) (e : asg tg d ε = some ε') (h : Rp K cl F d v) (k : ∀ σ' own', Asw K cl ws σ ε own F H σ' ε' own' → Q σ' H) : gTg K tg v σ H Q := by
  have a0 : Asw K cl ws σ ε own F H σ ε own := ⟨⟨a, Stp.refl⟩, .of (Up.refl ε), rfl⟩
  cases tg with
  | one i =>
    have hw : i ∈ ws := by simpa [tgW] using hw
    simp only [asg] at e
    split at e
    · rename_i hi
      cases e
      obtain ⟨own1, a1⟩ := a0.acs.sh hi h
      exact k _ own1 ⟨a1, .put hw, wipe_eq List.length_set fun k m => List.getElem?_set_ne (by rintro rfl; exact m hw)⟩
    · cases e
  | tup is =>
    cases d with
    | tup ds =>
      obtain ⟨b, xs, rfl, h1, h2⟩ := h
      have hw : ∀ i ∈ is, i ∈ ws := by simpa [tgW] using hw
      exact ⟨b, xs, rfl, SqT.of (a.sub _ _ h1), by rw [← h2.length, asgs_len e], asgs_ok2 hw a0 e h2 k⟩
    | _ => cases e
theorem wipeE_none {k : Nat} (m : k ∈ ws) : gt (wipeE ε ws) k = none := by rw [gt_wipeE, if_pos m]
variable {G : List Fn}
theorem lc_sem {elt : E} {tg : Tg} {kd : ItK} {src ifs : List E} {Q : VK} (hw : tgW ws tg = true) (h : tEv K cl (calm (.lc elt tg kd src ifs ws)) (ev G (.lc elt tg kd src ifs ws)) σ H Q) :
    tLc (iSv K cl (calms src) kd (evs G src)) (gTg K tg) (tTv K cl (calms ifs) (evT G ifs)) (tEv K cl (calm elt) (ev G elt)) ws σ H Q := by
  obtain ⟨ε, own, F, r, ε', q, e, k⟩ := h
  simp only [ev] at e
  cases e1 : evs G src ε with
  | none => rw [e1] at e; cases e
  | some y1 =>
    obtain ⟨ds, ε1⟩ := y1
    rw [e1] at e
    simp only at e
    cases e2 : itD kd ds with
    | none => rw [e2] at e; cases e
    | some its =>
      rw [e2] at e
      simp only at e
      split at e
      · rename_i out ε2 hpl e3
        cases e
        refine ⟨ε, own, F, ds, its, ε1, q, e1, e2, fun J own1 F1 H1 A1 hJ => ?_⟩
        intro Dd hDn
        have FDn : F1 Dd = none := A1.rel.f_none hDn
        have nOwn : ¬ Own own1 Dd := fun z => by
          obtain ⟨_, xs, w⟩ := A1.rel.own_lst z
          rw [hDn] at w; cases w
        refine ⟨fun i m H => m = its.length - i ∧ i ≤ its.length ∧ ∃ ε own F acc xs cs, Rel K cl (L2.wipe σ ws) ε own F H ∧ Stp (Own own1) (Own own) F1 H1 F H ∧ Upw ws ε1 ε ∧ (∀ k ∈ ws, gt ε k = none) ∧ lcF (evT G ifs) (ev G elt) tg ws (its.drop i) ε acc = some (out, ε2) ∧
          H Dd = some (.lst xs) ∧ RTs K cl F H acc xs cs ∧ (AT.alls cs).Nodup ∧ (∀ a ∈ AT.alls cs, H1 a = none ∧ ¬ Own own a ∧ a ≠ Dd) ∧ F Dd = none ∧ ¬ Own own Dd, ⟨its.length, rfl, Nat.zero_le _, wipeE ε1 ws, own1, F1, [], [], [], ?_, ?_, .wipe, fun k m => wipeE_none m, e3, upd_same, ⟨rfl, rfl⟩, List.nodup_nil, fun a m => (by cases m), FDn, nOwn⟩, ?_⟩
        · exact (A1.rel.wipe hpl).out FDn nOwn
        · exact ((A1.rel.fresh (o := .lst []) hDn).2)
        · rintro i m H ⟨rfl, hi, ε3, own3, F3, acc, xs, cs, q3, s3, u3, n3, e3, d3, t3, nd3, o3, fd3, nw3⟩
          have eF : Ex F1 F3 := s3.ex
          obtain ⟨j1, j2⟩ := hJ i F3 H eF q3.sub
          rcases Nat.lt_or_ge i its.length with lt | ge
          · obtain ⟨d, hd⟩ : ∃ d, its[i]? = some d := ⟨its[i], List.getElem?_eq_getElem lt⟩
            have hdrop : its.drop i = d :: its.drop (i + 1) := by
              rw [List.drop_eq_getElem_cons lt]
              rw [List.getElem?_eq_getElem lt] at hd
              cases hd
              rfl
            obtain ⟨go, yl⟩ := j1 d hd
            refine .inr ⟨go, fun H => (i + 1) ≤ its.length ∧ ∃ ε own F acc xs cs, Rel K cl (L2.wipe σ ws) ε own F H ∧ Stp (Own own1) (Own own) F1 H1 F H ∧ Upw ws ε1 ε ∧ (∀ k ∈ ws, gt ε k = none) ∧ lcF (evT G ifs) (ev G elt) tg ws (its.drop (i + 1)) ε acc = some (out, ε2) ∧
              H Dd = some (.lst xs) ∧ RTs K cl F H acc xs cs ∧ (AT.alls cs).Nodup ∧ (∀ a ∈ AT.alls cs, H1 a = none ∧ ¬ Own own a ∧ a ≠ Dd) ∧ F Dd = none ∧ ¬ Own own Dd, fun H' h => ⟨its.length - (i + 1), by omega, rfl, h⟩, fun x H2 y => ?_⟩
            obtain ⟨F4, sF, rx⟩ := yl x H2 y
            have A4 := (Acc.refl (c := true) q3).call sF (v := .non) (r := .sh .non) rfl
            rw [hdrop] at e3
            simp only [lcF] at e3
            cases e4 : asg tg d ε3 with
            | none => rw [e4] at e3; cases e3
            | some ε5 =>
              rw [e4] at e3
              simp only at e3
              refine asg_ok2 hw A4.rel e4 rx fun σ5 own5 A5 => ⟨A5.wi.trans (wipe_eq (wipe_length σ ws) fun k m => wipe_get ws σ k m), ?_⟩
              have hwi : L2.wipe σ5 ws = L2.wipe σ ws := A5.wi.trans (wipe_eq (wipe_length σ ws) fun k m => wipe_get ws σ k m)
              have s5 := A4.stp.trans A5.acs.stp
              have u5 : Upw ws ε1 ε5 := u3.trans A5.up
              -- what stands still
              have still : ∀ {P' : Addr → Prop} {F' H' : Hp}, Stp (Own own3) P' F3 H F' H' → H' Dd = some (.lst xs) ∧ F' Dd = none ∧ ¬ P' Dd ∧ RTs K cl F' H' acc xs cs ∧ ∀ a ∈ AT.alls cs, ¬ P' a := fun {P' F' H'} s => by
                obtain ⟨z1, z2, z3⟩ := news_none s fd3 d3 nw3
                obtain ⟨z4, z5⟩ := RTs.acc s t3 fun a m => (o3 a m).2.1
                exact ⟨z2, z1, z3, z4, z5⟩
              split at e3
              · rename_i ε6 e5
                cases e6 : ev G elt ε6 with
                | none => rw [e6] at e3; cases e3
                | some y6 =>
                  obtain ⟨x6, ε7⟩ := y6
                  rw [e6] at e3
                  simp only at e3
                  cases e7 : asT x6 ε7 with
                  | none => rw [e7] at e3; cases e3
                  | some y7 =>
                    obtain ⟨t7, ε8⟩ := y7
                    rw [e7] at e3
                    simp only at e3
                    split at e3
                    · rename_i hl
                      refine ⟨ε5, own5, F4, true, ε6, A5.acs.rel, e5, fun own6 F6 H6 A6 => itT ?_⟩
                      refine ⟨ε6, own6, F6, x6, ε7, A6.rel, e6, fun y own7 F7 H7 R7 => ?_⟩
                      obtain ⟨own8, F8, ct, A8, b1, b2, b3⟩ := asT_acc R7 e7
                      have s8 : Stp (Own own3) (Own own8) F3 H F8 H7 := (s5.trans A6.stp).trans A8.stp
                      obtain ⟨z1, z2, z3, z4, z5⟩ := still s8
                      refine ⟨xs, z1, ?_, lt, wipeE ε8 ws, own8, F8, acc ++ [t7], xs ++ [y], cs ++ [ct], ?_, ?_, ?_, fun k m => wipeE_none m, e3, upd_same, ?_, ?_, ?_, z2, z3⟩
                      · rw [← z4.len.1]; exact Nat.lt_of_lt_of_le hl.1 (by decide)
                      · rw [← hwi]
                        exact (A8.rel.wipe hl.2).out z2 z3
                      · have s18 := s3.trans s8
                        refine ⟨s18.ex, fun a o e n => ?_, fun a e => ?_, s18.news, s18.own⟩
                        · rw [upd_ne (by rintro rfl; rw [hDn] at e; cases e)]
                          exact s18.keep a o e n
                        · by_cases w : a = Dd
                          · subst w; exact hDn
                          · rw [upd_ne w] at e; exact s18.dom a e
                      · exact ((u5.trans (.of A6.up)).trans (.of A8.up)).trans .wipe
                      · have ctD : ∀ a ∈ AT.all ct, a ≠ Dd := by
                          rintro a m rfl
                          have w := (b3 a m).1
                          have w2 := (still (s5.trans A6.stp)).1
                          rw [w] at w2; cases w2
                        refine (z4.wr fun m => (o3 _ m).2.2 rfl).app ⟨y, [], ct, [], rfl, rfl, b1.wr fun m => ctD _ m rfl, rfl, rfl⟩
                      · rw [alls_app]
                        refine List.nodup_append.mpr ⟨nd3, ?_, ?_⟩
                        · show (AT.all ct ++ []).Nodup
                          rw [List.append_nil]; exact b2
                        · rintro a m b mb rfl
                          have mb : a ∈ AT.all ct ++ [] := mb
                          rw [List.append_nil] at mb
                          -- the new tree is new
                          obtain ⟨_, ys, w⟩ := RTs.lst _ _ _ (RTs.acc (s5.trans A6.stp) t3 fun a m => (o3 a m).2.1).1 a m
                          rw [(b3 a mb).1] at w
                          cases w
                      · intro a m
                        rw [alls_app] at m
                        rcases List.mem_append.mp m with m | m
                        · exact ⟨(o3 a m).1, z5 a m, (o3 a m).2.2⟩
                        · have m : a ∈ AT.all ct ++ [] := m
                          rw [List.append_nil] at m
                          refine ⟨s3.dom a ((s5.trans A6.stp).dom a (b3 a m).1), (b3 a m).2, ?_⟩
                          rintro rfl
                          have w2 := (still (s5.trans A6.stp)).1
                          rw [(b3 a m).1] at w2; cases w2
                    · cases e3
              · rename_i ε6 e5
                split at e3
                · rename_i hl
                  refine ⟨ε5, own5, F4, false, ε6, A5.acs.rel, e5, fun own6 F6 H6 A6 => itF ?_⟩
                  have s6 : Stp (Own own3) (Own own6) F3 H F6 H6 := s5.trans A6.stp
                  obtain ⟨z1, z2, z3, z4, z5⟩ := still s6
                  exact ⟨lt, wipeE ε6 ws, own6, F6, acc, xs, cs, by rw [← hwi]; exact A6.rel.wipe hl, s3.trans s6, (u5.trans (.of A6.up)).trans .wipe, fun k m => wipeE_none m, e3, z1, z4, nd3, fun a m => ⟨(o3 a m).1, z5 a m, (o3 a m).2.2⟩, z2, z3⟩
                · cases e3
              · cases e3
          · have he : i = its.length := by omega
            subst he
            rw [List.drop_length] at e3
            simp only [lcF] at e3
            have ll : ε3.length = ε1.length := by rw [← q3.len, wipe_length, A1.rel.len]
            cases e3
            refine .inl ⟨j2 (Nat.le_refl _), ?_⟩
            have rl := A1.rel.back hpl eF q3 n3
            refine k (.ref Dd) own3 F3 H ⟨⟨rl, A1.stp.trans s3, A1.up.trans (Up.back u3 ll), fun z => by cases z⟩, .node Dd cs, ⟨Dd, cs, xs, rfl, rfl, fd3, d3, t3⟩, List.nodup_cons.mpr ⟨fun m => (o3 Dd m).2.2 rfl, nd3⟩, fun a m => ?_⟩
            rcases List.mem_cons.mp m with z | m
            · subst z; exact ⟨A1.stp.dom _ hDn, nw3⟩
            · exact ⟨A1.stp.dom _ (o3 a m).1, (o3 a m).2.1⟩
      · cases e
end
end PyD
set_option Elab.async false
set_option linter.all false
set_option maxRecDepth 100000
set_option maxHeartbeats 2000000
/-! PyJ: expressions of the text, made data; what that says of them. -/
namespace PyD
open PySem L2 Evl PyProof.Rows

/-- what the global names of a text mean -/
structure Tb where
  fs : List (Str × Nat)
  fl : List (Str × List Nat)
def bopOf : Operator → Option Bop
  | .Add => some .add | .Sub => some .sub | .Mult => some .mul | .FloorDiv => some .fdiv | .Mod => some .mod | .Pow => some .pow | .LShift => some .shl | _ => none
theorem bopOf_ok {o : Operator} {b : Bop} (h : bopOf o = some b) : o = bopO b := by
  cases o <;> cases h <;> rfl
def copOf : CmpOp → Option Cop
  | .Lt => some .lt | .LtE => some .le | .Gt => some .gt | .GtE => some .ge | .Eq => some .eq | .NotEq => some .ne | .Is => some .is | .IsNot => some .isnt | .In => some .in_ | .NotIn => some .notin
theorem copOf_ok {o : CmpOp} {b : Cop} (h : copOf o = some b) : o = copO b := by
  cases o <;> cases h <;> rfl
def isStar : Expr → Bool
  | .Starred .. => true
  | _ => false
def isSl : Expr → Bool
  | .Slice .. => true
  | _ => false
def isLc : Expr → Bool
  | .ListComp .. => true
  | .SetComp .. => true
  | .DictComp .. => true
  | _ => false
def visB (sc : Scope) (x : Str) : Bool := match sc.names.lookup x with
  | some .local => true
  | some .cell => true
  | some .free => true
  | _ => false
theorem visB_ok {sc : Scope} {x : Str} (h : visB sc x = true) : Vis sc x := by
  unfold visB at h
  split at h
  · exact .inl (by assumption)
  · exact .inr (.inl (by assumption))
  · exact .inr (.inr (by assumption))
  · cases h
def glB (sc : Scope) (x : Str) : Bool := match sc.names.lookup x with
  | some .globalImplicit => true
  | _ => false
theorem glB_ok {sc : Scope} {x : Str} (h : glB sc x = true) : sc.names.lookup x = some .globalImplicit := by
  unfold glB at h
  split at h
  · assumption
  · cases h
/-- the place of a name that is looked at -/
def slot (N : List Str) (sc : Scope) (x : Str) : Option Nat :=
  if (visB sc x && ((x == ("__debug__" : Str)) == false && (x == ("__classdict__" : Str)) == false)) = true then (if N[N.idxOf x]? = some x then some (N.idxOf x) else none) else none
/-- .. that is stored to -/
def slotS (N : List Str) (sc : Scope) (own : Str → Bool) (x : Str) : Option Nat := match sc.names.lookup x with
  | some .local => slot N sc x
  | some .cell => if own x = true then slot N sc x else none
  | _ => none
theorem slot_ok {N : List Str} {sc : Scope} {x : Str} {i : Nat} (h : slot N sc x = some i) : Vis sc x ∧ (x == ("__debug__" : Str)) = false ∧ (x == ("__classdict__" : Str)) = false ∧ N[i]? = some x := by
  unfold slot at h
  split at h
  · rename_i c
    simp only [Bool.and_eq_true, beq_iff_eq] at c
    split at h
    · rename_i d
      cases h
      exact ⟨visB_ok c.1, by simpa using c.2.1, by simpa using c.2.2, d⟩
    · cases h
  · cases h
theorem slotS_ok {N : List Str} {sc : Scope} {own : Str → Bool} {x : Str} {i : Nat} (h : slotS N sc own x = some i) : Loc sc x ∧ (own x = true ∨ sc.names.lookup x = some .local) ∧ N[i]? = some x := by
  unfold slotS at h
  split at h
  · rename_i z; exact ⟨.inl z, .inr z, (slot_ok h).2.2.2⟩
  · rename_i z
    split at h
    · rename_i w; exact ⟨.inr z, .inl w, (slot_ok h).2.2.2⟩
    · cases h
  · cases h
def b1s : List B1 := [.len, .abs, .sum, .minL, .maxL, .int, .bool, .tuple, .list, .any, .all, .sortI, .rng]
def b1Of (x : Str) : Option B1 := b1s.find? fun b => b1N b == x
theorem b1Of_ok {x : Str} {b : B1} (h : b1Of x = some b) : x = b1N b := by
  have := List.find?_some h
  exact (by simpa using this : b1N b = x).symm
def b2Of (x : Str) : Option B2 := if x = "min" then some .min else if x = "max" then some .max else if x = "gcd" then some .gcd else none
def tyOf (x : Str) : Option Ty := [Ty.int, .bool, .str, .tuple, .list].find? fun t => (tyV' t : Str) == x
def cAnd (f : Expr → E) : List Expr → E
  | [] => .bad
  | [a] => f a
  | a :: b :: r => .and (f a) (cAnd f (b :: r))
def cOr (f : Expr → E) : List Expr → E
  | [] => .bad
  | [a] => f a
  | a :: b :: r => .or (f a) (cOr f (b :: r))
def cNames (N : List Str) (sc : Scope) (own : Str → Bool) : List Expr → Option (List Nat)
  | [] => some []
  | .Name x _ :: r => match slotS N sc own x, cNames N sc own r with
    | some i, some is => some (i :: is)
    | _, _ => none
  | _ :: _ => none
/-- a target -/
def cTg (N : List Str) (sc : Scope) (own : Str → Bool) : Expr → Option Tg
  | .Name x _ => (slotS N sc own x).map .one
  | .Tuple es _ _ => (cNames N sc own es).map .tup
  | _ => none
def tgOwn (N : List Str) : Expr → List (Str × Nat)
  | .Name x _ => [(x, N.idxOf x)]
  | .Tuple es _ _ => es.map fun e => match e with
    | .Name x _ => (x, N.idxOf x)
    | _ => ("", 0)
  | _ => []
/-- tests within tests -/
def tst : Nat → Expr → Bool
  | 0, _ => false
  | n + 1, e => match e with
    | .BoolOp _ es _ => es.all (tst n)
    | .UnaryOp .Not a _ => tst n a
    | .IfExp .. => false
    | .Compare _ [_] [_] _ => true
    | .Compare .. => false
    | _ => true
/-- the whole walk of a for: what it is made of, its kind -/
def cIt (f : Expr → E) (gl : Str → Bool) (e : Expr) : Option (ItK × List E) := match e with
  | .Call (.Name x _) [a] [] _ => if (x == ("range" : Str) && (gl x && !isStar a)) = true then some (.rng1, [f a]) else if isStar e = true then none else some (.seq, [f e])
  | .Call (.Name x _) [a, b] [] _ => if (x == ("range" : Str) && (gl x && (!isStar a && !isStar b))) = true then some (.rng2, [f a, f b]) else some (.seq, [f e])
  | .Set .. => none
  | e => if isStar e = true then none else some (.seq, [f e])
section
variable (tb : Tb) (N : List Str)
def cCall (f : Expr → E) (sc : Scope) (x : Str) (es : List Expr) : E :=
  if (glB sc x && ((x == ("__debug__" : Str)) == false && !(es.any isStar))) = true then match tb.fs.lookup x with
    | some j => if es.isEmpty = true then .bad else .call j (es.map f)
    | none => match es with
      | [a] => match b1Of x with
        | some b => .b1 b (f a)
        | none => .bad
      | [a, b] => if x = "isinstance" then (match b with
          | .Name t _ => if glB sc t = true ∧ tb.fs.lookup t = none then (match tyOf t with
            | some ty => .isi (f a) ty
            | none => .bad) else .bad
          | _ => .bad) else match b2Of x with
        | some bb => .b2 bb (f a) (f b)
        | none => .bad
      | _ => .bad
  else .bad
def cMeth (f : Expr → E) (sc : Scope) (x m : Str) (es : List Expr) (ok : Bool) : E := match slot N sc x, ok && !(es.any isStar) with
  | some i, true => if m = "pop" then (match es with
      | [] => .pop0 i
      | [a] => .popI i (f a)
      | _ => .bad) else .bad
  | _, _ => .bad
def cE : Nat → Scope → (Str → Bool) → Expr → E
  | 0, _, _, _ => .bad
  | n + 1, sc, own, e => match e with
    | .Name x _ => match slot N sc x with
      | some i => .var i
      | none => .bad
    | .Constant c _ _ => match c with
      | .int i => .con (.int i)
      | .bool b => .con (.bl b)
      | .none => .con .non
      | .str s => .con (.str s)
      | _ => .bad
    | .BinOp a o b _ => match bopOf o with
      | some o' => .bin o' (cE n sc own a) (cE n sc own b)
      | none => .bad
    | .UnaryOp o a _ => match o with
      | .USub => .neg (cE n sc own a)
      | .Not => if tst n a = true then .not (cE n sc own a) else .bad
      | _ => .bad
    | .BoolOp o es _ => match o with
      | .And => cAnd (cE n sc own) es
      | .Or => cOr (cE n sc own) es
    | .Compare a ops bs _ => match ops, bs with
      | [o], [b] => match copOf o, behindInMarks o b with
        | some o', false => .cmp o' (cE n sc own a) (cE n sc own b)
        | _, _ => .bad
      | _, _ => .bad
    | .IfExp c a b _ => if tst n c = true then .ite (cE n sc own c) (cE n sc own a) (cE n sc own b) else .bad
    | .Tuple es _ _ => if es.any isStar = true then .bad else .tup (es.map (cE n sc own))
    | .List es _ => if es.any isStar = true then .bad else .lst (es.map (cE n sc own))
    | .Subscript a s _ => match s with
      | .Slice (some lo) (some hi) none _ => .slc (cE n sc own a) (cE n sc own lo) (cE n sc own hi)
      | .Slice (some lo) none none _ => .slcF (cE n sc own a) (cE n sc own lo)
      | .Slice none (some hi) none _ => .slcT (cE n sc own a) (cE n sc own hi)
      | b => if isSl b = true then .bad else .ix (cE n sc own a) (cE n sc own b)
    | .Attribute a f _ => match a with
      | .Name .. => match tb.fl.lookup f with
        | some cs => .fld (cE n sc own a) f cs
        | none => .bad
      | .Call _ (_ :: _) _ _ => match tb.fl.lookup f with
        | some cs => .fld (cE n sc own a) f cs
        | none => .bad
      | _ => .bad
    | .Call g es ks cpos => match ks with
      | [] => match g with
        | .Name x _ => cCall tb (cE n sc own) sc x es
        | .Attribute (.Name x _) m apos => cMeth N (cE n sc own) sc x m es (apos.endLine == cpos.line)
        | _ => .bad
      | _ => .bad
    | .ListComp elt gs scope _ => match gs with
      | [⟨tg, it, ifs, 0⟩] => match cTg N (relS scope sc) (fun x => scope.names.lookup x == some .cell) tg, cIt (cE n sc own) (glB sc) it, blkC N sc scope (tgOwn N tg) with
        | some tg', some (kd, src), true => match ifs with
          | [] => if tgW ((tgOwn N tg).map (·.2)) tg' = true then .lc (cE n (relS scope sc) (fun x => scope.names.lookup x == some .cell) elt) tg' kd src [] ((tgOwn N tg).map (·.2)) else .bad
          | [c] => if tgW ((tgOwn N tg).map (·.2)) tg' = true ∧ tst n c = true then .lc (cE n (relS scope sc) (fun x => scope.names.lookup x == some .cell) elt) tg' kd src [cE n (relS scope sc) (fun x => scope.names.lookup x == some .cell) c] ((tgOwn N tg).map (·.2)) else .bad
          | _ => .bad
        | _, _, _ => .bad
      | _ => .bad
    | _ => .bad
end
/-- a def of the text, called -/
def CallP (P : Program) (w : World) (K : PySem.W.Frag) (mg : Str → Option Value) (base : Heap) (A : Around) (cl : Nat → Addr) (x : Str) (f : Fn) : Prop :=
  ∀ X : Cx, X.prog = P → X.w = w → X.K = K → X.mg = mg → X.base = base → X.A = A → Gl X x → ∀ (es : List Expr) (t : TA) (p pos : Pos), es.any isStar = false → es.isEmpty = false → PA X es t →
    PE X (.Call (.Name x p) es [] pos) (fun σ H Q => t σ H fun vs H1 => spD K cl f vs H1 Q fun _ _ _ => False)
structure Tab (tb : Tb) (G : List Fn) (cl : Nat → Addr) (P : Program) (w : World) (K : PySem.W.Frag) (mg : Str → Option Value) (base : Heap) (A : Around) : Prop where
  call : ∀ x j, tb.fs.lookup x = some j → ∃ f, G[j]? = some f ∧ CallP P w K mg base A cl x f
  blt : ∀ x ∈ b1s.map b1N, mg x = none
  isi : mg "isinstance" = none
  str : mg "str" = none
  gcd : tb.fs.lookup ("gcd" : Str) = none → mg "gcd" = some (.builtin "math.gcd")
  fld : ∀ f cs, tb.fl.lookup f = some cs → ∀ c ∈ cs, Cls K (cl c) ∧ NoAttr K (cl c) f
structure Ctx (tb : Tb) (G : List Fn) (cl : Nat → Addr) (N : List Str) (sc : Scope) (own : Str → Bool) (X : Cx) : Prop where
  calm : X.calm = true
  nd : X.N.Nodup
  N : X.N = N
  sc : X.env.scope = sc
  fn : ∀ x, own x = true → X.fn x = true
  units : X.A.units + 64 < cLine
  tab : Tab tb G cl X.prog X.w X.K X.mg X.base X.A
section
variable {tb : Tb} {G : List Fn} {cl : Nat → Addr} {N : List Str} {sc scope : Scope} {own : Str → Bool} {X : Cx} {e a b : Expr} {es : List Expr} {pos p : Pos} {c : Bool} {f : Expr → E}
theorem Ctx.blk (C : Ctx tb G cl N sc own X) (s : Shared) (H : Hp) (A : Addr) (cs : List (Str × Addr)) (fp : List Addr) : Ctx tb G cl N (relS scope sc) (fun x => scope.names.lookup x == some .cell) (X.blk s H scope (compEnvC scope cs A X.env) fp) :=
  ⟨C.calm, C.nd, C.N, by show relS scope X.env.scope = _; rw [C.sc], fun x h => h, C.units, C.tab⟩
theorem pe_bad : PE X e (tEv X.K cl c (ev G .bad)) := ⟨fun pins s σ H Q I ⟨ε, own, F, r, ε', q, e, k⟩ => by cases e⟩
theorem star_one (h : isStar e = false) : starEach (e :: es) X.env = (false, eval e X.env) :: starEach es X.env := by
  cases e <;> first | rfl | cases h
theorem star_any : ∀ {es : List Expr}, es.any isStar = false → (backTo pos (starEach es X.env)).any (·.1) = false
  | [], _ => rfl
  | e :: es, h => by
    rw [List.any_cons, Bool.or_eq_false_iff] at h
    rw [star_one h.1]
    show (false || (backTo pos (starEach es X.env)).any (·.1)) = false
    rw [star_any h.2]
    rfl
theorem args_ok : ∀ {es : List Expr}, es.any isStar = false → (∀ e, PE X e (tEv X.K cl (calm (f e)) (ev G (f e)))) → PA X es (tAv X.K cl (calms (es.map f)) (evs G (es.map f)))
  | [], _, _ => pa_nil_ok
  | e :: es, h, w => by
    rw [List.any_cons, Bool.or_eq_false_iff] at h
    exact pa_cons_ok (w e) (args_ok h.2 w) (star_one h.1)
theorem cAnd_pe (w : ∀ e, PE X e (tEv X.K cl (calm (f e)) (ev G (f e)))) : ∀ es : List Expr, PE X (.BoolOp .And es pos) (tEv X.K cl (calm (cAnd f es)) (ev G (cAnd f es)))
  | [] => pe_bad
  | [a] => pe_one (w a)
  | a :: b :: r => and_ok (w a) (cAnd_pe w (b :: r))
theorem cOr_pe (w : ∀ e, PE X e (tEv X.K cl (calm (f e)) (ev G (f e)))) : ∀ es : List Expr, PE X (.BoolOp .Or es pos) (tEv X.K cl (calm (cOr f es)) (ev G (cOr f es)))
  | [] => pe_bad
  | [a] => pe_one (w a)
  | a :: b :: r => or_ok (w a) (cOr_pe w (b :: r))
theorem pw_bad : PW X e (tTv X.K cl c (ev G .bad)) := ⟨fun wh pins s σ H Q I ⟨ε, own, F, r, ε', q, e, k⟩ => by cases e⟩
theorem cAnd_pw : ∀ {es : List Expr}, (∀ e ∈ es, PT X e (tTv X.K cl (calm (f e)) (ev G (f e)))) → PW X (.BoolOp .And es pos) (tTv X.K cl (calm (cAnd f es)) (ev G (cAnd f es)))
  | [], _ => pw_bad
  | [a], w => pw_and1 (w a (by simp))
  | a :: b :: r, w => wand_ok (w a (by simp)) (cAnd_pw fun e m => w e (List.mem_cons_of_mem _ m))
theorem cOr_pw : ∀ {es : List Expr}, (∀ e ∈ es, PT X e (tTv X.K cl (calm (f e)) (ev G (f e)))) → PW X (.BoolOp .Or es pos) (tTv X.K cl (calm (cOr f es)) (ev G (cOr f es)))
  | [], _ => pw_bad
  | [a], w => pw_or1 (w a (by simp))
  | a :: b :: r, w => wor_ok (w a (by simp)) (cOr_pw fun e m => w e (List.mem_cons_of_mem _ m))
theorem not_pe (ha : PE X a (tEv X.K cl (calm (f a)) (ev G (f a)))) : PE X (.UnaryOp .Not a pos) (tEv X.K cl (calm (.not (f a))) (ev G (.not (f a)))) :=
  PE.imp (pe_not ha) fun σ H Q ⟨ε, own, F, r, ε', q, e, k⟩ => by
    simp only [ev] at e
    split at e
    · rename_i b ε1 h
      cases e
      exact ⟨ε, own, F, _, _, q, h, fun v own1 F1 H1 R1 => ⟨b, R1.rep, k _ own1 F1 H1 ⟨R1.toAcc, rfl⟩⟩⟩
    · cases e
/-! ### built-ins by name -/
theorem b1_pe (C : Ctx tb G cl N sc own X) (bb : B1) (hg : Gl X (b1N bb)) (ha : PE X a (tEv X.K cl (calm (f a)) (ev G (f a)))) (hs : isStar a = false) : PE X (.Call (.Name (b1N bb) p) [a] [] pos) (tEv X.K cl (calm (.b1 bb (f a))) (ev G (.b1 bb (f a)))) := by
  have hm : X.mg (b1N bb) = none := C.tab.blt _ (by cases bb <;> decide)
  have pa := pa_cons (X := X) ha pa_nil (star_one hs)
  refine b1_ok' C.calm bb ha ?_
  have he : starEach [a] X.env = (false, eval a X.env) :: starEach [] X.env := star_one hs
  cases bb with
  | len => exact pe_callB (b1_ok C.calm .len) hg hm boot_len pa (by decide) (by decide) he
  | abs => exact pe_callB (b1_ok C.calm .abs) hg hm (by decide +kernel) pa (by decide) (by decide) he
  | sum => exact pe_callB (b1_ok C.calm .sum) hg hm (by decide +kernel) pa (by decide) (by decide) he
  | minL => exact pe_callB (b1_ok C.calm .minL) hg hm (by decide +kernel) pa (by decide) (by decide) he
  | maxL => exact pe_callB (b1_ok C.calm .maxL) hg hm (by decide +kernel) pa (by decide) (by decide) he
  | int => exact pe_callTy (b1_ok C.calm .int) hg hm (by decide +kernel) pa (by decide) (by decide) he
  | bool => exact pe_callTy (b1_ok C.calm .bool) hg hm (by decide +kernel) pa (by decide) (by decide) he
  | tuple => exact pe_callTy (b1_ok C.calm .tuple) hg hm (by decide +kernel) pa (by decide) (by decide) he
  | list => exact pe_callTy (b1_ok C.calm .list) hg hm (by decide +kernel) pa (by decide) (by decide) he
  | any => exact pe_callB (b1_ok C.calm .any) hg hm (by decide +kernel) pa (by decide) (by decide) he
  | all => exact pe_callB (b1_ok C.calm .all) hg hm (by decide +kernel) pa (by decide) (by decide) he
  | sortI => exact pe_callB (b1_ok C.calm .sortI) hg hm (by decide +kernel) pa (by decide) (by decide) he
  | sortP => exact pe_callB (b1_ok C.calm .sortP) hg hm (by decide +kernel) pa (by decide) (by decide) he
  | rng => exact pe_callTy (b1_ok C.calm .rng) hg hm (by decide +kernel) pa (by decide) (by decide) he
theorem b2_pe (C : Ctx tb G cl N sc own X) {x : Str} {bb : B2} (hx : b2Of x = some bb) (hf : tb.fs.lookup x = none) (hg : Gl X x) (ha : PE X a (tEv X.K cl (calm (f a)) (ev G (f a)))) (hb : PE X b (tEv X.K cl (calm (f b)) (ev G (f b)))) (hs : isStar a = false) (hs2 : isStar b = false) :
    PE X (.Call (.Name x p) [a, b] [] pos) (tEv X.K cl (calm (.b2 bb (f a) (f b))) (ev G (.b2 bb (f a) (f b)))) := by
  have pa := pa_cons (X := X) ha (pa_cons hb pa_nil (star_one hs2)) (star_one hs)
  have he : starEach [a, b] X.env = (false, eval a X.env) :: starEach [b] X.env := star_one hs
  have hpl : (backTo pos (starEach [b] X.env)).any (·.1) = false := star_any (by simp [hs2])
  refine b2_ok' bb ?_
  unfold b2Of at hx
  split at hx
  · rename_i e
    cases hx
    subst e
    exact pe_callB (b2_ok C.calm .min) hg (C.tab.blt _ (List.mem_map.mpr ⟨.minL, by decide, rfl⟩)) (by decide +kernel) pa (by decide) (by decide) he hpl
  · split at hx
    · rename_i e
      cases hx
      subst e
      exact pe_callB (b2_ok C.calm .max) hg (C.tab.blt _ (List.mem_map.mpr ⟨.maxL, by decide, rfl⟩)) (by decide +kernel) pa (by decide) (by decide) he hpl
    · split at hx
      · rename_i e
        cases hx
        subst e
        exact pe_callBfun (b2_ok C.calm .gcd) hg (C.tab.gcd hf) pa (by decide) he hpl
      · cases hx

theorem PTs.imp {X : Cx} {es : List Expr} {t t' : TT} (h : PTs X es t) (w : ∀ σ H Q, t' σ H Q → t σ H Q) : PTs X es t' := ⟨fun pins s σ H Q I z => h.run pins s σ H Q I (w σ H Q z)⟩
theorem plainIx {b : Expr} (h : isSl b = false) : PlainIx b := by
  intro o i
  cases b <;> first | rfl | cases h
theorem gl_of (C : Ctx tb G cl N sc own X) {x : Str} (h : glB sc x = true) : Gl X x := by
  show X.env.scope.names.lookup x = _
  rw [C.sc]
  exact glB_ok h
theorem names_ok (C : Ctx tb G cl N sc own X) : ∀ {es : List Expr} {is : List Nat}, cNames N sc own es = some is → PGs X es (gNames is) ∧ (assignEach es X.env).length = is.length ∧ (assignEach es X.env).findIdx? (·.1) = none
  | [], is, h => by
    cases h
    exact ⟨pgs_nil, rfl, rfl⟩
  | e :: es, is, h => by
    cases e with
    | Name x p =>
      simp only [cNames] at h
      cases h1 : slotS N sc own x with
      | none => rw [h1] at h; cases h
      | some i =>
        cases h2 : cNames N sc own es with
        | none => rw [h1, h2] at h; cases h
        | some js =>
          rw [h1, h2] at h
          cases h
          obtain ⟨l1, l2, l3⟩ := slotS_ok h1
          obtain ⟨g1, g2, g3⟩ := names_ok C h2
          refine ⟨pgs_cons (pg_name C.nd (by rw [C.N]; exact l3) (by rw [C.sc]; exact l1) (by rw [C.sc]; exact l2.imp (C.fn x) id)) g1 rfl, ?_, ?_⟩
          · show (assignEach es X.env).length + 1 = _
            rw [g2]
            rfl
          · show ((false, assign (.Name x p) X.env) :: assignEach es X.env).findIdx? (·.1) = none
            rw [List.findIdx?_cons, g3]
            rfl
    | _ => cases h
theorem cTg_ok (C : Ctx tb G cl N sc own X) {tg : Expr} {t : Tg} (h : cTg N sc own tg = some t) : PG X tg (gTg X.K t) := by
  cases tg with
  | Name x p =>
    simp only [cTg] at h
    cases h1 : slotS N sc own x with
    | none => rw [h1] at h; cases h
    | some i =>
      rw [h1] at h
      cases h
      obtain ⟨l1, l2, l3⟩ := slotS_ok h1
      exact pg_name C.nd (by rw [C.N]; exact l3) (by rw [C.sc]; exact l1) (by rw [C.sc]; exact l2.imp (C.fn x) id)
  | Tuple es k p =>
    simp only [cTg] at h
    cases h1 : cNames N sc own es with
    | none => rw [h1] at h; cases h
    | some is =>
      rw [h1] at h
      cases h
      obtain ⟨g1, g2, g3⟩ := names_ok C h1
      exact pg_tup C.calm g1 g2 g3
  | _ => cases h
theorem call_pe (C : Ctx tb G cl N sc own X) (w : ∀ e, PE X e (tEv X.K cl (calm (f e)) (ev G (f e)))) (x : Str) (es : List Expr) : PE X (.Call (.Name x p) es [] pos) (tEv X.K cl (calm (cCall tb f sc x es)) (ev G (cCall tb f sc x es))) := by
  unfold cCall
  split
  · rename_i h
    simp only [Bool.and_eq_true, beq_iff_eq, Bool.not_eq_true'] at h
    obtain ⟨h1, h2, h3⟩ := h
    have hg := gl_of C h1
    split
    · rename_i j hj
      obtain ⟨F, hF, hC⟩ := C.tab.call x j hj
      split
      · exact pe_bad
      · rename_i hne
        exact call_ok hF (hC X rfl rfl rfl rfl rfl rfl hg es _ p pos h3 (by simpa using hne) (args_ok h3 w))
    · rename_i hj
      split
      · rename_i a
        have hs : isStar a = false := by simpa using h3
        split
        · rename_i bb hb
          have := b1Of_ok hb
          subst this
          exact b1_pe C bb hg (w a) hs
        · exact pe_bad
      · rename_i a b
        have hs : isStar a = false ∧ isStar b = false := by simpa using h3
        split
        · rename_i hx
          subst hx
          split
          · rename_i t pt
            split
            · rename_i ht
              split
              · rename_i ty hty
                have et : t = (tyV' ty : Str) := by
                  unfold tyOf at hty
                  have := List.find?_some hty
                  exact (by simpa using this : ((tyV' ty : String) : Str) = t).symm
                subst et
                have hgt := gl_of C ht.1
                have hm : X.mg (tyV' ty : Str) = none := by
                  cases ty with
                  | int => exact C.tab.blt (b1N .int) (by decide)
                  | bool => exact C.tab.blt (b1N .bool) (by decide)
                  | str => exact C.tab.str
                  | tuple => exact C.tab.blt (b1N .tuple) (by decide)
                  | list => exact C.tab.blt (b1N .list) (by decide)
                have pt : PE X (.Name (tyV' ty : Str) pt) (tC (.ty (tyV' ty))) := pe_bltn hgt hm (by cases ty <;> decide +kernel) (u := .type (tyV' ty)) rfl (by cases ty <;> decide) (by cases ty <;> decide)
                have he : starEach [a, .Name (tyV' ty : Str) ‹Pos›] X.env = (false, eval a X.env) :: starEach [.Name (tyV' ty : Str) ‹Pos›] X.env := star_one hs.1
                exact isi_ok' (pt := pos) ty (pe_callB (isi_ok ty) hg C.tab.isi (by decide +kernel) (pa_cons (w a) (pa_cons pt pa_nil rfl) (star_one hs.1)) (by decide) (by decide) he rfl)
              · exact pe_bad
            · exact pe_bad
          · exact pe_bad
        · split
          · rename_i bb hb
            exact b2_pe C hb hj hg (w a) (w b) hs.1 hs.2
          · exact pe_bad
      · exact pe_bad
  · exact pe_bad
theorem var_pe (C : Ctx tb G cl N sc own X) {x : Str} {i : Nat} (h : slot N sc x = some i) : PE X (.Name x p) (tEv X.K cl true (ev G (.var i))) := by
  obtain ⟨h1, h2, h3, h4⟩ := slot_ok h
  exact pe_var_ok (by rw [C.N]; exact h4) (by rw [C.sc]; exact h1) h2 h3
theorem meth_pe (C : Ctx tb G cl N sc own X) (w : ∀ e, PE X e (tEv X.K cl (calm (f e)) (ev G (f e)))) (x m : Str) (es : List Expr) {apos : Pos} : PE X (.Call (.Attribute (.Name x p) m apos) es [] pos) (tEv X.K cl (calm (cMeth N f sc x m es (apos.endLine == pos.line))) (ev G (cMeth N f sc x m es (apos.endLine == pos.line)))) := by
  unfold cMeth
  split
  · rename_i i hi hb
    simp only [Bool.and_eq_true, Bool.not_eq_true'] at hb
    obtain ⟨hl, hs⟩ := hb
    split
    · rename_i hm
      subst hm
      split
      · exact pop0_ok (var_pe C hi) fun ho => pe_bm0 PySem.F.plainAttrs_list PySem.F.slot_list_pop PySem.F.type_list_pop mt_pop ho rfl hl
      · rename_i a
        have hs : isStar a = false := by simpa using hs
        refine popI_ok (var_pe C hi) (w a) fun ho ha => pe_bm PySem.F.plainAttrs_list PySem.F.slot_list_pop PySem.F.type_list_pop mt_popAt ho (pa_cons ha pa_nil (star_one hs)) rfl ?_ hl (star_one hs) rfl
        rw [star_one hs]
        rfl
      · exact pe_bad
    · exact pe_bad
  · exact pe_bad
theorem it_ok (C : Ctx tb G cl N sc own X) (w : ∀ e, PE X e (tEv X.K cl (calm (f e)) (ev G (f e)))) {tg it : Expr} {kd : ItK} {src : List E} (h : cIt f (glB sc) it = some (kd, src)) : PI X tg it (iSv X.K cl (calms src) kd (evs G src)) := by
  have hr : X.mg "range" = none := C.tab.blt (b1N .rng) (by decide)
  have sq : ∀ e, PI X tg e (iSv X.K cl (calms [f e]) .seq (evs G [f e])) := fun e => seq_ok (w e)
  unfold cIt at h
  split at h
  · rename_i x p a pos
    split at h
    · rename_i hx
      simp only [Bool.and_eq_true, beq_iff_eq, Bool.not_eq_true'] at hx
      obtain ⟨rfl, hg, hs⟩ := hx
      cases h
      exact rng1_ok (args_ok (es := [a]) (by simp [hs]) w) fun pa => pi_range1 (gl_of C hg) hr pa (star_one hs)
    · split at h
      · cases h
      · cases h; exact sq _
  · rename_i x p a b pos
    split at h
    · rename_i hx
      simp only [Bool.and_eq_true, beq_iff_eq, Bool.not_eq_true'] at hx
      obtain ⟨rfl, hg, hs1, hs2⟩ := hx
      cases h
      refine rng2_ok (args_ok (es := [a, b]) (by simp [hs1, hs2]) w) fun pa => pi_range2 (gl_of C hg) hr pa ?_ (star_one hs2)
      rw [star_one hs1, star_one hs2]
      rfl
    · cases h; exact sq _
  · cases h
  · split at h
    · cases h
    · cases h; exact sq _
theorem it_set {it : Expr} {r : ItK × List E} {gl : Str → Bool} (h : cIt f gl it = some r) (env : PySem.Env) : ∀ x, foldedSetIterable it env x = pure x := by
  intro x
  cases it <;> first | rfl | (cases h)
theorem pt_gen (h : PE X e (tEv X.K cl c (ev G ea))) (n : Nat) (ht : tst (n + 1) e = true) (nb : ∀ o es p, e ≠ .BoolOp o es p) (nn : ∀ a p, e ≠ .UnaryOp .Not a p) (nc : ∀ a o b p, e ≠ .Compare a [o] [b] p) : PT X e (tTv X.K cl c (ev G ea)) := by
  refine pt_of h ?_
  cases e with
  | BoolOp o es p => exact absurd rfl (nb o es p)
  | UnaryOp o a p => cases o <;> first | (intro _; rfl) | exact absurd rfl (nn a p)
  | IfExp => cases ht
  | Compare a os bs p =>
    exfalso
    match os, bs, ht, nc with
    | [o], [b], _, nc => exact nc a o b p rfl
    | [], _, ht, _ => cases ht
    | [_], [], ht, _ => cases ht
    | [_], _ :: _ :: _, ht, _ => cases ht
    | _ :: _ :: _, _, ht, _ => cases ht
  | _ => intro _; rfl
theorem cE_ok : ∀ (n : Nat) (e : Expr) (sc : Scope) (own : Str → Bool) (X : Cx), Ctx tb G cl N sc own X → PE X e (tEv X.K cl (calm (cE tb N n sc own e)) (ev G (cE tb N n sc own e))) ∧ (tst n e = true → PT X e (tTv X.K cl (calm (cE tb N n sc own e)) (ev G (cE tb N n sc own e)))) := by
  intro n
  induction n with
  | zero => exact fun e sc own X C => ⟨pe_bad, fun h => by cases h⟩
  | succ n ih =>
    intro e sc own X C
    have w : ∀ e, PE X e (tEv X.K cl (calm (cE tb N n sc own e)) (ev G (cE tb N n sc own e))) := fun e => (ih e sc own X C).1
    have gen : ∀ {e : Expr}, PE X e (tEv X.K cl (calm (cE tb N (n + 1) sc own e)) (ev G (cE tb N (n + 1) sc own e))) → (∀ o es p, e ≠ .BoolOp o es p) → (∀ a p, e ≠ .UnaryOp .Not a p) → (∀ a o b p, e ≠ .Compare a [o] [b] p) →
        PE X e (tEv X.K cl (calm (cE tb N (n + 1) sc own e)) (ev G (cE tb N (n + 1) sc own e))) ∧ (tst (n + 1) e = true → PT X e (tTv X.K cl (calm (cE tb N (n + 1) sc own e)) (ev G (cE tb N (n + 1) sc own e)))) := fun h h1 h2 h3 => ⟨h, fun ht => pt_gen h n ht h1 h2 h3⟩
    cases e with
    | Name x p =>
      refine gen ?_ (by intros; simp) (by intros; simp) (by intros; simp)
      simp only [cE]
      split
      · rename_i i hi; exact var_pe C hi
      · exact pe_bad
    | Constant k j p =>
      refine gen ?_ (by intros; simp) (by intros; simp) (by intros; simp)
      cases k with
      | int i => exact con_ok pe_int fun F => rfl
      | bool b => exact con_ok pe_bl fun F => rfl
      | none => exact con_ok pe_non fun F => rfl
      | str x => exact con_ok pe_str fun F => rfl
      | _ => exact pe_bad
    | BinOp a o b p =>
      refine gen ?_ (by intros; simp) (by intros; simp) (by intros; simp)
      simp only [cE]
      split
      · rename_i o' ho
        have := bopOf_ok ho
        subst this
        exact bin_ok (w a) (w b)
      · exact pe_bad
    | UnaryOp o a p =>
      cases o with
      | USub =>
        refine gen ?_ (by intros; simp) (by intros; simp) (by intros; simp)
        exact neg_ok (w a)
      | Not =>
        simp only [cE]
        split
        · rename_i ht
          exact ⟨not_pe (w a), fun _ => (not_ok (w a) ((ih a sc own X C).2 ht)).2⟩
        · rename_i ht
          exact ⟨pe_bad, fun h => absurd h ht⟩
      | _ => exact gen pe_bad (by intros; simp) (by intros; simp) (by intros; simp)
    | BoolOp o es p =>
      cases o with
      | And => exact ⟨cAnd_pe w es, fun ht => (cAnd_pw fun e m => (ih e sc own X C).2 (List.all_eq_true.mp ht e m)).pt⟩
      | Or => exact ⟨cOr_pe w es, fun ht => (cOr_pw fun e m => (ih e sc own X C).2 (List.all_eq_true.mp ht e m)).pt⟩
    | Compare a os bs p =>
      simp only [cE]
      split
      · rename_i o b
        split
        · rename_i o' ho hm
          have := copOf_ok ho
          subst this
          have z := cmp_ok (pos := p) C.units (w a) (w b) hm
          exact ⟨z.1, fun _ => z.2⟩
        · exact ⟨pe_bad, fun _ => pw_bad.pt⟩
      · exact ⟨pe_bad, fun _ => pw_bad.pt⟩
    | IfExp t a b p =>
      refine ⟨?_, fun h => by cases h⟩
      simp only [cE]
      split
      · rename_i ht
        exact ite_ok ((ih t sc own X C).2 ht) (w a) (w b)
      · exact pe_bad
    | Tuple es k p =>
      refine gen ?_ (by intros; simp) (by intros; simp) (by intros; simp)
      simp only [cE]
      split
      · exact pe_bad
      · rename_i h
        exact tup_ok (args_ok (by simpa using h) w)
    | List es p =>
      refine gen ?_ (by intros; simp) (by intros; simp) (by intros; simp)
      simp only [cE]
      split
      · exact pe_bad
      · rename_i h
        exact lst_ok (args_ok (by simpa using h) w)
    | Subscript a s p =>
      refine gen ?_ (by intros; simp) (by intros; simp) (by intros; simp)
      simp only [cE]
      split
      · exact slc_ok (w a) (w _) (w _)
      · exact slcF_ok (w a) (w _)
      · exact slcT_ok (w a) (w _)
      · split
        · exact pe_bad
        · rename_i h
          exact ix_ok (w a) (w s) (plainIx (by simpa using h))
    | Attribute a g p =>
      refine gen ?_ (by intros; simp) (by intros; simp) (by intros; simp)
      simp only [cE]
      split
      · rename_i x px
        split
        · rename_i cs hcs
          exact fld_ok (C.tab.fld g cs hcs) (w (.Name x px)) rfl
        · exact pe_bad
      · rename_i h e es ks p
        split
        · rename_i cs hcs
          exact fld_ok (C.tab.fld g cs hcs) (w (.Call h (e :: es) ks p)) (by cases h <;> rfl)
        · exact pe_bad
      · exact pe_bad
    | Call g es ks cpos =>
      refine gen ?_ (by intros; simp) (by intros; simp) (by intros; simp)
      simp only [cE]
      split
      · split
        · exact call_pe C w _ es
        · exact meth_pe C w _ _ es
        · exact pe_bad
      · exact pe_bad
    | ListComp elt gs scope p =>
      refine gen ?_ (by intros; simp) (by intros; simp) (by intros; simp)
      simp only [cE]
      split
      · rename_i tg it ifs
        split
        · rename_i tg' kd src h1 h2 h3
          have ok : BlkOk X.N X.env.scope scope (tgOwn N tg) := by
            rw [C.N, C.sc]
            exact blkOk_by h3
          have pg := fun (s : Shared) (H : Hp) (A : Addr) (cs : List (Str × Addr)) (fp : List Addr) => cTg_ok (C.blk (scope := scope) s H A cs fp) h1
          have pi := it_ok (tg := tg) C w h2
          split
          · split
            · rename_i hw
              exact PE.imp (pe_lc C.calm C.nd pi ok pg (fun s H A cs fp => PTs.imp (t' := tTv X.K cl (calms []) (evT G [])) pts_nil fun σ H Q ⟨ε, own, F, b, ε', q, e, k⟩ => by
                cases e
                exact k own F H (Acc.refl q)) (fun s H A cs fp => (ih elt _ _ _ (C.blk (scope := scope) s H A cs fp)).1) (it_set h2 _)) fun σ H Q h => lc_sem hw h
            · exact pe_bad
          · rename_i c0
            split
            · rename_i hw
              exact PE.imp (pe_lc C.calm C.nd pi ok pg (fun s H A cs fp => pts_one (PT.imp ((ih c0 _ _ _ (C.blk (scope := scope) s H A cs fp)).2 hw.2) fun σ H Q ⟨ε, own, F, b, ε', q, e, k⟩ => ⟨ε, own, F, b, ε', q, e, fun own' F' H' A => k own' F' H' (A.weak fun z => by simpa [calms] using z)⟩)) (fun s H A cs fp => (ih elt _ _ _ (C.blk (scope := scope) s H A cs fp)).1) (it_set h2 _)) fun σ H Q h => lc_sem hw.1 h
            · exact pe_bad
          · exact pe_bad
        · exact pe_bad
      · exact pe_bad
    | _ => exact gen pe_bad (by intros; simp) (by intros; simp) (by intros; simp)
end
end PyD
set_option Elab.async false
set_option linter.all false
set_option maxRecDepth 100000
set_option maxHeartbeats 2000000
/-! PyK: statements of the text, made data; a def keeps the promise that its data makes. -/
namespace PyD
open PySem L2 Evl PyProof.Rows

def lcLine (sc : Scope) (x : Str) (py : Pos) : Expr → Bool
  | .ListComp _ _ scope p => match sc.names.lookup x with
    | some .local => (py.line == p.line) && !(scope.names.any fun (n, k) => n == x && (k == .local || k == .cell))
    | _ => true
  | .SetComp .. => false
  | .DictComp .. => false
  | _ => true
def isTp : Expr → Bool
  | .Tuple .. => true
  | _ => false
section
variable (tb : Tb) (N : List Str)
def cS : Nat → Scope → (Str → Bool) → Stmt → S
  | 0, _, _, _ => .bad
  | n + 1, sc, own, st => match st with
    | .Pass _ => .pass
    | .Break _ => .brk
    | .Continue _ => .cont
    | .Return a _ => match a with
      | none => .retN
      | some a => .ret (cE tb N n sc own a)
    | .Expr e _ => match e with
      | .Constant (.str _) _ _ => .pass
      | .Call (.Attribute (.Name x px) m apos) es ks cpos => match ks, es with
        | [], [a] => if m = "append" then (match slot N sc x, (apos.endLine == cpos.line) && !isStar a with
            | some i, true => .app i (cE tb N n sc own a)
            | _, _ => .bad) else .expr (cE tb N n sc own (.Call (.Attribute (.Name x px) m apos) es ks cpos))
        | _, _ => .expr (cE tb N n sc own (.Call (.Attribute (.Name x px) m apos) es ks cpos))
      | .Call g es ks cpos => .expr (cE tb N n sc own (.Call g es ks cpos))
      | _ => .bad
    | .Assign ts e _ => match ts with
      | [tg] => match tg with
        | .Name x py => match slotS N sc own x, lcLine sc x py e with
          | some i, true => .set i (cE tb N n sc own e)
          | _, _ => .bad
        | .Tuple es _ _ => match cNames N sc own es, isLc e || isTp e with
          | some is, false => .setT is (cE tb N n sc own e)
          | _, _ => .bad
        | .Subscript o b _ => match o with
          | .Name x _ => match slot N sc x, isSl b || isLc e with
            | some i, false => .setIx i (cE tb N n sc own b) (cE tb N n sc own e)
            | _, _ => .bad
          | _ => .bad
        | _ => .bad
      | _ => .bad
    | .AugAssign tg o e _ => match tg with
      | .Name x _ => match slotS N sc own x, o with
        | some i, .Add => .aug i .add (cE tb N n sc own e)
        | some i, .Sub => .aug i .sub (cE tb N n sc own e)
        | _, _ => .bad
      | _ => .bad
    | .If c a b _ => if tst n c = true then .ifS (cE tb N n sc own c) (a.map (cS n sc own)) (b.map (cS n sc own)) else .bad
    | .While c a b _ => match b, tst n c with
      | [], true => .whileS (cE tb N n sc own c) (a.map (cS n sc own))
      | _, _ => .bad
    | .For tg it a b _ => match b, cTg N sc own tg, cIt (cE tb N n sc own) (glB sc) it with
      | [], some tg', some (kd, src) => .forS tg' kd src (a.map (cS n sc own))
      | _, _, _ => .bad
    | _ => .bad
def cB (n : Nat) (sc : Scope) (own : Str → Bool) (b : List Stmt) : List S := b.map (cS tb N n sc own)
end
section
variable {tb : Tb} {G : List Fn} {cl : Nat → Addr} {N : List Str} {sc scope : Scope} {own : Str → Bool} {X : Cx} {e a b : Expr} {es : List Expr} {pos p : Pos} {c : Bool} {f : Expr → E} {m : Nat}
theorem sw_no {t : Expr} {l : Nat} (h : isLc e = false) : swapsWith e (some t) l X.env = pure false := by
  cases e <;> first | rfl | cases h
theorem lc_split (C : Ctx tb G cl N sc own X) (n : Nat) (elt : Expr) (gs : List Comprehension) (scope : Scope) : cE tb N (n + 1) sc own (.ListComp elt gs scope p) = .bad ∨ ∃ (tg it : Expr) (ifs : List Expr) (ow : List (Str × Nat)) (wi : TI) (g : TG) (tt : TT) (te : TE), gs = [⟨tg, it, ifs, 0⟩] ∧ PI X tg it wi ∧ BlkOk X.N X.env.scope scope ow ∧
    (∀ (s : Shared) (H : Hp) (C : Addr) (cs : List (Str × Addr)) (fp : List Addr), PG (X.blk s H scope (compEnvC scope cs C X.env) fp) tg g) ∧ (∀ (s : Shared) (H : Hp) (C : Addr) (cs : List (Str × Addr)) (fp : List Addr), PTs (X.blk s H scope (compEnvC scope cs C X.env) fp) ifs tt) ∧
    (∀ (s : Shared) (H : Hp) (C : Addr) (cs : List (Str × Addr)) (fp : List Addr), PE (X.blk s H scope (compEnvC scope cs C X.env) fp) elt te) ∧ (∀ x, foldedSetIterable it X.env x = pure x) ∧
    ∀ σ H Q, tEv X.K cl (calm (cE tb N (n + 1) sc own (.ListComp elt gs scope p))) (ev G (cE tb N (n + 1) sc own (.ListComp elt gs scope p))) σ H Q → tLc wi g tt te (ow.map (·.2)) σ H Q := by
  have w : ∀ e, PE X e (tEv X.K cl (calm (cE tb N n sc own e)) (ev G (cE tb N n sc own e))) := fun e => (cE_ok n e sc own X C).1
  generalize hz : cE tb N (n + 1) sc own (.ListComp elt gs scope p) = z
  simp only [cE] at hz
  split at hz
  · rename_i tg it ifs
    split at hz
    · rename_i tg' kd src h1 h2 h3
      have ok : BlkOk X.N X.env.scope scope (tgOwn N tg) := by
        rw [C.N, C.sc]
        exact blkOk_by h3
      have pg := fun (s : Shared) (H : Hp) (A : Addr) (cs : List (Str × Addr)) (fp : List Addr) => cTg_ok (C.blk (scope := scope) s H A cs fp) h1
      have pi := it_ok (tg := tg) C w h2
      split at hz
      · split at hz
        · rename_i hw
          subst hz
          exact .inr ⟨tg, it, _, tgOwn N tg, _, _, _, _, rfl, pi, ok, pg, (fun s H A cs fp => PTs.imp (t' := tTv X.K cl (calms []) (evT G [])) pts_nil fun σ H Q ⟨ε, own, F, b, ε', q, e, k⟩ => by
                cases e
                exact k own F H (Acc.refl q)), (fun s H A cs fp => (cE_ok n elt _ _ _ (C.blk (scope := scope) s H A cs fp)).1), it_set h2 _, fun σ H Q h => lc_sem hw h⟩
        · exact .inl hz.symm
      · rename_i c0
        split at hz
        · rename_i hw
          subst hz
          exact .inr ⟨tg, it, _, tgOwn N tg, _, _, _, _, rfl, pi, ok, pg, (fun s H A cs fp => pts_one (PT.imp ((cE_ok n c0 _ _ _ (C.blk (scope := scope) s H A cs fp)).2 hw.2) fun σ H Q ⟨ε, own, F, b, ε', q, e, k⟩ => ⟨ε, own, F, b, ε', q, e, fun own' F' H' A => k own' F' H' (A.weak fun z => by simpa [calms] using z)⟩)), (fun s H A cs fp => (cE_ok n elt _ _ _ (C.blk (scope := scope) s H A cs fp)).1), it_set h2 _, fun σ H Q h => lc_sem hw.1 h⟩
        · exact .inl hz.symm
      · exact .inl hz.symm
    · exact .inl hz.symm
  · exact .inl hz.symm
theorem asg_bad {i : Nat} {st : Stmt} : PS X st (tAsg (tEv X.K cl c (ev G .bad)) (gName i)) := PS.imp (ps_never) fun D σ H ⟨ε, own, F, r, ε', q, e, k⟩ => by cases e
theorem set_pe (C : Ctx tb G cl N sc own X) (n : Nat) {x : Str} {py : Pos} {i : Nat} (hi : slotS N sc own x = some i) (hl : lcLine sc x py e = true) : PS X (.Assign [.Name x py] e pos) (tAsg (tEv X.K cl (calm (cE tb N n sc own e)) (ev G (cE tb N n sc own e))) (gName i)) := by
  obtain ⟨l1, l2, l3⟩ := slotS_ok hi
  have hN : X.N[i]? = some x := by rw [C.N]; exact l3
  have hx : Loc X.env.scope x := by rw [C.sc]; exact l1
  have hf : X.fn x = true ∨ X.env.scope.names.lookup x = some .local := by rw [C.sc]; exact l2.imp (C.fn x) id
  have w := (cE_ok n e sc own X C).1
  have hk : ∀ {pins σ H s}, Inv X pins σ H s → X.env.scope.kind = .function := fun I => I.ok.kind
  by_cases hlc : isLc e = true
  · cases e with
    | ListComp elt gs scope p =>
      cases n with
      | zero => exact asg_bad
      | succ n =>
        by_cases hloc : sc.names.lookup x = some .local
        · have hl' : (py.line == p.line) = true ∧ (scope.names.any fun (n, k) => n == x && (k == .local || k == .cell)) = false := by
            simp only [lcLine, hloc, Bool.and_eq_true, Bool.not_eq_true'] at hl
            exact hl
          rcases lc_split (p := p) C n elt gs scope with h | ⟨tg, it, ifs, ow, wi, g, tt, te, rfl, pi, ok, pg, pt, pe, hs, h⟩
          · rw [h]; exact asg_bad
          · refine ⟨fun pins s σ H D I z => ?_⟩
            have hy : X.env.scope.names.lookup x = some .local := by rw [C.sc]; exact hloc
            exact (ps_setLc C.calm C.nd hN hy (sw_true (hk I) hy hl'.1 hl'.2) pi ok pg pt pe hs).run pins s σ H D I (h σ H _ z)
        · refine ps_set C.nd hN hx w ?_ hf
          have hne : ¬ X.env.kindOf x = some .local := by
            show ¬ X.env.scope.names.lookup x = _
            rw [C.sc]; exact hloc
          have hb : (X.env.kindOf x == some .local) = false := by
            cases hk : X.env.kindOf x with
            | none => rfl
            | some k =>
              rw [hk] at hne
              cases k <;> first | rfl | exact absurd rfl hne
          show (pure (X.env.blockKind == .function && X.env.kindOf x == some .local && py.line == p.line && !(scope.names.any fun (n, k) => n == x && (k == .local || k == .cell))) : Sem Bool) = pure false
          rw [hb, Bool.and_false, Bool.false_and, Bool.false_and]
    | SetComp => cases hl
    | DictComp => cases hl
    | _ => cases hlc
  · exact ps_set C.nd hN hx w (sw_no (by simpa using hlc)) hf
theorem map_ok {n : Nat} (h : ∀ st, PS X st (tSv X.K cl (ex G m (cS tb N n sc own st)))) : ∀ sts : List Stmt, PSs X sts (tSv X.K cl (exs G m (sts.map (cS tb N n sc own))))
  | [] => nil_ok
  | st :: sts => cons_ok (h st) (map_ok h sts)
theorem assign_sub {o i : Expr} (h : isSl i = false) (v : Value) : assign (.Subscript o i pos) X.env v = (do
      let ov ← holding [v] (eval o X.env)
      let iv ← holding [v, ov] (eval i X.env)
      standAt pos
      holding [v, ov, iv] (setItem ov iv v)
      release [v, ov, iv] []) := by
  cases i <;> first | rfl | cases h
theorem sole_no {t : Expr} {l : Nat} (h : isLc e = false) : swapsWithSole [t] e l X.env = pure false := sw_no h
theorem cS_ok (hp : PassesOwn (model X.prog X.w) X.A X.env X.xe) (C : Ctx tb G cl N sc own X) : ∀ (n : Nat) (st : Stmt), PS X st (tSv X.K cl (ex G m (cS tb N n sc own st))) := by
  intro n
  induction n with
  | zero => exact fun st => bad_ok
  | succ n ih =>
    intro st
    have w : ∀ e, PE X e (tEv X.K cl (calm (cE tb N n sc own e)) (ev G (cE tb N n sc own e))) := fun e => (cE_ok n e sc own X C).1
    have t : ∀ {e}, tst n e = true → PT X e (tTv X.K cl (calm (cE tb N n sc own e)) (ev G (cE tb N n sc own e))) := fun {e} h => (cE_ok n e sc own X C).2 h
    have bl := map_ok ih
    cases st with
    | Pass p => exact pass_ok
    | Break p => exact brk_ok
    | Continue p => exact cont_ok
    | Return a p =>
      cases a with
      | none => exact retN_ok
      | some a => exact ret_ok (w a)
    | Expr e p =>
      simp only [cS]
      split
      · exact doc_ok
      · rename_i x px mm apos es ks cpos
        split
        · rename_i a
          split
          · rename_i hm
            subst hm
            split
            · rename_i i hi hb
              simp only [Bool.and_eq_true, Bool.not_eq_true'] at hb
              refine app_ok (var_pe C hi) (w a) fun ho ha => ps_expr (pe_bm PySem.F.plainAttrs_list PySem.F.slot_list_append PySem.F.type_list_append mt_append ho (pa_cons ha pa_nil (star_one hb.2)) rfl ?_ hb.1 (star_one hb.2) rfl) rfl
              rw [star_one hb.2]
              rfl
            · exact bad_ok
          · exact expr_ok (ps_expr (w _) rfl)
        · exact expr_ok (ps_expr (w _) rfl)
      · exact expr_ok (ps_expr (w _) rfl)
      · exact bad_ok
    | Assign ts e p =>
      simp only [cS]
      split
      · rename_i tg
        split
        · rename_i x py
          split
          · rename_i i hi hl
            exact set_ok (set_pe C n hi hl)
          · exact bad_ok
        · rename_i es k pt
          split
          · rename_i is his hn
            rw [Bool.or_eq_false_iff] at hn
            have g := cTg_ok (tg := .Tuple es k pt) (t := .tup is) C (by simp only [cTg, his]; rfl)
            refine setT_ok (ps_asg (w e) g (sole_no hn.1) ?_ rfl)
            cases e <;> first | rfl | cases hn.2
          · exact bad_ok
        · split
          · rename_i b pb x px
            split
            · rename_i i hi hn
              rw [Bool.or_eq_false_iff] at hn
              refine setIx_ok (var_pe C hi) (w _) (w e) fun ho hb ha => ps_asg ha (pg_sub ho hb set_list (assign_sub hn.1)) (sole_no hn.2) ?_ rfl
              cases e <;> rfl
            · exact bad_ok
          · exact bad_ok
        · exact bad_ok
      · exact bad_ok
    | AugAssign tg o e p =>
      simp only [cS]
      split
      · rename_i x px
        split
        · rename_i i hi
          obtain ⟨l1, l2, l3⟩ := slotS_ok hi
          exact aug_ok (.inl rfl) fun hop => ps_aug C.nd (by rw [C.N]; exact l3) (by rw [C.sc]; exact l1) (w e) hop (by rw [C.sc]; exact l2.imp (C.fn x) id)
        · rename_i i hi
          obtain ⟨l1, l2, l3⟩ := slotS_ok hi
          exact aug_ok (.inr rfl) fun hop => ps_aug C.nd (by rw [C.N]; exact l3) (by rw [C.sc]; exact l1) (w e) hop (by rw [C.sc]; exact l2.imp (C.fn x) id)
        · exact bad_ok
      · exact bad_ok
    | If c a b p =>
      simp only [cS]
      split
      · rename_i ht
        exact if_ok (t ht) (bl a) (bl b)
      · exact bad_ok
    | While c a b p =>
      simp only [cS]
      split
      · rename_i ht
        exact while_ok hp (t ht) (bl a)
      · exact bad_ok
    | For tg it a b p =>
      simp only [cS]
      split
      · rename_i tg' kd src h1 h2
        exact for_ok C.calm hp (it_ok C w h2) (cTg_ok C h1) (bl a) (it_set h2 _)
      · exact bad_ok
    | _ => exact bad_ok
end
/-! ### a def -/
/-- what a def gives, against what its data gives: the same, or nobody changes it any more -/
def Fz (r r0 : R) : Prop := r0 = r ∨ ∃ ts, r = .fr ts ∧ r0 = .sh (.lst (T.toDs ts))
def Runs (tb : Tb) (G : List Fn) (N ps : List Str) (fuel : Nat) (scope : Scope) (body : List Stmt) (f : Fn) : Prop :=
  ∀ ds r, f ds = some r → ds.length = ps.length ∧ ∃ n r', run G n (N.length - ps.length) (cB tb N fuel scope (fun _ => true) body) ds = some r' ∧ Fz r' r
section
variable {tb : Tb} {G : List Fn} {cl : Nat → Addr} {N ps : List Str} {P : Program} {w : World} {K : PySem.W.Frag} {mg : Str → Option Value} {base : Heap}
theorem gt_app_none {m i : Nat} {ε : Env} : gt (ε ++ List.replicate m none) i = if i < ε.length then gt ε i else none := by
  induction ε generalizing i with
  | nil =>
    simp only [List.nil_append, List.length_nil, Nat.not_lt_zero, if_false]
    induction m generalizing i with
    | zero => rfl
    | succ m ih =>
      cases i with
      | zero => rfl
      | succ i => exact ih
  | cons w ε ih =>
    cases i with
    | zero => simp [gt]
    | succ i =>
      show gt (ε ++ List.replicate m none) i = _
      rw [ih]
      simp [gt]
theorem gt_map {ds : List D} {i : Nat} {w : W} (h : gt (ds.map fun d => some (W.sh d)) i = some w) : ∃ d, ds[i]? = some d ∧ w = .sh d := by
  induction ds generalizing i with
  | nil => cases h
  | cons d ds ih =>
    cases i with
    | zero => cases h; exact ⟨d, rfl, rfl⟩
    | succ i => simpa using ih h
theorem rel_start {F H : Hp} {ds : List D} {vs : List V} (e : Ex F H) (h : Rps K cl F ds vs) (hN : ds.length ≤ N.length) : Rel K cl (L2.start N vs) ((ds.map fun d => some (W.sh d)) ++ List.replicate (N.length - ds.length) none) (fun _ => .leaf) F H := by
  have look : ∀ {i w}, gt ((ds.map fun d => some (W.sh d)) ++ List.replicate (N.length - ds.length) none) i = some w → ∃ d, ds[i]? = some d ∧ w = .sh d := fun {i w} z => by
    rw [gt_app_none] at z
    split at z
    · exact gt_map z
    · cases z
  refine ⟨e, ?_, fun i d z => ?_, fun i ts z => ?_, fun _ _ => rfl, fun _ => List.nodup_nil, fun _ _ _ a m => (by cases m), fun i j π z => ?_⟩
  · unfold L2.start
    simp only [List.length_append, List.length_map, List.length_replicate, h.length]
  · obtain ⟨d', z1, z2⟩ := look z
    cases z2
    obtain ⟨v, z3, z4⟩ := h.get z1
    refine ⟨v, ?_, z4⟩
    unfold L2.start
    rw [List.getElem?_append_left (by
      rw [List.length_map]
      rcases Nat.lt_or_ge i vs.length with l | l
      · exact l
      · rw [List.getElem?_eq_none l] at z3; cases z3), List.getElem?_map, z3]
    rfl
  · obtain ⟨d', _, z2⟩ := look z
    cases z2
  · obtain ⟨d', _, z2⟩ := look z
    cases z2
theorem ret_f {σ' : L2.St} {ε' : Env} {own' : Nat → AT} {F H F' H' : Hp} {v : V} {r r' r0 : R} (q : Rel K cl σ' ε' own' F' H') (s : Stp (Own fun _ => .leaf) (Own own') F H F' H') (h : RepR K cl σ' ε' own' H F' H' v r) (e : fin r ε' = some r') (z : Fz r' r0) : ∃ F'', StpF F H F'' H' ∧ RepF K cl H F'' H' v r0 := by
  have no : ∀ a, ¬ Own (fun _ => AT.leaf) a := fun a ⟨i, m⟩ => by cases m
  have st : StpF F H F' H' := ⟨s.ex, fun a o e => s.keep a o e (no a), s.dom, fun a o e => (s.news a o e).elim .inl fun z => z.elim .inr fun z => absurd z (no a), q.sub⟩
  have own_new : ∀ a, Own own' a → H a = none := fun a m => (s.own a m).resolve_left (no a)
  have key : RepF K cl H F' H' v r' := by
    cases r with
    | sh d => cases e; exact h
    | fr ts =>
      cases e
      obtain ⟨c, h1, h2, h3⟩ := h
      exact ⟨c, h1, h2, fun a m => (h3 a m).1⟩
    | pt j π =>
      simp only [fin] at e
      rcases h with ⟨ts, us, p, cs, h1, h2, h3, rfl⟩ | ⟨d, d', h1, h2, h3⟩
      · have rep : RepR K cl σ' ε' own' H F' H' (.ref p) (.pt j π) := .inl ⟨ts, us, p, cs, h1, h2, h3, rfl⟩
        obtain ⟨p', cs', xs, e1, _, _, e4, e5, e6, e7, e8⟩ := pt_list q rep (ts := ts) (us := us) (by unfold listAt; rw [h1]; simp only [h2]; rfl)
        cases e1
        rw [h1] at e
        simp only [h2] at e
        cases e
        rw [h3] at e4
        cases e4
        have mem := at_mem π h3
        exact ⟨.node p cs, ⟨p, cs, xs, rfl, rfl, (q.own_lst ⟨j, mem p List.mem_cons_self⟩).1, e5, e6⟩, List.nodup_cons.mpr ⟨e8, e7⟩, fun a m => own_new a ⟨j, mem a m⟩⟩
      · rw [h1] at e
        simp only [h2] at e
        cases e
        exact h3
  rcases z with rfl | ⟨ts, rfl, rfl⟩
  · exact ⟨F', st, key⟩
  · obtain ⟨c, h1, h2, h3⟩ := key
    have q0 : Rel K cl σ' ([] : Env) (fun _ => AT.leaf) F' H' ∨ True := .inr trivial
    have eF : Ex F' (addT F' H' (AT.all c)) := addT_ex fun a m => (RT.lst _ _ _ h1 a m).1
    refine ⟨addT F' H' (AT.all c), ⟨st.ex.trans eF, st.keep, st.dom, fun a o e => ?_, fun a o e => ?_⟩, RT.frz eF _ v c (fun a m => addT_in m) h1⟩
    · by_cases m : a ∈ AT.all c
      · exact .inr (h3 a m)
      · rw [addT_out m] at e; exact st.news a o e
    · by_cases m : a ∈ AT.all c
      · rw [addT_in m] at e; exact e
      · rw [addT_out m] at e; exact st.sub a o e
theorem fn_ok {x qual : Str} {params : Arguments} {body : List Stmt} {scope : Scope} {dvs : List V} {kws : List (Str × V)} {fa : Addr} {fd : FuncData} {k fuel : Nat} {f : Fn} (FD : FunD K x qual params body scope dvs kws fa fd) (S : FnScope N ps scope) (hpN : ps.length ≤ N.length)
    (T : ∀ A, Room k A → Tab tb G cl P w K mg base A) (hr : Runs tb G N ps fuel scope body f) : FnOk P w K mg base CX0 (k + 1) fa fd ps (spD K cl f) := by
  refine FD.ok S (fun vs H Q E h => ?_) (fun cdv A outer s H vs Q E hroom h => ?_)
  · obtain ⟨F, ds, r, e, h1, h2, _⟩ := h
    rw [← h1.length]
    exact (hr ds r h2).1
  · obtain ⟨F, ds, r, e, h1, h2, h3⟩ := h
    obtain ⟨hl, n, r', hrun, hz⟩ := hr ds r h2
    have C : Ctx tb G cl N scope (fun _ => true) (cxOf CX0 P w K mg base N qual scope fa cdv A outer s H E).nox := ⟨rfl, S.nd, rfl, rfl, fun _ _ => rfl, hroom.units, T _ hroom⟩
    refine ⟨tSv K cl (exs G n (cB tb N fuel scope (fun _ => true) body)), PSs.nox (map_ok (cS_ok PassesOwn.never C fuel) body), ?_⟩
    unfold run at hrun
    rw [← hl] at hrun
    have fin_ : ∀ {o ε'}, exs G n (cB tb N fuel scope (fun _ => true) body) ((ds.map fun d => some (W.sh d)) ++ List.replicate (N.length - ds.length) none) = some (o, ε') → (∀ σ' own' F' H', Acs K cl _ (fun _ => .leaf) F H σ' ε' own' F' H' → Ends.at_ K cl { nx := fun _ H' => Q .non H', rt := Q } H σ' ε' own' F' H' o) →
        tSv K cl (exs G n (cB tb N fuel scope (fun _ => true) body)) { nx := fun _ H' => Q .non H', rt := Q } (L2.start N vs) H := fun {o ε'} he hk =>
      ⟨_, _, F, o, ε', rel_start e h1 (by rw [hl]; exact hpN), he, hk⟩
    split at hrun
    · rename_i rr ε' he
      refine fin_ he fun σ' own' F' H' A v hv => ?_
      obtain ⟨F'', s1, s2⟩ := ret_f A.rel A.stp hv hrun hz
      exact h3 v F'' H' s1 s2
    · rename_i ε' he
      cases hrun
      refine fin_ he fun σ' own' F' H' A => ?_
      rcases hz with rfl | ⟨_, z, _⟩
      · have no : ∀ a, ¬ Own (fun _ => AT.leaf) a := fun a ⟨i, m⟩ => by cases m
        exact h3 .non F' H' ⟨A.stp.ex, fun a o e => A.stp.keep a o e (no a), A.stp.dom, fun a o e => (A.stp.news a o e).elim .inl fun z => z.elim .inr fun z => absurd z (no a), A.rel.sub⟩ rfl
      · cases z
    · cases hrun
end
end PyD
set_option Elab.async false
set_option linter.all false
set_option maxRecDepth 100000
set_option maxHeartbeats 2000000
/-! PyT: plain laws of the evaluator. -/
namespace PyD
open PySem L2

/-! ### equality -/
inductive Nice : Nat → D → Prop where
  | non {n : Nat} : Nice n .non
  | int {n : Nat} {i : Int} : Nice n (.int i)
  | tup {n : Nat} {ds : List D} (h : ∀ d ∈ ds, Nice n d) : Nice (n + 1) (.tup ds)
  | lst {n : Nat} {ds : List D} (h : ∀ d ∈ ds, Nice n d) : Nice (n + 1) (.lst ds)
theorem pys_of {n : Nat} : ∀ {ds : List D}, (∀ d ∈ ds, ∃ p, d.py = some p ∧ p.canLay0 = true ∧ p.depth ≤ n) → ∃ ps, D.pys ds = some ps ∧ PyData.canLayAll0 ps = true ∧ PyData.depthAll ps ≤ n
  | [], _ => ⟨[], rfl, rfl, Nat.zero_le _⟩
  | d :: ds, h => by
    obtain ⟨p, h1, h2, h3⟩ := h d List.mem_cons_self
    obtain ⟨ps, g1, g2, g3⟩ := pys_of fun d m => h d (List.mem_cons_of_mem _ m)
    exact ⟨p :: ps, by simp [D.pys, h1, g1], by simp [PyData.canLayAll0, h2, g2], by simp only [PyData.depthAll]; omega⟩
theorem nice_py {n : Nat} {d : D} (h : Nice n d) : ∃ p, d.py = some p ∧ p.canLay0 = true ∧ p.depth ≤ n := by
  induction h with
  | non => exact ⟨_, rfl, rfl, Nat.zero_le _⟩
  | int => exact ⟨_, rfl, rfl, Nat.zero_le _⟩
  | tup h ih =>
    obtain ⟨ps, g1, g2, g3⟩ := pys_of ih
    exact ⟨.tuple ps, by simp [D.py, g1], by simp [PyData.canLay0, g2], by simp only [PyData.depth]; omega⟩
  | lst h ih =>
    obtain ⟨ps, g1, g2, g3⟩ := pys_of ih
    exact ⟨.list ps, by simp [D.py, g1], by simp [PyData.canLay0, g2], by simp only [PyData.depth]; omega⟩
theorem eqvs_of : ∀ {ds es : List D} {ps qs : List PyData}, (∀ d ∈ ds, ∀ e ∈ es, ∀ p q, d.py = some p → e.py = some q → (PyData.eqv p q = true ↔ d = e)) → D.pys ds = some ps → D.pys es = some qs → (PyData.eqvAll ps qs = true ↔ ds = es)
  | [], [], _, _, _, hp, hq => by cases hp; cases hq; simp [PyData.eqvAll]
  | [], e :: es, _, _, _, hp, hq => by
    cases hp
    simp only [D.pys] at hq
    split at hq
    · cases hq; simp [PyData.eqvAll]
    · cases hq
  | d :: ds, [], _, _, _, hp, hq => by
    cases hq
    simp only [D.pys] at hp
    split at hp
    · cases hp; simp [PyData.eqvAll]
    · cases hp
  | d :: ds, e :: es, _, _, h, hp, hq => by
    simp only [D.pys] at hp hq
    split at hp
    · rename_i a b h1 h2
      split at hq
      · rename_i a' b' h3 h4
        cases hp; cases hq
        have i1 := h d List.mem_cons_self e List.mem_cons_self a a' h1 h3
        have i2 := eqvs_of (fun d m e m' => h d (List.mem_cons_of_mem _ m) e (List.mem_cons_of_mem _ m')) h2 h4
        simp only [PyData.eqvAll, Bool.and_eq_true, i1, i2, List.cons.injEq]
      · cases hq
    · cases hp
theorem nice_eqv {n : Nat} {d : D} (hd : Nice n d) : ∀ {m : Nat} {e : D} {p q : PyData}, Nice m e → d.py = some p → e.py = some q → (PyData.eqv p q = true ↔ d = e) := by
  induction hd with
  | non =>
    intro m e p q he hp hq
    cases hp
    cases he with
    | non => cases hq; simp [PyData.eqv]
    | int => cases hq; simp [PyData.eqv]
    | tup h => simp only [D.py, Option.map_eq_some_iff] at hq; obtain ⟨ps, _, rfl⟩ := hq; simp [PyData.eqv]
    | lst h => simp only [D.py, Option.map_eq_some_iff] at hq; obtain ⟨ps, _, rfl⟩ := hq; simp [PyData.eqv]
  | int =>
    intro m e p q he hp hq
    cases hp
    cases he with
    | non => cases hq; simp [PyData.eqv]
    | int => cases hq; simp [PyData.eqv]
    | tup h => simp only [D.py, Option.map_eq_some_iff] at hq; obtain ⟨ps, _, rfl⟩ := hq; simp [PyData.eqv]
    | lst h => simp only [D.py, Option.map_eq_some_iff] at hq; obtain ⟨ps, _, rfl⟩ := hq; simp [PyData.eqv]
  | tup hd ih =>
    intro m e p q he hp hq
    simp only [D.py, Option.map_eq_some_iff] at hp
    obtain ⟨ps, h1, rfl⟩ := hp
    cases he with
    | non => cases hq; simp [PyData.eqv]
    | int => cases hq; simp [PyData.eqv]
    | lst h => simp only [D.py, Option.map_eq_some_iff] at hq; obtain ⟨ps, _, rfl⟩ := hq; simp [PyData.eqv]
    | tup he =>
      simp only [D.py, Option.map_eq_some_iff] at hq
      obtain ⟨qs, h2, rfl⟩ := hq
      have := eqvs_of (fun d m e m' p q => ih d m (he e m')) h1 h2
      simp only [PyData.eqv, this]
      exact ⟨fun h => by rw [h], fun h => by cases h; rfl⟩
  | lst hd ih =>
    intro m e p q he hp hq
    simp only [D.py, Option.map_eq_some_iff] at hp
    obtain ⟨ps, h1, rfl⟩ := hp
    cases he with
    | non => cases hq; simp [PyData.eqv]
    | int => cases hq; simp [PyData.eqv]
    | tup h => simp only [D.py, Option.map_eq_some_iff] at hq; obtain ⟨ps, _, rfl⟩ := hq; simp [PyData.eqv]
    | lst he =>
      simp only [D.py, Option.map_eq_some_iff] at hq
      obtain ⟨qs, h2, rfl⟩ := hq
      have := eqvs_of (fun d m e m' p q => ih d m (he e m')) h1 h2
      simp only [PyData.eqv, this]
      exact ⟨fun h => by rw [h], fun h => by cases h; rfl⟩
theorem eqD_nice {n m : Nat} {d e : D} [dec : Decidable (d = e)] (hd : Nice n d) (he : Nice m e) (hn : n ≤ 60 := by decide) (hm : m ≤ 60 := by decide) : eqD d e = some (decide (d = e)) := by
  obtain ⟨p, h1, h2, h3⟩ := nice_py hd
  obtain ⟨q, g1, g2, g3⟩ := nice_py he
  unfold eqD
  rw [h1, g1]
  simp only
  rw [if_pos ⟨by simp [SeqAt.shaped, h2]; omega, by simp [SeqAt.shaped, g2]; omega⟩]
  have := nice_eqv hd he h1 g1
  by_cases z : d = e
  · rw [decide_eq_true z, this.mpr z]
  · rw [decide_eq_false z]
    cases w : PyData.eqv p q with
    | false => rfl
    | true => exact absurd (this.mp w) z
theorem eqD_int (a b : Int) : eqD (.int a) (.int b) = some (decide (a = b)) := by
  simp [eqD, D.py, PyData.eqv, SeqAt.shaped, PyData.canLay0, PyData.depth]
  rfl
/-! ### subscripts -/
theorem atI_nat {α : Type} (xs : List α) (k : Nat) : atI xs (k : Int) = xs[k]? := by
  unfold atI ixN
  by_cases h : (k : Int) < xs.length
  · simp [h]
  · have : xs.length ≤ k := by omega
    simp [h, List.getElem?_eq_none this]
theorem ixN_lt {n : Nat} {k : Nat} (h : k < n) : ixN n (k : Int) = some k := by
  unfold ixN
  rw [if_pos (by omega), if_pos (by omega)]
  simp
theorem atI_of {α : Type} {xs : List α} {i : Int} (h : 0 ≤ i) : atI xs i = xs[i.toNat]? := by
  obtain ⟨k, rfl⟩ := Int.eq_ofNat_of_zero_le h
  simp [atI_nat]
theorem rngD_zero (n : Nat) : rngD 0 n = (List.range n).map fun (k : Nat) => D.int k := by
  simp [rngD]
/-! ### loops -/
theorem forF_inv {body : Env → Option (O × Env)} {tg : Tg} {its : List D} (Inv : Nat → Env → Prop) (step : ∀ k d ε, its[k]? = some d → Inv k ε → ∃ ε1 ε2, asg tg d ε = some ε1 ∧ body ε1 = some (.nx, ε2) ∧ Inv (k + 1) ε2) :
    ∀ {ε}, Inv 0 ε → ∃ ε', forF body tg its ε = some (.nx, ε') ∧ Inv its.length ε' := by
  have gen : ∀ (rest : List D) (k : Nat) (ε : Env), its.drop k = rest → k + rest.length = its.length → Inv k ε → ∃ ε', forF body tg rest ε = some (.nx, ε') ∧ Inv its.length ε' := by
    intro rest
    induction rest with
    | nil => intro k ε h1 h2 i; exact ⟨ε, rfl, by simpa [← h2] using i⟩
    | cons d rest ih =>
      intro k ε h1 h2 i
      have hk : its[k]? = some d := by rw [← List.head?_drop, h1]; rfl
      obtain ⟨ε1, ε2, e1, e2, e3⟩ := step k d ε hk i
      obtain ⟨ε', e4, e5⟩ := ih (k + 1) ε2 (by rw [← List.drop_drop, h1]; rfl) (by simp at h2 ⊢; omega) e3
      exact ⟨ε', by simp only [forF, e1, e2, e4], e5⟩
  exact fun {ε} i => gen its 0 ε rfl (by simp) i
/-- the first that stops, or none -/
theorem forF_find {body : Env → Option (O × Env)} {tg : Tg} {its : List D} (Inv : Nat → Env → Prop) (p : Nat → Bool) (r : Nat → R) (step : ∀ k d ε, its[k]? = some d → Inv k ε → ∃ ε1 ε2, asg tg d ε = some ε1 ∧ (if p k = true then ∃ ε3, body ε1 = some (.rt (r k), ε3) else body ε1 = some (.nx, ε2) ∧ Inv (k + 1) ε2)) :
    ∀ {ε}, Inv 0 ε → (∃ k ε', k < its.length ∧ p k = true ∧ (∀ j, j < k → p j = false) ∧ forF body tg its ε = some (.rt (r k), ε')) ∨ ∃ ε', (∀ j, j < its.length → p j = false) ∧ forF body tg its ε = some (.nx, ε') ∧ Inv its.length ε' := by
  have gen : ∀ (rest : List D) (k : Nat) (ε : Env), its.drop k = rest → k + rest.length = its.length → (∀ j, j < k → p j = false) → Inv k ε → (∃ k ε', k < its.length ∧ p k = true ∧ (∀ j, j < k → p j = false) ∧ forF body tg rest ε = some (.rt (r k), ε')) ∨ ∃ ε', (∀ j, j < its.length → p j = false) ∧ forF body tg rest ε = some (.nx, ε') ∧ Inv its.length ε' := by
    intro rest
    induction rest with
    | nil => intro k ε h1 h2 hj i; exact .inr ⟨ε, by simpa [← h2] using hj, rfl, by simpa [← h2] using i⟩
    | cons d rest ih =>
      intro k ε h1 h2 hj i
      have hk : its[k]? = some d := by rw [← List.head?_drop, h1]; rfl
      obtain ⟨ε1, ε2, e1, e2⟩ := step k d ε hk i
      by_cases hp : p k = true
      · rw [if_pos hp] at e2
        obtain ⟨ε3, e3⟩ := e2
        exact .inl ⟨k, ε3, by simp at h2; omega, hp, hj, by simp only [forF, e1, e3]⟩
      · rw [if_neg hp] at e2
        have hp' : p k = false := by simpa using hp
        rcases ih (k + 1) ε2 (by rw [← List.drop_drop, h1]; rfl) (by simp at h2 ⊢; omega) (fun j hjk => by
          rcases Nat.lt_succ_iff_lt_or_eq.mp hjk with z | z
          · exact hj j z
          · rw [z]; exact hp') e2.2 with ⟨k', ε', a1, a2, a3, a4⟩ | ⟨ε', a1, a2, a3⟩
        · exact .inl ⟨k', ε', a1, a2, a3, by simp only [forF, e1, e2.1, a4]⟩
        · exact .inr ⟨ε', a1, by simp only [forF, e1, e2.1, a2], a3⟩
  exact fun {ε} i => gen its 0 ε rfl (by simp) (by intro j h; cases h) i
theorem lcF_map {tst el : Env → Option (R × Env)} {tg : Tg} {ws : List Nat} {ε : Env} {its : List D} (g : D → T) (h : ∀ d ∈ its, ∃ ε1 x, asg tg d ε = some ε1 ∧ tst ε1 = some (.sh (.bl true), ε1) ∧ el ε1 = some (x, ε1) ∧ asT x ε1 = some (g d, ε1) ∧ plainW ε1 ws = true ∧ wipeE ε1 ws = ε) :
    ∀ {acc : List T}, acc.length + its.length ≤ 16000000 → lcF tst el tg ws its ε acc = some (acc ++ its.map g, ε) := by
  induction its with
  | nil => intro acc _; simp [lcF]
  | cons d its ih =>
    intro acc hl
    obtain ⟨ε1, x, e1, e2, e3, e4, e5, e6⟩ := h d List.mem_cons_self
    have : acc.length < 16000000 := by simp at hl; omega
    simp only [lcF, e1, e2, e3, e4]
    rw [if_pos ⟨this, e5⟩, e6, ih (fun d m => h d (List.mem_cons_of_mem _ m)) (by simp at hl ⊢; omega)]
    simp
theorem lcF_filter {tst el : Env → Option (R × Env)} {tg : Tg} {ws : List Nat} {ε : Env} {its : List D} (p : D → Bool) (g : D → T) (h : ∀ d ∈ its, ∃ ε1 x, asg tg d ε = some ε1 ∧ tst ε1 = some (.sh (.bl (p d)), ε1) ∧ el ε1 = some (x, ε1) ∧ asT x ε1 = some (g d, ε1) ∧ plainW ε1 ws = true ∧ wipeE ε1 ws = ε) :
    ∀ {acc : List T}, acc.length + its.length ≤ 16000000 → lcF tst el tg ws its ε acc = some (acc ++ (its.filter p).map g, ε) := by
  induction its with
  | nil => intro acc _; simp [lcF]
  | cons d its ih =>
    intro acc hl
    obtain ⟨ε1, x, e1, e2, e3, e4, e5, e6⟩ := h d List.mem_cons_self
    have : acc.length < 16000000 := by simp at hl; omega
    simp only [lcF, e1, e2]
    by_cases hp : p d = true
    · rw [hp]
      simp only [e3, e4]
      rw [if_pos ⟨this, e5⟩, e6, ih (fun d m => h d (List.mem_cons_of_mem _ m)) (by simp at hl ⊢; omega)]
      simp [hp]
    · have hp : p d = false := by simpa using hp
      rw [hp]
      simp only
      rw [if_pos e5, e6, ih (fun d m => h d (List.mem_cons_of_mem _ m)) (by simp at hl ⊢; omega)]
      simp [hp]
end PyD
set_option Elab.async false
set_option linter.all false
set_option maxRecDepth 100000
set_option maxHeartbeats 2000000
/-! PyM: what a block computes does not hang on the number of turns allowed; a def as the function that its data computes. -/
namespace PyD
open PySem L2

theorem whileF_mono {test : Env → Option (R × Env)} {body body' : Env → Option (O × Env)} (hb : ∀ ε q, body ε = some q → body' ε = some q) : ∀ (n n' : Nat) (ε : Env) (q : O × Env), n ≤ n' → whileF test body n ε = some q → whileF test body' n' ε = some q
  | 0, _, _, _, _, h => by cases h
  | n + 1, 0, _, _, l, _ => by omega
  | n + 1, n' + 1, ε, q, l, h => by
    unfold whileF at h ⊢
    cases e : test ε with
    | none => rw [e] at h; cases h
    | some y =>
      obtain ⟨x, ε1⟩ := y
      rw [e] at h
      cases x with
      | sh d =>
        cases d with
        | bl b =>
          cases b with
          | false => exact h
          | true =>
            simp only at h ⊢
            cases e2 : body ε1 with
            | none => rw [e2] at h; cases h
            | some y2 =>
              obtain ⟨o, ε2⟩ := y2
              rw [e2] at h
              rw [hb _ _ e2]
              cases o with
              | nx => exact whileF_mono hb n n' _ _ (by omega) h
              | ct => exact whileF_mono hb n n' _ _ (by omega) h
              | bk => exact h
              | rt x => exact h
        | _ => cases h
      | _ => cases h
theorem forF_mono {body body' : Env → Option (O × Env)} {tg : Tg} (hb : ∀ ε q, body ε = some q → body' ε = some q) : ∀ (its : List D) (ε : Env) (q : O × Env), forF body tg its ε = some q → forF body' tg its ε = some q
  | [], _, _, h => h
  | d :: r, ε, q, h => by
    simp only [forF] at h ⊢
    cases e : asg tg d ε with
    | none => rw [e] at h; cases h
    | some ε1 =>
      rw [e] at h
      simp only at h ⊢
      split at h
      · rename_i ε2 e2; simp only [hb _ _ e2]; exact forF_mono hb r _ _ h
      · rename_i ε2 e2; simp only [hb _ _ e2]; exact forF_mono hb r _ _ h
      · rename_i ε2 e2; simp only [hb _ _ e2]; exact h
      · rename_i x ε2 e2; simp only [hb _ _ e2]; exact h
      · cases h
section
variable {G : List Fn} {n n' : Nat}
mutual
theorem ex_mono (l : n ≤ n') : ∀ (s : S) (ε : Env) (q : O × Env), ex G n s ε = some q → ex G n' s ε = some q
  | .set i e, ε, q, h => by simp only [ex] at h ⊢; exact h
  | .setT is e, ε, q, h => by simp only [ex] at h ⊢; exact h
  | .setIx i a e, ε, q, h => by simp only [ex] at h ⊢; exact h
  | .aug i o e, ε, q, h => by simp only [ex] at h ⊢; exact h
  | .app i e, ε, q, h => by simp only [ex] at h ⊢; exact h
  | .expr e, ε, q, h => by simp only [ex] at h ⊢; exact h
  | .ret e, ε, q, h => by simp only [ex] at h ⊢; exact h
  | .retN, ε, q, h => by simp only [ex] at h ⊢; exact h
  | .ifS c a b, ε, q, h => by
    simp only [ex] at h ⊢
    cases e : ev G c ε with
    | none => rw [e] at h; cases h
    | some y =>
      obtain ⟨x, ε1⟩ := y
      rw [e] at h
      cases x with
      | sh d =>
        cases d with
        | bl t =>
          cases t with
          | true => exact exs_mono l a _ _ h
          | false => exact exs_mono l b _ _ h
        | _ => cases h
      | _ => cases h
  | .whileS c b, ε, q, h => by
    simp only [ex] at h ⊢
    exact whileF_mono (fun ε q => exs_mono l b ε q) n n' ε q l h
  | .forS tg k src b, ε, q, h => by
    simp only [ex] at h ⊢
    cases e : evs G src ε with
    | none => rw [e] at h; cases h
    | some y =>
      obtain ⟨ds, ε1⟩ := y
      rw [e] at h
      simp only at h ⊢
      cases e2 : itD k ds with
      | none => rw [e2] at h; cases h
      | some its =>
        rw [e2] at h
        exact forF_mono (fun ε q => exs_mono l b ε q) its ε1 q h
  | .brk, ε, q, h => by simp only [ex] at h ⊢; exact h
  | .cont, ε, q, h => by simp only [ex] at h ⊢; exact h
  | .pass, ε, q, h => by simp only [ex] at h ⊢; exact h
  | .bad, ε, q, h => by simp only [ex] at h ⊢; exact h
theorem exs_mono (l : n ≤ n') : ∀ (ss : List S) (ε : Env) (q : O × Env), exs G n ss ε = some q → exs G n' ss ε = some q
  | [], ε, q, h => by simp only [exs] at h ⊢; exact h
  | s :: r, ε, q, h => by
    simp only [exs] at h ⊢
    cases e : ex G n s ε with
    | none => rw [e] at h; cases h
    | some y =>
      obtain ⟨o, ε1⟩ := y
      rw [e] at h
      simp only [ex_mono l s ε _ e]
      cases o with
      | nx => exact exs_mono l r ε1 q h
      | bk => exact h
      | ct => exact h
      | rt x => exact h
end
theorem run_mono (l : n ≤ n') {m : Nat} {b : List S} {ds : List D} {r : R} (h : run G n m b ds = some r) : run G n' m b ds = some r := by
  unfold run at h ⊢
  cases e : exs G n b (ds.map (fun d => some (.sh d)) ++ List.replicate m none) with
  | none => rw [e] at h; cases h
  | some y =>
    rw [e] at h
    rw [exs_mono l _ _ _ e]
    exact h
end
/-- the function that a def's data computes -/
noncomputable def rF (G : List Fn) (k m : Nat) (b : List S) : Fn := fun ds => by
  classical exact if h : ds.length = k ∧ ∃ n r, run G n m b ds = some r then some h.2.choose_spec.choose else none
theorem rF_eq {G : List Fn} {k m n : Nat} {b : List S} {ds : List D} {r : R} (h : run G n m b ds = some r) (hl : ds.length = k := by rfl) : rF G k m b ds = some r := by
  have ex : ds.length = k ∧ ∃ n r, run G n m b ds = some r := ⟨hl, n, r, h⟩
  unfold rF
  rw [dif_pos ex]
  have h2 := ex.2.choose_spec.choose_spec
  have h3 := run_mono (Nat.le_max_left n ex.2.choose) h
  have h4 := run_mono (Nat.le_max_right n ex.2.choose) h2
  rw [h3] at h4
  exact congrArg some (Option.some.inj h4).symm
theorem rF_runs {tb : Tb} {G : List Fn} {N ps : List Str} {fuel : Nat} {scope : Scope} {body : List Stmt} {bs : List S} {k m : Nat} (hb : cB tb N fuel scope (fun _ => true) body = bs) (hk : ps.length = k) (hm : N.length - ps.length = m) : Runs tb G N ps fuel scope body (rF G k m bs) := by
  intro ds r e
  unfold rF at e
  split at e
  · rename_i ex
    cases e
    rw [hb, hm, hk]
    exact ⟨ex.1, _, _, ex.2.choose_spec.choose_spec, .inl rfl⟩
  · cases e
end PyD
set_option Elab.async false
set_option linter.all false
set_option maxRecDepth 100000
set_option maxHeartbeats 2000000
/-! PyL: defs joined. -/
namespace PyD
open PySem L2 Evl PyProof.Rows

inductive Calls (P : Program) (w : World) (K : PySem.W.Frag) (mg : Str → Option Value) (base : Heap) (A : Around) (cl : Nat → Addr) : List Str → List Fn → Prop where
  | nil : Calls P w K mg base A cl [] []
  | cons {x : Str} {f : Fn} {xs : List Str} {fs : List Fn} (h : CallP P w K mg base A cl x f) (t : Calls P w K mg base A cl xs fs) : Calls P w K mg base A cl (x :: xs) (f :: fs)
def mkTb (xs : List Str) (fl : List (Str × List Nat)) : Tb := ⟨xs.zip (List.range xs.length), fl⟩
section
variable {P : Program} {w : World} {K : PySem.W.Frag} {mg : Str → Option Value} {base : Heap} {A : Around} {cl : Nat → Addr}
theorem Calls.get {xs : List Str} {fs : List Fn} (h : Calls P w K mg base A cl xs fs) : ∀ {j : Nat} {x : Str}, xs[j]? = some x → ∃ f, fs[j]? = some f ∧ CallP P w K mg base A cl x f := by
  induction h with
  | nil => intro j x e; simp at e
  | cons h t ih =>
    intro j x e
    cases j with
    | zero => simp at e; subst e; exact ⟨_, rfl, h⟩
    | succ j => exact ih (by simpa using e)
theorem zip_look : ∀ {xs : List Str} {k n j : Nat} {x : Str}, (xs.zip (List.range' k n)).lookup x = some j → ∃ i, j = k + i ∧ xs[i]? = some x
  | [], _, _, _, _, e => by simp at e
  | y :: ys, k, 0, _, _, e => by simp at e
  | y :: ys, k, n + 1, j, x, e => by
    rw [List.range'_succ, List.zip_cons_cons, List.lookup_cons] at e
    cases z : x == y with
    | true =>
      rw [z] at e
      cases e
      have : x = y := by simpa using z
      exact ⟨0, rfl, by rw [this]; rfl⟩
    | false =>
      rw [z] at e
      obtain ⟨i, h1, h2⟩ := zip_look e
      exact ⟨i + 1, by omega, by simpa using h2⟩
theorem mkTb_look {xs : List Str} {fl : List (Str × List Nat)} {x : Str} {j : Nat} (e : (mkTb xs fl).fs.lookup x = some j) : xs[j]? = some x := by
  unfold mkTb at e
  rw [List.range_eq_range'] at e
  obtain ⟨i, h1, h2⟩ := zip_look e
  rw [h1, Nat.zero_add]
  exact h2
/-- what the head says of the names that are no def's, of the fields -/
structure Bs (K : PySem.W.Frag) (mg : Str → Option Value) (cl : Nat → Addr) (fl : List (Str × List Nat)) : Prop where
  blt : ∀ x ∈ b1s.map b1N, mg x = none
  isi : mg "isinstance" = none
  str : mg "str" = none
  gcd : mg "gcd" = some (.builtin "math.gcd") ∨ mg "gcd" = none
  fld : ∀ f cs, fl.lookup f = some cs → ∀ c ∈ cs, Cls K (cl c) ∧ NoAttr K (cl c) f
theorem Bs.tab {fl : List (Str × List Nat)} {xs : List Str} {G : List Fn} (B : Bs K mg cl fl) (g : mg "gcd" = some (.builtin "math.gcd")) (h : Calls P w K mg base A cl xs G) : Tab (mkTb xs fl) G cl P w K mg base A :=
  ⟨fun x j e => h.get (mkTb_look e), B.blt, B.isi, B.str, fun _ => g, B.fld⟩
theorem callP_of {x : Str} {f : Fn} {fa : Addr} {fd : FuncData} {ps : List Str} {k : Nat} (F : FnOk P w K mg base CX0 k fa fd ps (spD K cl f)) (hr : Room k A) (hm : mg x = some (.ref fa)) (hk : PySem.W.keepIn K (.ref fa) = true) (hb : Binds K fd ps []) (hdb : (x == ("__debug__" : Str)) = false) : CallP P w K mg base A cl x f := by
  intro X e1 e2 e3 e4 e5 e6 hg es t p pos hs hne pa
  subst e1 e2 e3 e4 e5 e6
  cases es with
  | nil => cases hne
  | cons e es =>
    rw [List.any_cons, Bool.or_eq_false_iff] at hs
    exact PE.imp (pe_call F hr hg hm hk hb .nil pass0 pa hdb (star_one hs.1) (star_any hs.2)) fun σ H Q z => by
      show t σ H fun vs H1 => spD X.K cl f (vs ++ []) H1 Q _
      simpa only [List.append_nil] using z

/-- what is known behind the head -/
structure Env' (fn : List He.DefD) (gl : List Str) (K : PySem.W.Frag) (mg : Str → Option Value) (cl : Nat → Addr) (fl : List (Str × List Nat)) : Prop where
  d : ∀ (i : Nat) (d : He.DefD), fn[i]? = some d → ∃ fd, FunD K d.name d.qual d.params d.body d.scope (d.dvs K) (d.kws K) (He.fAd K d.at_) fd
  g : ∀ x ∈ gl, mg x = some (.ref (He.ga K x))
  b : Bs K mg cl fl
  gcd : mg "gcd" = some (.builtin "math.gcd")
/-- a def of the top: its data runs as f says: it is called so -/
theorem step {fn : List He.DefD} {gl : List Str} {fl : List (Str × List Nat)} (M : Env' fn gl K mg cl fl) (i : Nat) {x : Str} {params : Arguments} {body : List Stmt} {scope : Scope} (hd : fn[i]? = some ⟨(x, none), x, x, params, body, scope, [], []⟩) (hx : x ∈ gl) (hdb : (x == ("__debug__" : Str)) = false)
    {N ps : List Str} (S : FnScope N ps scope) (hpN : ps.length ≤ N.length) (hb : ∀ (kV doc pm : Value) (an : Option Addr) (cdv ct : Value) (us : List Value), us.length = ps.length → bindArgs (PySem.W.fnOf x x params body scope .none kV doc pm an cdv ct) ⟨us, []⟩ = pure (ps.zip us))
    {names : List Str} {G : List Fn} {k : Nat} (hc : ∀ A, Room k A → Calls P w K mg base A cl names G) {f : Fn} (hr : Runs (mkTb names fl) G N ps 60 scope body f) : ∀ A, Room (k + 1) A → CallP P w K mg base A cl x f := by
  intro A hA
  obtain ⟨fd, FD⟩ := M.d i _ hd
  exact callP_of (fn_ok FD S hpN (fun A hA => M.b.tab M.gcd (hc A hA)) hr) hA (M.g x hx) FD.kp (FunD.bindsN FD hb) hdb
theorem CallP.mono {x : Str} {f : Fn} {j k : Nat} (h : ∀ A, Room j A → CallP P w K mg base A cl x f) (l : j ≤ k) : ∀ A, Room k A → CallP P w K mg base A cl x f := fun A r => h A (r.mono l)
end
end PyD
set_option Elab.async false
set_option linter.all false
set_option maxRecDepth 100000
set_option maxHeartbeats 2000000
/-! PyN: numbers: sizes, fractions. -/
namespace PyD
open PySem L2

def Sm (n : Nat) (i : Int) : Prop := i.natAbs < 2 ^ n
theorem Sm.bt {n : Nat} {i : Int} (h : Sm n i) : bt i ≤ n := by
  unfold PyD.bt
  by_cases z : i.natAbs = 0
  · rw [z]; simp
  · exact Nat.le_of_lt ((Nat.log2_lt z).mpr h)
theorem Sm.mono {n m : Nat} {i : Int} (h : Sm n i) (l : n ≤ m) : Sm m i := Nat.lt_of_lt_of_le h (Nat.pow_le_pow_right (by decide) l)
theorem Sm.mul {n m : Nat} {i j : Int} (h : Sm n i) (g : Sm m j) : Sm (n + m) (i * j) := by
  unfold Sm at *
  rw [Int.natAbs_mul, Nat.pow_add]
  exact Nat.mul_lt_mul'' h g
theorem Sm.add {n : Nat} {i j : Int} (h : Sm n i) (g : Sm n j) : Sm (n + 1) (i + j) := by
  unfold Sm at *
  have := Int.natAbs_add_le i j
  rw [Nat.pow_succ]
  omega
theorem Sm.neg {n : Nat} {i : Int} (h : Sm n i) : Sm n (-i) := by unfold Sm at *; rwa [Int.natAbs_neg]
theorem Sm.sub {n : Nat} {i j : Int} (h : Sm n i) (g : Sm n j) : Sm (n + 1) (i - j) := by
  rw [Int.sub_eq_add_neg]; exact h.add g.neg
theorem Sm.le {n : Nat} {i j : Int} (h : Sm n j) (l : i.natAbs ≤ j.natAbs) : Sm n i := Nat.lt_of_le_of_lt l h
theorem Sm.of {n : Nat} {i : Int} {k : Nat} (l : i.natAbs < k) (h : k ≤ 2 ^ n) : Sm n i := Nat.lt_of_lt_of_le l h
theorem mulOk_of {n m : Nat} {i j : Int} (h : Sm n i) (g : Sm m j) (l : n + m ≤ 100000000 := by omega) : mulOk i j := by
  have h1 := h.bt
  have h2 := g.bt
  show PyD.bt i + PyD.bt j ≤ 100000000
  omega
theorem divOk_of {n : Nat} {i j : Int} (z : j ≠ 0) (h : Sm n j) (l : n < 9000 := by omega) : divOk i j := ⟨z, Nat.lt_of_le_of_lt h.bt l⟩
theorem Sm.gcd {n : Nat} {i j : Int} (z : j ≠ 0) (h : Sm n j) : Sm n ((Nat.gcd i.natAbs j.natAbs : Nat) : Int) := by
  have : Nat.gcd i.natAbs j.natAbs ≤ j.natAbs := Nat.gcd_le_right _ (Int.natAbs_pos.mpr z)
  exact h.le (by simpa using this)
theorem gcd_ne {i j : Int} (z : j ≠ 0) : ((Nat.gcd i.natAbs j.natAbs : Nat) : Int) ≠ 0 := by
  have := Nat.gcd_pos_of_pos_right i.natAbs (Int.natAbs_pos.mpr z)
  omega
/-- a fraction as the program has it -/
def rd (q : Rat) : D := .tup [.int q.num, .int q.den]
theorem rd_inj {p q : Rat} (h : rd p = rd q) : p = q := by
  unfold rd at h
  injection h with h
  injection h with h1 h2
  injection h1 with h1
  injection h2 with h2
  injection h2 with h2
  exact Rat.ext h1 (by omega)
theorem fdiv_pos {a b : Int} (h : 0 ≤ b) : a.fdiv b = a / b := Int.fdiv_eq_ediv_of_nonneg a h
theorem rd_pos {t b : Int} (h : 0 < b) : rd (Rat.divInt t b) = .tup [.int (t.fdiv ((Nat.gcd t.natAbs b.natAbs : Nat) : Int)), .int (b.fdiv ((Nat.gcd t.natAbs b.natAbs : Nat) : Int))] := by
  have hg : b.gcd t = Nat.gcd t.natAbs b.natAbs := by unfold Int.gcd; rw [Nat.gcd_comm]
  have hn : (Rat.divInt t b).num = t.fdiv ((Nat.gcd t.natAbs b.natAbs : Nat) : Int) := by
    rw [Rat.num_divInt, hg, Int.sign_eq_one_of_pos h, Int.one_mul, fdiv_pos (by omega)]
  have hd : ((Rat.divInt t b).den : Int) = b.fdiv ((Nat.gcd t.natAbs b.natAbs : Nat) : Int) := by
    rw [Rat.den_divInt, if_neg (by omega), hg, fdiv_pos (by omega)]
    have : ((b.natAbs : Nat) : Int) = b := by omega
    rw [Int.natCast_ediv, this]
  unfold rd
  rw [hn, hd]
theorem rd_neg {t b : Int} (h : b < 0) : rd (Rat.divInt t b) = .tup [.int ((-t).fdiv ((Nat.gcd t.natAbs b.natAbs : Nat) : Int)), .int ((-b).fdiv ((Nat.gcd t.natAbs b.natAbs : Nat) : Int))] := by
  have e : Rat.divInt t b = Rat.divInt (-t) (-b) := by
    refine (Rat.divInt_eq_divInt_iff (by omega) (by omega)).mpr ?_
    rw [Int.mul_neg, Int.neg_mul]
  rw [e, rd_pos (by omega), Int.natAbs_neg, Int.natAbs_neg]
def Bd (n : Nat) (q : Rat) : Prop := Sm n q.num ∧ Sm n q.den
theorem Bd.mono {n m : Nat} {q : Rat} (h : Bd n q) (l : n ≤ m) : Bd m q := ⟨h.1.mono l, h.2.mono l⟩
theorem Bd.divInt {n : Nat} {a b : Int} (h : Sm n a) (g : Sm n b) (z : b ≠ 0) : Bd n (Rat.divInt a b) := by
  have hg : 0 < b.gcd a := Int.gcd_pos_of_ne_zero_left _ z
  refine ⟨?_, ?_⟩
  · rw [Rat.num_divInt]
    refine h.le ?_
    rw [Int.natAbs_ediv_of_dvd (Int.dvd_mul_of_dvd_right (Int.gcd_dvd_right _ _)), Int.natAbs_mul]
    have : b.sign.natAbs ≤ 1 := by rw [Int.natAbs_sign]; split <;> omega
    refine Nat.le_trans (Nat.div_le_self _ _) ?_
    have := Nat.mul_le_mul_right a.natAbs this
    omega
  · rw [Rat.den_divInt, if_neg z]
    refine g.le ?_
    simp only [Int.natAbs_natCast]
    exact Nat.div_le_self _ _
theorem Bd.add {n m : Nat} {p q : Rat} (h : Bd n p) (g : Bd m q) : Bd (n + m + 1) (p + q) := by
  have e : p + q = Rat.divInt (p.num * q.den + q.num * p.den) (p.den * q.den) := by
    have := Rat.divInt_add_divInt p.num q.num (d₁ := p.den) (d₂ := q.den) (by have := p.den_nz; omega) (by have := q.den_nz; omega)
    rw [Rat.num_divInt_den, Rat.num_divInt_den] at this
    exact this
  rw [e]
  refine Bd.divInt (Sm.add (n := n + m) (h.1.mul g.2) ?_) ((h.2.mul g.2).mono (by omega)) ?_
  · rw [Nat.add_comm]; exact g.1.mul h.2
  · have h1 := p.den_nz
    have h2 := q.den_nz
    have : (p.den : Int) ≠ 0 ∧ (q.den : Int) ≠ 0 := by omega
    exact Int.mul_ne_zero this.1 this.2
theorem Bd.mul {n m : Nat} {p q : Rat} (h : Bd n p) (g : Bd m q) : Bd (n + m) (p * q) := by
  have e : p * q = Rat.divInt (p.num * q.num) (p.den * q.den) := by
    have := Rat.divInt_mul_divInt p.num q.num (d₁ := p.den) (d₂ := q.den)
    rw [Rat.num_divInt_den, Rat.num_divInt_den] at this
    exact this
  rw [e]
  refine Bd.divInt (h.1.mul g.1) (h.2.mul g.2) ?_
  have h1 := p.den_nz
  have h2 := q.den_nz
  have : (p.den : Int) ≠ 0 ∧ (q.den : Int) ≠ 0 := by omega
  exact Int.mul_ne_zero this.1 this.2
theorem add_divInt (p q : Rat) : Rat.divInt (p.num * q.den + q.num * p.den) (p.den * q.den) = p + q := by
  have := Rat.divInt_add_divInt p.num q.num (d₁ := p.den) (d₂ := q.den) (by have := p.den_nz; omega) (by have := q.den_nz; omega)
  rw [Rat.num_divInt_den, Rat.num_divInt_den] at this
  exact this.symm
theorem sub_divInt (p q : Rat) : Rat.divInt (p.num * q.den - q.num * p.den) (p.den * q.den) = p - q := by
  have := Rat.divInt_sub_divInt p.num q.num (d₁ := p.den) (d₂ := q.den) (by have := p.den_nz; omega) (by have := q.den_nz; omega)
  rw [Rat.num_divInt_den, Rat.num_divInt_den] at this
  exact this.symm
theorem mul_divInt (p q : Rat) : Rat.divInt (p.num * q.num) (p.den * q.den) = p * q := by
  have := Rat.divInt_mul_divInt p.num q.num (d₁ := p.den) (d₂ := q.den)
  rw [Rat.num_divInt_den, Rat.num_divInt_den] at this
  exact this.symm
theorem den_ne (p : Rat) : (p.den : Int) ≠ 0 := by have := p.den_nz; omega
theorem den_pos' (p : Rat) : (0 : Int) < p.den := by have := p.den_pos; omega
theorem den2_ne (p q : Rat) : (p.den : Int) * q.den ≠ 0 := Int.mul_ne_zero (den_ne p) (den_ne q)
/-- a fraction in a tuple or in a list -/
def rdk (k : Bool) (q : Rat) : D := if k = true then .tup [.int q.num, .int q.den] else .lst [.int q.num, .int q.den]
/-- a tuple or a list -/
def con (k : Bool) (ds : List D) : D := if k = true then .tup ds else .lst ds
end PyD
set_option Elab.async false
set_option linter.all false
set_option maxRecDepth 100000
set_option maxHeartbeats 4000000
/-! PyF: the program's fractions. -/
namespace PyD
open PySem L2

/-! ### ratio -/
def b_ratio : List S := [.ifS (.cmp .eq (.var 1) (.con (.int 0))) [.bad] [], .set 2 (.con (.int 1)), .ifS (.cmp .lt (.var 1) (.con (.int 0))) [.set 2 (.neg (.con (.int 1)))] [], .set 3 (.b2 .gcd (.var 0) (.var 1)), .ret (.tup [(.bin .fdiv (.bin .mul (.var 2) (.var 0)) (.var 3)), (.bin .fdiv (.bin .mul (.var 2) (.var 1)) (.var 3))])]
theorem r_ratio {t b : Int} (hb : b ≠ 0) (h1 : Sm 100000 t) (h2 : Sm 8990 b) : run [] 0 2 b_ratio [.int t, .int b] = some (.sh (rd (Rat.divInt t b))) := by
  have s1 : Sm 1 1 := by unfold Sm; decide
  have s2 : Sm 1 (-1) := by unfold Sm; decide
  have m1 : mulOk 1 t := mulOk_of s1 h1
  have m2 : mulOk 1 b := mulOk_of s1 h2
  have m3 : mulOk (-1) t := mulOk_of s2 h1
  have m4 : mulOk (-1) b := mulOk_of s2 h2
  have d : ∀ x, divOk x ((Nat.gcd t.natAbs b.natAbs : Nat) : Int) := fun x => divOk_of (gcd_ne hb) (Sm.gcd hb h2)
  by_cases hn : b < 0
  · rw [rd_neg hn]
    simp [run, exs, ex, ev, evs, evT, gt, st, put, putR, kill, unal, frz, peek, peekH, asT, flatT, flatT_d, toDs_d, waits, calm, calms, cmpD, binD, negD, notD, isD, isiD, b2D, b1D, B1.deep, callD, fin, lenOk, sizeLine_eq, asg, asgs, itD, items, plainW, wipeE, back, locate, listAt, T.get, T.put, T.toD, T.toDs, dAt, isData, ixR, ixD, eqD_int, atI_nat, b_ratio, hb, hn, m1, m2, m3, m4, d]
  · rw [rd_pos (by omega)]
    simp [run, exs, ex, ev, evs, evT, gt, st, put, putR, kill, unal, frz, peek, peekH, asT, flatT, flatT_d, toDs_d, waits, calm, calms, cmpD, binD, negD, notD, isD, isiD, b2D, b1D, B1.deep, callD, fin, lenOk, sizeLine_eq, asg, asgs, itD, items, plainW, wipeE, back, locate, listAt, T.get, T.put, T.toD, T.toDs, dAt, isData, ixR, ixD, eqD_int, atI_nat, b_ratio, hb, hn, m1, m2, m3, m4, d]
noncomputable def f_ratio : Fn := rF [] 2 2 b_ratio
theorem f_ratio_eq {t b : Int} (hb : b ≠ 0) (h1 : Sm 100000 t) (h2 : Sm 8990 b) : f_ratio [.int t, .int b] = some (.sh (rd (Rat.divInt t b))) := rF_eq (r_ratio hb h1 h2)
/-! ### added, timed -/
def b_added : List S := [.ret (.call 0 [(.bin .add (.bin .mul (.ix (.var 0) (.con (.int 0))) (.ix (.var 1) (.con (.int 1)))) (.bin .mul (.ix (.var 1) (.con (.int 0))) (.ix (.var 0) (.con (.int 1))))), (.bin .mul (.ix (.var 0) (.con (.int 1))) (.ix (.var 1) (.con (.int 1))))])]
def b_timed : List S := [.ret (.call 0 [(.bin .mul (.ix (.var 0) (.con (.int 0))) (.ix (.var 1) (.con (.int 0)))), (.bin .mul (.ix (.var 0) (.con (.int 1))) (.ix (.var 1) (.con (.int 1))))])]
theorem ix0 (a b : D) : atI [a, b] 0 = some a := rfl
theorem ix1 (a b : D) : atI [a, b] 1 = some b := rfl
theorem r_added {n m : Nat} {p q : Rat} (h : Bd n p) (g : Bd m q) (l : n + m ≤ 8990) : run [f_ratio] 0 0 b_added [rd p, rd q] = some (.sh (rd (p + q))) := by
  have m1 := mulOk_of h.1 g.2
  have m2 := mulOk_of g.1 h.2
  have m3 := mulOk_of h.2 g.2
  have f := f_ratio_eq (den2_ne p q) ((Sm.add (n := n + m) (h.1.mul g.2) (by rw [Nat.add_comm]; exact g.1.mul h.2)).mono (by omega)) ((h.2.mul g.2).mono l)
  rw [add_divInt] at f
  simp [run, exs, ex, ev, evs, evT, gt, st, put, putR, kill, unal, frz, peek, peekH, asT, flatT, flatT_d, toDs_d, waits, calm, calms, cmpD, binD, negD, notD, isD, isiD, b2D, b1D, B1.deep, callD, fin, lenOk, sizeLine_eq, asg, asgs, itD, items, plainW, wipeE, back, locate, listAt, T.get, T.put, T.toD, T.toDs, dAt, isData, ixR, ixD, eqD_int, atI_nat, b_added, rd, ix0, ix1, m1, m2, m3, f]
theorem r_timed {n m : Nat} {p q : Rat} (k1 k2 : Bool) (h : Bd n p) (g : Bd m q) (l : n + m ≤ 8990) : run [f_ratio] 0 0 b_timed [rdk k1 p, rdk k2 q] = some (.sh (rd (p * q))) := by
  have m1 := mulOk_of h.1 g.1
  have m3 := mulOk_of h.2 g.2
  have f := f_ratio_eq (den2_ne p q) ((h.1.mul g.1).mono (by omega)) ((h.2.mul g.2).mono l)
  rw [mul_divInt] at f
  cases k1 <;> cases k2 <;> simp [run, exs, ex, ev, evs, evT, gt, st, put, putR, kill, unal, frz, peek, peekH, asT, flatT, flatT_d, toDs_d, waits, calm, calms, cmpD, binD, negD, notD, isD, isiD, b2D, b1D, B1.deep, callD, fin, lenOk, sizeLine_eq, asg, asgs, itD, items, plainW, wipeE, back, locate, listAt, T.get, T.put, T.toD, T.toDs, dAt, isData, ixR, ixD, eqD_int, atI_nat, b_timed, rdk, ix0, ix1, m1, m3, f]
noncomputable def f_added : Fn := rF [f_ratio] 2 0 b_added
noncomputable def f_timed : Fn := rF [f_ratio] 2 0 b_timed
theorem f_added_eq {n m : Nat} {p q : Rat} (h : Bd n p) (g : Bd m q) (l : n + m ≤ 8990) : f_added [rd p, rd q] = some (.sh (rd (p + q))) := rF_eq (r_added h g l)
theorem f_timed_eq {n m : Nat} {p q : Rat} (k1 k2 : Bool) (h : Bd n p) (g : Bd m q) (l : n + m ≤ 8990) : f_timed [rdk k1 p, rdk k2 q] = some (.sh (rd (p * q))) := rF_eq (r_timed k1 k2 h g l)
end PyD
set_option Elab.async false
set_option linter.all false
set_option maxRecDepth 100000
set_option maxHeartbeats 4000000
/-! PyG: powers, common divisors, the laws' own fractions. -/
namespace PyD
open PySem L2

/-! ### a power by squares -/
def b_power (m : E) : List S := [.set 2 (.con (.int 1)), .set 3 (.var 0), .set 4 (.var 1), .whileS (.cmp .gt (.var 4) (.con (.int 0))) [.ifS (.cmp .eq (.bin .mod m (.con (.int 2))) (.con (.int 1))) [.set 2 (.bin .mul (.var 2) (.var 3))] [], .set 4 (.bin .fdiv (.var 4) (.con (.int 2))), .ifS (.cmp .gt (.var 4) (.con (.int 0))) [.set 3 (.bin .mul (.var 3) (.var 3))] []], .ret (.var 2)]
theorem divOk2 (x : Int) : divOk x 2 := divOk_of (n := 2) (by decide) (by unfold Sm; decide)
theorem whileF_go {test : Env → Option (R × Env)} {body : Env → Option (O × Env)} {n : Nat} {ε ε1 ε2 : Env} (h1 : test ε = some (.sh (.bl true), ε1)) (h2 : body ε1 = some (.nx, ε2)) : whileF test body (n + 1) ε = whileF test body n ε2 := by simp only [whileF, h1, h2]
theorem whileF_end {test : Env → Option (R × Env)} {body : Env → Option (O × Env)} {n : Nat} {ε ε1 : Env} (h1 : test ε = some (.sh (.bl false), ε1)) : whileF test body (n + 1) ε = some (.nx, ε1) := by simp only [whileF, h1]
def w_power (m : E) : List S := [.ifS (.cmp .eq (.bin .mod m (.con (.int 2))) (.con (.int 1))) [.set 2 (.bin .mul (.var 2) (.var 3))] [], .set 4 (.bin .fdiv (.var 4) (.con (.int 2))), .ifS (.cmp .gt (.var 4) (.con (.int 0))) [.set 3 (.bin .mul (.var 3) (.var 3))] []]
theorem sq_pow (s : Int) (k : Nat) : (s * s) ^ k = s ^ (2 * k) := by
  rw [Int.pow_mul]
  congr 1
  rw [Int.pow_succ, Int.pow_succ, Int.pow_zero, Int.one_mul]
theorem power_loop (m : E) (hm : m = .var 4 ∨ m = .b1 .int (.var 4)) (x y : D) (g : Nat) : ∀ (l : Nat) (n a b : Nat) (t s : Int), l < n → Sm a t → Sm b s → a + b * l ≤ 1000000 → ∃ q, whileF (ev [] (.cmp .gt (.var 4) (.con (.int 0)))) (exs [] g (w_power m)) n [some (.sh x), some (.sh y), some (.sh (.int t)), some (.sh (.int s)), some (.sh (.int (l : Int)))] = some (.nx, [some (.sh x), some (.sh y), some (.sh (.int (t * s ^ l))), some (.sh (.int q)), some (.sh (.int 0))]) := by
  intro l
  induction l using Nat.strongRecOn with
  | ind l ih =>
    intro n a b t s hn ht hs hb
    cases n with
    | zero => omega
    | succ n =>
      by_cases h0 : l = 0
      · subst h0
        refine ⟨s, ?_⟩
        rw [whileF_end (ε1 := [some (.sh x), some (.sh y), some (.sh (.int t)), some (.sh (.int s)), some (.sh (.int 0))]) (by simp [run, exs, ex, ev, evs, evT, gt, st, put, putR, kill, unal, frz, peek, peekH, asT, flatT, flatT_d, toDs_d, waits, calm, calms, cmpD, binD, negD, notD, isD, isiD, b2D, b1D, B1.deep, callD, fin, lenOk, sizeLine_eq, asg, asgs, itD, items, plainW, wipeE, back, locate, listAt, T.get, T.put, T.toD, T.toDs, dAt, isData, ixR, ixD, eqD_int, atI_nat])]
        simp
      · have hl : (0 : Int) < l := by omega
        have hl' : 0 < l := by omega
        have hT : ev [] (.cmp .gt (.var 4) (.con (.int 0))) [some (.sh x), some (.sh y), some (.sh (.int t)), some (.sh (.int s)), some (.sh (.int (l : Int)))] = some (.sh (.bl true), [some (.sh x), some (.sh y), some (.sh (.int t)), some (.sh (.int s)), some (.sh (.int (l : Int)))]) := by simp [run, exs, ex, ev, evs, evT, gt, st, put, putR, kill, unal, frz, peek, peekH, asT, flatT, flatT_d, toDs_d, waits, calm, calms, cmpD, binD, negD, notD, isD, isiD, b2D, b1D, B1.deep, callD, fin, lenOk, sizeLine_eq, asg, asgs, itD, items, plainW, wipeE, back, locate, listAt, T.get, T.put, T.toD, T.toDs, dAt, isData, ixR, ixD, eqD_int, atI_nat, hl']
        have hd : ((l : Int)).fdiv 2 = (l : Int) / 2 := by rw [fdiv_pos (by decide)]
        have hmod : ((l : Int)).fmod 2 = (l : Int) % 2 := by rw [Int.fmod_eq_emod_of_nonneg _ (by decide)]
        have d2 := divOk2 (l : Int)
        have ms : mulOk t s := mulOk_of ht hs (by
          have : b * 1 ≤ b * l := Nat.mul_le_mul_left _ (by omega)
          omega)
        have hlm : l = 2 * (l / 2) + l % 2 := by omega
        by_cases h2 : l / 2 = 0
        · have e1 : l = 1 := by omega
          subst e1
          obtain ⟨q, hq⟩ := ih 0 (by omega) n (a + b) b (t * s) s (by omega) (ht.mul hs) hs (by omega)
          refine ⟨q, ?_⟩
          rw [whileF_go hT (ε2 := [some (.sh x), some (.sh y), some (.sh (.int (t * s))), some (.sh (.int s)), some (.sh (.int ((0 : Nat) : Int)))]) (by
            have e4 : (1 : Int).fmod 2 = 1 := by decide
            have e5 : (1 : Int).fdiv 2 = 0 := by decide
            have d21 := divOk2 1
            rcases hm with rfl | rfl <;> simp [run, exs, ex, ev, evs, evT, gt, st, put, putR, kill, unal, frz, peek, peekH, asT, flatT, flatT_d, toDs_d, waits, calm, calms, cmpD, binD, negD, notD, isD, isiD, b2D, b1D, B1.deep, callD, fin, lenOk, sizeLine_eq, asg, asgs, itD, items, plainW, wipeE, back, locate, listAt, T.get, T.put, T.toD, T.toDs, dAt, isData, ixR, ixD, eqD_int, atI_nat, w_power, ms, d21, e4, e5]), hq]
          simp [Int.pow_succ]
        · have hk : (0 : Int) < (l : Int) / 2 := by omega
          have mq : mulOk s s := mulOk_of hs hs (by
              have : b * 2 ≤ b * l := Nat.mul_le_mul_left _ (by omega)
              omega)
          by_cases h1 : l % 2 = 1
          · obtain ⟨q, hq⟩ := ih (l / 2) (by omega) n (a + b) (b + b) (t * s) (s * s) (by omega) (ht.mul hs) (hs.mul hs) (by
              have : (b + b) * (l / 2) = b * (2 * (l / 2)) := by rw [← Nat.mul_assoc, Nat.mul_comm b 2, Nat.two_mul]
              have h3 : b * l = b * (2 * (l / 2)) + b * 1 := by rw [← Nat.mul_add]; congr 1; omega
              omega)
            refine ⟨q, ?_⟩
            have e3 : t * s * (s * s) ^ (l / 2) = t * s ^ l := by
              rw [sq_pow, Int.mul_assoc]
              congr 1
              have : l = 2 * (l / 2) + 1 := by omega
              conv => rhs; rw [this, Int.pow_succ, Int.mul_comm]
            have h1' : (l : Int) % 2 = 1 := by omega
            rw [whileF_go hT (ε2 := [some (.sh x), some (.sh y), some (.sh (.int (t * s))), some (.sh (.int (s * s))), some (.sh (.int ((l / 2 : Nat) : Int)))]) (by
              rcases hm with rfl | rfl <;> (simp [run, exs, ex, ev, evs, evT, gt, st, put, putR, kill, unal, frz, peek, peekH, asT, flatT, flatT_d, toDs_d, waits, calm, calms, cmpD, binD, negD, notD, isD, isiD, b2D, b1D, B1.deep, callD, fin, lenOk, sizeLine_eq, asg, asgs, itD, items, plainW, wipeE, back, locate, listAt, T.get, T.put, T.toD, T.toDs, dAt, isData, ixR, ixD, eqD_int, atI_nat, w_power, hmod, h1', ms, d2, hd, mq, hk])), hq, e3]
          · obtain ⟨q, hq⟩ := ih (l / 2) (by omega) n a (b + b) t (s * s) (by omega) ht (hs.mul hs) (by
              have : (b + b) * (l / 2) = b * (2 * (l / 2)) := by rw [← Nat.mul_assoc, Nat.mul_comm b 2, Nat.two_mul]
              have h3 : b * l = b * (2 * (l / 2)) := by congr 1; omega
              omega)
            refine ⟨q, ?_⟩
            have e3 : t * (s * s) ^ (l / 2) = t * s ^ l := by
              rw [sq_pow]
              congr 2
              omega
            have h1'' : (l : Int) % 2 = 0 := by omega
            rw [whileF_go hT (ε2 := [some (.sh x), some (.sh y), some (.sh (.int t)), some (.sh (.int (s * s))), some (.sh (.int ((l / 2 : Nat) : Int)))]) (by
              rcases hm with rfl | rfl <;> (simp [run, exs, ex, ev, evs, evT, gt, st, put, putR, kill, unal, frz, peek, peekH, asT, flatT, flatT_d, toDs_d, waits, calm, calms, cmpD, binD, negD, notD, isD, isiD, b2D, b1D, B1.deep, callD, fin, lenOk, sizeLine_eq, asg, asgs, itD, items, plainW, wipeE, back, locate, listAt, T.get, T.put, T.toD, T.toDs, dAt, isData, ixR, ixD, eqD_int, atI_nat, w_power, hmod, h1'', ms, d2, hd, mq, hk])), hq, e3]
theorem r_power (m : E) (hm : m = .var 4 ∨ m = .b1 .int (.var 4)) {x : Int} {l n : Nat} (hx : Sm n x) (hb : n * l ≤ 999999) : run [] (l + 1) 3 (b_power m) [.int x, .int l] = some (.sh (.int (x ^ l))) := by
  obtain ⟨q, hq⟩ := power_loop m hm (.int x) (.int l) (l + 1) l (l + 1) 1 n 1 x (by omega) (by unfold Sm; decide) hx (by omega)
  have e : ex [] (l + 1) (.whileS (.cmp .gt (.var 4) (.con (.int 0))) (w_power m)) [some (.sh (.int x)), some (.sh (.int l)), some (.sh (.int 1)), some (.sh (.int x)), some (.sh (.int l))] = some (.nx, [some (.sh (.int x)), some (.sh (.int l)), some (.sh (.int (x ^ l))), some (.sh (.int q)), some (.sh (.int 0))]) := by
    rw [← Int.one_mul (x ^ l)]
    exact hq
  have e2 : b_power m = [.set 2 (.con (.int 1)), .set 3 (.var 0), .set 4 (.var 1), .whileS (.cmp .gt (.var 4) (.con (.int 0))) (w_power m), .ret (.var 2)] := rfl
  rw [e2]
  generalize S.whileS (.cmp .gt (.var 4) (.con (.int 0))) (w_power m) = wh at e
  simp [run, exs, ex, ev, evs, evT, gt, st, put, putR, kill, unal, frz, peek, peekH, asT, flatT, flatT_d, toDs_d, waits, calm, calms, cmpD, binD, negD, notD, isD, isiD, b2D, b1D, B1.deep, callD, fin, lenOk, sizeLine_eq, asg, asgs, itD, items, plainW, wipeE, back, locate, listAt, T.get, T.put, T.toD, T.toDs, dAt, isData, ixR, ixD, eqD_int, atI_nat, e]
noncomputable def f_wpower : Fn := rF [] 2 3 (b_power (.var 4))
noncomputable def f_lpower : Fn := rF [] 2 3 (b_power (.b1 .int (.var 4)))
theorem f_wpower_eq {x : Int} {l n : Nat} (hx : Sm n x) (hb : n * l ≤ 999999) : f_wpower [.int x, .int l] = some (.sh (.int (x ^ l))) := rF_eq (r_power _ (.inl rfl) hx hb)
theorem f_lpower_eq {x : Int} {l n : Nat} (hx : Sm n x) (hb : n * l ≤ 999999) : f_lpower [.int x, .int l] = some (.sh (.int (x ^ l))) := rF_eq (r_power _ (.inr rfl) hx hb)
/-! ### _law_gcd -/
def w_gcd : List S := [.set 4 (.bin .mod (.b1 .int (.var 2)) (.var 3)), .set 2 (.var 3), .set 3 (.var 4)]
def b_gcd : List S := [.set 2 (.b1 .abs (.b1 .int (.var 0))), .set 3 (.b1 .abs (.b1 .int (.var 1))), .whileS (.cmp .ne (.var 3) (.con (.int 0))) w_gcd, .ret (.var 2)]
theorem gcd_loop (x y : D) (g : Nat) : ∀ (b n a : Nat) (z : Option W), b < n → ∃ z', whileF (ev [] (.cmp .ne (.var 3) (.con (.int 0)))) (exs [] g w_gcd) n [some (.sh x), some (.sh y), some (.sh (.int a)), some (.sh (.int b)), z] = some (.nx, [some (.sh x), some (.sh y), some (.sh (.int (Nat.gcd a b : Nat))), some (.sh (.int 0)), z']) ∧ (z' = z ∨ ∃ d, z' = some (.sh d)) := by
  intro b
  induction b using Nat.strongRecOn with
  | ind b ih =>
    intro n a z hn
    cases n with
    | zero => omega
    | succ n =>
      by_cases h0 : b = 0
      · subst h0
        refine ⟨z, ?_, .inl rfl⟩
        rw [whileF_end (ε1 := [some (.sh x), some (.sh y), some (.sh (.int a)), some (.sh (.int 0)), z]) (by simp [run, exs, ex, ev, evs, evT, gt, st, put, putR, kill, unal, frz, peek, peekH, asT, flatT, flatT_d, toDs_d, waits, calm, calms, cmpD, binD, negD, notD, isD, isiD, b2D, b1D, B1.deep, callD, fin, lenOk, sizeLine_eq, asg, asgs, itD, items, plainW, wipeE, back, locate, listAt, T.get, T.put, T.toD, T.toDs, dAt, isData, ixR, ixD, eqD_int, atI_nat])]
        simp
      · have hb : (b : Int) ≠ 0 := by omega
        have hm : (a : Int).fmod b = ((a % b : Nat) : Int) := by rw [Int.fmod_eq_emod_of_nonneg _ (by omega)]; rfl
        have lt : a % b < b := Nat.mod_lt _ (by omega)
        obtain ⟨z', hz, hz2⟩ := ih (a % b) lt n b (some (.sh (.int ((a % b : Nat) : Int)))) (by omega)
        refine ⟨z', ?_, .inr ?_⟩
        · have key : exs [] g w_gcd [some (.sh x), some (.sh y), some (.sh (.int a)), some (.sh (.int b)), z] = some (.nx, [some (.sh x), some (.sh y), some (.sh (.int b)), some (.sh (.int ((a % b : Nat) : Int))), some (.sh (.int ((a % b : Nat) : Int)))]) := by
            cases z with
            | none => simp [run, exs, ex, ev, evs, evT, gt, st, put, putR, kill, unal, frz, peek, peekH, asT, flatT, flatT_d, toDs_d, waits, calm, calms, cmpD, binD, negD, notD, isD, isiD, b2D, b1D, B1.deep, callD, fin, lenOk, sizeLine_eq, asg, asgs, itD, items, plainW, wipeE, back, locate, listAt, T.get, T.put, T.toD, T.toDs, dAt, isData, ixR, ixD, eqD_int, atI_nat, w_gcd, h0, hm]
            | some z => cases z <;> simp [run, exs, ex, ev, evs, evT, gt, st, put, putR, kill, unal, frz, peek, peekH, asT, flatT, flatT_d, toDs_d, waits, calm, calms, cmpD, binD, negD, notD, isD, isiD, b2D, b1D, B1.deep, callD, fin, lenOk, sizeLine_eq, asg, asgs, itD, items, plainW, wipeE, back, locate, listAt, T.get, T.put, T.toD, T.toDs, dAt, isData, ixR, ixD, eqD_int, atI_nat, w_gcd, h0, hm]
          rw [whileF_go (ε1 := [some (.sh x), some (.sh y), some (.sh (.int a)), some (.sh (.int b)), z]) (by simp [run, exs, ex, ev, evs, evT, gt, st, put, putR, kill, unal, frz, peek, peekH, asT, flatT, flatT_d, toDs_d, waits, calm, calms, cmpD, binD, negD, notD, isD, isiD, b2D, b1D, B1.deep, callD, fin, lenOk, sizeLine_eq, asg, asgs, itD, items, plainW, wipeE, back, locate, listAt, T.get, T.put, T.toD, T.toDs, dAt, isData, ixR, ixD, eqD_int, atI_nat, h0]) key, hz]
          rw [Nat.gcd_comm b, ← Nat.gcd_rec, Nat.gcd_comm b]
        · rcases hz2 with rfl | h
          · exact ⟨_, rfl⟩
          · exact h
theorem abs_nat (i : Int) : (if i < 0 then -i else i) = (i.natAbs : Int) := by split <;> omega
theorem r_gcd (a b : Int) : ∃ n, run [] n 3 b_gcd [.int a, .int b] = some (.sh (.int (Nat.gcd a.natAbs b.natAbs : Nat))) := by
  obtain ⟨z, hz, _⟩ := gcd_loop (.int a) (.int b) (b.natAbs + 1) b.natAbs (b.natAbs + 1) a.natAbs none (by omega)
  refine ⟨b.natAbs + 1, ?_⟩
  have e : ex [] (b.natAbs + 1) (.whileS (.cmp .ne (.var 3) (.con (.int 0))) w_gcd) [some (.sh (.int a)), some (.sh (.int b)), some (.sh (.int a.natAbs)), some (.sh (.int b.natAbs)), none] = _ := hz
  unfold b_gcd
  generalize S.whileS (.cmp .ne (.var 3) (.con (.int 0))) w_gcd = wh at e
  simp only [run, exs, ex, List.map, List.replicate]
  have e1 : ev [] (.b1 .abs (.b1 .int (.var 0))) ([some (W.sh (.int a)), some (.sh (.int b))] ++ [none, none, none]) = some (.sh (.int a.natAbs), [some (W.sh (.int a)), some (.sh (.int b)), none, none, none]) := by simp [run, exs, ex, ev, evs, evT, gt, st, put, putR, kill, unal, frz, peek, peekH, asT, flatT, flatT_d, toDs_d, waits, calm, calms, cmpD, binD, negD, notD, isD, isiD, b2D, b1D, B1.deep, callD, fin, lenOk, sizeLine_eq, asg, asgs, itD, items, plainW, wipeE, back, locate, listAt, T.get, T.put, T.toD, T.toDs, dAt, isData, ixR, ixD, eqD_int, atI_nat, abs_nat]
  rw [e1]
  have e2 : ev [] (.b1 .abs (.b1 .int (.var 1))) [some (W.sh (.int a)), some (.sh (.int b)), some (.sh (.int a.natAbs)), none, none] = some (.sh (.int b.natAbs), [some (W.sh (.int a)), some (.sh (.int b)), some (.sh (.int a.natAbs)), none, none]) := by simp [run, exs, ex, ev, evs, evT, gt, st, put, putR, kill, unal, frz, peek, peekH, asT, flatT, flatT_d, toDs_d, waits, calm, calms, cmpD, binD, negD, notD, isD, isiD, b2D, b1D, B1.deep, callD, fin, lenOk, sizeLine_eq, asg, asgs, itD, items, plainW, wipeE, back, locate, listAt, T.get, T.put, T.toD, T.toDs, dAt, isData, ixR, ixD, eqD_int, atI_nat, abs_nat]
  simp only [putR, List.length_cons, List.length_nil, Nat.reduceAdd, Nat.reduceLT, if_true, Option.map, put, gt, st]
  rw [e2]
  simp only [putR, List.length_cons, List.length_nil, Nat.reduceAdd, Nat.reduceLT, if_true, Option.map, put, gt, st]
  rw [e]
  rfl
noncomputable def f_gcd : Fn := rF [] 2 3 b_gcd
theorem f_gcd_eq (a b : Int) : f_gcd [.int a, .int b] = some (.sh (.int (Nat.gcd a.natAbs b.natAbs : Nat))) := rF_eq (r_gcd a b).choose_spec
/-! ### _law_fraction -/
def b_frac : List S := [.ifS (.cmp .lt (.var 1) (.con (.int 0))) [.ret (.call 1 [(.neg (.var 0)), (.neg (.var 1))])] [], .set 2 (.call 0 [(.var 0), (.var 1)]), .ret (.tup [(.bin .fdiv (.var 0) (.var 2)), (.bin .fdiv (.var 1) (.var 2))])]
theorem r_frac0 {t b : Int} (self : Fn) (h : 0 < b) (g : Sm 8990 b) : run [f_gcd, self] 0 1 b_frac [.int t, .int b] = some (.sh (rd (Rat.divInt t b))) := by
  have d : ∀ x, divOk x ((Nat.gcd t.natAbs b.natAbs : Nat) : Int) := fun x => divOk_of (gcd_ne (by omega)) (Sm.gcd (by omega) g)
  have hn : ¬ b < 0 := by omega
  have e := f_gcd_eq t b
  rw [rd_pos h]
  simp [run, exs, ex, ev, evs, evT, gt, st, put, putR, kill, unal, frz, peek, peekH, asT, flatT, flatT_d, toDs_d, waits, calm, calms, cmpD, binD, negD, notD, isD, isiD, b2D, b1D, B1.deep, callD, fin, lenOk, sizeLine_eq, asg, asgs, itD, items, plainW, wipeE, back, locate, listAt, T.get, T.put, T.toD, T.toDs, dAt, isData, ixR, ixD, eqD_int, atI_nat, b_frac, hn, d, e]
noncomputable def f_frac0 : Fn := rF [f_gcd, fun _ => none] 2 1 b_frac
theorem f_frac0_eq {t b : Int} (h : 0 < b) (g : Sm 8990 b) : f_frac0 [.int t, .int b] = some (.sh (rd (Rat.divInt t b))) := rF_eq (r_frac0 _ h g)
theorem neg_divInt2 {t b : Int} (h : b ≠ 0) : Rat.divInt (-t) (-b) = Rat.divInt t b := (Rat.divInt_eq_divInt_iff (by omega) h).mpr (by rw [Int.neg_mul, Int.mul_neg])
theorem r_frac {t b : Int} (h : b ≠ 0) (g : Sm 8990 b) : run [f_gcd, f_frac0] 0 1 b_frac [.int t, .int b] = some (.sh (rd (Rat.divInt t b))) := by
  by_cases hn : b < 0
  · have e := f_frac0_eq (t := -t) (b := -b) (by omega) g.neg
    rw [neg_divInt2 h] at e
    simp [run, exs, ex, ev, evs, evT, gt, st, put, putR, kill, unal, frz, peek, peekH, asT, flatT, flatT_d, toDs_d, waits, calm, calms, cmpD, binD, negD, notD, isD, isiD, b2D, b1D, B1.deep, callD, fin, lenOk, sizeLine_eq, asg, asgs, itD, items, plainW, wipeE, back, locate, listAt, T.get, T.put, T.toD, T.toDs, dAt, isData, ixR, ixD, eqD_int, atI_nat, b_frac, hn, e]
  · exact r_frac0 _ (by omega) g
noncomputable def f_frac : Fn := rF [f_gcd, f_frac0] 2 1 b_frac
theorem f_frac_eq {t b : Int} (h : b ≠ 0) (g : Sm 8990 b) : f_frac [.int t, .int b] = some (.sh (rd (Rat.divInt t b))) := rF_eq (r_frac h g)
/-! ### the laws' own fractions -/
def b_ladded : List S := [.ret (.call 0 [(.bin .add (.bin .mul (.ix (.var 0) (.con (.int 0))) (.ix (.var 1) (.con (.int 1)))) (.bin .mul (.ix (.var 1) (.con (.int 0))) (.ix (.var 0) (.con (.int 1))))), (.bin .mul (.ix (.var 0) (.con (.int 1))) (.ix (.var 1) (.con (.int 1))))])]
def b_lless : List S := [.ret (.call 0 [(.bin .sub (.bin .mul (.ix (.var 0) (.con (.int 0))) (.ix (.var 1) (.con (.int 1)))) (.bin .mul (.ix (.var 1) (.con (.int 0))) (.ix (.var 0) (.con (.int 1))))), (.bin .mul (.ix (.var 0) (.con (.int 1))) (.ix (.var 1) (.con (.int 1))))])]
def b_ltimed : List S := [.ret (.call 0 [(.bin .mul (.ix (.var 0) (.con (.int 0))) (.ix (.var 1) (.con (.int 0)))), (.bin .mul (.ix (.var 0) (.con (.int 1))) (.ix (.var 1) (.con (.int 1))))])]
theorem r_ladded {n m : Nat} {p q : Rat} (h : Bd n p) (g : Bd m q) (l : n + m ≤ 8990) : run [f_frac] 0 0 b_ladded [rd p, rd q] = some (.sh (rd (p + q))) := by
  have m1 := mulOk_of h.1 g.2
  have m2 := mulOk_of g.1 h.2
  have m3 := mulOk_of h.2 g.2
  have f := f_frac_eq (t := p.num * q.den + q.num * p.den) (den2_ne p q) ((h.2.mul g.2).mono l)
  rw [add_divInt] at f
  simp [run, exs, ex, ev, evs, evT, gt, st, put, putR, kill, unal, frz, peek, peekH, asT, flatT, flatT_d, toDs_d, waits, calm, calms, cmpD, binD, negD, notD, isD, isiD, b2D, b1D, B1.deep, callD, fin, lenOk, sizeLine_eq, asg, asgs, itD, items, plainW, wipeE, back, locate, listAt, T.get, T.put, T.toD, T.toDs, dAt, isData, ixR, ixD, eqD_int, atI_nat, b_ladded, rd, ix0, ix1, m1, m2, m3, f]
theorem r_lless {n m : Nat} {p q : Rat} (h : Bd n p) (g : Bd m q) (l : n + m ≤ 8990) : run [f_frac] 0 0 b_lless [rd p, rd q] = some (.sh (rd (p - q))) := by
  have m1 := mulOk_of h.1 g.2
  have m2 := mulOk_of g.1 h.2
  have m3 := mulOk_of h.2 g.2
  have f := f_frac_eq (t := p.num * q.den - q.num * p.den) (den2_ne p q) ((h.2.mul g.2).mono l)
  rw [sub_divInt] at f
  simp [run, exs, ex, ev, evs, evT, gt, st, put, putR, kill, unal, frz, peek, peekH, asT, flatT, flatT_d, toDs_d, waits, calm, calms, cmpD, binD, negD, notD, isD, isiD, b2D, b1D, B1.deep, callD, fin, lenOk, sizeLine_eq, asg, asgs, itD, items, plainW, wipeE, back, locate, listAt, T.get, T.put, T.toD, T.toDs, dAt, isData, ixR, ixD, eqD_int, atI_nat, b_lless, rd, ix0, ix1, m1, m2, m3, f]
theorem r_ltimed {n m : Nat} {p q : Rat} (h : Bd n p) (g : Bd m q) (l : n + m ≤ 8990) : run [f_frac] 0 0 b_ltimed [rd p, rd q] = some (.sh (rd (p * q))) := by
  have m1 := mulOk_of h.1 g.1
  have m3 := mulOk_of h.2 g.2
  have f := f_frac_eq (t := p.num * q.num) (den2_ne p q) ((h.2.mul g.2).mono l)
  rw [mul_divInt] at f
  simp [run, exs, ex, ev, evs, evT, gt, st, put, putR, kill, unal, frz, peek, peekH, asT, flatT, flatT_d, toDs_d, waits, calm, calms, cmpD, binD, negD, notD, isD, isiD, b2D, b1D, B1.deep, callD, fin, lenOk, sizeLine_eq, asg, asgs, itD, items, plainW, wipeE, back, locate, listAt, T.get, T.put, T.toD, T.toDs, dAt, isData, ixR, ixD, eqD_int, atI_nat, b_ltimed, rd, ix0, ix1, m1, m3, f]
noncomputable def f_ladded : Fn := rF [f_frac] 2 0 b_ladded
noncomputable def f_lless : Fn := rF [f_frac] 2 0 b_lless
noncomputable def f_ltimed : Fn := rF [f_frac] 2 0 b_ltimed
theorem f_ladded_eq {n m : Nat} {p q : Rat} (h : Bd n p) (g : Bd m q) (l : n + m ≤ 8990) : f_ladded [rd p, rd q] = some (.sh (rd (p + q))) := rF_eq (r_ladded h g l)
theorem f_lless_eq {n m : Nat} {p q : Rat} (h : Bd n p) (g : Bd m q) (l : n + m ≤ 8990) : f_lless [rd p, rd q] = some (.sh (rd (p - q))) := rF_eq (r_lless h g l)
theorem f_ltimed_eq {n m : Nat} {p q : Rat} (h : Bd n p) (g : Bd m q) (l : n + m ≤ 8990) : f_ltimed [rd p, rd q] = some (.sh (rd (p * q))) := rF_eq (r_ltimed h g l)
theorem rdk_t (q : Rat) : rdk true q = rd q := rfl
end PyD
set_option Elab.async false
set_option linter.all false
set_option maxRecDepth 100000
set_option maxHeartbeats 4000000
/-! PyO: lists by places; the program's rests and rules. -/
namespace PyD
open PySem L2

def vec {α : Type} (n : Nat) (f : Nat → α) : List α := (List.range n).map f
section
variable {α β : Type} {n : Nat} {f g : Nat → α}
theorem vec_length : (vec n f).length = n := by simp [vec]
theorem vec_get {k : Nat} (h : k < n) : (vec n f)[k]? = some (f k) := by simp [vec, h]
theorem vec_map (h : α → β) : (vec n f).map h = vec n fun k => h (f k) := by simp [vec]
theorem vec_congr (h : ∀ k, k < n → f k = g k) : vec n f = vec n g := List.map_congr_left fun k m => h k (List.mem_range.mp m)
theorem vec_inj {m : Nat} (h : vec n f = vec m g) : n = m ∧ ∀ k, k < n → f k = g k := by
  have hl : n = m := by simpa [vec_length] using congrArg List.length h
  subst hl
  refine ⟨rfl, fun k hk => ?_⟩
  have := congrArg (fun l => l[k]?) h
  simp only [vec_get hk] at this
  exact Option.some.inj this
theorem vec_succ : vec (n + 1) f = vec n f ++ [f n] := by simp [vec, List.range_succ]
theorem vec_atI {k : Nat} (h : k < n) : atI (vec n f) (k : Int) = some (f k) := by rw [atI_nat, vec_get h]
theorem vec_atI' {i : Int} (h0 : 0 ≤ i) (h : i < n) : atI (vec n f) i = some (f i.toNat) := by
  obtain ⟨k, rfl⟩ := Int.eq_ofNat_of_zero_le h0
  rw [vec_atI (by omega)]
  rfl
theorem vec_of (l : List α) (d : α) : l = vec l.length fun k => l.getD k d := by
  refine List.ext_getElem? fun k => ?_
  by_cases h : k < l.length
  · rw [vec_get h, List.getD_eq_getElem?_getD, List.getElem?_eq_getElem h]
    rfl
  · rw [List.getElem?_eq_none (by omega), List.getElem?_eq_none (by rw [vec_length]; omega)]
theorem vec_zero : vec 0 f = [] := rfl
theorem vec_mem {x : α} : x ∈ vec n f ↔ ∃ k, k < n ∧ f k = x := by simp [vec]
end
theorem flatT_vec {n : Nat} {y : Nat → D} : flatT (vec n fun k => T.d (y k)) = some (vec n y) := by
  have : (vec n fun k => T.d (y k)) = (vec n y).map T.d := by rw [vec_map]
  rw [this, flatT_d]
theorem toDs_vec {n : Nat} {y : Nat → T} : T.toDs (vec n y) = vec n fun k => T.toD (y k) := by rw [toDs_eq, vec_map]
theorem rngD_vec {lo hi : Int} : rngD lo hi = vec (hi - lo).toNat fun k => D.int (lo + k) := rfl
theorem itD_rng1 {n : Nat} (h : n < 2 ^ 62) : itD .rng1 [.int n] = some (vec n fun k => .int k) := by
  have : rngOk (n : Int) := ⟨by omega, by omega⟩
  simp only [itD, this, if_true, rngD_vec, Int.sub_zero, Int.toNat_natCast, Int.zero_add]
theorem itD_rngv {n : Nat} (h : n < 2 ^ 62) : itD .seq [.rng 0 n] = some (vec n fun k => .int k) := by
  have h1 : rngOk (n : Int) := ⟨by omega, by omega⟩
  have h2 : rngOk 0 := ⟨by decide, by decide⟩
  simp only [itD, h1, h2, and_self, if_true, rngD_vec, Int.sub_zero, Int.toNat_natCast, Int.zero_add]
theorem itD_rng2 {a n : Nat} (ha : a ≤ n) (h : n < 2 ^ 62) : itD .rng2 [.int a, .int n] = some (vec (n - a) fun k => .int ((a + k : Nat) : Int)) := by
  have h1 : rngOk (n : Int) := ⟨by omega, by omega⟩
  have h2 : rngOk (a : Int) := ⟨by omega, by omega⟩
  simp only [itD, h1, h2, and_self, if_true, rngD_vec]
  have : ((n : Int) - a).toNat = n - a := by omega
  rw [this]
  rfl
theorem items_con {k : Bool} {ds : List D} : items (con k ds) = some ds := by cases k <;> rfl
theorem itD_con {k : Bool} {ds : List D} : itD .seq [con k ds] = some ds := by cases k <;> rfl
theorem ixD_con {k : Bool} {ds : List D} {i : Int} : ixD (con k ds) (.int i) = atI ds i := by cases k <;> rfl
theorem con_inj {k l : Bool} {ds es : List D} (h : con k ds = con l es) : k = l ∧ ds = es := by
  cases k <;> cases l <;> first | (cases h; exact ⟨rfl, rfl⟩) | cases h
theorem lcF_vec {tst el : Env → Option (R × Env)} {tg : Tg} {ws : List Nat} {ε : Env} {n : Nat} {h : Nat → D} (g : Nat → T) (hs : ∀ k, k < n → ∃ ε1 x, asg tg (h k) ε = some ε1 ∧ tst ε1 = some (.sh (.bl true), ε1) ∧ el ε1 = some (x, ε1) ∧ asT x ε1 = some (g k, ε1) ∧ plainW ε1 ws = true ∧ wipeE ε1 ws = ε) :
    ∀ {acc : List T}, acc.length + n ≤ 16000000 → lcF tst el tg ws (vec n h) ε acc = some (acc ++ vec n g, ε) := by
  have gen : ∀ (m a : Nat) (acc : List T), a + m = n → acc.length + m ≤ 16000000 → lcF tst el tg ws ((List.range' a m).map h) ε acc = some (acc ++ (List.range' a m).map g, ε) := by
    intro m
    induction m with
    | zero => intro a acc _ _; simp [lcF]
    | succ m ih =>
      intro a acc h1 h2
      obtain ⟨ε1, x, e1, e2, e3, e4, e5, e6⟩ := hs a (by omega)
      have : acc.length < 16000000 := by omega
      simp only [List.range'_succ, List.map_cons, lcF, e1, e2, e3, e4]
      rw [if_pos ⟨this, e5⟩, e6, ih (a + 1) _ (by omega) (by simp; omega)]
      simp
  intro acc hl
  have := gen n 0 acc (by omega) hl
  rwa [← List.range_eq_range'] at this
theorem ev_lc {G : List Fn} {elt : E} {tg : Tg} {kd : ItK} {src ifs : List E} {ws : List Nat} {ε ε1 ε2 : Env} {ds its : List D} {out : List T} (h1 : evs G src ε = some (ds, ε1)) (h2 : itD kd ds = some its) (h3 : plainW ε1 ws = true) (h4 : lcF (evT G ifs) (ev G elt) tg ws its (wipeE ε1 ws) [] = some (out, ε2)) : ev G (.lc elt tg kd src ifs ws) ε = some (.fr out, back ε1 ε2 ws) := by
  simp only [ev, h1, h2, h3, h4]
theorem ev_map {G : List Fn} {elt : E} {tg : Tg} {kd : ItK} {src : List E} {ws : List Nat} {ε ε1 ε2 : Env} {ds : List D} {n : Nat} {h : Nat → D} (g : Nat → T) (h1 : evs G src ε = some (ds, ε1)) (h2 : itD kd ds = some (vec n h)) (h3 : plainW ε1 ws = true) (hn : n ≤ 16000000)
    (h4 : ∀ k, k < n → ∃ ε' x, asg tg (h k) (wipeE ε1 ws) = some ε' ∧ ev G elt ε' = some (x, ε') ∧ asT x ε' = some (g k, ε') ∧ plainW ε' ws = true ∧ wipeE ε' ws = wipeE ε1 ws) (hb : back ε1 (wipeE ε1 ws) ws = ε2) : ev G (.lc elt tg kd src [] ws) ε = some (.fr (vec n g), ε2) := by
  rw [ev_lc h1 h2 h3 (lcF_vec g (fun k hk => by
    obtain ⟨ε', x, e1, e2, e3, e4, e5⟩ := h4 k hk
    exact ⟨ε', x, e1, rfl, e2, e3, e4, e5⟩) (by simpa using hn)), hb]
  rfl
/-! ### blocks, step by step -/
theorem exs_cons {G : List Fn} {n : Nat} {s : S} {r : List S} {ε ε1 : Env} {q : Option (O × Env)} (h : ex G n s ε = some (.nx, ε1)) (k : exs G n r ε1 = q) : exs G n (s :: r) ε = q := by simp only [exs, h, k]
theorem exs_ret {G : List Fn} {n : Nat} {s : S} {r : List S} {ε ε1 : Env} {x : R} (h : ex G n s ε = some (.rt x, ε1)) : exs G n (s :: r) ε = some (.rt x, ε1) := by simp only [exs, h]
theorem exs_nil {G : List Fn} {n : Nat} {ε : Env} : exs G n [] ε = some (.nx, ε) := by simp only [exs]
theorem ex_for {G : List Fn} {n : Nat} {tg : Tg} {k : ItK} {src : List E} {b : List S} {ε ε1 : Env} {ds its : List D} {q : Option (O × Env)} (h1 : evs G src ε = some (ds, ε1)) (h2 : itD k ds = some its) (h3 : forF (exs G n b) tg its ε1 = q) : ex G n (.forS tg k src b) ε = q := by simp only [ex, h1, h2, h3]
theorem ex_while {G : List Fn} {n : Nat} {c : E} {b : List S} {ε : Env} {q : Option (O × Env)} (h : whileF (ev G c) (exs G n b) n ε = q) : ex G n (.whileS c b) ε = q := by simp only [ex, h]
theorem ex_set {G : List Fn} {n i : Nat} {e : E} {ε ε1 ε2 : Env} {x : R} (h : ev G e ε = some (x, ε1)) (k : putR i x ε1 = some ε2) : ex G n (.set i e) ε = some (.nx, ε2) := by simp only [ex, h, k, Option.map]
theorem ex_ret {G : List Fn} {n : Nat} {e : E} {ε ε1 : Env} {x : R} (h : ev G e ε = some (x, ε1)) : ex G n (.ret e) ε = some (.rt x, ε1) := by simp only [ex, h, Option.map]
theorem ex_ifT {G : List Fn} {n : Nat} {c : E} {a b : List S} {ε ε1 : Env} {q : Option (O × Env)} (h : ev G c ε = some (.sh (.bl true), ε1)) (k : exs G n a ε1 = q) : ex G n (.ifS c a b) ε = q := by simp only [ex, h, k]
theorem ex_ifF {G : List Fn} {n : Nat} {c : E} {a b : List S} {ε ε1 : Env} {q : Option (O × Env)} (h : ev G c ε = some (.sh (.bl false), ε1)) (k : exs G n b ε1 = q) : ex G n (.ifS c a b) ε = q := by simp only [ex, h, k]
theorem run_of {G : List Fn} {n m : Nat} {b : List S} {ds : List D} {ε0 ε : Env} {r r' : R} (h0 : ds.map (fun d => some (W.sh d)) ++ List.replicate m none = ε0) (h : exs G n b ε0 = some (.rt r, ε)) (hf : fin r ε = some r') : run G n m b ds = some r' := by
  unfold run
  rw [h0, h]
  exact hf
/-! ### expressions, step by step -/
section
variable {G : List Fn} {ε ε1 ε2 ε3 : Env} {a b c e : E} {es : List E} {d d1 d2 : D} {ds : List D} {ts : List T} {r : R} {i : Int}
theorem ev_b1 {bb : B1} (h : ev G a ε = some (.sh d, ε1)) (h2 : b1D bb d = some r) : ev G (.b1 bb a) ε = some (r, ε1) := by
  simp only [ev, h]
  split <;> simp only [peek, peekH, Option.bind, h2, Option.map]
theorem ev_b1f {bb : B1} (h : ev G a ε = some (.fr ts, ε1)) (hf : flatT ts = some ds) (h2 : b1D bb (.lst ds) = some r) : ev G (.b1 bb a) ε = some (r, ε1) := by
  simp only [ev, h]
  split <;> simp only [peek, peekH, hf, flat_toDs hf, Option.bind, h2, Option.map]
theorem ev_b1o {bb : B1} {j : Nat} (h : ev G a ε = some (.pt j [], ε1)) (hg : gt ε1 j = some (.ow ts)) (hf : flatT ts = some ds) (h2 : b1D bb (.lst ds) = some r) : ev G (.b1 bb a) ε = some (r, ε1) := by
  simp only [ev, h]
  split <;> simp only [peek, peekH, hg, T.get, hf, flat_toDs hf, Option.bind, h2, Option.map]
theorem ev_ix (h1 : ev G a ε = some (.sh d, ε1)) (h2 : ev G b ε1 = some (.sh (.int i), ε2)) (h3 : ixD d (.int i) = some d1) : ev G (.ix a b) ε = some (.sh d1, ε2) := by
  simp only [ev, h1, h2, waits, ixR, h3, Option.map]
theorem ev_bin {o : Bop} (h1 : ev G a ε = some (.sh d1, ε1)) (h2 : ev G b ε1 = some (.sh d2, ε2)) (h3 : binD o d1 d2 = some r) : ev G (.bin o a b) ε = some (r, ε2) := by
  simp only [ev, h1, h2, waits, peek, h3, Option.map]
theorem ev_cmp {o : Cop} {t : Bool} (h1 : ev G a ε = some (.sh d1, ε1)) (h2 : ev G b ε1 = some (.sh d2, ε2)) (h3 : cmpD o d1 d2 = some t) : ev G (.cmp o a b) ε = some (.sh (.bl t), ε2) := by
  simp only [ev, h1, h2, waits, peekH, h3, Option.map]
theorem ev_call {k : Nat} {f : Fn} (h : evs G es ε = some (ds, ε1)) (h2 : G[k]? = some f) (h3 : f ds = some r) : ev G (.call k es) ε = some (r, ε1) := by
  simp only [ev, h, callD, h2, h3, Option.map]
theorem evs_nil : evs G [] ε = some ([], ε) := by simp only [evs]
theorem evs_cons (h1 : ev G e ε = some (.sh d, ε1)) (h2 : evs G es ε1 = some (ds, ε2)) : evs G (e :: es) ε = some (d :: ds, ε2) := by
  simp only [evs, h1, frz, h2]
theorem evs_fr (h1 : ev G e ε = some (.fr ts, ε1)) (h2 : evs G es ε1 = some (ds, ε2)) : evs G (e :: es) ε = some (.lst (T.toDs ts) :: ds, ε2) := by
  simp only [evs, h1, frz, h2]
theorem ev_not {t : Bool} (h : ev G a ε = some (.sh (.bl t), ε1)) : ev G (.not a) ε = some (.sh (.bl (!t)), ε1) := by simp only [ev, h]
end
/-! ### sum_of -/
def sumR (l : List Rat) : Rat := l.foldl (· + ·) 0
def b_sum_of : List S := [.set 1 (.tup [(.con (.int 0)), (.con (.int 1))]), .forS (.one 2) .seq [(.var 0)] [.set 1 (.call 0 [(.var 1), (.var 2)])], .ret (.var 1)]
theorem rd0 : rd 0 = .tup [.int 0, .int 1] := rfl
theorem Bd0 : Bd 1 0 := ⟨by unfold Sm; decide, by unfold Sm; decide⟩
theorem sum_loop (x : W) (g n : Nat) : ∀ (ps : List Rat) (m : Nat) (a : Rat) (z : Option W), (z = none ∨ ∃ d, z = some (.sh d)) → (∀ p ∈ ps, Bd n p) → Bd m a → m + (n + 1) * ps.length ≤ 8990 → ∃ z', forF (exs [f_added] g [.set 1 (.call 0 [(.var 1), (.var 2)])]) (.one 2) (ps.map rd) [some x, some (.sh (rd a)), z] = some (.nx, [some x, some (.sh (rd (ps.foldl (· + ·) a))), z']) := by
  intro ps
  induction ps with
  | nil => intro m a z _ _ _ _; exact ⟨z, rfl⟩
  | cons p ps ih =>
    intro m a z hz hp ha hm
    have hlen : (n + 1) * (p :: ps).length = (n + 1) * ps.length + (n + 1) := by simp [Nat.mul_add]
    have fe := f_added_eq ha (hp p List.mem_cons_self) (by omega)
    obtain ⟨z', h'⟩ := ih (m + n + 1) (a + p) (some (.sh (rd p))) (.inr ⟨_, rfl⟩) (fun q hq => hp q (List.mem_cons_of_mem _ hq)) (ha.add (hp p List.mem_cons_self)) (by omega)
    refine ⟨z', ?_⟩
    have e1 : asg (.one 2) (rd p) [some x, some (.sh (rd a)), z] = some [some x, some (.sh (rd a)), some (.sh (rd p))] := by
      rcases hz with rfl | ⟨d, rfl⟩ <;> rfl
    have e2 : exs [f_added] g [.set 1 (.call 0 [(.var 1), (.var 2)])] [some x, some (.sh (rd a)), some (.sh (rd p))] = some (.nx, [some x, some (.sh (rd (a + p))), some (.sh (rd p))]) := by simp [run, exs, ex, ev, evs, evT, gt, st, put, putR, kill, unal, frz, peek, peekH, asT, flatT, flatT_d, toDs_d, waits, calm, calms, cmpD, binD, negD, notD, isD, isiD, b2D, b1D, B1.deep, callD, fin, lenOk, sizeLine_eq, asg, asgs, itD, items, plainW, wipeE, back, locate, listAt, T.get, T.put, T.toD, T.toDs, dAt, isData, ixR, ixD, eqD_int, atI_nat, fe]
    simp only [List.map_cons, forF, e1, e2, List.foldl_cons]
    exact h'
theorem r_sum_of {ps : List Rat} {n : Nat} (hp : ∀ p ∈ ps, Bd n p) (h : 1 + (n + 1) * ps.length ≤ 8990) : run [f_added] 0 2 b_sum_of [.lst (ps.map rd)] = some (.sh (rd (sumR ps))) := by
  obtain ⟨z, hz⟩ := sum_loop (.sh (.lst (ps.map rd))) 0 n ps 1 0 none (.inl rfl) hp Bd0 h
  exact run_of rfl (exs_cons (ε1 := [some (.sh (.lst (ps.map rd))), some (.sh (rd 0)), none]) (ex_set (x := .sh (rd 0)) (ε1 := [some (.sh (.lst (ps.map rd))), none, none]) (by rw [rd0]; simp [run, exs, ex, ev, evs, evT, gt, st, put, putR, kill, unal, frz, peek, peekH, asT, flatT, flatT_d, toDs_d, waits, calm, calms, cmpD, binD, negD, notD, isD, isiD, b2D, b1D, B1.deep, callD, fin, lenOk, sizeLine_eq, asg, asgs, itD, items, plainW, wipeE, back, locate, listAt, T.get, T.put, T.toD, T.toDs, dAt, isData, ixR, ixD, eqD_int, atI_nat]) rfl) (exs_cons (ex_for (its := ps.map rd) rfl rfl hz) (exs_ret (ex_ret rfl)))) rfl
noncomputable def f_sum : Fn := rF [f_added] 1 2 b_sum_of
theorem f_sum_eq {ps : List Rat} {n : Nat} (hp : ∀ p ∈ ps, Bd n p) (h : 1 + (n + 1) * ps.length ≤ 8990) : f_sum [.lst (ps.map rd)] = some (.sh (rd (sumR ps))) := rF_eq (r_sum_of hp h)
/-! ### ruled -/
def b_ruled : List S := [.set 2 (.b1 .rng (.b1 .len (.var 0))), .ret (.b1 .tuple (.lc (.call 0 [(.lc (.call 1 [(.ix (.var 0) (.var 4)), (.ix (.ix (.var 1) (.var 4)) (.var 3))]) (.one 4) .seq [(.var 2)] [] [4])]) (.one 3) .seq [(.var 2)] [] [3]))]
/-- a square of fractions -/
def mat (k2 k3 k4 : Bool) (n : Nat) (M : Nat → Nat → Rat) : D := con k2 (vec n fun s => con k3 (vec n fun g => rdk k4 (M s g)))
theorem len_con {k : Bool} {n : Nat} {f : Nat → D} : b1D .len (con k (vec n f)) = some (.sh (.int n)) := by
  cases k <;> simp [con, b1D, items, vec_length]
theorem r_ruled {n a b : Nat} {p : Nat → Rat} {M : Nat → Nat → Rat} (k1 k2 k3 k4 : Bool) (hn : n ≤ 1000000) (hp : ∀ s, s < n → Bd a (p s)) (hM : ∀ s g, s < n → g < n → Bd b (M s g)) (hb : 1 + (a + b + 1) * n ≤ 8990) (hab : a + b ≤ 8990) :
    run [f_sum, f_timed] 0 3 b_ruled [con k1 (vec n fun s => rd (p s)), mat k2 k3 k4 n M] = some (.sh (.tup (vec n fun g => rd (sumR (vec n fun s => p s * M s g))))) := by
  have hX : ∀ s, s < n → ixD (con k1 (vec n fun s => rd (p s))) (.int s) = some (rdk true (p s)) := fun s hs => by rw [ixD_con, vec_atI hs]; rfl
  have hY : ∀ s, s < n → ixD (mat k2 k3 k4 n M) (.int s) = some (con k3 (vec n fun g => rdk k4 (M s g))) := fun s hs => by unfold mat; rw [ixD_con, vec_atI hs]
  have hl := len_con (k := k1) (n := n) (f := fun s => rd (p s))
  generalize con k1 (vec n fun s => rd (p s)) = X at hX hl
  generalize mat k2 k3 k4 n M = Y at hY
  have inner : ∀ g, g < n → ev [f_sum, f_timed] (.lc (.call 1 [(.ix (.var 0) (.var 4)), (.ix (.ix (.var 1) (.var 4)) (.var 3))]) (.one 4) .seq [(.var 2)] [] [4]) [some (.sh X), some (.sh Y), some (.sh (.rng 0 n)), some (.sh (.int g)), none] = some (.fr (vec n fun s => .d (rd (p s * M s g))), [some (.sh X), some (.sh Y), some (.sh (.rng 0 n)), some (.sh (.int g)), none]) := fun g hg =>
    ev_map (ds := [.rng 0 n]) (ε1 := [some (.sh X), some (.sh Y), some (.sh (.rng 0 n)), some (.sh (.int g)), none]) _ rfl (itD_rngv (by omega)) rfl (by omega) (fun s hs => ⟨[some (.sh X), some (.sh Y), some (.sh (.rng 0 n)), some (.sh (.int g)), some (.sh (.int s))], .sh (rd (p s * M s g)), rfl,
      ev_call (evs_cons (ev_ix rfl rfl (hX s hs)) (evs_cons (ev_ix (ev_ix rfl rfl (hY s hs)) rfl (by rw [ixD_con, vec_atI hg])) evs_nil)) rfl (f_timed_eq true k4 (hp s hs) (hM s g hs hg) hab), rfl, rfl, rfl⟩) rfl
  have outer : ev [f_sum, f_timed] (.lc (.call 0 [(.lc (.call 1 [(.ix (.var 0) (.var 4)), (.ix (.ix (.var 1) (.var 4)) (.var 3))]) (.one 4) .seq [(.var 2)] [] [4])]) (.one 3) .seq [(.var 2)] [] [3]) [some (.sh X), some (.sh Y), some (.sh (.rng 0 n)), none, none] = some (.fr (vec n fun g => .d (rd (sumR (vec n fun s => p s * M s g)))), [some (.sh X), some (.sh Y), some (.sh (.rng 0 n)), none, none]) := by
    refine ev_map (ds := [.rng 0 n]) (ε1 := [some (.sh X), some (.sh Y), some (.sh (.rng 0 n)), none, none]) _ rfl (itD_rngv (by omega)) rfl (by omega) (fun g hg => ⟨[some (.sh X), some (.sh Y), some (.sh (.rng 0 n)), some (.sh (.int g)), none], .sh (rd (sumR (vec n fun s => p s * M s g))), rfl, ev_call (evs_fr (inner g hg) evs_nil) rfl ?_, rfl, rfl, rfl⟩) rfl
    have fe := f_sum_eq (ps := vec n fun s => p s * M s g) (n := a + b) (fun q hq => by
      obtain ⟨s, hs, rfl⟩ := vec_mem.mp hq
      exact (hp s hs).mul (hM s g hs hg)) (by rw [vec_length]; exact hb)
    rw [vec_map] at fe
    rw [toDs_vec]
    exact fe
  exact run_of rfl (exs_cons (ex_set (ev_b1 (d := .int n) (ev_b1 (d := X) rfl hl) rfl) rfl) (exs_ret (ex_ret (ev_b1f outer flatT_vec rfl)))) rfl
/-- the filling after the rule -/
def after (n : Nat) (p : Nat → Rat) (M : Nat → Nat → Rat) (g : Nat) : Rat := sumR (vec n fun s => p s * M s g)
noncomputable def f_ruled : Fn := rF [f_sum, f_timed] 2 3 b_ruled
theorem f_ruled_eq {n a b : Nat} {p : Nat → Rat} {M : Nat → Nat → Rat} (k1 k2 k3 k4 : Bool) (hn : n ≤ 1000000) (hp : ∀ s, s < n → Bd a (p s)) (hM : ∀ s g, s < n → g < n → Bd b (M s g)) (hb : 1 + (a + b + 1) * n ≤ 8990) (hab : a + b ≤ 8990) :
    f_ruled [con k1 (vec n fun s => rd (p s)), mat k2 k3 k4 n M] = some (.sh (.tup (vec n fun g => rd (after n p M g)))) := rF_eq (r_ruled k1 k2 k3 k4 hn hp hM hb hab)
end PyD
set_option Elab.async false
set_option linter.all false
set_option maxRecDepth 100000
set_option maxHeartbeats 4000000
/-! PyE: keeps, warm weights and shares, leaves, one_way. -/
namespace PyD
open PySem L2

noncomputable def bOf (p : Prop) : Bool := @decide p (Classical.propDecidable p)
theorem bOf_true {p : Prop} (h : p) : bOf p = true := by unfold bOf; exact @decide_eq_true p (Classical.propDecidable p) h
theorem bOf_false {p : Prop} (h : ¬ p) : bOf p = false := by unfold bOf; exact @decide_eq_false p (Classical.propDecidable p) h
theorem bOf_iff {p q : Prop} (h : p ↔ q) : bOf p = bOf q := by rw [propext h]
theorem bOf_eq {p : Prop} [i : Decidable p] : decide p = bOf p := by
  by_cases h : p
  · rw [bOf_true h, decide_eq_true h]
  · rw [bOf_false h, decide_eq_false h]
theorem bOf_not {p : Prop} : (!bOf p) = bOf (¬ p) := by
  by_cases h : p
  · rw [bOf_true h, bOf_false (fun z => z h)]; rfl
  · rw [bOf_false h, bOf_true h]; rfl
theorem nice_rd {q : Rat} : Nice 1 (rd q) := .tup fun d m => by
  simp only [List.mem_cons, List.mem_nil_iff, or_false] at m
  rcases m with rfl | rfl <;> exact .int
theorem nice_con {k : Bool} {n : Nat} {ds : List D} (h : ∀ d ∈ ds, Nice n d) : Nice (n + 1) (con k ds) := by
  cases k
  · exact .lst h
  · exact .tup h
theorem nice_vec {k : Bool} {m n : Nat} {f : Nat → D} (h : ∀ i, i < m → Nice n (f i)) : Nice (n + 1) (con k (vec m f)) := nice_con fun d hd => by
  obtain ⟨i, hi, rfl⟩ := vec_mem.mp hd
  exact h i hi
theorem eqD_nice' {n m : Nat} {d e : D} (hd : Nice n d) (he : Nice m e) (hn : n ≤ 60 := by decide) (hm : m ≤ 60 := by decide) : eqD d e = some (bOf (d = e)) := @eqD_nice n m d e (Classical.propDecidable _) hd he hn hm
theorem vec_eq_iff {α : Type} {n : Nat} {f g : Nat → α} : vec n f = vec n g ↔ ∀ i, i < n → f i = g i := ⟨fun h => (vec_inj h).2, vec_congr⟩
theorem con_eq_iff {k : Bool} {ds es : List D} : con k ds = con k es ↔ ds = es := ⟨fun h => (con_inj h).2, fun h => by rw [h]⟩
theorem rd_eq_iff {p q : Rat} : rd p = rd q ↔ p = q := ⟨rd_inj, fun h => by rw [h]⟩
theorem eqD_rds {k : Bool} {n : Nat} {f g : Nat → Rat} : eqD (con k (vec n fun i => rd (f i))) (con k (vec n fun i => rd (g i))) = some (bOf (∀ i, i < n → f i = g i)) := by
  rw [eqD_nice' (nice_vec fun i _ => nice_rd) (nice_vec fun i _ => nice_rd)]
  congr 1
  refine bOf_iff ?_
  rw [con_eq_iff, vec_eq_iff]
  exact ⟨fun h i hi => rd_inj (h i hi), fun h i hi => by rw [h i hi]⟩
theorem eqD_rd {p q : Rat} : eqD (rd p) (rd q) = some (bOf (p = q)) := by
  rw [eqD_nice' nice_rd nice_rd]
  congr 1
  exact bOf_iff rd_eq_iff
section
variable {G : List Fn} {ε ε1 ε2 ε3 : Env} {a b c e : E} {es : List E} {d d1 d2 : D} {ds : List D} {ts : List T} {r x y : R} {i : Int}
theorem evs_ow {j : Nat} (h1 : ev G e ε = some (.pt j [], ε1)) (hg : gt ε1 j = some (.ow ts)) (h2 : evs G es (st (unal j (.lst (T.toDs ts)) ε1) j (some (.sh (.lst (T.toDs ts))))) = some (ds, ε2)) : evs G (e :: es) ε = some (.lst (T.toDs ts) :: ds, ε2) := by
  have : dAt (.lst (T.toDs ts)) [] = some (.lst (T.toDs ts)) := by simp only [dAt]
  simp only [evs, h1, frz, hg, this, h2]
theorem ev_cmp' {o : Cop} {t : Bool} (h1 : ev G a ε = some (x, ε1)) (h2 : ev G b ε1 = some (y, ε2)) (hw : waits x b = true) (p1 : peekH x ε2 = some d1) (p2 : peekH y ε2 = some d2) (h3 : cmpD o d1 d2 = some t) : ev G (.cmp o a b) ε = some (.sh (.bl t), ε2) := by
  simp only [ev, h1, h2, hw, p1, p2, h3, Option.map]
theorem cmpD_eq {t : Bool} (h : eqD d1 d2 = some t) : cmpD .eq d1 d2 = some t := by
  cases d1 <;> cases d2 <;> exact h
theorem cmpD_ne {t : Bool} (h : eqD d1 d2 = some t) : cmpD .ne d1 d2 = some (!t) := by
  have : cmpD .ne d1 d2 = (eqD d1 d2).map (!·) := by cases d1 <;> cases d2 <;> rfl
  rw [this, h]
  rfl
end
theorem intsD_vec {n : Nat} {w : Nat → Int} : intsD (vec n fun k => .int (w k)) = some (vec n w) := by
  have : ∀ l : List Nat, intsD (l.map fun k => D.int (w k)) = some (l.map w) := by
    intro l
    induction l with
    | nil => rfl
    | cons k l ih => simp [intsD, ih]
  exact this _
theorem b1_sum {k : Bool} {n : Nat} {w : Nat → Int} : b1D .sum (con k (vec n fun k => .int (w k))) = some (.sh (.int (vec n w).sum)) := by
  cases k <;> simp [con, b1D, items, intsD_vec]
/-! ### keeps -/
def b_keeps : List S := [.set 2 (.b1 .sum (.var 1)), .set 3 (.lc (.call 0 [(.var 4), (.var 2)]) (.one 4) .seq [(.var 1)] [] [4]), .ret (.cmp .eq (.b1 .list (.call 1 [(.var 3), (.var 0)])) (.var 3))]
/-- the shares of weights -/
def shr (n : Nat) (w : Nat → Int) (s : Nat) : Rat := Rat.divInt (w s) (vec n w).sum
theorem r_keeps {n a b : Nat} {w : Nat → Int} {M : Nat → Nat → Rat} (k k2 k3 k4 : Bool) (hn : n ≤ 1000000) (ht : (vec n w).sum ≠ 0) (hw : ∀ s, s < n → Sm a (w s)) (hs : Sm a (vec n w).sum) (hM : ∀ s g, s < n → g < n → Bd b (M s g)) (hb : 1 + (a + b + 1) * n ≤ 8990) (hab : a + b ≤ 8990) :
    run [f_ratio, f_ruled] 0 3 b_keeps [mat k2 k3 k4 n M, con k (vec n fun s => .int (w s))] = some (.sh (.bl (bOf (∀ g, g < n → after n (shr n w) M g = shr n w g)))) := by
  have hsum := b1_sum (k := k) (n := n) (w := w)
  have hit := itD_con (k := k) (ds := vec n fun s => .int (w s))
  have hbd : ∀ s, s < n → Bd a (shr n w s) := fun s h => Bd.divInt (hw s h) hs ht
  have hru := f_ruled_eq (p := shr n w) (M := M) false k2 k3 k4 hn hbd hM hb hab
  generalize con k (vec n fun s => .int (w s)) = Y at hsum hit
  generalize mat k2 k3 k4 n M = X at hru
  generalize hT : (vec n w).sum = tot at hsum ht hs
  have hlc : ev [f_ratio, f_ruled] (.lc (.call 0 [(.var 4), (.var 2)]) (.one 4) .seq [(.var 1)] [] [4]) [some (.sh X), some (.sh Y), some (.sh (.int tot)), none, none] = some (.fr (vec n fun s => .d (rd (shr n w s))), [some (.sh X), some (.sh Y), some (.sh (.int tot)), none, none]) :=
    ev_map (ds := [Y]) (ε1 := [some (.sh X), some (.sh Y), some (.sh (.int tot)), none, none]) _ rfl hit rfl (by omega) (fun s h => ⟨[some (.sh X), some (.sh Y), some (.sh (.int tot)), none, some (.sh (.int (w s)))], .sh (rd (shr n w s)), rfl,
      ev_call (evs_cons rfl (evs_cons rfl evs_nil)) rfl (by rw [f_ratio_eq ht ((hw s h).mono (by omega)) (hs.mono (by omega))]; unfold shr; rw [hT]), rfl, rfl, rfl⟩) rfl
  have hfr : T.toDs (vec n fun s => T.d (rd (shr n w s))) = vec n fun s => rd (shr n w s) := by rw [toDs_vec]; rfl
  refine run_of rfl (exs_cons (ex_set (ev_b1 (d := Y) rfl hsum) rfl) (exs_cons (ex_set hlc rfl) (exs_ret (ex_ret (ev_cmp' (x := .fr (vec n fun g => .d (rd (after n (shr n w) M g)))) (y := .sh (.lst (vec n fun s => rd (shr n w s)))) (ε1 := [some (.sh X), some (.sh Y), some (.sh (.int tot)), some (.sh (.lst (vec n fun s => rd (shr n w s)))), none]) ?_ rfl rfl ?_ rfl (cmpD_eq (eqD_rds (k := false)))))))) rfl
  · refine ev_b1 (d := .tup (vec n fun g => rd (after n (shr n w) M g))) (ev_call (ds := [.lst (vec n fun s => rd (shr n w s)), X]) ?_ rfl hru) ?_
    · have := evs_ow (G := [f_ratio, f_ruled]) (e := .var 3) (es := [.var 0]) (j := 3) (ε := [some (.sh X), some (.sh Y), some (.sh (.int tot)), some (.ow (vec n fun s => T.d (rd (shr n w s)))), none]) (ts := vec n fun s => T.d (rd (shr n w s))) rfl rfl (evs_cons rfl evs_nil)
      rw [hfr] at this
      exact this
    · simp only [b1D, items, Option.map, vec_map]
  · simp only [peekH, toDs_vec, T.toD]
    rfl
noncomputable def f_keeps : Fn := rF [f_ratio, f_ruled] 2 3 b_keeps
theorem f_keeps_eq {n a b : Nat} {w : Nat → Int} {M : Nat → Nat → Rat} (k k2 k3 k4 : Bool) (hn : n ≤ 1000000) (ht : (vec n w).sum ≠ 0) (hw : ∀ s, s < n → Sm a (w s)) (hs : Sm a (vec n w).sum) (hM : ∀ s g, s < n → g < n → Bd b (M s g)) (hb : 1 + (a + b + 1) * n ≤ 8990) (hab : a + b ≤ 8990) :
    f_keeps [mat k2 k3 k4 n M, con k (vec n fun s => .int (w s))] = some (.sh (.bl (bOf (∀ g, g < n → after n (shr n w) M g = shr n w g)))) := rF_eq (r_keeps k k2 k3 k4 hn ht hw hs hM hb hab)
/-! ### the least, the most -/
def lo (n : Nat) (h : Nat → Int) : Int := (leastI (vec n h)).getD 0
def hi (n : Nat) (h : Nat → Int) : Int := (mostI (vec n h)).getD 0
theorem lo_is {n : Nat} {h : Nat → Int} (hn : 0 < n) : leastI (vec n h) = some (lo n h) ∧ (∃ k, k < n ∧ h k = lo n h) ∧ ∀ k, k < n → lo n h ≤ h k := by
  unfold lo
  cases e : vec n h with
  | nil => have := congrArg List.length e; rw [vec_length] at this; simp at this; omega
  | cons i r =>
    obtain ⟨h1, h2⟩ := leastI_is r i
    refine ⟨rfl, ?_, fun k hk => ?_⟩
    · rw [← e] at h1
      exact vec_mem.mp h1
    · exact h2 _ (by rw [← e]; exact vec_mem.mpr ⟨k, hk, rfl⟩)
theorem hi_is {n : Nat} {h : Nat → Int} (hn : 0 < n) : mostI (vec n h) = some (hi n h) ∧ (∃ k, k < n ∧ h k = hi n h) ∧ ∀ k, k < n → h k ≤ hi n h := by
  unfold hi
  cases e : vec n h with
  | nil => have := congrArg List.length e; rw [vec_length] at this; simp at this; omega
  | cons i r =>
    obtain ⟨h1, h2⟩ := mostI_is r i
    refine ⟨rfl, ?_, fun k hk => ?_⟩
    · rw [← e] at h1
      exact vec_mem.mp h1
    · exact h2 _ (by rw [← e]; exact vec_mem.mpr ⟨k, hk, rfl⟩)
theorem b1_min {k : Bool} {n : Nat} {h : Nat → Int} (hn : 0 < n) : b1D .minL (con k (vec n fun i => .int (h i))) = some (.sh (.int (lo n h))) := by
  cases k <;> simp [con, b1D, items, intsD_vec, (lo_is hn).1]
theorem b1_max {k : Bool} {n : Nat} {h : Nat → Int} (hn : 0 < n) : b1D .maxL (con k (vec n fun i => .int (h i))) = some (.sh (.int (hi n h))) := by
  cases k <;> simp [con, b1D, items, intsD_vec, (hi_is hn).1]
theorem Sm.pow {c l : Nat} {a : Int} (h : Sm c a) : Sm (c * l + 1) (a ^ l) := by
  induction l with
  | zero => unfold Sm; simp
  | succ l ih =>
    rw [Int.pow_succ]
    exact (ih.mul h).mono (by rw [Nat.mul_succ]; omega)
theorem ex_app {G : List Fn} {n i : Nat} {e : E} {ε ε1 : Env} {d : D} {ts0 ts : List T} (hl : gt ε i = some (.ow ts0)) (he : ev G e ε = some (.sh d, ε1)) (hg : gt ε1 i = some (.ow ts)) (hs : ts.length < 16000000) : ex G n (.app i e) ε = some (.nx, st ε1 i (some (.ow (ts ++ [.d d])))) := by
  have h1 : locate ε i = some (i, []) := by unfold locate; rw [hl]
  have h2 : listAt ε1 i [] = some (ts, ts) := by unfold listAt; rw [hg]; rfl
  simp only [ex, h1, he, asT, frz, h2, waits, hs, T.put, and_self, if_true]
theorem ex_app_fr {G : List Fn} {n i : Nat} {e : E} {ε ε1 : Env} {us : List T} {ts0 ts : List T} (hl : gt ε i = some (.ow ts0)) (he : ev G e ε = some (.fr us, ε1)) (hg : gt ε1 i = some (.ow ts)) (hs : ts.length < 16000000) : ex G n (.app i e) ε = some (.nx, st ε1 i (some (.ow (ts ++ [.l us])))) := by
  have h1 : locate ε i = some (i, []) := by unfold locate; rw [hl]
  have h2 : listAt ε1 i [] = some (ts, ts) := by unfold listAt; rw [hg]; rfl
  simp only [ex, h1, he, asT, h2, waits, hs, T.put, and_self, if_true]
/-! ### warm_weights -/
/-- the weight of a height -/
def wt (a b : Int) (n : Nat) (h : Nat → Int) (k : Nat) : Int := a ^ (h k - lo n h).toNat * b ^ (hi n h - h k).toNat
def w_ww : List S := [.set 7 (.bin .mul (.var 2) (.var 6)), .app 5 (.bin .mul (.call 0 [(.ix (.var 0) (.con (.int 0))), (.bin .sub (.var 7) (.var 3))]) (.call 0 [(.ix (.var 0) (.con (.int 1))), (.bin .sub (.var 4) (.var 7))]))]
def b_ww : List S := [.set 3 (.bin .mul (.var 2) (.b1 .minL (.var 1))), .set 4 (.bin .mul (.var 2) (.b1 .maxL (.var 1))), .set 5 (.lst []), .forS (.one 6) .seq [(.var 1)] w_ww, .ret (.b1 .tuple (.var 5))]
def Sl (z : Option W) : Prop := z = none ∨ ∃ d, z = some (.sh d)
theorem vec_snoc {α : Type} {k : Nat} {f : Nat → α} : vec k f ++ [f k] = vec (k + 1) f := vec_succ.symm
/-- the heights' span is small -/
def Span (n : Nat) (h : Nat → Int) (m : Nat) : Prop := 0 < n ∧ hi n h - lo n h ≤ m ∧ Sm 100 (lo n h) ∧ Sm 100 (hi n h)
theorem wt_sm {a b : Int} {n c m : Nat} {h : Nat → Int} (ha : Sm c a) (hb : Sm c b) (hs : Span n h m) {k : Nat} (hk : k < n) : Sm (c * m + 2) (wt a b n h k) := by
  obtain ⟨h0, h1, _, _⟩ := hs
  have l1 := (lo_is (h := h) h0).2.2 k hk
  have l2 := (hi_is (h := h) h0).2.2 k hk
  unfold wt
  refine (ha.pow.mul hb.pow).mono ?_
  have : (h k - lo n h).toNat + (hi n h - h k).toNat ≤ m := by omega
  have h3 : c * (h k - lo n h).toNat + c * (hi n h - h k).toNat ≤ c * m := by rw [← Nat.mul_add]; exact Nat.mul_le_mul_left _ this
  omega
theorem ixD_two {k : Bool} {a b : D} : ixD (con k [a, b]) (.int 0) = some a ∧ ixD (con k [a, b]) (.int 1) = some b := by cases k <;> exact ⟨rfl, rfl⟩
theorem r_ww {a b : Int} {n c m : Nat} {h : Nat → Int} (kx kh : Bool) (hn : n ≤ 1000000) (ha : Sm c a) (hb : Sm c b) (hs : Span n h m) (hcm : c * m ≤ 999000) : run [f_wpower] 0 5 b_ww [con kx [.int a, .int b], con kh (vec n fun k => .int (h k)), .int 1] = some (.sh (.tup (vec n fun k => .int (wt a b n h k)))) := by
  obtain ⟨h0, h1, hl, hh⟩ := id hs
  have hmin := b1_min (k := kh) (h := h) h0
  have hmax := b1_max (k := kh) (h := h) h0
  have hit := itD_con (k := kh) (ds := vec n fun k => .int (h k))
  have hx := ixD_two (k := kx) (a := .int a) (b := .int b)
  generalize con kh (vec n fun k => .int (h k)) = Y at hmin hmax hit
  generalize con kx [.int a, .int b] = X at hx
  have s1 : Sm 1 1 := by unfold Sm; decide
  have m1 : binD .mul (.int 1) (.int (lo n h)) = some (.sh (.int (lo n h))) := by simp [binD, mulOk_of s1 hl]
  have m2 : binD .mul (.int 1) (.int (hi n h)) = some (.sh (.int (hi n h))) := by simp [binD, mulOk_of s1 hh]
  obtain ⟨ε', hf, z6, z7, _, _, rfl⟩ := forF_inv (body := exs [f_wpower] 0 w_ww) (tg := .one 6) (its := vec n fun k => .int (h k)) (fun k ε => ∃ z6 z7, Sl z6 ∧ Sl z7 ∧ ε = [some (.sh X), some (.sh Y), some (.sh (.int 1)), some (.sh (.int (lo n h))), some (.sh (.int (hi n h))), some (.ow (vec k fun k => .d (.int (wt a b n h k)))), z6, z7]) (by
    rintro k d ε hd ⟨z6, z7, h6, h7, rfl⟩
    have hk : k < n := by
      rcases Nat.lt_or_ge k n with l | l
      · exact l
      · rw [List.getElem?_eq_none (by rw [vec_length]; exact l)] at hd; cases hd
    rw [vec_get hk] at hd
    cases hd
    have l1 := (lo_is (h := h) h0).2.2 k hk
    have l2 := (hi_is (h := h) h0).2.2 k hk
    have sk : Sm 101 (h k) := by
      unfold Sm at hl hh ⊢
      omega
    have m3 : binD .mul (.int 1) (.int (h k)) = some (.sh (.int (h k))) := by simp [binD, mulOk_of s1 sk]
    have e1 : (h k - lo n h) = (((h k - lo n h).toNat : Nat) : Int) := by omega
    have e2 : (hi n h - h k) = (((hi n h - h k).toNat : Nat) : Int) := by omega
    have c1 : c * (h k - lo n h).toNat ≤ c * m := Nat.mul_le_mul_left _ (by omega)
    have c2 : c * (hi n h - h k).toNat ≤ c * m := Nat.mul_le_mul_left _ (by omega)
    have p1 := f_wpower_eq (l := (h k - lo n h).toNat) ha (by omega)
    have p2 := f_wpower_eq (l := (hi n h - h k).toNat) hb (by omega)
    rw [← e1] at p1
    rw [← e2] at p2
    have mm : binD .mul (.int (a ^ (h k - lo n h).toNat)) (.int (b ^ (hi n h - h k).toNat)) = some (.sh (.int (wt a b n h k))) := by
      have ok : mulOk (a ^ (h k - lo n h).toNat) (b ^ (hi n h - h k).toNat) := mulOk_of (n := c * (h k - lo n h).toNat + 1) (m := c * (hi n h - h k).toNat + 1) ha.pow hb.pow (by omega)
      simp only [binD, if_pos ok]
      rfl
    refine ⟨[some (.sh X), some (.sh Y), some (.sh (.int 1)), some (.sh (.int (lo n h))), some (.sh (.int (hi n h))), some (.ow (vec k fun k => .d (.int (wt a b n h k)))), some (.sh (.int (h k))), z7], [some (.sh X), some (.sh Y), some (.sh (.int 1)), some (.sh (.int (lo n h))), some (.sh (.int (hi n h))), some (.ow (vec (k + 1) fun k => .d (.int (wt a b n h k)))), some (.sh (.int (h k))), some (.sh (.int (h k)))], ?_, ?_, _, _, .inr ⟨_, rfl⟩, .inr ⟨_, rfl⟩, rfl⟩
    · rcases h6 with rfl | ⟨d, rfl⟩ <;> rfl
    · refine exs_cons (ex_set (x := .sh (.int (h k))) (ε1 := [some (.sh X), some (.sh Y), some (.sh (.int 1)), some (.sh (.int (lo n h))), some (.sh (.int (hi n h))), some (.ow (vec k fun k => .d (.int (wt a b n h k)))), some (.sh (.int (h k))), z7]) (ev_bin (d1 := .int 1) (d2 := .int (h k)) rfl rfl m3) (ε2 := [some (.sh X), some (.sh Y), some (.sh (.int 1)), some (.sh (.int (lo n h))), some (.sh (.int (hi n h))), some (.ow (vec k fun k => .d (.int (wt a b n h k)))), some (.sh (.int (h k))), some (.sh (.int (h k)))]) (by rcases h7 with rfl | ⟨d, rfl⟩ <;> rfl)) ?_
      rw [vec_succ]
      refine exs_cons (ex_app (d := .int (wt a b n h k)) rfl (ev_bin (ev_call (evs_cons (ev_ix (d := X) rfl rfl hx.1) (evs_cons (ev_bin (d1 := .int (h k)) (d2 := .int (lo n h)) rfl rfl rfl) evs_nil)) rfl p1) (ev_call (evs_cons (ev_ix (d := X) rfl rfl hx.2) (evs_cons (ev_bin (d1 := .int (hi n h)) (d2 := .int (h k)) rfl rfl rfl) evs_nil)) rfl p2) mm) rfl (by rw [vec_length]; omega)) exs_nil)
    (ε := [some (.sh X), some (.sh Y), some (.sh (.int 1)), some (.sh (.int (lo n h))), some (.sh (.int (hi n h))), some (.ow []), none, none]) ⟨none, none, .inl rfl, .inl rfl, rfl⟩
  rw [vec_length] at hf
  have ev5 : ev [f_wpower] (.lst []) [some (.sh X), some (.sh Y), some (.sh (.int 1)), some (.sh (.int (lo n h))), some (.sh (.int (hi n h))), none, none, none] = some (.fr [], [some (.sh X), some (.sh Y), some (.sh (.int 1)), some (.sh (.int (lo n h))), some (.sh (.int (hi n h))), none, none, none]) := by simp [run, exs, ex, ev, evs, evT, gt, st, put, putR, kill, unal, frz, peek, peekH, asT, flatT, flatT_d, toDs_d, waits, calm, calms, cmpD, binD, negD, notD, isD, isiD, b2D, b1D, B1.deep, callD, fin, lenOk, sizeLine_eq, asg, asgs, itD, items, plainW, wipeE, back, locate, listAt, T.get, T.put, T.toD, T.toDs, dAt, isData, ixR, ixD, eqD_int, atI_nat]
  exact run_of rfl (exs_cons (ex_set (ev_bin (d1 := .int 1) rfl (ev_b1 (d := Y) rfl hmin) m1) rfl) (exs_cons (ex_set (ev_bin (d1 := .int 1) rfl (ev_b1 (d := Y) rfl hmax) m2) rfl) (exs_cons (ex_set ev5 rfl) (exs_cons (ex_for (ds := [Y]) rfl hit hf) (exs_ret (ex_ret (ev_b1o (j := 5) rfl rfl flatT_vec rfl))))))) rfl
noncomputable def f_ww : Fn := rF [f_wpower] 3 5 b_ww
theorem f_ww_eq {a b : Int} {n c m : Nat} {h : Nat → Int} (kx kh : Bool) (hn : n ≤ 1000000) (ha : Sm c a) (hb : Sm c b) (hs : Span n h m) (hcm : c * m ≤ 999000) : f_ww [con kx [.int a, .int b], con kh (vec n fun k => .int (h k)), .int 1] = some (.sh (.tup (vec n fun k => .int (wt a b n h k)))) := rF_eq (r_ww kx kh hn ha hb hs hcm)
end PyD
set_option Elab.async false
set_option linter.all false
set_option maxRecDepth 100000
set_option maxHeartbeats 4000000
/-! Py2: warm shares, leaves, one_way; the law's own of these. -/
namespace PyD
open PySem L2

/-! ### warm_shares -/
def b_wsh : List S := [.set 2 (.call 0 [(.var 0), (.var 1), (.con (.int 1))]), .set 3 (.b1 .sum (.var 2)), .ret (.b1 .tuple (.lc (.call 1 [(.var 4), (.var 3)]) (.one 4) .seq [(.var 2)] [] [4]))]
theorem sum_sm {n c : Nat} {w : Nat → Int} (h : ∀ k, k < n → Sm c (w k)) : Sm (c + n) (vec n w).sum := by
  induction n with
  | zero => unfold Sm; simp [vec_zero]; exact Nat.two_pow_pos _
  | succ n ih =>
    rw [vec_succ, List.sum_append]
    have := (ih fun k hk => h k (by omega)).add ((h n (by omega)).mono (by omega : c ≤ c + n))
    refine Sm.mono (n := c + n + 1) ?_ (by omega)
    simpa using this
theorem sum_pos {n : Nat} {w : Nat → Int} (h0 : 0 < n) (h : ∀ k, k < n → 0 < w k) : 0 < (vec n w).sum := by
  have nn : ∀ m, m ≤ n → 0 ≤ (vec m w).sum := by
    intro m
    induction m with
    | zero => intro _; simp [vec_zero]
    | succ m ih =>
      intro hm
      rw [vec_succ, List.sum_append]
      have := ih (by omega)
      have := h m (by omega)
      simp
      omega
  obtain ⟨m, rfl⟩ : ∃ m, n = m + 1 := ⟨n - 1, by omega⟩
  rw [vec_succ, List.sum_append]
  have := nn m (by omega)
  have := h m (by omega)
  simp
  omega
theorem r_wsh {a b : Int} {n c m : Nat} {h : Nat → Int} (kx kh : Bool) (hn : n ≤ 1000) (ha : Sm c a) (hb : Sm c b) (hs : Span n h m) (hcm : c * m ≤ 7000) (hp : ∀ k, k < n → 0 < wt a b n h k) : run [f_ww, f_ratio] 0 3 b_wsh [con kx [.int a, .int b], con kh (vec n fun k => .int (h k))] = some (.sh (.tup (vec n fun k => rd (shr n (wt a b n h) k)))) := by
  have hw := f_ww_eq kx kh (by omega) ha hb hs (by omega)
  have hsm : ∀ k, k < n → Sm (c * m + 2) (wt a b n h k) := fun k hk => wt_sm ha hb hs hk
  have hts := sum_sm hsm
  have htp := sum_pos hs.1 hp
  generalize con kh (vec n fun k => .int (h k)) = Y at hw
  generalize con kx [.int a, .int b] = X at hw
  have hsum := b1_sum (k := true) (n := n) (w := wt a b n h)
  generalize hT : (vec n (wt a b n h)).sum = tot at hsum hts htp
  have hlc : ev [f_ww, f_ratio] (.lc (.call 1 [(.var 4), (.var 3)]) (.one 4) .seq [(.var 2)] [] [4]) [some (.sh X), some (.sh Y), some (.sh (.tup (vec n fun k => .int (wt a b n h k)))), some (.sh (.int tot)), none] = some (.fr (vec n fun k => .d (rd (shr n (wt a b n h) k))), [some (.sh X), some (.sh Y), some (.sh (.tup (vec n fun k => .int (wt a b n h k)))), some (.sh (.int tot)), none]) :=
    ev_map (ds := [.tup (vec n fun k => .int (wt a b n h k))]) (ε1 := [some (.sh X), some (.sh Y), some (.sh (.tup (vec n fun k => .int (wt a b n h k)))), some (.sh (.int tot)), none]) _ rfl rfl rfl (by omega) (fun k hk => ⟨[some (.sh X), some (.sh Y), some (.sh (.tup (vec n fun k => .int (wt a b n h k)))), some (.sh (.int tot)), some (.sh (.int (wt a b n h k)))], .sh (rd (shr n (wt a b n h) k)), rfl,
      ev_call (evs_cons rfl (evs_cons rfl evs_nil)) rfl (by rw [f_ratio_eq (by omega) ((hsm k hk).mono (by omega)) (hts.mono (by omega))]; unfold shr; rw [hT]), rfl, rfl, rfl⟩) rfl
  exact run_of rfl (exs_cons (ex_set (ev_call (evs_cons rfl (evs_cons rfl (evs_cons rfl evs_nil))) rfl hw) rfl) (exs_cons (ex_set (ev_b1 (d := con true (vec n fun k => .int (wt a b n h k))) rfl hsum) rfl) (exs_ret (ex_ret (ev_b1f hlc flatT_vec rfl))))) rfl
noncomputable def f_wsh : Fn := rF [f_ww, f_ratio] 2 3 b_wsh
theorem f_wsh_eq {a b : Int} {n c m : Nat} {h : Nat → Int} (kx kh : Bool) (hn : n ≤ 1000) (ha : Sm c a) (hb : Sm c b) (hs : Span n h m) (hcm : c * m ≤ 7000) (hp : ∀ k, k < n → 0 < wt a b n h k) : f_wsh [con kx [.int a, .int b], con kh (vec n fun k => .int (h k))] = some (.sh (.tup (vec n fun k => rd (shr n (wt a b n h) k)))) := rF_eq (r_wsh kx kh hn ha hb hs hcm hp)
/-! ### leaves -/
def b_leaves : List S := [.set 3 (.call 0 [(.var 0), (.var 1)]), .ret (.cmp .eq (.call 1 [(.var 3), (.var 2)]) (.var 3))]
/-- what a body at rest is: x, heights, all small, weights positive -/
structure Wm (a b : Int) (n : Nat) (h : Nat → Int) (c m : Nat) : Prop where
  hn : n ≤ 1000
  ha : Sm c a
  hb : Sm c b
  hs : Span n h m
  cm : c * m ≤ 7000
  pos : ∀ k, k < n → 0 < wt a b n h k
/-- the size of a share -/
theorem Wm.bd {a b : Int} {n c m : Nat} {h : Nat → Int} (w : Wm a b n h c m) {k : Nat} (hk : k < n) : Bd (c * m + 2 + n) (shr n (wt a b n h) k) := by
  have hsm : ∀ k, k < n → Sm (c * m + 2) (wt a b n h k) := fun k hk => wt_sm w.ha w.hb w.hs hk
  have htp := sum_pos w.hs.1 w.pos
  exact Bd.divInt ((hsm k hk).mono (by omega)) (sum_sm hsm) (by omega)
theorem r_leaves {a b : Int} {n c m e : Nat} {h : Nat → Int} {M : Nat → Nat → Rat} (kx kh k2 k3 k4 : Bool) (w : Wm a b n h c m) (hM : ∀ s g, s < n → g < n → Bd e (M s g)) (hb : 1 + (c * m + 2 + n + e + 1) * n ≤ 8990) (hab : c * m + 2 + n + e ≤ 8990) :
    run [f_wsh, f_ruled] 0 1 b_leaves [con kx [.int a, .int b], con kh (vec n fun k => .int (h k)), mat k2 k3 k4 n M] = some (.sh (.bl (bOf (∀ g, g < n → after n (shr n (wt a b n h)) M g = shr n (wt a b n h) g)))) := by
  have hw := f_wsh_eq kx kh w.hn w.ha w.hb w.hs w.cm w.pos
  have hru := f_ruled_eq (p := shr n (wt a b n h)) (M := M) true k2 k3 k4 (by have := w.hn; omega) (fun s hs => w.bd hs) hM hb hab
  generalize con kh (vec n fun k => .int (h k)) = Y at hw
  generalize con kx [.int a, .int b] = X at hw
  generalize mat k2 k3 k4 n M = Z at hru
  exact run_of rfl (exs_cons (ex_set (ev_call (evs_cons rfl (evs_cons rfl evs_nil)) rfl hw) rfl) (exs_ret (ex_ret (ev_cmp (ev_call (evs_cons rfl (evs_cons rfl evs_nil)) rfl hru) rfl (cmpD_eq (eqD_rds (k := true))))))) rfl
noncomputable def f_leaves : Fn := rF [f_wsh, f_ruled] 3 1 b_leaves
/-! ### one_way -/
def w_ow : List S := [.ifS (.cmp .ne (.call 1 [(.ix (.var 3) (.var 4)), (.ix (.ix (.var 2) (.var 4)) (.var 5))]) (.call 1 [(.ix (.var 3) (.var 5)), (.ix (.ix (.var 2) (.var 5)) (.var 4))])) [.ret (.tup [(.var 4), (.var 5)])] []]
def b_ow : List S := [.set 3 (.call 0 [(.var 0), (.var 1)]), .forS (.one 4) .rng1 [(.b1 .len (.var 3))] [.forS (.one 5) .rng2 [(.bin .add (.var 4) (.con (.int 1))), (.b1 .len (.var 3))] w_ow], .ret (.con .non)]
/-- the first pair s < t with P, or none -/
def PairIs (n : Nat) (P : Nat → Nat → Bool) (d : D) : Prop :=
  (∃ s t, s < t ∧ t < n ∧ P s t = true ∧ (∀ s' t', s' < t' → t' < n → (s' < s ∨ (s' = s ∧ t' < t)) → P s' t' = false) ∧ d = .tup [.int s, .int t]) ∨ ((∀ s t, s < t → t < n → P s t = false) ∧ d = .non)
theorem PairIs.uniq {n : Nat} {P : Nat → Nat → Bool} {d e : D} (h : PairIs n P d) (g : PairIs n P e) : d = e := by
  rcases h with ⟨s, t, h1, h2, h3, h4, rfl⟩ | ⟨h1, rfl⟩
  · rcases g with ⟨s', t', g1, g2, g3, g4, rfl⟩ | ⟨g1, rfl⟩
    · have a1 : ¬ (s' < s ∨ (s' = s ∧ t' < t)) := fun z => by rw [h4 s' t' g1 g2 z] at g3; cases g3
      have a2 : ¬ (s < s' ∨ (s = s' ∧ t < t')) := fun z => by rw [g4 s t h1 h2 z] at h3; cases h3
      have e1 : s = s' := by omega
      have e2 : t = t' := by omega
      rw [e1, e2]
    · rw [g1 s t h1 h2] at h3; cases h3
  · rcases g with ⟨s', t', g1, g2, g3, g4, rfl⟩ | ⟨g1, rfl⟩
    · rw [h1 s' t' g1 g2] at g3; cases g3
    · rfl
/-- two loops, the one within the other: the first pair is handed back -/
theorem pair_in {G : List Fn} {g j n s : Nat} {w : List S} {P : Nat → Nat → Bool} {St : Option W → Env} (hs : s < n)
    (ht : ∀ z t, Sl z → asg (.one j) (.int (t : Nat)) (St z) = some (St (some (.sh (.int (t : Nat))))))
    (hb : ∀ t, s < t → t < n → exs G g w (St (some (.sh (.int (t : Nat))))) = if P s t = true then some (.rt (.sh (.tup [.int s, .int t])), St (some (.sh (.int (t : Nat))))) else some (.nx, St (some (.sh (.int (t : Nat)))))) :
    ∀ (m k : Nat), s + 1 + k + m = n → (∀ k', k' < k → P s (s + 1 + k') = false) → ∀ z, Sl z →
      (∃ t, s < t ∧ t < n ∧ P s t = true ∧ (∀ t', s < t' → t' < t → P s t' = false) ∧ ∃ ε', forF (exs G g w) (.one j) ((List.range' k m).map fun k => D.int ((s + 1 + k : Nat) : Int)) (St z) = some (.rt (.sh (.tup [.int s, .int t])), ε')) ∨
      ((∀ t, s < t → t < n → P s t = false) ∧ ∃ z', Sl z' ∧ forF (exs G g w) (.one j) ((List.range' k m).map fun k => D.int ((s + 1 + k : Nat) : Int)) (St z) = some (.nx, St z')) := by
  intro m
  induction m with
  | zero =>
    intro k h1 h2 z hz
    refine .inr ⟨fun t t1 t2 => ?_, z, hz, rfl⟩
    have := h2 (t - (s + 1)) (by omega)
    rwa [show s + 1 + (t - (s + 1)) = t by omega] at this
  | succ m ih =>
    intro k h1 h2 z hz
    have e1 := ht z (s + 1 + k) hz
    have e2 := hb (s + 1 + k) (by omega) (by omega)
    rw [List.range'_succ, List.map_cons]
    simp only [forF, e1]
    by_cases hp : P s (s + 1 + k) = true
    · rw [if_pos hp] at e2
      refine .inl ⟨s + 1 + k, by omega, by omega, hp, fun t' t1 t2 => ?_, _, by rw [e2]⟩
      have := h2 (t' - (s + 1)) (by omega)
      rwa [show s + 1 + (t' - (s + 1)) = t' by omega] at this
    · rw [if_neg hp] at e2
      rw [e2]
      have hp' : P s (s + 1 + k) = false := by simpa using hp
      exact ih (k + 1) (by omega) (fun k' hk' => by
        rcases Nat.lt_succ_iff_lt_or_eq.mp hk' with z | z
        · exact h2 k' z
        · rw [z]; exact hp') _ (.inr ⟨_, rfl⟩)
theorem pair_loop {G : List Fn} {g i j n : Nat} {src : List E} {w : List S} {P : Nat → Nat → Bool} {St : Option W → Option W → Env} (hn : n < 2 ^ 62)
    (hs : ∀ z4 z5 s, Sl z4 → Sl z5 → asg (.one i) (.int (s : Nat)) (St z4 z5) = some (St (some (.sh (.int (s : Nat)))) z5))
    (ht : ∀ s z5 t, Sl z5 → asg (.one j) (.int (t : Nat)) (St (some (.sh (.int (s : Nat)))) z5) = some (St (some (.sh (.int (s : Nat)))) (some (.sh (.int (t : Nat))))))
    (he : ∀ s z5, s < n → Sl z5 → evs G src (St (some (.sh (.int (s : Nat)))) z5) = some ([.int ((s + 1 : Nat) : Int), .int n], St (some (.sh (.int (s : Nat)))) z5))
    (hb : ∀ s t, s < t → t < n → exs G g w (St (some (.sh (.int (s : Nat)))) (some (.sh (.int (t : Nat))))) = if P s t = true then some (.rt (.sh (.tup [.int s, .int t])), St (some (.sh (.int (s : Nat)))) (some (.sh (.int (t : Nat))))) else some (.nx, St (some (.sh (.int (s : Nat)))) (some (.sh (.int (t : Nat))))))
    {z4 z5 : Option W} (h4 : Sl z4) (h5 : Sl z5) :
    (∃ d ε', PairIs n P d ∧ forF (exs G g [.forS (.one j) .rng2 src w]) (.one i) (vec n fun k => .int k) (St z4 z5) = some (.rt (.sh d), ε')) ∨ (PairIs n P .non ∧ ∃ z4' z5', forF (exs G g [.forS (.one j) .rng2 src w]) (.one i) (vec n fun k => .int k) (St z4 z5) = some (.nx, St z4' z5')) := by
  have gen : ∀ (m a : Nat) (z4 z5 : Option W), Sl z4 → Sl z5 → a + m = n → (∀ s t, s < a → s < t → t < n → P s t = false) →
      (∃ d ε', PairIs n P d ∧ forF (exs G g [.forS (.one j) .rng2 src w]) (.one i) ((List.range' a m).map fun k => D.int (k : Nat)) (St z4 z5) = some (.rt (.sh d), ε')) ∨ (PairIs n P .non ∧ ∃ z4' z5', forF (exs G g [.forS (.one j) .rng2 src w]) (.one i) ((List.range' a m).map fun k => D.int (k : Nat)) (St z4 z5) = some (.nx, St z4' z5')) := by
    intro m
    induction m with
    | zero => intro a z4 z5 _ _ ha h; exact .inr ⟨.inr ⟨fun s t h1 h2 => h s t (by omega) h1 h2, rfl⟩, z4, z5, rfl⟩
    | succ m ih =>
      intro a z4 z5 h4 h5 ha h
      have e1 := hs z4 z5 a h4 h5
      have e2 := he a z5 (by omega) h5
      rw [List.range'_succ, List.map_cons]
      simp only [forF, e1]
      have hit : itD .rng2 [.int ((a + 1 : Nat) : Int), .int n] = some ((List.range' 0 (n - (a + 1))).map fun k => D.int ((a + 1 + k : Nat) : Int)) := by
        rw [itD_rng2 (by omega) hn, vec, List.range_eq_range']
      rcases pair_in (St := fun z => St (some (.sh (.int (a : Nat)))) z) (by omega : a < n) (fun z t hz => ht a z t hz) (fun t h1 h2 => hb a t h1 h2) (n - (a + 1)) 0 (by omega) (fun k' hk' => by omega) z5 h5 with ⟨t, t1, t2, t3, t4, ε', e3⟩ | ⟨t1, z', hz', e3⟩
      · refine .inl ⟨_, ε', .inl ⟨a, t, t1, t2, t3, fun s' t' g1 g2 g3 => ?_, rfl⟩, ?_⟩
        · rcases g3 with g3 | ⟨rfl, g3⟩
          · exact h s' t' g3 g1 g2
          · exact t4 t' g1 g3
        · rw [exs_ret (ex_for e2 hit e3)]
      · rw [exs_cons (ex_for e2 hit e3) exs_nil]
        exact ih (a + 1) _ _ (.inr ⟨_, rfl⟩) hz' (by omega) fun s t h1 h2 h3 => by
          rcases Nat.lt_succ_iff_lt_or_eq.mp h1 with z | z
          · exact h s t z h2 h3
          · subst z; exact t1 t h2 h3
  have := gen n 0 z4 z5 h4 h5 (by omega) (fun s t h => by omega)
  rwa [← List.range_eq_range'] at this
theorem r_ow {a b : Int} {n c m e : Nat} {h : Nat → Int} {M : Nat → Nat → Rat} (kx kh k2 k3 k4 : Bool) (w : Wm a b n h c m) (hM : ∀ s g, s < n → g < n → Bd e (M s g)) (hab : c * m + 2 + n + e ≤ 8990) :
    ∃ d, PairIs n (fun s t => bOf (¬ shr n (wt a b n h) s * M s t = shr n (wt a b n h) t * M t s)) d ∧ run [f_wsh, f_timed] 0 3 b_ow [con kx [.int a, .int b], con kh (vec n fun k => .int (h k)), mat k2 k3 k4 n M] = some (.sh d) := by
  have hw := f_wsh_eq kx kh w.hn w.ha w.hb w.hs w.cm w.pos
  have hY : ∀ s, s < n → ixD (mat k2 k3 k4 n M) (.int s) = some (con k3 (vec n fun g => rdk k4 (M s g))) := fun s hs => by unfold mat; rw [ixD_con, vec_atI hs]
  generalize con kh (vec n fun k => .int (h k)) = Y at hw
  generalize con kx [.int a, .int b] = X at hw
  generalize mat k2 k3 k4 n M = Z at hY
  have hbd : ∀ s, s < n → Bd (c * m + 2 + n) (shr n (wt a b n h) s) := fun s hs => w.bd hs
  generalize shr n (wt a b n h) = p at hw hbd
  have hP : ∀ s, s < n → ixD (con true (vec n fun s => rd (p s))) (.int s) = some (rdk true (p s)) := fun s hs => by rw [ixD_con, vec_atI hs]; rfl
  have hl := len_con (k := true) (n := n) (f := fun s => rd (p s))
  have hcon : con true (vec n fun s => rd (p s)) = .tup (vec n fun s => rd (p s)) := rfl
  rw [hcon] at hP hl
  generalize D.tup (vec n fun s => rd (p s)) = V at hw hP hl
  have hlen : ∀ {z4 z5}, ev [f_wsh, f_timed] (.b1 .len (.var 3)) [some (.sh X), some (.sh Y), some (.sh Z), some (.sh V), z4, z5] = some (.sh (.int n), [some (.sh X), some (.sh Y), some (.sh Z), some (.sh V), z4, z5]) := fun {z4 z5} => ev_b1 (d := V) rfl hl
  have loop := pair_loop (G := [f_wsh, f_timed]) (g := 0) (i := 4) (j := 5) (n := n) (src := [(.bin .add (.var 4) (.con (.int 1))), (.b1 .len (.var 3))]) (w := w_ow) (P := fun s t => bOf (¬ p s * M s t = p t * M t s)) (St := fun z4 z5 => [some (.sh X), some (.sh Y), some (.sh Z), some (.sh V), z4, z5]) (by have := w.hn; omega)
    (fun z4 z5 s h4 h5 => by rcases h4 with rfl | ⟨d, rfl⟩ <;> rfl)
    (fun s z5 t h5 => by rcases h5 with rfl | ⟨d, rfl⟩ <;> rfl)
    (fun s z5 hs h5 => evs_cons (d := .int ((s + 1 : Nat) : Int)) (ev_bin (d1 := .int s) (d2 := .int 1) rfl rfl rfl) (evs_cons hlen evs_nil))
    (fun s t hst ht => by
      have f1 := f_timed_eq true k4 (hbd s (by omega)) (hM s t (by omega) ht) hab
      have f2 := f_timed_eq true k4 (hbd t ht) (hM t s ht (by omega)) hab
      have hc : ev [f_wsh, f_timed] (.cmp .ne (.call 1 [(.ix (.var 3) (.var 4)), (.ix (.ix (.var 2) (.var 4)) (.var 5))]) (.call 1 [(.ix (.var 3) (.var 5)), (.ix (.ix (.var 2) (.var 5)) (.var 4))])) [some (.sh X), some (.sh Y), some (.sh Z), some (.sh V), some (.sh (.int s)), some (.sh (.int t))] = some (.sh (.bl (bOf (¬ p s * M s t = p t * M t s))), [some (.sh X), some (.sh Y), some (.sh Z), some (.sh V), some (.sh (.int s)), some (.sh (.int t))]) := by
        rw [← bOf_not]
        exact ev_cmp (ev_call (evs_cons (ev_ix (d := V) rfl rfl (hP s (by omega))) (evs_cons (ev_ix (ev_ix (d := Z) rfl rfl (hY s (by omega))) rfl (by rw [ixD_con, vec_atI ht])) evs_nil)) rfl f1)
          (ev_call (evs_cons (ev_ix (d := V) rfl rfl (hP t ht)) (evs_cons (ev_ix (ev_ix (d := Z) rfl rfl (hY t ht)) rfl (by rw [ixD_con, vec_atI (by omega)])) evs_nil)) rfl f2) (cmpD_ne eqD_rd)
      cases hb : bOf (¬ p s * M s t = p t * M t s) with
      | true =>
        rw [hb] at hc
        rw [if_pos rfl]
        refine exs_ret (ex_ifT hc (exs_ret (ex_ret (x := .sh (.tup [.int s, .int t])) ?_)))
        simp [run, exs, ex, ev, evs, evT, gt, st, put, putR, kill, unal, frz, peek, peekH, asT, flatT, flatT_d, toDs_d, waits, calm, calms, cmpD, binD, negD, notD, isD, isiD, b2D, b1D, B1.deep, callD, fin, lenOk, sizeLine_eq, asg, asgs, itD, items, plainW, wipeE, back, locate, listAt, T.get, T.put, T.toD, T.toDs, dAt, isData, ixR, ixD, eqD_int, atI_nat]
      | false =>
        rw [hb] at hc
        rw [if_neg Bool.false_ne_true]
        exact exs_cons (ex_ifF hc exs_nil) exs_nil)
    (z4 := none) (z5 := none) (.inl rfl) (.inl rfl)
  have hset : ∀ {q}, exs [f_wsh, f_timed] 0 [.forS (.one 4) .rng1 [(.b1 .len (.var 3))] [.forS (.one 5) .rng2 [(.bin .add (.var 4) (.con (.int 1))), (.b1 .len (.var 3))] w_ow], .ret (.con .non)] [some (.sh X), some (.sh Y), some (.sh Z), some (.sh V), none, none] = q → exs [f_wsh, f_timed] 0 b_ow [some (.sh X), some (.sh Y), some (.sh Z), none, none, none] = q := fun {q} hq => exs_cons (ex_set (ev_call (evs_cons rfl (evs_cons rfl evs_nil)) rfl hw) rfl) hq
  have hn62 : itD .rng1 [.int n] = some (vec n fun k => .int k) := itD_rng1 (by have := w.hn; omega)
  rcases loop with ⟨d, ε', hd, hf⟩ | ⟨hd, z4', z5', hf⟩
  · exact ⟨d, hd, run_of rfl (hset (exs_ret (ex_for (evs_cons hlen evs_nil) hn62 hf))) rfl⟩
  · exact ⟨.non, hd, run_of rfl (hset (exs_cons (ex_for (evs_cons hlen evs_nil) hn62 hf) (exs_ret (ex_ret rfl)))) rfl⟩
noncomputable def f_ow : Fn := rF [f_wsh, f_timed] 3 3 b_ow
end PyD
set_option Elab.async false
set_option linter.all false
set_option maxRecDepth 100000
set_option maxHeartbeats 4000000
/-! Py3: the law's own measures. -/
namespace PyD
open PySem L2

theorem f_leaves_eq {a b : Int} {n c m e : Nat} {h : Nat → Int} {M : Nat → Nat → Rat} (kx kh k2 k3 k4 : Bool) (w : Wm a b n h c m) (hM : ∀ s g, s < n → g < n → Bd e (M s g)) (hb : 1 + (c * m + 2 + n + e + 1) * n ≤ 8990) (hab : c * m + 2 + n + e ≤ 8990) :
    f_leaves [con kx [.int a, .int b], con kh (vec n fun k => .int (h k)), mat k2 k3 k4 n M] = some (.sh (.bl (bOf (∀ g, g < n → after n (shr n (wt a b n h)) M g = shr n (wt a b n h) g)))) := rF_eq (r_leaves kx kh k2 k3 k4 w hM hb hab)
theorem f_ow_eq {a b : Int} {n c m e : Nat} {h : Nat → Int} {M : Nat → Nat → Rat} (kx kh k2 k3 k4 : Bool) (w : Wm a b n h c m) (hM : ∀ s g, s < n → g < n → Bd e (M s g)) (hab : c * m + 2 + n + e ≤ 8990) :
    ∃ d, PairIs n (fun s t => bOf (¬ shr n (wt a b n h) s * M s t = shr n (wt a b n h) t * M t s)) d ∧ f_ow [con kx [.int a, .int b], con kh (vec n fun k => .int (h k)), mat k2 k3 k4 n M] = some (.sh d) := by
  obtain ⟨d, h1, h2⟩ := r_ow kx kh k2 k3 k4 w hM hab
  exact ⟨d, h1, rF_eq h2⟩
/-! ### _law_weights -/
def b_lw : List S := [.set 2 (.b1 .minL (.var 1)), .set 3 (.b1 .maxL (.var 1)), .ret (.lc (.bin .mul (.call 0 [(.ix (.var 0) (.con (.int 0))), (.bin .sub (.var 4) (.var 2))]) (.call 0 [(.ix (.var 0) (.con (.int 1))), (.bin .sub (.var 3) (.var 4))])) (.one 4) .seq [(.var 1)] [] [4])]
theorem r_lw {a b : Int} {n c m : Nat} {h : Nat → Int} (kx kh : Bool) (hn : n ≤ 1000000) (ha : Sm c a) (hb : Sm c b) (hs : Span n h m) (hcm : c * m ≤ 999000) : run [f_lpower] 0 3 b_lw [con kx [.int a, .int b], con kh (vec n fun k => .int (h k))] = some (.fr (vec n fun k => .d (.int (wt a b n h k)))) := by
  obtain ⟨h0, h1, hl, hh⟩ := id hs
  have hmin := b1_min (k := kh) (h := h) h0
  have hmax := b1_max (k := kh) (h := h) h0
  have hit := itD_con (k := kh) (ds := vec n fun k => .int (h k))
  have hx := ixD_two (k := kx) (a := .int a) (b := .int b)
  generalize con kh (vec n fun k => .int (h k)) = Y at hmin hmax hit
  generalize con kx [.int a, .int b] = X at hx
  refine run_of rfl (exs_cons (ex_set (ev_b1 (d := Y) rfl hmin) rfl) (exs_cons (ex_set (ev_b1 (d := Y) rfl hmax) rfl) (exs_ret (ex_ret (ev_map (ds := [Y]) (ε1 := [some (.sh X), some (.sh Y), some (.sh (.int (lo n h))), some (.sh (.int (hi n h))), none]) _ rfl hit rfl (by omega) (fun k hk => ⟨[some (.sh X), some (.sh Y), some (.sh (.int (lo n h))), some (.sh (.int (hi n h))), some (.sh (.int (h k)))], .sh (.int (wt a b n h k)), rfl, ?_, rfl, rfl, rfl⟩) rfl))))) rfl
  have l1 := (lo_is (h := h) h0).2.2 k hk
  have l2 := (hi_is (h := h) h0).2.2 k hk
  have e1 : (h k - lo n h) = (((h k - lo n h).toNat : Nat) : Int) := by omega
  have e2 : (hi n h - h k) = (((hi n h - h k).toNat : Nat) : Int) := by omega
  have c1 : c * (h k - lo n h).toNat ≤ c * m := Nat.mul_le_mul_left _ (by omega)
  have c2 : c * (hi n h - h k).toNat ≤ c * m := Nat.mul_le_mul_left _ (by omega)
  have p1 := f_lpower_eq (l := (h k - lo n h).toNat) ha (by omega)
  have p2 := f_lpower_eq (l := (hi n h - h k).toNat) hb (by omega)
  rw [← e1] at p1
  rw [← e2] at p2
  have mm : binD .mul (.int (a ^ (h k - lo n h).toNat)) (.int (b ^ (hi n h - h k).toNat)) = some (.sh (.int (wt a b n h k))) := by
    have ok : mulOk (a ^ (h k - lo n h).toNat) (b ^ (hi n h - h k).toNat) := mulOk_of (n := c * (h k - lo n h).toNat + 1) (m := c * (hi n h - h k).toNat + 1) ha.pow hb.pow (by omega)
    simp only [binD, if_pos ok]
    rfl
  exact ev_bin (ev_call (evs_cons (ev_ix (d := X) rfl rfl hx.1) (evs_cons (ev_bin (d1 := .int (h k)) (d2 := .int (lo n h)) rfl rfl rfl) evs_nil)) rfl p1) (ev_call (evs_cons (ev_ix (d := X) rfl rfl hx.2) (evs_cons (ev_bin (d1 := .int (hi n h)) (d2 := .int (h k)) rfl rfl rfl) evs_nil)) rfl p2) mm
noncomputable def f_lw : Fn := rF [f_lpower] 2 3 b_lw
theorem f_lw_eq {a b : Int} {n c m : Nat} {h : Nat → Int} (kx kh : Bool) (hn : n ≤ 1000000) (ha : Sm c a) (hb : Sm c b) (hs : Span n h m) (hcm : c * m ≤ 999000) : f_lw [con kx [.int a, .int b], con kh (vec n fun k => .int (h k))] = some (.fr (vec n fun k => .d (.int (wt a b n h k)))) := rF_eq (r_lw kx kh hn ha hb hs hcm)
/-! ### a loop of tests -/
theorem all_loop {body : Env → Option (O × Env)} {St : Option W → Env} {P : Nat → Bool} {i n : Nat} {r : R}
    (hs : ∀ z k, Sl z → asg (.one i) (.int (k : Nat)) (St z) = some (St (some (.sh (.int (k : Nat))))))
    (hb : ∀ k, k < n → body (St (some (.sh (.int (k : Nat))))) = if P k = true then some (.nx, St (some (.sh (.int (k : Nat))))) else some (.rt r, St (some (.sh (.int (k : Nat)))))) {z : Option W} (hz : Sl z) :
    ((∀ k, k < n → P k = true) ∧ ∃ z', Sl z' ∧ forF body (.one i) (vec n fun k => .int k) (St z) = some (.nx, St z')) ∨ ((¬ ∀ k, k < n → P k = true) ∧ ∃ ε', forF body (.one i) (vec n fun k => .int k) (St z) = some (.rt r, ε')) := by
  have gen : ∀ (m a : Nat) (z : Option W), Sl z → a + m = n → (∀ k, k < a → P k = true) →
      ((∀ k, k < n → P k = true) ∧ ∃ z', Sl z' ∧ forF body (.one i) ((List.range' a m).map fun k => D.int (k : Nat)) (St z) = some (.nx, St z')) ∨ ((¬ ∀ k, k < n → P k = true) ∧ ∃ ε', forF body (.one i) ((List.range' a m).map fun k => D.int (k : Nat)) (St z) = some (.rt r, ε')) := by
    intro m
    induction m with
    | zero => intro a z hz ha h; exact .inl ⟨fun k hk => h k (by omega), z, hz, rfl⟩
    | succ m ih =>
      intro a z hz ha h
      have e1 := hs z a hz
      have e2 := hb a (by omega)
      rw [List.range'_succ, List.map_cons]
      simp only [forF, e1]
      by_cases hp : P a = true
      · rw [if_pos hp] at e2
        rw [e2]
        exact ih (a + 1) _ (.inr ⟨_, rfl⟩) (by omega) fun k hk => by
          rcases Nat.lt_succ_iff_lt_or_eq.mp hk with w | w
          · exact h k w
          · rw [w]; exact hp
      · rw [if_neg hp] at e2
        exact .inr ⟨fun w => hp (w a (by omega)), _, by rw [e2]⟩
  have := gen n 0 z hz (by omega) (fun k h => by omega)
  rwa [← List.range_eq_range'] at this
section
variable {G : List Fn} {ε ε1 : Env} {a b : E} {d : D} {r : R}
theorem ev_isi {t : Ty} {x : Bool} (h : ev G a ε = some (.sh d, ε1)) (h2 : isiD d t = some x) : ev G (.isi a t) ε = some (.sh (.bl x), ε1) := by simp only [ev, h, peekH, Option.bind, h2, Option.map]
theorem ev_orT (h : ev G a ε = some (.sh (.bl true), ε1)) : ev G (.or a b) ε = some (.sh (.bl true), ε1) := by simp only [ev, h]
theorem ev_orF {q : Option (R × Env)} (h : ev G a ε = some (.sh (.bl false), ε1)) (h2 : ev G b ε1 = q) : ev G (.or a b) ε = q := by simp only [ev, h, h2]
theorem ev_andF (h : ev G a ε = some (.sh (.bl false), ε1)) : ev G (.and a b) ε = some (.sh (.bl false), ε1) := by simp only [ev, h]
theorem ev_andT {q : Option (R × Env)} (h : ev G a ε = some (.sh (.bl true), ε1)) (h2 : ev G b ε1 = q) : ev G (.and a b) ε = q := by simp only [ev, h, h2]
end
/-! ### _law_whole, _law_same -/
def b_whole : List S := [.ret (.and (.isi (.var 0) .int) (.not (.isi (.var 0) .bool)))]
theorem r_whole (i : Int) : run [] 0 0 b_whole [.int i] = some (.sh (.bl true)) := by simp [run, exs, ex, ev, evs, evT, gt, st, put, putR, kill, unal, frz, peek, peekH, asT, flatT, flatT_d, toDs_d, waits, calm, calms, cmpD, binD, negD, notD, isD, isiD, b2D, b1D, B1.deep, callD, fin, lenOk, sizeLine_eq, asg, asgs, itD, items, plainW, wipeE, back, locate, listAt, T.get, T.put, T.toD, T.toDs, dAt, isData, ixR, ixD, eqD_int, atI_nat, b_whole]
noncomputable def f_whole : Fn := rF [] 1 0 b_whole
theorem f_whole_eq (i : Int) : f_whole [.int i] = some (.sh (.bl true)) := rF_eq (r_whole i)
def w_same : List S := [.ifS (.not (.call 1 [(.ix (.var 0) (.var 2)), (.ix (.var 1) (.var 2))])) [.ret (.con (.bl false))] []]
def b_same : List S := [.ifS (.or (.isi (.var 1) .tuple) (.isi (.var 1) .list)) [.ifS (.or (.not (.isi (.var 0) .tuple)) (.cmp .ne (.b1 .len (.var 0)) (.b1 .len (.var 1)))) [.ret (.con (.bl false))] [], .forS (.one 2) .rng1 [(.b1 .len (.var 1))] w_same, .ret (.con (.bl true))] [], .ifS (.cmp .is (.var 1) (.con .non)) [.ret (.cmp .is (.var 0) (.con .non))] [], .ifS (.cmp .is (.var 1) (.con (.bl true))) [.ret (.cmp .is (.var 0) (.con (.bl true)))] [], .ifS (.cmp .is (.var 1) (.con (.bl false))) [.ret (.cmp .is (.var 0) (.con (.bl false)))] [], .ifS (.isi (.var 1) .str) [.ret (.and (.isi (.var 0) .str) (.cmp .eq (.var 0) (.var 1)))] [], .ret (.and (.call 0 [(.var 0)]) (.cmp .eq (.var 0) (.var 1)))]
theorem r_same_int (self : Fn) (i : Int) : run [f_whole, self] 0 1 b_same [.int i, .int i] = some (.sh (.bl true)) := by
  have := f_whole_eq i
  simp [run, exs, ex, ev, evs, evT, gt, st, put, putR, kill, unal, frz, peek, peekH, asT, flatT, flatT_d, toDs_d, waits, calm, calms, cmpD, binD, negD, notD, isD, isiD, b2D, b1D, B1.deep, callD, fin, lenOk, sizeLine_eq, asg, asgs, itD, items, plainW, wipeE, back, locate, listAt, T.get, T.put, T.toD, T.toDs, dAt, isData, ixR, ixD, eqD_int, atI_nat, b_same, this]
theorem r_same_non (self : Fn) : run [f_whole, self] 0 1 b_same [.non, .non] = some (.sh (.bl true)) := by simp [run, exs, ex, ev, evs, evT, gt, st, put, putR, kill, unal, frz, peek, peekH, asT, flatT, flatT_d, toDs_d, waits, calm, calms, cmpD, binD, negD, notD, isD, isiD, b2D, b1D, B1.deep, callD, fin, lenOk, sizeLine_eq, asg, asgs, itD, items, plainW, wipeE, back, locate, listAt, T.get, T.put, T.toD, T.toDs, dAt, isData, ixR, ixD, eqD_int, atI_nat, b_same]
theorem r_same_bl (self : Fn) (b : Bool) : run [f_whole, self] 0 1 b_same [.bl b, .bl b] = some (.sh (.bl true)) := by
  cases b <;> simp [run, exs, ex, ev, evs, evT, gt, st, put, putR, kill, unal, frz, peek, peekH, asT, flatT, flatT_d, toDs_d, waits, calm, calms, cmpD, binD, negD, notD, isD, isiD, b2D, b1D, B1.deep, callD, fin, lenOk, sizeLine_eq, asg, asgs, itD, items, plainW, wipeE, back, locate, listAt, T.get, T.put, T.toD, T.toDs, dAt, isData, ixR, ixD, eqD_int, atI_nat, b_same]
noncomputable def f_same0 : Fn := rF [f_whole, fun _ => none] 2 1 b_same
noncomputable def f_same : Fn := rF [f_whole, f_same0] 2 1 b_same
theorem r_same_seq (k : Bool) {n : Nat} (hn : n < 2 ^ 62) (w : Nat → Int) : run [f_whole, f_same0] 0 1 b_same [.tup (vec n fun i => .int (w i)), con k (vec n fun i => .int (w i))] = some (.sh (.bl true)) := by
  have hl := len_con (k := k) (n := n) (f := fun i => .int (w i))
  have hl0 := len_con (k := true) (n := n) (f := fun i => .int (w i))
  have hi0 : ∀ i : Nat, i < n → ixD (.tup (vec n fun i => .int (w i))) (.int i) = some (.int (w i)) := fun i hi => by
    show atI (vec n fun i => D.int (w i)) i = _
    rw [vec_atI hi]
  have hi : ∀ i : Nat, i < n → ixD (con k (vec n fun i => .int (w i))) (.int i) = some (.int (w i)) := fun i hi => by rw [ixD_con, vec_atI hi]
  have hk : isiD (con k (vec n fun i => .int (w i))) .tuple = some k ∧ (k = false → isiD (con k (vec n fun i => .int (w i))) .list = some true) := by
    cases k <;> exact ⟨rfl, fun h => by first | rfl | cases h⟩
  have h0 : isiD (.tup (vec n fun i => .int (w i))) .tuple = some true := rfl
  rw [show con true (vec n fun i => D.int (w i)) = .tup (vec n fun i => D.int (w i)) from rfl] at hl0
  generalize D.tup (vec n fun i => .int (w i)) = X at hl0 hi0 h0
  generalize con k (vec n fun i => .int (w i)) = Y at hl hi hk
  have t1 : ev [f_whole, f_same0] (.or (.isi (.var 1) .tuple) (.isi (.var 1) .list)) [some (.sh X), some (.sh Y), none] = some (.sh (.bl true), [some (.sh X), some (.sh Y), none]) := by
    cases k with
    | true => exact ev_orT (ev_isi (d := Y) rfl hk.1)
    | false => exact ev_orF (ev_isi (d := Y) rfl hk.1) (ev_isi (d := Y) rfl (hk.2 rfl))
  have e1 : ev [f_whole, f_same0] (.b1 .len (.var 0)) [some (.sh X), some (.sh Y), none] = some (.sh (.int n), [some (.sh X), some (.sh Y), none]) := ev_b1 (d := X) rfl hl0
  have e2 : ∀ {z}, ev [f_whole, f_same0] (.b1 .len (.var 1)) [some (.sh X), some (.sh Y), z] = some (.sh (.int n), [some (.sh X), some (.sh Y), z]) := fun {z} => ev_b1 (d := Y) rfl hl
  have t2 : ev [f_whole, f_same0] (.or (.not (.isi (.var 0) .tuple)) (.cmp .ne (.b1 .len (.var 0)) (.b1 .len (.var 1)))) [some (.sh X), some (.sh Y), none] = some (.sh (.bl false), [some (.sh X), some (.sh Y), none]) := by
    have c1 := ev_cmp (o := .ne) (t := false) e1 (e2 (z := none)) (by rw [cmpD_ne (eqD_int _ _)]; simp)
    have c2 : ev [f_whole, f_same0] (.isi (.var 0) .tuple) [some (.sh X), some (.sh Y), none] = some (.sh (.bl true), [some (.sh X), some (.sh Y), none]) := ev_isi (d := X) rfl h0
    exact ev_orF (ev_not c2) c1
  have loop := all_loop (body := exs [f_whole, f_same0] 0 w_same) (St := fun z => [some (.sh X), some (.sh Y), z]) (P := fun _ => true) (i := 2) (n := n) (r := .sh (.bl false))
    (fun z k hz => by rcases hz with rfl | ⟨d, rfl⟩ <;> rfl)
    (fun i hii => by
      rw [if_pos rfl]
      refine exs_cons (ex_ifF (ev_not (t := true) (ev_call (evs_cons (ev_ix (d := X) rfl rfl (hi0 i hii)) (evs_cons (ev_ix (d := Y) rfl rfl (hi i hii)) evs_nil)) rfl (rF_eq (r_same_int _ (w i))))) exs_nil) exs_nil) (z := none) (.inl rfl)
  rcases loop with ⟨_, z', _, hf⟩ | ⟨h, _⟩
  · exact run_of rfl (exs_ret (ex_ifT t1 (exs_cons (ex_ifF t2 exs_nil) (exs_cons (ex_for (evs_cons e2 evs_nil) (itD_rng1 hn) hf) (exs_ret (ex_ret rfl)))))) rfl
  · exact absurd (fun _ _ => rfl) h
theorem f_same_seq (k : Bool) {n : Nat} (hn : n < 2 ^ 62) (w : Nat → Int) : f_same [.tup (vec n fun i => .int (w i)), con k (vec n fun i => .int (w i))] = some (.sh (.bl true)) := rF_eq (r_same_seq k hn w)
theorem f_same_bl (b : Bool) : f_same [.bl b, .bl b] = some (.sh (.bl true)) := rF_eq (r_same_bl _ b)
theorem f_same_pair {n : Nat} {P : Nat → Nat → Bool} {d : D} (h : PairIs n P d) : f_same [d, d] = some (.sh (.bl true)) := by
  rcases h with ⟨s, t, _, _, _, _, rfl⟩ | ⟨_, rfl⟩
  · have := f_same_seq true (n := 2) (by decide) fun i => if i = 0 then (s : Int) else t
    exact this
  · exact rF_eq (r_same_non _)
end PyD
set_option Elab.async false
set_option linter.all false
set_option maxRecDepth 100000
set_option maxHeartbeats 4000000
/-! Py4: whole numbers for fractions; leaves and first pair by them; lists. -/
namespace PyD
open PySem L2

/-! ### _law_leaves, _law_first_pair -/
/-- whole numbers over one bottom -/
def whl (n : Nat) (U : Nat → Nat → Int) (B : Int) : D := .lst [.lst (vec n fun s => .lst (vec n fun g => .int (U s g))), .int B]
def w_ll : List S := [.ifS (.cmp .ne (.b1 .sum (.lc (.bin .mul (.ix (.var 0) (.var 4)) (.ix (.ix (.ix (.var 1) (.con (.int 0))) (.var 4)) (.var 3))) (.one 4) .rng1 [(.var 2)] [] [4])) (.bin .mul (.ix (.var 0) (.var 3)) (.ix (.var 1) (.con (.int 1))))) [.ret (.con (.bl false))] []]
def b_ll : List S := [.set 2 (.b1 .len (.var 0)), .forS (.one 3) .rng1 [(.var 2)] w_ll, .ret (.con (.bl true))]
theorem whl_ix {n : Nat} {U : Nat → Nat → Int} {B : Int} : ixD (whl n U B) (.int 0) = some (.lst (vec n fun s => .lst (vec n fun g => .int (U s g)))) ∧ ixD (whl n U B) (.int 1) = some (.int B) := ⟨rfl, rfl⟩
theorem lst_ix {n : Nat} {f : Nat → D} {s : Nat} (h : s < n) : ixD (.lst (vec n f)) (.int s) = some (f s) := by
  show atI (vec n f) s = _
  rw [vec_atI h]
theorem r_ll {n e f : Nat} {w : Nat → Int} {U : Nat → Nat → Int} {B : Int} (hn : n ≤ 1000000) (hw : ∀ s, s < n → Sm e (w s)) (hU : ∀ s g, s < n → g < n → Sm f (U s g)) (hB : Sm f B) (he : e + f ≤ 1000000) :
    run [] 0 3 b_ll [.lst (vec n fun s => .int (w s)), whl n U B] = some (.sh (.bl (bOf (∀ t, t < n → (vec n fun s => w s * U s t).sum = w t * B)))) := by
  have hl := len_con (k := false) (n := n) (f := fun s => .int (w s))
  have hx : ∀ s, s < n → ixD (.lst (vec n fun s => .int (w s))) (.int (s : Nat)) = some (.int (w s)) := fun s hs => lst_ix hs
  have hy := whl_ix (n := n) (U := U) (B := B)
  rw [show con false (vec n fun s => D.int (w s)) = .lst (vec n fun s => D.int (w s)) from rfl] at hl
  generalize D.lst (vec n fun s => .int (w s)) = X at hl hx
  generalize whl n U B = Y at hy
  have e1 : ev [] (.b1 .len (.var 0)) [some (.sh X), some (.sh Y), none, none, none] = some (.sh (.int n), [some (.sh X), some (.sh Y), none, none, none]) := ev_b1 (d := X) rfl hl
  have loop := all_loop (body := exs [] 0 w_ll) (St := fun z => [some (.sh X), some (.sh Y), some (.sh (.int n)), z, none]) (P := fun t => bOf ((vec n fun s => w s * U s t).sum = w t * B)) (i := 3) (n := n) (r := .sh (.bl false))
    (fun z k hz => by rcases hz with rfl | ⟨d, rfl⟩ <;> rfl)
    (fun t ht => by
      have hm : ∀ s, s < n → binD .mul (.int (w s)) (.int (U s t)) = some (.sh (.int (w s * U s t))) := fun s hs => by
        have ok : mulOk (w s) (U s t) := mulOk_of (hw s hs) (hU s t hs ht) (by omega)
        simp only [binD, if_pos ok]
      have hm2 : binD .mul (.int (w t)) (.int B) = some (.sh (.int (w t * B))) := by
        have ok : mulOk (w t) B := mulOk_of (hw t ht) hB (by omega)
        simp only [binD, if_pos ok]
      have hlc : ev [] (.lc (.bin .mul (.ix (.var 0) (.var 4)) (.ix (.ix (.ix (.var 1) (.con (.int 0))) (.var 4)) (.var 3))) (.one 4) .rng1 [(.var 2)] [] [4]) [some (.sh X), some (.sh Y), some (.sh (.int n)), some (.sh (.int t)), none] = some (.fr (vec n fun s => .d (.int (w s * U s t))), [some (.sh X), some (.sh Y), some (.sh (.int n)), some (.sh (.int t)), none]) :=
        ev_map (ds := [.int n]) (ε1 := [some (.sh X), some (.sh Y), some (.sh (.int n)), some (.sh (.int t)), none]) _ rfl (itD_rng1 (by omega)) rfl (by omega) (fun s hs => ⟨[some (.sh X), some (.sh Y), some (.sh (.int n)), some (.sh (.int t)), some (.sh (.int s))], .sh (.int (w s * U s t)), rfl,
          ev_bin (ev_ix (d := X) rfl rfl (hx s hs)) (ev_ix (ev_ix (ev_ix (d := Y) rfl rfl hy.1) rfl (lst_ix hs)) rfl (lst_ix ht)) (hm s hs), rfl, rfl, rfl⟩) rfl
      have hc := ev_cmp (o := .ne) (ev_b1f hlc flatT_vec (b1_sum (k := false))) (ev_bin (ev_ix (d := X) (b := .var 3) (i := t) (ε1 := [some (.sh X), some (.sh Y), some (.sh (.int n)), some (.sh (.int t)), none]) (a := .var 0) rfl rfl (hx t ht)) (ev_ix (d := Y) (a := .var 1) (b := .con (.int 1)) rfl rfl hy.2) hm2) (cmpD_ne (eqD_int _ _))
      rw [bOf_eq] at hc
      cases hb : bOf ((vec n fun s => w s * U s t).sum = w t * B) with
      | true =>
        rw [hb] at hc
        rw [if_pos rfl]
        exact exs_cons (ex_ifF hc exs_nil) exs_nil
      | false =>
        rw [hb] at hc
        rw [if_neg Bool.false_ne_true]
        exact exs_ret (ex_ifT hc (exs_ret (ex_ret rfl)))) (z := none) (.inl rfl)
  have up : ∀ {p : Prop}, bOf p = true → p := fun {p} h => by
    refine Classical.byContradiction fun z => ?_
    rw [bOf_false z] at h
    cases h
  rcases loop with ⟨h, z', _, hf⟩ | ⟨h, ε', hf⟩
  · rw [bOf_true fun t ht => up (h t ht)]
    exact run_of rfl (exs_cons (ex_set e1 rfl) (exs_cons (ex_for (ds := [.int n]) rfl (itD_rng1 (by omega)) hf) (exs_ret (ex_ret rfl)))) rfl
  · rw [bOf_false fun z => h fun t ht => bOf_true (z t ht)]
    exact run_of rfl (exs_cons (ex_set e1 rfl) (exs_ret (ex_for (ds := [.int n]) rfl (itD_rng1 (by omega)) hf))) rfl
noncomputable def f_ll : Fn := rF [] 2 3 b_ll
theorem f_ll_eq {n e f : Nat} {w : Nat → Int} {U : Nat → Nat → Int} {B : Int} (hn : n ≤ 1000000) (hw : ∀ s, s < n → Sm e (w s)) (hU : ∀ s g, s < n → g < n → Sm f (U s g)) (hB : Sm f B) (he : e + f ≤ 1000000) :
    f_ll [.lst (vec n fun s => .int (w s)), whl n U B] = some (.sh (.bl (bOf (∀ t, t < n → (vec n fun s => w s * U s t).sum = w t * B)))) := rF_eq (r_ll hn hw hU hB he)
def w_fp : List S := [.ifS (.cmp .ne (.bin .mul (.ix (.var 0) (.var 2)) (.ix (.ix (.ix (.var 1) (.con (.int 0))) (.var 2)) (.var 3))) (.bin .mul (.ix (.var 0) (.var 3)) (.ix (.ix (.ix (.var 1) (.con (.int 0))) (.var 3)) (.var 2)))) [.ret (.tup [(.var 2), (.var 3)])] []]
def b_fp : List S := [.forS (.one 2) .rng1 [(.b1 .len (.var 0))] [.forS (.one 3) .rng2 [(.bin .add (.var 2) (.con (.int 1))), (.b1 .len (.var 0))] w_fp], .ret (.con .non)]
theorem r_fp {n e f : Nat} {w : Nat → Int} {U : Nat → Nat → Int} {B : Int} (hn : n ≤ 1000000) (hw : ∀ s, s < n → Sm e (w s)) (hU : ∀ s g, s < n → g < n → Sm f (U s g)) (he : e + f ≤ 1000000) :
    ∃ d, PairIs n (fun s t => bOf (¬ w s * U s t = w t * U t s)) d ∧ run [] 0 2 b_fp [.lst (vec n fun s => .int (w s)), whl n U B] = some (.sh d) := by
  have hl := len_con (k := false) (n := n) (f := fun s => .int (w s))
  have hx : ∀ s, s < n → ixD (.lst (vec n fun s => .int (w s))) (.int (s : Nat)) = some (.int (w s)) := fun s hs => lst_ix hs
  have hy := whl_ix (n := n) (U := U) (B := B)
  rw [show con false (vec n fun s => D.int (w s)) = .lst (vec n fun s => D.int (w s)) from rfl] at hl
  generalize D.lst (vec n fun s => .int (w s)) = X at hl hx
  generalize whl n U B = Y at hy
  have hlen : ∀ {z2 z3}, ev [] (.b1 .len (.var 0)) [some (.sh X), some (.sh Y), z2, z3] = some (.sh (.int n), [some (.sh X), some (.sh Y), z2, z3]) := fun {z2 z3} => ev_b1 (d := X) rfl hl
  have hm : ∀ s t, s < n → t < n → binD .mul (.int (w s)) (.int (U s t)) = some (.sh (.int (w s * U s t))) := fun s t hs ht => by
    have ok : mulOk (w s) (U s t) := mulOk_of (hw s hs) (hU s t hs ht) (by omega)
    simp only [binD, if_pos ok]
  have loop := pair_loop (G := []) (g := 0) (i := 2) (j := 3) (n := n) (src := [(.bin .add (.var 2) (.con (.int 1))), (.b1 .len (.var 0))]) (w := w_fp) (P := fun s t => bOf (¬ w s * U s t = w t * U t s)) (St := fun z2 z3 => [some (.sh X), some (.sh Y), z2, z3]) (by omega)
    (fun z4 z5 s h4 h5 => by rcases h4 with rfl | ⟨d, rfl⟩ <;> rfl)
    (fun s z5 t h5 => by rcases h5 with rfl | ⟨d, rfl⟩ <;> rfl)
    (fun s z5 hs h5 => evs_cons (d := .int ((s + 1 : Nat) : Int)) (ev_bin (d1 := .int s) (d2 := .int 1) rfl rfl rfl) (evs_cons hlen evs_nil))
    (fun s t hst ht => by
      have hs : s < n := by omega
      have hc := ev_cmp (o := .ne) (G := []) (ε := [some (.sh X), some (.sh Y), some (.sh (.int s)), some (.sh (.int t))])
        (ev_bin (a := .ix (.var 0) (.var 2)) (b := .ix (.ix (.ix (.var 1) (.con (.int 0))) (.var 2)) (.var 3)) (ev_ix (d := X) rfl rfl (hx s hs)) (ev_ix (ev_ix (ev_ix (d := Y) rfl rfl hy.1) rfl (lst_ix hs)) rfl (lst_ix ht)) (hm s t hs ht))
        (ev_bin (a := .ix (.var 0) (.var 3)) (b := .ix (.ix (.ix (.var 1) (.con (.int 0))) (.var 3)) (.var 2)) (ev_ix (d := X) rfl rfl (hx t ht)) (ev_ix (ev_ix (ev_ix (d := Y) rfl rfl hy.1) rfl (lst_ix ht)) rfl (lst_ix hs)) (hm t s ht hs)) (cmpD_ne (eqD_int _ _))
      rw [bOf_eq, bOf_not] at hc
      cases hb : bOf (¬ w s * U s t = w t * U t s) with
      | true =>
        rw [hb] at hc
        rw [if_pos rfl]
        refine exs_ret (ex_ifT hc (exs_ret (ex_ret (x := .sh (.tup [.int s, .int t])) ?_)))
        simp [run, exs, ex, ev, evs, evT, gt, st, put, putR, kill, unal, frz, peek, peekH, asT, flatT, flatT_d, toDs_d, waits, calm, calms, cmpD, binD, negD, notD, isD, isiD, b2D, b1D, B1.deep, callD, fin, lenOk, sizeLine_eq, asg, asgs, itD, items, plainW, wipeE, back, locate, listAt, T.get, T.put, T.toD, T.toDs, dAt, isData, ixR, ixD, eqD_int, atI_nat]
      | false =>
        rw [hb] at hc
        rw [if_neg Bool.false_ne_true]
        exact exs_cons (ex_ifF hc exs_nil) exs_nil)
    (z4 := none) (z5 := none) (.inl rfl) (.inl rfl)
  have hn62 : itD .rng1 [.int n] = some (vec n fun k => .int k) := itD_rng1 (by omega)
  rcases loop with ⟨d, ε', hd, hf⟩ | ⟨hd, z4', z5', hf⟩
  · exact ⟨d, hd, run_of rfl (exs_ret (ex_for (evs_cons hlen evs_nil) hn62 hf)) rfl⟩
  · exact ⟨.non, hd, run_of rfl (exs_cons (ex_for (evs_cons hlen evs_nil) hn62 hf) (exs_ret (ex_ret rfl))) rfl⟩
noncomputable def f_fp : Fn := rF [] 2 2 b_fp
theorem f_fp_eq {n e f : Nat} {w : Nat → Int} {U : Nat → Nat → Int} {B : Int} (hn : n ≤ 1000000) (hw : ∀ s, s < n → Sm e (w s)) (hU : ∀ s g, s < n → g < n → Sm f (U s g)) (he : e + f ≤ 1000000) :
    ∃ d, PairIs n (fun s t => bOf (¬ w s * U s t = w t * U t s)) d ∧ f_fp [.lst (vec n fun s => .int (w s)), whl n U B] = some (.sh d) := by
  obtain ⟨d, h1, h2⟩ := r_fp (B := B) hn hw hU he
  exact ⟨d, h1, rF_eq h2⟩
/-! ### _law_lists -/
def b_lists : List S := [.ifS (.or (.isi (.var 0) .list) (.isi (.var 0) .tuple)) [.ret (.lc (.call 0 [(.var 1)]) (.one 1) .seq [(.var 0)] [] [1])] [], .ret (.var 0)]
/-- as an item -/
def tR : R → Option T
  | .sh d => some (.d d)
  | .fr ts => some (.l ts)
  | .pt _ _ => none
theorem r_lists_int (self : Fn) (i : Int) : run [self] 0 1 b_lists [.int i] = some (.sh (.int i)) := by simp [run, exs, ex, ev, evs, evT, gt, st, put, putR, kill, unal, frz, peek, peekH, asT, flatT, flatT_d, toDs_d, waits, calm, calms, cmpD, binD, negD, notD, isD, isiD, b2D, b1D, B1.deep, callD, fin, lenOk, sizeLine_eq, asg, asgs, itD, items, plainW, wipeE, back, locate, listAt, T.get, T.put, T.toD, T.toDs, dAt, isData, ixR, ixD, eqD_int, atI_nat, b_lists]
theorem r_lists_step {self : Fn} (k : Bool) {n : Nat} (hn : n ≤ 1000000) {x : Nat → D} {t : Nat → T} (h : ∀ i, i < n → ∃ r, self [x i] = some r ∧ tR r = some (t i)) : run [self] 0 1 b_lists [con k (vec n x)] = some (.fr (vec n t)) := by
  have hk : (k = false → isiD (con k (vec n x)) .list = some true) ∧ (k = true → isiD (con k (vec n x)) .list = some false ∧ isiD (con k (vec n x)) .tuple = some true) := by
    cases k
    · exact ⟨fun _ => rfl, fun h => by cases h⟩
    · exact ⟨fun h => (by cases h), fun _ => ⟨rfl, rfl⟩⟩
  have hit := itD_con (k := k) (ds := vec n x)
  generalize con k (vec n x) = X at hk hit
  have t1 : ev [self] (.or (.isi (.var 0) .list) (.isi (.var 0) .tuple)) [some (.sh X), none] = some (.sh (.bl true), [some (.sh X), none]) := by
    cases k with
    | false => exact ev_orT (ev_isi (d := X) rfl (hk.1 rfl))
    | true => exact ev_orF (ev_isi (d := X) rfl (hk.2 rfl).1) (ev_isi (d := X) rfl (hk.2 rfl).2)
  refine run_of rfl (exs_ret (ex_ifT t1 (exs_ret (ex_ret (ev_map (ds := [X]) (ε1 := [some (.sh X), none]) t rfl hit rfl (by omega) (fun i hi => ?_) rfl))))) rfl
  obtain ⟨r, h1, h2⟩ := h i hi
  refine ⟨[some (.sh X), some (.sh (x i))], r, rfl, ev_call (evs_cons rfl evs_nil) rfl h1, ?_, rfl, rfl⟩
  cases r with
  | sh d => rw [← Option.some.inj h2]; rfl
  | fr ts => rw [← Option.some.inj h2]; rfl
  | pt j π => cases h2
noncomputable def f_lists0 : Fn := rF [fun _ => none] 1 1 b_lists
noncomputable def f_lists1 : Fn := rF [f_lists0] 1 1 b_lists
noncomputable def f_lists2 : Fn := rF [f_lists1] 1 1 b_lists
noncomputable def f_lists : Fn := rF [f_lists2] 1 1 b_lists
theorem f_lists_mat (k2 k3 k4 : Bool) {n : Nat} (hn : n ≤ 1000000) (M : Nat → Nat → Rat) : f_lists [mat k2 k3 k4 n M] = some (.fr (vec n fun s => .l (vec n fun g => .l [.d (.int (M s g).num), .d (.int (M s g).den)]))) := by
  refine rF_eq (r_lists_step k2 hn fun s _ => ⟨_, rF_eq (r_lists_step k3 hn (t := fun g => .l [.d (.int (M s g).num), .d (.int (M s g).den)]) fun g _ => ⟨_, rF_eq (n := 0) (r := .fr [.d (.int (M s g).num), .d (.int (M s g).den)]) ?_, rfl⟩), rfl⟩)
  have := r_lists_step (self := f_lists0) k4 (n := 2) (by decide) (x := fun i => .int (if i = 0 then (M s g).num else (M s g).den)) (t := fun i => .d (.int (if i = 0 then (M s g).num else (M s g).den))) fun i _ => ⟨_, rF_eq (r_lists_int _ _), rfl⟩
  have e : rdk k4 (M s g) = con k4 (vec 2 fun i => .int (if i = 0 then (M s g).num else (M s g).den)) := by cases k4 <;> rfl
  rw [e]
  exact this
theorem lists_data {n : Nat} {M : Nat → Nat → Rat} : D.lst (T.toDs (vec n fun s => T.l (vec n fun g => T.l [.d (.int (M s g).num), .d (.int (M s g).den)]))) = mat false false false n M := by
  rw [toDs_vec]
  unfold mat
  show D.lst _ = D.lst _
  congr 1
  refine vec_congr fun s _ => ?_
  show D.lst (T.toDs _) = D.lst _
  rw [toDs_vec]
  rfl
end PyD
set_option Elab.async false
set_option linter.all false
set_option maxRecDepth 100000
set_option maxHeartbeats 4000000
/-! Py5: fractions over one bottom; what that says of rests. -/
namespace PyD
open PySem L2

def w_wh : List S := [.set 1 (.bin .mul (.bin .fdiv (.var 1) (.call 0 [(.var 1), (.ix (.var 3) (.con (.int 1)))])) (.ix (.var 3) (.con (.int 1))))]
def b_wh : List S := [.set 1 (.con (.int 1)), .forS (.one 2) .seq [(.var 0)] [.forS (.one 3) .seq [(.var 2)] w_wh], .ret (.lst [(.lc (.lc (.bin .mul (.ix (.var 3) (.con (.int 0))) (.bin .fdiv (.var 1) (.ix (.var 3) (.con (.int 1))))) (.one 3) .seq [(.var 2)] [] [3]) (.one 2) .seq [(.var 0)] [] [2]), (.var 1)])]
theorem rdk_ix {k : Bool} {q : Rat} : ixD (rdk k q) (.int 0) = some (.int q.num) ∧ ixD (rdk k q) (.int 1) = some (.int q.den) := by cases k <;> exact ⟨rfl, rfl⟩
theorem lcm_step {B d : Int} (hB : 0 < B) (hd : 0 < d) : 0 < B.fdiv ((Nat.gcd B.natAbs d.natAbs : Nat) : Int) * d ∧ B ∣ B.fdiv ((Nat.gcd B.natAbs d.natAbs : Nat) : Int) * d ∧ d ∣ B.fdiv ((Nat.gcd B.natAbs d.natAbs : Nat) : Int) * d ∧ (B.fdiv ((Nat.gcd B.natAbs d.natAbs : Nat) : Int)).natAbs ≤ B.natAbs := by
  have hg : 0 < Nat.gcd B.natAbs d.natAbs := Nat.gcd_pos_of_pos_left _ (by omega)
  generalize hG : Nat.gcd B.natAbs d.natAbs = g at hg
  have d1 : (g : Int) ∣ B := by
    rw [← hG]
    exact Int.ofNat_dvd_left.mpr (Nat.gcd_dvd_left _ _)
  have d2 : (g : Int) ∣ d := by
    rw [← hG]
    exact Int.ofNat_dvd_left.mpr (Nat.gcd_dvd_right _ _)
  obtain ⟨x, hx⟩ := d1
  obtain ⟨y, hy⟩ := d2
  have hq : B.fdiv (g : Int) = x := by
    rw [hx, Int.mul_comm, Int.mul_fdiv_cancel _ (by omega)]
  rw [hq]
  have xp : 0 < x := by
    rcases Int.lt_or_le 0 x with h | h
    · exact h
    · have : (g : Int) * x ≤ 0 := Int.mul_nonpos_of_nonneg_of_nonpos (by omega) h
      omega
  refine ⟨Int.mul_pos xp hd, ⟨y, ?_⟩, ⟨x, Int.mul_comm _ _⟩, ?_⟩
  · rw [hx, hy, ← Int.mul_assoc, Int.mul_comm x]
  · rw [hx, Int.natAbs_mul]
    exact Nat.le_mul_of_pos_left _ (by simpa using hg)
theorem wh_row {X row : W} {n e c : Nat} {f : Nat → Rat} {k4 : Bool} (hf : ∀ g, g < n → Bd e (f g)) (he : e ≤ 8990) {B : Int} (hB : 0 < B) (hc : Sm c B) (hbig : c + e * n ≤ 90000000) {z : Option W} (hz : Sl z) :
    ∃ B' z', 0 < B' ∧ Sm (c + e * n) B' ∧ B ∣ B' ∧ (∀ g, g < n → ((f g).den : Int) ∣ B') ∧ Sl z' ∧ forF (exs [f_gcd] 0 w_wh) (.one 3) (vec n fun g => rdk k4 (f g)) [some X, some (.sh (.int B)), some row, z] = some (.nx, [some X, some (.sh (.int B')), some row, z']) := by
  obtain ⟨ε', hfor, B', z', h1, h2, h3, h4, h5, rfl⟩ := forF_inv (body := exs [f_gcd] 0 w_wh) (tg := .one 3) (its := vec n fun g => rdk k4 (f g)) (fun k ε => ∃ B' z', 0 < B' ∧ Sm (c + e * k) B' ∧ B ∣ B' ∧ (∀ g, g < k → ((f g).den : Int) ∣ B') ∧ Sl z' ∧ ε = [some X, some (.sh (.int B')), some row, z']) (by
    rintro k d ε hd ⟨B', z', h1, h2, h3, h4, h5, rfl⟩
    have hk : k < n := by
      rcases Nat.lt_or_ge k n with l | l
      · exact l
      · rw [List.getElem?_eq_none (by rw [vec_length]; exact l)] at hd; cases hd
    rw [vec_get hk] at hd
    cases hd
    have hq := hf k hk
    have hden := den_pos' (f k)
    obtain ⟨l1, l2, l3, l4⟩ := lcm_step h1 hden
    have hge : e * (k + 1) ≤ e * n := Nat.mul_le_mul_left _ (by omega)
    have hge' : e * (k + 1) = e * k + e := Nat.mul_succ _ _
    have dv : divOk B' ((Nat.gcd B'.natAbs ((f k).den : Int).natAbs : Nat) : Int) := divOk_of (gcd_ne (by omega)) (Sm.gcd (by omega) hq.2) (by omega)
    have s1 : Sm (c + e * k) (B'.fdiv ((Nat.gcd B'.natAbs ((f k).den : Int).natAbs : Nat) : Int)) := h2.le l4
    have mo : mulOk (B'.fdiv ((Nat.gcd B'.natAbs ((f k).den : Int).natAbs : Nat) : Int)) ((f k).den : Int) := mulOk_of s1 hq.2 (by omega)
    have gq := f_gcd_eq B' ((f k).den : Int)
    refine ⟨[some X, some (.sh (.int B')), some row, some (.sh (rdk k4 (f k)))], [some X, some (.sh (.int (B'.fdiv ((Nat.gcd B'.natAbs ((f k).den : Int).natAbs : Nat) : Int) * ((f k).den : Int)))), some row, some (.sh (rdk k4 (f k)))], by rcases h5 with rfl | ⟨d, rfl⟩ <;> rfl, ?_, _, _, l1, ?_, Int.dvd_trans h3 l2, fun g hg => ?_, .inr ⟨_, rfl⟩, rfl⟩
    · have i1 : ev [f_gcd] (.ix (.var 3) (.con (.int 1))) [some X, some (.sh (.int B')), some row, some (.sh (rdk k4 (f k)))] = some (.sh (.int (f k).den), [some X, some (.sh (.int B')), some row, some (.sh (rdk k4 (f k)))]) := ev_ix rfl rfl rdk_ix.2
      refine exs_cons (ex_set (ev_bin (ev_bin (d1 := .int B') rfl (ev_call (evs_cons rfl (evs_cons i1 evs_nil)) rfl gq) (r := .sh (.int (B'.fdiv ((Nat.gcd B'.natAbs ((f k).den : Int).natAbs : Nat) : Int)))) ?_) i1 (r := .sh (.int (B'.fdiv ((Nat.gcd B'.natAbs ((f k).den : Int).natAbs : Nat) : Int) * ((f k).den : Int)))) ?_) rfl) exs_nil
      · simp only [binD, if_pos dv]
      · simp only [binD, if_pos mo]
    · exact (s1.mul hq.2).mono (by omega)
    · rcases Nat.lt_succ_iff_lt_or_eq.mp hg with w | w
      · exact Int.dvd_trans (h4 g w) l2
      · rw [w]; exact l3) (ε := [some X, some (.sh (.int B)), some row, z]) ⟨B, z, hB, by simpa using hc, Int.dvd_refl _, fun g hg => by omega, hz, rfl⟩
  rw [vec_length] at h2 h4
  exact ⟨B', z', h1, h2, h3, h4, h5, hfor⟩
theorem r_wh {n e : Nat} {M : Nat → Nat → Rat} (k2 k3 k4 : Bool) (hn : n ≤ 100) (hM : ∀ s g, s < n → g < n → Bd e (M s g)) (he : e ≤ 8900) :
    ∃ B : Int, 0 < B ∧ Sm (1 + e * n * n) B ∧ (∀ s g, s < n → g < n → ((M s g).den : Int) ∣ B) ∧ run [f_gcd] 0 3 b_wh [mat k2 k3 k4 n M] = some (.fr [.d (.lst (vec n fun s => .lst (vec n fun g => .int ((M s g).num * (B / (M s g).den))))), .d (.int B)]) := by
  have hbig : e * n * n ≤ 8900 * 100 * 100 := Nat.mul_le_mul (Nat.mul_le_mul he hn) hn
  have hrow : ∀ s, s < n → (con k3 (vec n fun g => rdk k4 (M s g))) = con k3 (vec n fun g => rdk k4 (M s g)) := fun _ _ => rfl
  have hit : itD .seq [mat k2 k3 k4 n M] = some (vec n fun s => con k3 (vec n fun g => rdk k4 (M s g))) := by unfold mat; rw [itD_con]
  generalize mat k2 k3 k4 n M = X at hit
  obtain ⟨ε', hfor, B, z2, z3, h1, h2, h3, h4, h5, rfl⟩ := forF_inv (body := exs [f_gcd] 0 [.forS (.one 3) .seq [(.var 2)] w_wh]) (tg := .one 2) (its := vec n fun s => con k3 (vec n fun g => rdk k4 (M s g))) (fun k ε => ∃ B z2 z3, 0 < B ∧ Sm (1 + e * n * k) B ∧ (∀ s g, s < k → g < n → ((M s g).den : Int) ∣ B) ∧ Sl z2 ∧ Sl z3 ∧ ε = [some (.sh X), some (.sh (.int B)), z2, z3]) (by
    rintro k d ε hd ⟨B, z2, z3, h1, h2, h3, h4, h5, rfl⟩
    have hk : k < n := by
      rcases Nat.lt_or_ge k n with l | l
      · exact l
      · rw [List.getElem?_eq_none (by rw [vec_length]; exact l)] at hd; cases hd
    rw [vec_get hk] at hd
    cases hd
    have hge : e * n * (k + 1) ≤ e * n * n := Nat.mul_le_mul_left _ (by omega)
    have hge' : e * n * (k + 1) = e * n * k + e * n := Nat.mul_succ _ _
    obtain ⟨B', z', l1, l2, l3, l4, l5, l6⟩ := wh_row (X := .sh X) (row := .sh (con k3 (vec n fun g => rdk k4 (M k g)))) (k4 := k4) (f := M k) (fun g hg => hM k g hk hg) (by omega) h1 h2 (by omega) h5
    refine ⟨[some (.sh X), some (.sh (.int B)), some (.sh (con k3 (vec n fun g => rdk k4 (M k g)))), z3], _, by rcases h4 with rfl | ⟨d, rfl⟩ <;> rfl, exs_cons (ex_for (ds := [con k3 (vec n fun g => rdk k4 (M k g))]) rfl itD_con l6) exs_nil, B', _, z', l1, l2.mono (by omega), fun s g hs hg => ?_, .inr ⟨_, rfl⟩, l5, rfl⟩
    rcases Nat.lt_succ_iff_lt_or_eq.mp hs with w | w
    · exact Int.dvd_trans (h3 s g w hg) l3
    · rw [w]; exact l4 g hg) (ε := [some (.sh X), some (.sh (.int 1)), none, none]) ⟨1, none, none, by decide, by simp; unfold Sm; decide, fun s g hs => by omega, .inl rfl, .inl rfl, rfl⟩
  rw [vec_length] at h2 h3
  refine ⟨B, h1, h2, h3, ?_⟩
  have hin : ∀ (s : Nat) (z3 : Option W), s < n → Sl z3 → ev [f_gcd] (.lc (.bin .mul (.ix (.var 3) (.con (.int 0))) (.bin .fdiv (.var 1) (.ix (.var 3) (.con (.int 1))))) (.one 3) .seq [(.var 2)] [] [3]) [some (.sh X), some (.sh (.int B)), some (.sh (con k3 (vec n fun g => rdk k4 (M s g)))), z3] = some (.fr (vec n fun g => .d (.int ((M s g).num * (B / (M s g).den)))), [some (.sh X), some (.sh (.int B)), some (.sh (con k3 (vec n fun g => rdk k4 (M s g)))), z3]) := fun s z3 hs hz => by
    refine ev_map (ds := [con k3 (vec n fun g => rdk k4 (M s g))]) (ε1 := [some (.sh X), some (.sh (.int B)), some (.sh (con k3 (vec n fun g => rdk k4 (M s g)))), z3]) _ rfl itD_con (by rcases hz with rfl | ⟨d, rfl⟩ <;> rfl) (by omega) (fun g hg => ⟨[some (.sh X), some (.sh (.int B)), some (.sh (con k3 (vec n fun g => rdk k4 (M s g)))), some (.sh (rdk k4 (M s g)))], .sh (.int ((M s g).num * (B / (M s g).den))), by rcases hz with rfl | ⟨d, rfl⟩ <;> rfl, ?_, rfl, rfl, by rcases hz with rfl | ⟨d, rfl⟩ <;> rfl⟩) (by rcases hz with rfl | ⟨d, rfl⟩ <;> rfl)
    have hq := hM s g hs hg
    have hd := den_pos' (M s g)
    have dv : divOk B ((M s g).den : Int) := divOk_of (by omega) hq.2 (by omega)
    have hfd : B.fdiv ((M s g).den : Int) = B / ((M s g).den : Int) := fdiv_pos (by omega)
    have s1 : Sm (1 + e * n * n) (B / ((M s g).den : Int)) := h2.le (by
      have := Int.natAbs_ediv_of_dvd (h3 s g hs hg)
      rw [this]
      exact Nat.div_le_self _ _)
    have mo : mulOk (M s g).num (B / ((M s g).den : Int)) := mulOk_of hq.1 s1 (by omega)
    exact ev_bin (ev_ix (d := rdk k4 (M s g)) (i := 0) rfl rfl rdk_ix.1) (ev_bin (d1 := .int B) rfl (ev_ix (d := rdk k4 (M s g)) (i := 1) rfl rfl rdk_ix.2) (r := .sh (.int (B / ((M s g).den : Int)))) (by simp only [binD, if_pos dv, hfd])) (by simp only [binD, if_pos mo])
  have hout : ev [f_gcd] (.lc (.lc (.bin .mul (.ix (.var 3) (.con (.int 0))) (.bin .fdiv (.var 1) (.ix (.var 3) (.con (.int 1))))) (.one 3) .seq [(.var 2)] [] [3]) (.one 2) .seq [(.var 0)] [] [2]) [some (.sh X), some (.sh (.int B)), z2, z3] = some (.fr (vec n fun s => .l (vec n fun g => .d (.int ((M s g).num * (B / (M s g).den))))), [some (.sh X), some (.sh (.int B)), z2, z3]) :=
    ev_map (ds := [X]) (ε1 := [some (.sh X), some (.sh (.int B)), z2, z3]) _ rfl hit (by rcases h4 with rfl | ⟨d, rfl⟩ <;> rfl) (by omega) (fun s hs => ⟨[some (.sh X), some (.sh (.int B)), some (.sh (con k3 (vec n fun g => rdk k4 (M s g)))), z3], _, by rcases h4 with rfl | ⟨d, rfl⟩ <;> rfl, hin s z3 hs h5, rfl, rfl, by rcases h4 with rfl | ⟨d, rfl⟩ <;> rfl⟩) (by rcases h4 with rfl | ⟨d, rfl⟩ <;> rfl)
  have hfl : T.toDs (vec n fun s => T.l (vec n fun g => T.d (.int ((M s g).num * (B / (M s g).den))))) = vec n fun s => D.lst (vec n fun g => .int ((M s g).num * (B / (M s g).den))) := by
    rw [toDs_vec]
    refine vec_congr fun s _ => ?_
    show D.lst (T.toDs _) = _
    rw [toDs_vec]
    rfl
  have hlst : ev [f_gcd] (.lst [(.lc (.lc (.bin .mul (.ix (.var 3) (.con (.int 0))) (.bin .fdiv (.var 1) (.ix (.var 3) (.con (.int 1))))) (.one 3) .seq [(.var 2)] [] [3]) (.one 2) .seq [(.var 0)] [] [2]), (.var 1)]) [some (.sh X), some (.sh (.int B)), z2, z3] = some (.fr [.d (.lst (vec n fun s => .lst (vec n fun g => .int ((M s g).num * (B / (M s g).den))))), .d (.int B)], [some (.sh X), some (.sh (.int B)), z2, z3]) := by
    have := evs_fr (es := [.var 1]) hout (evs_cons (d := .int B) rfl evs_nil)
    rw [hfl] at this
    rw [ev.eq_def]
    simp only [this]
    rw [if_pos (show lenOk _ from by unfold lenOk; rw [sizeLine_eq]; exact (by decide : (2 : Nat) ≤ 16777216))]
    rfl
  exact run_of rfl (exs_cons (ex_set (x := .sh (.int 1)) rfl rfl) (exs_cons (ex_for (ds := [X]) rfl hit hfor) (exs_ret (ex_ret hlst)))) rfl
noncomputable def f_wh : Fn := rF [f_gcd] 1 3 b_wh
end PyD
set_option Elab.async false
set_option linter.all false
set_option maxRecDepth 100000
set_option maxHeartbeats 4000000
/-! Py6: a rest by fractions and by whole numbers is the same. -/
namespace PyD
open PySem L2

/-- the whole number for a fraction over B -/
def Uw (M : Nat → Nat → Rat) (B : Int) (s g : Nat) : Int := (M s g).num * (B / (M s g).den)
theorem divInt_scale {a b k : Int} (hb : b ≠ 0) (hk : k ≠ 0) : Rat.divInt (a * k) (b * k) = Rat.divInt a b :=
  (Rat.divInt_eq_divInt_iff (Int.mul_ne_zero hb hk) hb).mpr (by rw [Int.mul_assoc, Int.mul_comm k b])
theorem Uw_is {M : Nat → Nat → Rat} {B : Int} {s g : Nat} (hB : 0 < B) (h : ((M s g).den : Int) ∣ B) : M s g = Rat.divInt (Uw M B s g) B := by
  obtain ⟨x, hx⟩ := h
  have hd := den_pos' (M s g)
  have hq : B / ((M s g).den : Int) = x := by rw [hx, Int.mul_ediv_cancel_left _ (by omega)]
  have hx0 : x ≠ 0 := by rintro rfl; rw [Int.mul_zero] at hx; omega
  unfold Uw
  rw [hq]
  conv => rhs; rw [hx]
  rw [divInt_scale (by omega) hx0, Rat.num_divInt_den]
theorem sum_divInt {n : Nat} {f : Nat → Int} {D : Int} (hD : D ≠ 0) : sumR (vec n fun s => Rat.divInt (f s) D) = Rat.divInt (vec n f).sum D := by
  induction n with
  | zero =>
    simp only [vec_zero, sumR, List.foldl_nil, List.sum_nil]
    rw [Rat.zero_divInt]
  | succ n ih =>
    rw [vec_succ, vec_succ, List.sum_append]
    unfold sumR at ih ⊢
    rw [List.foldl_append, ih]
    simp only [List.foldl_cons, List.foldl_nil, List.sum_cons, List.sum_nil, Int.add_zero]
    rw [Rat.divInt_add_divInt _ _ hD hD]
    rw [← Int.add_mul, divInt_scale hD hD]
theorem after_is {n : Nat} {w : Nat → Int} {M : Nat → Nat → Rat} {B : Int} {g : Nat} (hB : 0 < B) (hT : (vec n w).sum ≠ 0) (hd : ∀ s, s < n → ((M s g).den : Int) ∣ B) : after n (shr n w) M g = Rat.divInt (vec n fun s => w s * Uw M B s g).sum ((vec n w).sum * B) := by
  unfold after
  rw [← sum_divInt (Int.mul_ne_zero hT (by omega))]
  congr 1
  refine vec_congr fun s hs => ?_
  conv => lhs; rw [Uw_is hB (hd s hs)]
  unfold shr
  rw [Rat.divInt_mul_divInt]
theorem rest_iff {n : Nat} {w : Nat → Int} {M : Nat → Nat → Rat} {B : Int} (hB : 0 < B) (hT : (vec n w).sum ≠ 0) (hd : ∀ s g, s < n → g < n → ((M s g).den : Int) ∣ B) :
    (∀ g, g < n → after n (shr n w) M g = shr n w g) ↔ ∀ g, g < n → (vec n fun s => w s * Uw M B s g).sum = w g * B := by
  have key : ∀ g, g < n → (after n (shr n w) M g = shr n w g ↔ (vec n fun s => w s * Uw M B s g).sum = w g * B) := fun g hg => by
    rw [after_is hB hT fun s hs => hd s g hs hg]
    unfold shr
    rw [← divInt_scale (a := w g) hT (by omega : B ≠ 0)]
    have hTB : (vec n w).sum * B ≠ 0 := Int.mul_ne_zero hT (by omega)
    rw [Rat.divInt_eq_divInt_iff hTB hTB]
    exact ⟨fun h => Int.eq_of_mul_eq_mul_right hTB h, fun h => by rw [h]⟩
  exact ⟨fun h g hg => (key g hg).mp (h g hg), fun h g hg => (key g hg).mpr (h g hg)⟩
theorem pair_iff {n : Nat} {w : Nat → Int} {M : Nat → Nat → Rat} {B : Int} (hB : 0 < B) (hT : (vec n w).sum ≠ 0) (hd : ∀ s g, s < n → g < n → ((M s g).den : Int) ∣ B) {s t : Nat} (hs : s < n) (ht : t < n) :
    (shr n w s * M s t = shr n w t * M t s) ↔ w s * Uw M B s t = w t * Uw M B t s := by
  have hTB : (vec n w).sum * B ≠ 0 := Int.mul_ne_zero hT (by omega)
  have e1 : shr n w s * M s t = Rat.divInt (w s * Uw M B s t) ((vec n w).sum * B) := by
    conv => lhs; rw [Uw_is hB (hd s t hs ht)]
    unfold shr
    rw [Rat.divInt_mul_divInt]
  have e2 : shr n w t * M t s = Rat.divInt (w t * Uw M B t s) ((vec n w).sum * B) := by
    conv => lhs; rw [Uw_is hB (hd t s ht hs)]
    unfold shr
    rw [Rat.divInt_mul_divInt]
  rw [e1, e2, Rat.divInt_eq_divInt_iff hTB hTB]
  exact ⟨fun h => Int.eq_of_mul_eq_mul_right hTB h, fun h => by rw [h]⟩
theorem PairIs.congr {n : Nat} {P Q : Nat → Nat → Bool} {d : D} (h : PairIs n P d) (e : ∀ s t, s < t → t < n → P s t = Q s t) : PairIs n Q d := by
  rcases h with ⟨s, t, h1, h2, h3, h4, h5⟩ | ⟨h1, h2⟩
  · exact .inl ⟨s, t, h1, h2, by rw [← e s t h1 h2]; exact h3, fun s' t' g1 g2 g3 => by rw [← e s' t' g1 g2]; exact h4 s' t' g1 g2 g3, h5⟩
  · exact .inr ⟨fun s t g1 g2 => by rw [← e s t g1 g2]; exact h1 s t g1 g2, h2⟩
theorem f_wh_eq {n e : Nat} {M : Nat → Nat → Rat} (k2 k3 k4 : Bool) (hn : n ≤ 100) (hM : ∀ s g, s < n → g < n → Bd e (M s g)) (he : e ≤ 8900) :
    ∃ B : Int, 0 < B ∧ Sm (1 + e * n * n) B ∧ (∀ s g, s < n → g < n → ((M s g).den : Int) ∣ B) ∧ (∀ s g, s < n → g < n → Sm (e + (1 + e * n * n)) (Uw M B s g)) ∧ ∃ ts, f_wh [mat k2 k3 k4 n M] = some (.fr ts) ∧ D.lst (T.toDs ts) = whl n (Uw M B) B := by
  obtain ⟨B, h1, h2, h3, h4⟩ := r_wh k2 k3 k4 hn hM he
  refine ⟨B, h1, h2, h3, fun s g hs hg => ?_, _, rF_eq h4, rfl⟩
  refine (hM s g hs hg).1.mul (h2.le ?_)
  rw [Int.natAbs_ediv_of_dvd (h3 s g hs hg)]
  exact Nat.div_le_self _ _
/-! ### weights that have no common divisor -/
theorem cop_pow {a b : Int} (h : Nat.gcd a.natAbs b.natAbs = 1) (k l : Nat) : Nat.gcd (a ^ k).natAbs (b ^ l).natAbs = 1 := by
  rw [Int.natAbs_pow, Int.natAbs_pow]
  exact Nat.Coprime.pow k l h
end PyD
set_option Elab.async false
set_option linter.all false
set_option maxRecDepth 100000
set_option maxHeartbeats 4000000
/-! Py7: the law's making: cells, digits. -/
namespace PyD
open PySem L2

theorem fmod_range {a b : Int} (h : 0 < b) : 0 ≤ a.fmod b ∧ a.fmod b < b := by
  rw [Int.fmod_eq_emod_of_nonneg _ (by omega)]
  exact ⟨Int.emod_nonneg _ (by omega), Int.emod_lt_of_pos _ h⟩
theorem Sm.of_range {n : Nat} {i : Int} {k : Nat} (h0 : 0 ≤ i) (h1 : i < k) (hk : k ≤ 2 ^ n) : Sm n i := by
  unfold Sm
  omega
theorem bin_mod {a b : Int} (h : b ≠ 0) : binD .mod (.int a) (.int b) = some (.sh (.int (a.fmod b))) := by simp [binD, h]
theorem bin_mul {a b : Int} {n m : Nat} (h : Sm n a) (g : Sm m b) (l : n + m ≤ 100000000 := by omega) : binD .mul (.int a) (.int b) = some (.sh (.int (a * b))) := by
  have ok := mulOk_of h g l
  simp only [binD, if_pos ok]
theorem bin_div {a b : Int} {n : Nat} (z : b ≠ 0) (h : Sm n b) (l : n < 9000 := by omega) : binD .fdiv (.int a) (.int b) = some (.sh (.int (a.fdiv b))) := by
  have ok : divOk a b := divOk_of z h l
  simp only [binD, if_pos ok]
theorem bin_add {a b : Int} : binD .add (.int a) (.int b) = some (.sh (.int (a + b))) := rfl
theorem bin_sub {a b : Int} : binD .sub (.int a) (.int b) = some (.sh (.int (a - b))) := rfl
theorem b1_int {a : Int} : b1D .int (.int a) = some (.sh (.int a)) := rfl
/-! ### _law_cell -/
def w_cell : List S := [.set 2 (.bin .mod (.b1 .int (.bin .add (.bin .mul (.var 2) (.con (.int 31))) (.bin .mod (.b1 .int (.var 3)) (.con (.int 1000003))))) (.con (.int 1000003)))]
def b_cell : List S := [.ifS (.cmp .lt (.var 1) (.b1 .len (.var 0))) [.ret (.ix (.var 0) (.var 1))] [], .set 2 (.con (.int 17)), .forS (.one 3) .seq [(.var 0)] w_cell, .ret (.bin .mod (.b1 .int (.bin .mul (.bin .mul (.bin .add (.var 2) (.con (.int 7))) (.bin .add (.var 1) (.con (.int 3)))) (.con (.int 69621)))) (.con (.int 2147483647)))]
theorem r_cell (ns : List Int) {k : Nat} (hk : k ≤ 1000) : ∃ i : Int, run [] 0 2 b_cell [.frl (ns.map .int), .int k] = some (.sh (.int i)) := by
  have hl : b1D .len (.frl (ns.map .int)) = some (.sh (.int ns.length)) := by simp [b1D, items]
  have hx : ∀ h : k < ns.length, ixD (.frl (ns.map .int)) (.int k) = some (.int ns[k]) := fun h => by
    show atI (ns.map D.int) k = _
    rw [atI_nat, List.getElem?_map, List.getElem?_eq_getElem h]
    rfl
  have hit : itD .seq [.frl (ns.map .int)] = some (ns.map .int) := rfl
  generalize D.frl (ns.map .int) = X at hl hx hit
  have hc : ev [] (.cmp .lt (.var 1) (.b1 .len (.var 0))) [some (.sh X), some (.sh (.int k)), none, none] = some (.sh (.bl (decide ((k : Int) < ns.length))), [some (.sh X), some (.sh (.int k)), none, none]) := ev_cmp (d1 := .int k) rfl (ev_b1 (d := X) rfl hl) rfl
  by_cases h : (k : Int) < ns.length
  · rw [decide_eq_true h] at hc
    exact ⟨_, run_of rfl (exs_ret (ex_ifT hc (exs_ret (ex_ret (ev_ix (d := X) (i := k) rfl rfl (hx (by omega))))))) rfl⟩
  · rw [decide_eq_false h] at hc
    obtain ⟨ε', hf, s, z, hs, _, rfl⟩ := forF_inv (body := exs [] 0 w_cell) (tg := .one 3) (its := ns.map .int) (fun _ ε => ∃ s z, Sm 20 s ∧ Sl z ∧ ε = [some (.sh X), some (.sh (.int k)), some (.sh (.int s)), z]) (by
      rintro i d ε hd ⟨s, z, hs, hz, rfl⟩
      obtain ⟨c, hc, rfl⟩ : ∃ c, c ∈ ns ∧ D.int c = d := by
        have := List.mem_of_getElem? hd
        simpa using this
      have m1 := bin_mul (a := s) (b := 31) (m := 5) hs (by unfold Sm; decide)
      refine ⟨[some (.sh X), some (.sh (.int k)), some (.sh (.int s)), some (.sh (.int c))], _, by rcases hz with rfl | ⟨d, rfl⟩ <;> rfl, exs_cons (ex_set (ev_bin (ev_b1 (d := .int (s * 31 + c.fmod 1000003)) (ev_bin (ev_bin (d1 := .int s) (d2 := .int 31) rfl rfl m1) (ev_bin (ev_b1 (d := .int c) rfl b1_int) (d2 := .int 1000003) rfl (bin_mod (by decide))) bin_add) b1_int) (d2 := .int 1000003) rfl (bin_mod (by decide))) rfl) exs_nil, _, _, ?_, .inr ⟨_, rfl⟩, rfl⟩
      have := fmod_range (a := s * 31 + c.fmod 1000003) (b := 1000003) (by decide)
      exact Sm.of_range (k := 1000003) this.1 this.2 (by decide)) (ε := [some (.sh X), some (.sh (.int k)), some (.sh (.int 17)), none]) ⟨17, none, by unfold Sm; decide, .inl rfl, rfl⟩
    have s7 : Sm 21 (s + 7) := hs.add (by unfold Sm; decide)
    have k3 : Sm 11 ((k : Int) + 3) := Sm.of_range (k := 1004) (by omega) (by omega) (by decide)
    have m1 := bin_mul s7 k3
    have m2 := bin_mul (s7.mul k3) (b := 69621) (m := 17) (by unfold Sm; decide)
    exact ⟨_, run_of rfl (exs_cons (ex_ifF hc exs_nil) (exs_cons (ex_set (x := .sh (.int 17)) rfl rfl) (exs_cons (ex_for (ds := [X]) rfl hit hf) (exs_ret (ex_ret (ev_bin (ev_b1 (d := .int ((s + 7) * (k + 3) * 69621)) (ev_bin (ev_bin (ev_bin (d1 := .int s) (d2 := .int 7) rfl rfl bin_add) (ev_bin (d1 := .int k) (d2 := .int 3) rfl rfl bin_add) m1) (d2 := .int 69621) rfl m2) b1_int) (d2 := .int 2147483647) rfl (bin_mod (by decide)))))))) rfl⟩
noncomputable def f_cell : Fn := rF [] 2 2 b_cell
theorem f_cell_eq (ns : List Int) {k : Nat} (hk : k ≤ 1000) : ∃ i : Int, f_cell [.frl (ns.map .int), .int k] = some (.sh (.int i)) := let ⟨i, h⟩ := r_cell ns hk; ⟨i, rF_eq h⟩
/-! ### _law_digits -/
def w_dig1 : List S := [.app 2 (.bin .mod (.b1 .int (.var 3)) (.var 6)), .set 3 (.bin .fdiv (.b1 .int (.var 3)) (.var 6))]
def w_dig2 : List S := [.set 4 (.bin .mod (.b1 .int (.bin .add (.bin .add (.bin .mul (.var 4) (.con (.int 48271))) (.bin .mul (.con (.int 974711)) (.var 5))) (.con (.int 12345)))) (.con (.int 2147483647))), .set 7 (.bin .mod (.b1 .int (.bin .mul (.var 4) (.bin .add (.bin .fdiv (.var 4) (.con (.int 65537))) (.con (.int 3))))) (.con (.int 2147483629))), .app 2 (.bin .mod (.bin .fdiv (.var 7) (.con (.int 19))) (.ix (.var 1) (.var 5)))]
def b_dig : List S := [.set 2 (.lst []), .set 3 (.b1 .int (.var 0)), .ifS (.cmp .ge (.var 3) (.bin .pow (.con (.int 10)) (.con (.int 18)))) [.set 3 (.bin .sub (.var 3) (.bin .pow (.con (.int 10)) (.con (.int 18)))), .forS (.one 6) .seq [(.var 1)] w_dig1, .ret (.var 2)] [], .set 4 (.bin .mod (.b1 .int (.var 3)) (.con (.int 2147483629))), .forS (.one 5) .rng1 [(.b1 .len (.var 1))] w_dig2, .ret (.var 2)]
/-- numbers below these sizes -/
def Dig (m : Nat) (sz : Nat → Int) (f : Nat → Int) : Prop := ∀ k, k < m → 0 ≤ f k ∧ f k < sz k
theorem dig_snoc {k : Nat} {sz f : Nat → Int} {v : Int} (h : Dig k sz f) (h0 : 0 ≤ v) (h1 : v < sz k) : ∃ f', Dig (k + 1) sz f' ∧ (vec k fun i => T.d (.int (f i))) ++ [T.d (.int v)] = vec (k + 1) fun i => T.d (.int (f' i)) := by
  refine ⟨fun i => if i = k then v else f i, fun i hi => ?_, ?_⟩
  · by_cases e : i = k
    · subst e; simpa using ⟨h0, h1⟩
    · simp only [e, if_false]; exact h i (by omega)
  · rw [vec_succ]
    simp only [if_true]
    congr 1
    exact vec_congr fun i hi => by rw [if_neg (by omega)]
theorem r_dig {m : Nat} {sz : Nat → Int} (cell : Int) (hm : m ≤ 1000) (hz : ∀ k, k < m → 0 < sz k ∧ sz k < 100000) : ∃ f, Dig m sz f ∧ run [] 0 6 b_dig [.int cell, .lst (vec m fun k => .int (sz k))] = some (.fr (vec m fun k => .d (.int (f k)))) := by
  have hl := len_con (k := false) (n := m) (f := fun k => .int (sz k))
  have hx : ∀ k : Nat, k < m → ixD (.lst (vec m fun k => .int (sz k))) (.int k) = some (.int (sz k)) := fun k hk => lst_ix hk
  have hit : itD .seq [.lst (vec m fun k => .int (sz k))] = some (vec m fun k => .int (sz k)) := rfl
  rw [show con false (vec m fun k => D.int (sz k)) = .lst (vec m fun k => D.int (sz k)) from rfl] at hl
  generalize D.lst (vec m fun k => .int (sz k)) = X at hl hx hit
  have ssz : ∀ k, k < m → Sm 17 (sz k) := fun k hk => Sm.of_range (k := 100000) (by have := hz k hk; omega) (hz k hk).2 (by decide)
  have s0 : ex [] 0 (.set 2 (.lst [])) [some (.sh (.int cell)), some (.sh X), none, none, none, none, none, none] = some (.nx, [some (.sh (.int cell)), some (.sh X), some (.ow []), none, none, none, none, none]) := by simp [run, exs, ex, ev, evs, evT, gt, st, put, putR, kill, unal, frz, peek, peekH, asT, flatT, flatT_d, toDs_d, waits, calm, calms, cmpD, binD, negD, notD, isD, isiD, b2D, b1D, B1.deep, callD, fin, lenOk, sizeLine_eq, asg, asgs, itD, items, plainW, wipeE, back, locate, listAt, T.get, T.put, T.toD, T.toDs, dAt, isData, ixR, ixD, eqD_int, atI_nat]
  have s1 : ex [] 0 (.set 3 (.b1 .int (.var 0))) [some (.sh (.int cell)), some (.sh X), some (.ow []), none, none, none, none, none] = some (.nx, [some (.sh (.int cell)), some (.sh X), some (.ow []), some (.sh (.int cell)), none, none, none, none]) := ex_set (ev_b1 (d := .int cell) rfl b1_int) rfl
  have pw : ∀ {ε}, ev [] (.bin .pow (.con (.int 10)) (.con (.int 18))) ε = some (.sh (.int (10 ^ 18)), ε) := fun {ε} => ev_bin (d1 := .int 10) (d2 := .int 18) rfl rfl (by
    have : (0 : Int) ≤ 18 ∧ (18 : Int) ≤ 1000000 ∧ (10 : Int).natAbs < 2 ^ 64 := by decide
    simp only [binD, if_pos this]
    rfl)
  have hc : ev [] (.cmp .ge (.var 3) (.bin .pow (.con (.int 10)) (.con (.int 18)))) [some (.sh (.int cell)), some (.sh X), some (.ow []), some (.sh (.int cell)), none, none, none, none] = some (.sh (.bl (decide (10 ^ 18 ≤ cell))), [some (.sh (.int cell)), some (.sh X), some (.ow []), some (.sh (.int cell)), none, none, none, none]) := ev_cmp (d1 := .int cell) rfl pw rfl
  have ln : ∀ {z4 z5 z6 z7 : Option W} {ts}, ev [] (.b1 .len (.var 1)) [some (.sh (.int cell)), some (.sh X), some (.ow ts), some (.sh (.int cell)), z4, z5, z6, z7] = some (.sh (.int m), [some (.sh (.int cell)), some (.sh X), some (.ow ts), some (.sh (.int cell)), z4, z5, z6, z7]) := fun {z4 z5 z6 z7 ts} => ev_b1 (d := X) rfl hl
  by_cases h : (10 ^ 18 : Int) ≤ cell
  · rw [decide_eq_true h] at hc
    obtain ⟨ε', hf, f, r, z6, hd, _, rfl⟩ := forF_inv (body := exs [] 0 w_dig1) (tg := .one 6) (its := vec m fun k => .int (sz k)) (fun k ε => ∃ f r z6, Dig k sz f ∧ Sl z6 ∧ ε = [some (.sh (.int cell)), some (.sh X), some (.ow (vec k fun i => .d (.int (f i)))), some (.sh (.int r)), none, none, z6, none]) (by
      rintro k d ε hd ⟨f, r, z6, hD, h6, rfl⟩
      have hk : k < m := by
        rcases Nat.lt_or_ge k m with l | l
        · exact l
        · rw [List.getElem?_eq_none (by rw [vec_length]; exact l)] at hd; cases hd
      rw [vec_get hk] at hd
      cases hd
      have z := hz k hk
      have rg := fmod_range (a := r) z.1
      obtain ⟨f', hD', e⟩ := dig_snoc hD rg.1 rg.2
      refine ⟨[some (.sh (.int cell)), some (.sh X), some (.ow (vec k fun i => .d (.int (f i)))), some (.sh (.int r)), none, none, some (.sh (.int (sz k))), none], [some (.sh (.int cell)), some (.sh X), some (.ow (vec (k + 1) fun i => .d (.int (f' i)))), some (.sh (.int (r.fdiv (sz k)))), none, none, some (.sh (.int (sz k))), none], by rcases h6 with rfl | ⟨d, rfl⟩ <;> rfl, ?_, f', _, _, hD', .inr ⟨_, rfl⟩, rfl⟩
      rw [← e]
      exact exs_cons (ex_app rfl (ev_bin (ev_b1 (d := .int r) rfl b1_int) (d2 := .int (sz k)) rfl (bin_mod (by omega))) rfl (by rw [vec_length]; omega)) (exs_cons (ex_set (ev_bin (ev_b1 (d := .int r) rfl b1_int) (d2 := .int (sz k)) rfl (bin_div (by omega) (ssz k hk))) rfl) exs_nil))
      (ε := [some (.sh (.int cell)), some (.sh X), some (.ow []), some (.sh (.int (cell - 10 ^ 18))), none, none, none, none]) ⟨fun _ => 0, _, none, fun k hk => by omega, .inl rfl, rfl⟩
    rw [vec_length] at hd hf
    refine ⟨f, hd, run_of rfl (exs_cons s0 (exs_cons s1 (exs_ret (ex_ifT hc (exs_cons (ex_set (ev_bin (d1 := .int cell) rfl pw bin_sub) rfl) (exs_cons (ex_for (ds := [X]) rfl hit hf) (exs_ret (ex_ret rfl)))))))) ?_⟩
    rfl
  · rw [decide_eq_false h] at hc
    obtain ⟨ε', hf, f, s, z5, z7, hd, _, _, _, rfl⟩ := forF_inv (body := exs [] 0 w_dig2) (tg := .one 5) (its := vec m fun k => .int k) (fun k ε => ∃ f s z5 z7, Dig k sz f ∧ Sm 31 s ∧ Sl z5 ∧ Sl z7 ∧ ε = [some (.sh (.int cell)), some (.sh X), some (.ow (vec k fun i => .d (.int (f i)))), some (.sh (.int cell)), some (.sh (.int s)), z5, none, z7]) (by
      rintro k d ε hd ⟨f, s, z5, z7, hD, hs, h5, h7, rfl⟩
      have hk : k < m := by
        rcases Nat.lt_or_ge k m with l | l
        · exact l
        · rw [List.getElem?_eq_none (by rw [vec_length]; exact l)] at hd; cases hd
      rw [vec_get hk] at hd
      cases hd
      have z := hz k hk
      have sk : Sm 10 (k : Int) := Sm.of_range (k := 1000) (by omega) (by omega) (by decide)
      have m1 := bin_mul hs (b := 48271) (m := 16) (by unfold Sm; decide)
      have m2 := bin_mul (a := 974711) (n := 20) (by unfold Sm; decide) sk
      generalize hs' : (s * 48271 + 974711 * (k : Int) + 12345).fmod 2147483647 = s'
      have r1 := fmod_range (a := s * 48271 + 974711 * (k : Int) + 12345) (b := 2147483647) (by decide)
      rw [hs'] at r1
      have sm' : Sm 31 s' := Sm.of_range (k := 2147483647) r1.1 r1.2 (by decide)
      have d1 := bin_div (a := s') (b := 65537) (n := 17) (by decide) (by unfold Sm; decide)
      have fd : s'.fdiv 65537 = s' / 65537 := fdiv_pos (by decide)
      have s3 : Sm 32 (s'.fdiv 65537 + 3) := Sm.of_range (k := 2147483648) (by rw [fd]; omega) (by rw [fd]; omega) (by decide)
      have m3 := bin_mul sm' s3
      generalize hq : (s' * (s'.fdiv 65537 + 3)).fmod 2147483629 = q
      have d2 := bin_div (a := q) (b := 19) (n := 5) (by decide) (by unfold Sm; decide)
      have rg := fmod_range (a := q.fdiv 19) z.1
      obtain ⟨f', hD', e⟩ := dig_snoc hD rg.1 rg.2
      refine ⟨[some (.sh (.int cell)), some (.sh X), some (.ow (vec k fun i => .d (.int (f i)))), some (.sh (.int cell)), some (.sh (.int s)), some (.sh (.int k)), none, z7], [some (.sh (.int cell)), some (.sh X), some (.ow (vec (k + 1) fun i => .d (.int (f' i)))), some (.sh (.int cell)), some (.sh (.int s')), some (.sh (.int k)), none, some (.sh (.int q))], by rcases h5 with rfl | ⟨d, rfl⟩ <;> rfl, ?_, f', s', _, _, hD', sm', .inr ⟨_, rfl⟩, .inr ⟨_, rfl⟩, rfl⟩
      rw [← e]
      refine exs_cons (ex_set (x := .sh (.int s')) (ε1 := [some (.sh (.int cell)), some (.sh X), some (.ow (vec k fun i => .d (.int (f i)))), some (.sh (.int cell)), some (.sh (.int s)), some (.sh (.int k)), none, z7]) ?_ rfl) (exs_cons (ex_set (x := .sh (.int q)) (ε1 := [some (.sh (.int cell)), some (.sh X), some (.ow (vec k fun i => .d (.int (f i)))), some (.sh (.int cell)), some (.sh (.int s')), some (.sh (.int k)), none, z7]) ?_ (ε2 := [some (.sh (.int cell)), some (.sh X), some (.ow (vec k fun i => .d (.int (f i)))), some (.sh (.int cell)), some (.sh (.int s')), some (.sh (.int k)), none, some (.sh (.int q))]) (by rcases h7 with rfl | ⟨d, rfl⟩ <;> rfl)) (exs_cons (ex_app rfl (ev_bin (ev_bin (d1 := .int q) (d2 := .int 19) rfl rfl d2) (ev_ix (d := X) (i := k) rfl rfl (hx k hk)) (bin_mod (by omega))) rfl (by rw [vec_length]; omega)) exs_nil))
      · have := ev_bin (G := []) (ε := [some (.sh (.int cell)), some (.sh X), some (.ow (vec k fun i => .d (.int (f i)))), some (.sh (.int cell)), some (.sh (.int s)), some (.sh (.int k)), none, z7]) (ev_b1 (d := .int (s * 48271 + 974711 * (k : Int) + 12345)) (ev_bin (ev_bin (ev_bin (a := .var 4) (b := .con (.int 48271)) (d1 := .int s) (d2 := .int 48271) rfl rfl m1) (ev_bin (a := .con (.int 974711)) (b := .var 5) (d1 := .int 974711) (d2 := .int k) rfl rfl m2) bin_add) (b := .con (.int 12345)) (d2 := .int 12345) rfl bin_add) b1_int) (b := .con (.int 2147483647)) (d2 := .int 2147483647) rfl (bin_mod (by decide))
        rw [hs'] at this
        exact this
      · have := ev_bin (G := []) (ε := [some (.sh (.int cell)), some (.sh X), some (.ow (vec k fun i => .d (.int (f i)))), some (.sh (.int cell)), some (.sh (.int s')), some (.sh (.int k)), none, z7]) (ev_b1 (d := .int (s' * (s'.fdiv 65537 + 3))) (ev_bin (a := .var 4) (d1 := .int s') rfl (ev_bin (ev_bin (a := .var 4) (b := .con (.int 65537)) (d1 := .int s') (d2 := .int 65537) rfl rfl d1) (b := .con (.int 3)) (d2 := .int 3) rfl bin_add) m3) b1_int) (b := .con (.int 2147483629)) (d2 := .int 2147483629) rfl (bin_mod (by decide))
        rw [hq] at this
        exact this)
      (ε := [some (.sh (.int cell)), some (.sh X), some (.ow []), some (.sh (.int cell)), some (.sh (.int (cell.fmod 2147483629))), none, none, none]) ⟨fun _ => 0, _, none, none, fun k hk => by omega, (by
        have := fmod_range (a := cell) (b := 2147483629) (by decide)
        exact Sm.of_range (k := 2147483629) this.1 this.2 (by decide)), .inl rfl, .inl rfl, rfl⟩
    rw [vec_length] at hd hf
    refine ⟨f, hd, run_of rfl (exs_cons s0 (exs_cons s1 (exs_cons (ex_ifF hc exs_nil) (exs_cons (ex_set (ev_bin (ev_b1 (d := .int cell) rfl b1_int) (d2 := .int 2147483629) rfl (bin_mod (by decide))) rfl) (exs_cons (ex_for (evs_cons ln evs_nil) (itD_rng1 (by omega)) hf) (exs_ret (ex_ret rfl))))))) ?_⟩
    rfl
noncomputable def f_dig : Fn := rF [] 2 6 b_dig
theorem f_dig_eq {m : Nat} {sz : Nat → Int} (cell : Int) (hm : m ≤ 1000) (hz : ∀ k, k < m → 0 < sz k ∧ sz k < 100000) : ∃ f, Dig m sz f ∧ f_dig [.int cell, .lst (vec m fun k => .int (sz k))] = some (.fr (vec m fun k => .d (.int (f k)))) := let ⟨f, h1, h2⟩ := r_dig cell hm hz; ⟨f, h1, rF_eq h2⟩
end PyD
set_option Elab.async false
set_option linter.all false
set_option maxRecDepth 100000
set_option maxHeartbeats 4000000
/-! Py8: the law's making: x, heights, the flow between. -/
namespace PyD
open PySem L2

/-- x: a < b, no common divisor -/
structure Xok (a b : Int) : Prop where
  pos : 0 < a
  lt : a < b
  le : b ≤ 20
  cop : Nat.gcd a.natAbs b.natAbs = 1
def b_x : List S := [.ifS (.cmp .eq (.ix (.var 0) (.con (.int 0))) (.con (.int 0))) [.ret (.ix (.lst [(.tup [(.con (.int 1)), (.con (.int 2))]), (.tup [(.con (.int 1)), (.con (.int 3))]), (.tup [(.con (.int 2)), (.con (.int 3))]), (.tup [(.con (.int 3)), (.con (.int 4))]), (.tup [(.con (.int 1)), (.con (.int 4))]), (.tup [(.con (.int 19)), (.con (.int 20))]), (.tup [(.con (.int 1)), (.con (.int 20))]), (.tup [(.con (.int 2)), (.con (.int 5))])]) (.bin .mod (.b1 .int (.ix (.var 0) (.con (.int 2)))) (.con (.int 8))))] [], .set 1 (.bin .add (.con (.int 2)) (.ix (.var 0) (.con (.int 1)))), .ret (.call 0 [(.bin .add (.con (.int 1)) (.bin .mod (.b1 .int (.ix (.var 0) (.con (.int 2)))) (.bin .sub (.var 1) (.con (.int 1))))), (.var 1)])]
def xtab : List D := [.tup [.int 1, .int 2], .tup [.int 1, .int 3], .tup [.int 2, .int 3], .tup [.int 3, .int 4], .tup [.int 1, .int 4], .tup [.int 19, .int 20], .tup [.int 1, .int 20], .tup [.int 2, .int 5]]
theorem xtab_ok (k : Nat) (h : k < 8) : ∃ a b, Xok a b ∧ xtab[k]? = some (.tup [.int a, .int b]) := by
  match k, h with
  | 0, _ => exact ⟨1, 2, ⟨by decide, by decide, by decide, by decide⟩, rfl⟩
  | 1, _ => exact ⟨1, 3, ⟨by decide, by decide, by decide, by decide⟩, rfl⟩
  | 2, _ => exact ⟨2, 3, ⟨by decide, by decide, by decide, by decide⟩, rfl⟩
  | 3, _ => exact ⟨3, 4, ⟨by decide, by decide, by decide, by decide⟩, rfl⟩
  | 4, _ => exact ⟨1, 4, ⟨by decide, by decide, by decide, by decide⟩, rfl⟩
  | 5, _ => exact ⟨19, 20, ⟨by decide, by decide, by decide, by decide⟩, rfl⟩
  | 6, _ => exact ⟨1, 20, ⟨by decide, by decide, by decide, by decide⟩, rfl⟩
  | 7, _ => exact ⟨2, 5, ⟨by decide, by decide, by decide, by decide⟩, rfl⟩
theorem xok_rat {t b : Int} (h0 : 0 < t) (h1 : t < b) (h2 : b ≤ 20) : ∃ a c, Xok a c ∧ rd (Rat.divInt t b) = .tup [.int a, .int c] := by
  refine ⟨(Rat.divInt t b).num, (Rat.divInt t b).den, ?_, rfl⟩
  have hg : 0 < Nat.gcd t.natAbs b.natAbs := Nat.gcd_pos_of_pos_left _ (by omega)
  have e := rd_pos (t := t) (b := b) (by omega)
  have hred := (Rat.divInt t b).reduced
  unfold rd at e
  simp only [D.tup.injEq, List.cons.injEq, D.int.injEq, and_true] at e
  obtain ⟨e1, e2⟩ := e
  generalize hG : Nat.gcd t.natAbs b.natAbs = g at hg e1 e2
  obtain ⟨x, hx⟩ : (g : Int) ∣ t := by rw [← hG]; exact Int.ofNat_dvd_left.mpr (Nat.gcd_dvd_left _ _)
  obtain ⟨y, hy⟩ : (g : Int) ∣ b := by rw [← hG]; exact Int.ofNat_dvd_left.mpr (Nat.gcd_dvd_right _ _)
  have q1 : t.fdiv (g : Int) = x := by rw [hx, Int.mul_comm, Int.mul_fdiv_cancel _ (by omega)]
  have q2 : b.fdiv (g : Int) = y := by rw [hy, Int.mul_comm, Int.mul_fdiv_cancel _ (by omega)]
  rw [q1] at e1
  rw [q2] at e2
  have gp : (0 : Int) < g := by omega
  have xp : 0 < x := by
    rcases Int.lt_or_le 0 x with h | h
    · exact h
    · have := Int.mul_nonpos_of_nonneg_of_nonpos (Int.le_of_lt gp) h; omega
  have xy : x < y := by
    rcases Int.lt_or_le x y with h | h
    · exact h
    · have := Int.mul_le_mul_of_nonneg_left h (Int.le_of_lt gp); omega
  have yb : y ≤ b := by
    rw [hy]
    have := Int.mul_le_mul_of_nonneg_right (show (1 : Int) ≤ g by omega) (show 0 ≤ y by omega)
    omega
  refine ⟨by omega, by omega, by omega, ?_⟩
  have : (((Rat.divInt t b).den : Nat) : Int).natAbs = (Rat.divInt t b).den := by simp
  rw [this]
  exact hred
theorem r_x {r : Nat → Int} (h0 : 0 ≤ r 0) (h1 : 0 ≤ r 1 ∧ r 1 < 19) : ∃ a b, Xok a b ∧ run [f_frac] 0 1 b_x [.lst (vec 3 fun k => .int (r k))] = some (.sh (.tup [.int a, .int b])) := by
  have hx : ∀ k : Nat, k < 3 → ixD (.lst (vec 3 fun k => .int (r k))) (.int k) = some (.int (r k)) := fun k hk => lst_ix hk
  generalize D.lst (vec 3 fun k => .int (r k)) = X at hx
  have x0 : ∀ {z}, ev [f_frac] (.ix (.var 0) (.con (.int 0))) [some (.sh X), z] = some (.sh (.int (r 0)), [some (.sh X), z]) := fun {z} => ev_ix (d := X) (i := 0) rfl rfl (hx 0 (by decide))
  have x1 : ∀ {z}, ev [f_frac] (.ix (.var 0) (.con (.int 1))) [some (.sh X), z] = some (.sh (.int (r 1)), [some (.sh X), z]) := fun {z} => ev_ix (d := X) (i := 1) rfl rfl (hx 1 (by decide))
  have x2 : ∀ {z}, ev [f_frac] (.ix (.var 0) (.con (.int 2))) [some (.sh X), z] = some (.sh (.int (r 2)), [some (.sh X), z]) := fun {z} => ev_ix (d := X) (i := 2) rfl rfl (hx 2 (by decide))
  have hc := ev_cmp (o := .eq) (b := .con (.int 0)) (d2 := .int 0) (x0 (z := none)) rfl (cmpD_eq (eqD_int _ _))
  by_cases h : r 0 = 0
  · rw [decide_eq_true h] at hc
    have rg := fmod_range (a := r 2) (b := 8) (by decide)
    obtain ⟨a, b, hab, he⟩ := xtab_ok ((r 2).fmod 8).toNat (by omega)
    refine ⟨a, b, hab, run_of rfl (exs_ret (ex_ifT hc (exs_ret (ex_ret (x := .sh (.tup [.int a, .int b])) (ε1 := [some (.sh X), none]) ?_)))) rfl⟩
    have i1 : ev [f_frac] (.bin .mod (.b1 .int (.ix (.var 0) (.con (.int 2)))) (.con (.int 8))) [some (.sh X), none] = some (.sh (.int ((r 2).fmod 8)), [some (.sh X), none]) := ev_bin (ev_b1 x2 b1_int) (d2 := .int 8) rfl (bin_mod (by decide))
    have i2 : ev [f_frac] (.lst [(.tup [(.con (.int 1)), (.con (.int 2))]), (.tup [(.con (.int 1)), (.con (.int 3))]), (.tup [(.con (.int 2)), (.con (.int 3))]), (.tup [(.con (.int 3)), (.con (.int 4))]), (.tup [(.con (.int 1)), (.con (.int 4))]), (.tup [(.con (.int 19)), (.con (.int 20))]), (.tup [(.con (.int 1)), (.con (.int 20))]), (.tup [(.con (.int 2)), (.con (.int 5))])]) [some (.sh X), none] = some (.fr (xtab.map .d), [some (.sh X), none]) := by simp [run, exs, ex, ev, evs, evT, gt, st, put, putR, kill, unal, frz, peek, peekH, asT, flatT, flatT_d, toDs_d, waits, calm, calms, cmpD, binD, negD, notD, isD, isiD, b2D, b1D, B1.deep, callD, fin, lenOk, sizeLine_eq, asg, asgs, itD, items, plainW, wipeE, back, locate, listAt, T.get, T.put, T.toD, T.toDs, dAt, isData, ixR, ixD, eqD_int, atI_nat, xtab]
    have i3 : ixN 8 ((r 2).fmod 8) = some ((r 2).fmod 8).toNat := by
      have := ixN_lt (n := 8) (k := ((r 2).fmod 8).toNat) (by omega)
      rwa [show (((r 2).fmod 8).toNat : Int) = (r 2).fmod 8 by omega] at this
    have i4 : (xtab.map T.d)[((r 2).fmod 8).toNat]? = some (.d (.tup [.int a, .int b])) := by rw [List.getElem?_map, he]; rfl
    simp only [ev.eq_def (G := [f_frac]) (.ix (.lst _) _), i1, i2, waits, ixR]
    rw [show (xtab.map T.d).length = 8 from rfl, i3]
    simp only [Option.bind, i4, Option.map]
  · rw [decide_eq_false h] at hc
    have rg := fmod_range (a := r 2) (b := 2 + r 1 - 1) (by omega)
    obtain ⟨a, b, hab, he⟩ := xok_rat (t := 1 + (r 2).fmod (2 + r 1 - 1)) (b := 2 + r 1) (by omega) (by omega) (by omega)
    have fe := f_frac_eq (t := 1 + (r 2).fmod (2 + r 1 - 1)) (b := 2 + r 1) (by omega) ((Sm.of_range (n := 5) (k := 32) (by omega) (by omega) (by decide)).mono (by decide))
    rw [he] at fe
    exact ⟨a, b, hab, run_of rfl (exs_cons (ex_ifF hc exs_nil) (exs_cons (ex_set (ev_bin (d1 := .int 2) rfl x1 bin_add) rfl) (exs_ret (ex_ret (ev_call (evs_cons (ev_bin (d1 := .int 1) rfl (ev_bin (ev_b1 x2 b1_int) (ev_bin (d1 := .int (2 + r 1)) (d2 := .int 1) rfl rfl bin_sub) (bin_mod (by omega))) bin_add) (evs_cons rfl evs_nil)) rfl fe))))) rfl⟩
noncomputable def f_x : Fn := rF [f_frac] 1 1 b_x
theorem f_x_eq {r : Nat → Int} (h0 : 0 ≤ r 0) (h1 : 0 ≤ r 1 ∧ r 1 < 19) : ∃ a b, Xok a b ∧ f_x [.lst (vec 3 fun k => .int (r k))] = some (.sh (.tup [.int a, .int b])) := let ⟨a, b, h, e⟩ := r_x h0 h1; ⟨a, b, h, rF_eq e⟩
/-! ### slices of lists by places -/
theorem cut_vec {α : Type} {n a b : Nat} {f : Nat → α} (hb : a + b ≤ n) : ((vec n f).drop a).take b = vec b fun k => f (a + k) := by
  refine List.ext_getElem? fun k => ?_
  by_cases h : k < b
  · rw [vec_get h, List.getElem?_take, if_pos h, List.getElem?_drop, vec_get (by omega)]
  · rw [List.getElem?_take, if_neg h, List.getElem?_eq_none (by rw [vec_length]; omega)]
theorem cutD_vec {n a b : Nat} {f : Nat → D} (h : a ≤ b) (hb : b ≤ n) : cutD (vec n f) (some a) (some b) = vec (b - a) fun k => f (a + k) := by
  unfold cutD
  rw [vec_length, HT.sIx_nat, HT.sIx_nat, Nat.min_eq_left (show a ≤ n by omega), Nat.min_eq_left hb]
  exact cut_vec (by omega)
theorem cutF_vec {n a : Nat} {f : Nat → D} (h : a ≤ n) : cutD (vec n f) (some a) none = vec (n - a) fun k => f (a + k) := by
  unfold cutD
  rw [vec_length, HT.sIx_nat, HT.sIx_none, Nat.min_eq_left h]
  exact cut_vec (by omega)
theorem ev_slc {G : List Fn} {ε ε1 ε2 ε3 : Env} {a lo hi : E} {d : D} {i j : Int} {r : R} (h1 : ev G a ε = some (.sh d, ε1)) (h2 : ev G lo ε1 = some (.sh (.int i), ε2)) (h3 : ev G hi ε2 = some (.sh (.int j), ε3)) (h4 : slcD d (some i) (some j) = some r) : ev G (.slc a lo hi) ε = some (r, ε3) := by
  simp only [ev, h1, h2, h3, waits, peek, Bool.and_true, h4, Option.map]
theorem ev_slcF {G : List Fn} {ε ε1 ε2 : Env} {a lo : E} {d : D} {i : Int} {r : R} (h1 : ev G a ε = some (.sh d, ε1)) (h2 : ev G lo ε1 = some (.sh (.int i), ε2)) (h4 : slcD d (some i) none = some r) : ev G (.slcF a lo) ε = some (r, ε2) := by
  simp only [ev, h1, h2, waits, peek, h4, Option.map]
theorem slc_vec {n a b : Nat} {f : Nat → D} (h : a ≤ b) (hb : b ≤ n) : slcD (.lst (vec n f)) (some a) (some b) = some (.fr (vec (b - a) fun k => .d (f (a + k)))) := by
  simp only [slcD, cutD_vec h hb, vec_map]
theorem slcF_vec {n a : Nat} {f : Nat → D} (h : a ≤ n) : slcD (.lst (vec n f)) (some a) none = some (.fr (vec (n - a) fun k => .d (f (a + k)))) := by
  simp only [slcD, cutF_vec h, vec_map]
/-! ### _law_table -/
def b_tab : List S := [.set 4 (.bin .sub (.bin .mod (.b1 .int (.ix (.var 0) (.con (.int 1)))) (.con (.int 10))) (.con (.int 3))), .ifS (.and (.cmp .eq (.ix (.var 0) (.con (.int 0))) (.con (.int 0))) (.var 2)) [.ret (.lc (.b2 .min (.var 3) (.bin .sub (.var 5) (.con (.int 50)))) (.one 5) .seq [(.slc (.var 0) (.con (.int 1)) (.bin .add (.con (.int 1)) (.var 1)))] [] [5])] [], .ifS (.cmp .eq (.ix (.var 0) (.con (.int 0))) (.con (.int 1))) [.ret (.lc (.var 4) (.one 6) .rng1 [(.var 1)] [] [6])] [], .ifS (.cmp .eq (.ix (.var 0) (.con (.int 0))) (.con (.int 2))) [.ret (.lc (.bin .add (.var 4) (.bin .mod (.b1 .int (.var 5)) (.con (.int 2)))) (.one 5) .seq [(.slc (.var 0) (.con (.int 1)) (.bin .add (.con (.int 1)) (.var 1)))] [] [5])] [], .ret (.lc (.bin .sub (.bin .mod (.b1 .int (.var 5)) (.con (.int 10))) (.con (.int 3))) (.one 5) .seq [(.slc (.var 0) (.con (.int 1)) (.bin .add (.con (.int 1)) (.var 1)))] [] [5])]
theorem r_tab {m n : Nat} {r : Nat → Int} (most : Int) (hmost : 0 ≤ most ∧ most ≤ 50) (wide : Bool) (hn : 1 + n ≤ m) (hm : m ≤ 1000) (hm2 : 2 ≤ m) (hr : ∀ k, k < m → 0 ≤ r k ∧ r k < 101) : ∃ h : Nat → Int, (∀ k, k < n → -50 ≤ h k ∧ h k ≤ 50) ∧ run [] 0 3 b_tab [.lst (vec m fun k => .int (r k)), .int n, .bl wide, .int most] = some (.fr (vec n fun k => .d (.int (h k)))) := by
  have hx : ∀ k : Nat, k < m → ixD (.lst (vec m fun k => .int (r k))) (.int k) = some (.int (r k)) := fun k hk => lst_ix hk
  have hs := slc_vec (n := m) (a := 1) (b := 1 + n) (f := fun k => .int (r k)) (by omega) hn
  rw [show 1 + n - 1 = n by omega] at hs
  generalize D.lst (vec m fun k => .int (r k)) = X at hx hs
  have rg := fmod_range (a := r 1) (b := 10) (by decide)
  generalize hlow : (r 1).fmod 10 - 3 = low
  have e4 : ∀ {z}, z = [some (W.sh X), some (.sh (.int n)), some (.sh (.bl wide)), some (.sh (.int most)), some (.sh (.int low)), none, none] → ∀ c : Int, ev [] (.cmp .eq (.ix (.var 0) (.con (.int 0))) (.con (.int c))) z = some (.sh (.bl (decide (r 0 = c))), z) := fun {z} hz c => by
    subst hz
    exact ev_cmp (d2 := .int c) (ev_ix (d := X) (i := 0) rfl rfl (hx 0 (by omega))) rfl (cmpD_eq (eqD_int _ _))
  have s0 : ex [] 0 (.set 4 (.bin .sub (.bin .mod (.b1 .int (.ix (.var 0) (.con (.int 1)))) (.con (.int 10))) (.con (.int 3)))) [some (.sh X), some (.sh (.int n)), some (.sh (.bl wide)), some (.sh (.int most)), none, none, none] = some (.nx, [some (.sh X), some (.sh (.int n)), some (.sh (.bl wide)), some (.sh (.int most)), some (.sh (.int low)), none, none]) := by
    rw [← hlow]
    exact ex_set (ev_bin (ev_bin (ev_b1 (ev_ix (d := X) (i := 1) rfl rfl (hx 1 (by omega))) b1_int) (d2 := .int 10) rfl (bin_mod (by decide))) (d2 := .int 3) rfl bin_sub) rfl
  -- a comprehension over the row
  have lc : ∀ (elt : E) (g : Nat → Int), (∀ k, k < n → ev [] elt [some (.sh X), some (.sh (.int n)), some (.sh (.bl wide)), some (.sh (.int most)), some (.sh (.int low)), some (.sh (.int (r (1 + k)))), none] = some (.sh (.int (g k)), [some (.sh X), some (.sh (.int n)), some (.sh (.bl wide)), some (.sh (.int most)), some (.sh (.int low)), some (.sh (.int (r (1 + k)))), none])) →
      ev [] (.lc elt (.one 5) .seq [(.slc (.var 0) (.con (.int 1)) (.bin .add (.con (.int 1)) (.var 1)))] [] [5]) [some (.sh X), some (.sh (.int n)), some (.sh (.bl wide)), some (.sh (.int most)), some (.sh (.int low)), none, none] = some (.fr (vec n fun k => .d (.int (g k))), [some (.sh X), some (.sh (.int n)), some (.sh (.bl wide)), some (.sh (.int most)), some (.sh (.int low)), none, none]) := fun elt g hg => by
    have h1 := evs_fr (es := []) (ev_slc (G := []) (ε := [some (.sh X), some (.sh (.int n)), some (.sh (.bl wide)), some (.sh (.int most)), some (.sh (.int low)), none, none]) (a := .var 0) (lo := .con (.int 1)) (hi := .bin .add (.con (.int 1)) (.var 1)) (d := X) (i := 1) (j := ((1 + n : Nat) : Int)) rfl rfl (ev_bin (d1 := .int 1) (d2 := .int n) rfl rfl rfl) hs) evs_nil
    rw [toDs_vec] at h1
    exact ev_map _ h1 (rfl : itD .seq [.lst (vec n fun k => T.toD (.d (.int (r (1 + k)))))] = some (vec n fun k => .int (r (1 + k)))) rfl (by omega) (fun k hk => ⟨[some (.sh X), some (.sh (.int n)), some (.sh (.bl wide)), some (.sh (.int most)), some (.sh (.int low)), some (.sh (.int (r (1 + k)))), none], .sh (.int (g k)), rfl, hg k hk, rfl, rfl, rfl⟩) rfl
  by_cases c0 : r 0 = 0 ∧ wide = true
  · have hc : ev [] (.and (.cmp .eq (.ix (.var 0) (.con (.int 0))) (.con (.int 0))) (.var 2)) [some (.sh X), some (.sh (.int n)), some (.sh (.bl wide)), some (.sh (.int most)), some (.sh (.int low)), none, none] = some (.sh (.bl true), [some (.sh X), some (.sh (.int n)), some (.sh (.bl wide)), some (.sh (.int most)), some (.sh (.int low)), none, none]) := by
      have := e4 rfl 0
      rw [decide_eq_true c0.1] at this
      refine ev_andT this ?_
      rw [c0.2]
      rfl
    refine ⟨fun k => if r (1 + k) - 50 < most then r (1 + k) - 50 else most, fun k hk => by have := hr (1 + k) (by omega); dsimp only; split <;> omega, run_of rfl (exs_cons s0 (exs_ret (ex_ifT hc (exs_ret (ex_ret (lc _ _ fun k hk => ?_)))))) rfl⟩
    simp [run, exs, ex, ev, evs, evT, gt, st, put, putR, kill, unal, frz, peek, peekH, asT, flatT, flatT_d, toDs_d, waits, calm, calms, cmpD, binD, negD, notD, isD, isiD, b2D, b1D, B1.deep, callD, fin, lenOk, sizeLine_eq, asg, asgs, itD, items, plainW, wipeE, back, locate, listAt, T.get, T.put, T.toD, T.toDs, dAt, isData, ixR, ixD, eqD_int, atI_nat]
  · have hc : ev [] (.and (.cmp .eq (.ix (.var 0) (.con (.int 0))) (.con (.int 0))) (.var 2)) [some (.sh X), some (.sh (.int n)), some (.sh (.bl wide)), some (.sh (.int most)), some (.sh (.int low)), none, none] = some (.sh (.bl false), [some (.sh X), some (.sh (.int n)), some (.sh (.bl wide)), some (.sh (.int most)), some (.sh (.int low)), none, none]) := by
      have := e4 rfl 0
      by_cases c1 : r 0 = 0
      · rw [decide_eq_true c1] at this
        have hw : wide = false := by
          cases wide with
          | false => rfl
          | true => exact absurd ⟨c1, rfl⟩ c0
        refine ev_andT this ?_
        rw [hw]
        rfl
      · rw [decide_eq_false c1] at this
        exact ev_andF this
    by_cases c1 : r 0 = 1
    · have h1 := e4 rfl 1
      rw [decide_eq_true c1] at h1
      refine ⟨fun _ => low, fun k hk => by dsimp only; omega, run_of rfl (exs_cons s0 (exs_cons (ex_ifF hc exs_nil) (exs_ret (ex_ifT h1 (exs_ret (ex_ret (ev_map (ds := [.int n]) (ε1 := [some (.sh X), some (.sh (.int n)), some (.sh (.bl wide)), some (.sh (.int most)), some (.sh (.int low)), none, none]) _ rfl (itD_rng1 (by omega)) rfl (by omega) (fun k hk => ⟨[some (.sh X), some (.sh (.int n)), some (.sh (.bl wide)), some (.sh (.int most)), some (.sh (.int low)), none, some (.sh (.int k))], .sh (.int low), rfl, rfl, rfl, rfl, rfl⟩) rfl))))))) rfl⟩
    · have h1 := e4 rfl 1
      rw [decide_eq_false c1] at h1
      by_cases c2 : r 0 = 2
      · have h2 := e4 rfl 2
        rw [decide_eq_true c2] at h2
        refine ⟨fun k => low + (r (1 + k)).fmod 2, fun k hk => by dsimp only; have := fmod_range (a := r (1 + k)) (b := 2) (by decide); omega, run_of rfl (exs_cons s0 (exs_cons (ex_ifF hc exs_nil) (exs_cons (ex_ifF h1 exs_nil) (exs_ret (ex_ifT h2 (exs_ret (ex_ret (lc _ _ fun k hk => ev_bin (d1 := .int low) rfl (ev_bin (ev_b1 (d := .int (r (1 + k))) rfl b1_int) (d2 := .int 2) rfl (bin_mod (by decide))) bin_add)))))))) rfl⟩
      · have h2 := e4 rfl 2
        rw [decide_eq_false c2] at h2
        refine ⟨fun k => (r (1 + k)).fmod 10 - 3, fun k hk => by dsimp only; have := fmod_range (a := r (1 + k)) (b := 10) (by decide); omega, run_of rfl (exs_cons s0 (exs_cons (ex_ifF hc exs_nil) (exs_cons (ex_ifF h1 exs_nil) (exs_cons (ex_ifF h2 exs_nil) (exs_ret (ex_ret (lc _ _ fun k hk => ev_bin (ev_bin (ev_b1 (d := .int (r (1 + k))) rfl b1_int) (d2 := .int 10) rfl (bin_mod (by decide))) (d2 := .int 3) rfl bin_sub))))))) rfl⟩
noncomputable def f_tab : Fn := rF [] 4 3 b_tab
/-! ### _law_between -/
def b_btw : List S := [.ifS (.cmp .lt (.var 0) (.con (.int 15))) [.ret (.var 1)] [], .ifS (.cmp .lt (.var 0) (.con (.int 23))) [.ret (.var 2)] [], .ret (.bin .add (.var 1) (.bin .fdiv (.bin .mul (.bin .sub (.var 2) (.var 1)) (.bin .sub (.var 0) (.con (.int 22)))) (.con (.int 38))))]
theorem r_btw {d lo hi : Int} {n : Nat} (hd : d < 60) (hl : lo ≤ hi) (sl : Sm n lo) (sh : Sm n hi) (hn : n ≤ 100000) : ∃ f : Int, lo ≤ f ∧ f ≤ hi ∧ run [] 0 0 b_btw [.int d, .int lo, .int hi] = some (.sh (.int f)) := by
  by_cases c1 : d < 15
  · exact ⟨lo, Int.le_refl _, hl, by simp [run, exs, ex, ev, evs, evT, gt, st, put, putR, kill, unal, frz, peek, peekH, asT, flatT, flatT_d, toDs_d, waits, calm, calms, cmpD, binD, negD, notD, isD, isiD, b2D, b1D, B1.deep, callD, fin, lenOk, sizeLine_eq, asg, asgs, itD, items, plainW, wipeE, back, locate, listAt, T.get, T.put, T.toD, T.toDs, dAt, isData, ixR, ixD, eqD_int, atI_nat, b_btw, c1]⟩
  · by_cases c2 : d < 23
    · exact ⟨hi, hl, Int.le_refl _, by simp [run, exs, ex, ev, evs, evT, gt, st, put, putR, kill, unal, frz, peek, peekH, asT, flatT, flatT_d, toDs_d, waits, calm, calms, cmpD, binD, negD, notD, isD, isiD, b2D, b1D, B1.deep, callD, fin, lenOk, sizeLine_eq, asg, asgs, itD, items, plainW, wipeE, back, locate, listAt, T.get, T.put, T.toD, T.toDs, dAt, isData, ixR, ixD, eqD_int, atI_nat, b_btw, c1, c2]⟩
    · have s1 : Sm (n + 1) (hi - lo) := sh.sub sl
      have s2 : Sm 6 (d - 22) := Sm.of_range (k := 64) (by omega) (by omega) (by decide)
      have m1 : mulOk (hi - lo) (d - 22) := mulOk_of s1 s2 (by omega)
      have dv : ∀ x, divOk x 38 := fun x => divOk_of (n := 6) (by decide) (by unfold Sm; decide)
      have fd : ((hi - lo) * (d - 22)).fdiv 38 = ((hi - lo) * (d - 22)) / 38 := fdiv_pos (by decide)
      have p0 : 0 ≤ (hi - lo) * (d - 22) := Int.mul_nonneg (by omega) (by omega)
      have p1 : (hi - lo) * (d - 22) ≤ (hi - lo) * 38 := Int.mul_le_mul_of_nonneg_left (by omega) (by omega)
      refine ⟨lo + ((hi - lo) * (d - 22)).fdiv 38, by rw [fd]; omega, by rw [fd]; omega, by simp [run, exs, ex, ev, evs, evT, gt, st, put, putR, kill, unal, frz, peek, peekH, asT, flatT, flatT_d, toDs_d, waits, calm, calms, cmpD, binD, negD, notD, isD, isiD, b2D, b1D, B1.deep, callD, fin, lenOk, sizeLine_eq, asg, asgs, itD, items, plainW, wipeE, back, locate, listAt, T.get, T.put, T.toD, T.toDs, dAt, isData, ixR, ixD, eqD_int, atI_nat, b_btw, c1, c2, m1, dv]⟩
noncomputable def f_btw : Fn := rF [] 3 0 b_btw
theorem f_btw_eq {d lo hi : Int} {n : Nat} (hd : d < 60) (hl : lo ≤ hi) (sl : Sm n lo) (sh : Sm n hi) (hn : n ≤ 100000) : ∃ f : Int, lo ≤ f ∧ f ≤ hi ∧ f_btw [.int d, .int lo, .int hi] = some (.sh (.int f)) := let ⟨f, h1, h2, h3⟩ := r_btw hd hl sl sh hn; ⟨f, h1, h2, rF_eq h3⟩
end PyD
set_option Elab.async false
set_option linter.all false
set_option maxRecDepth 100000
set_option maxHeartbeats 4000000
/-! Py9: the law's making: rules by flows. -/
namespace PyD
open PySem L2

section
variable {G : List Fn} {ε ε1 ε2 ε3 : Env} {a b c e lo : E} {d d1 d2 : D} {ds : List D} {ts ts0 : List T} {r x y : R} {i j k n : Nat}
theorem ex_setIx (he : ev G e ε = some (.sh d, ε1)) (hl : gt ε1 i = some (.ow ts0)) (ha : ev G a ε1 = some (.sh (.int (k : Nat)), ε2)) (hg : gt ε2 i = some (.ow ts)) (hk : k < ts.length) (hd : isData ts[k]? = true) (hc : calm a = true) : ex G n (.setIx i a e) ε = some (.nx, st ε2 i (some (.ow (ts.set k (.d d))))) := by
  have h1 : locate ε1 i = some (i, []) := by unfold locate; rw [hl]
  have h2 : listAt ε2 i [] = some (ts, ts) := by unfold listAt; rw [hg]; rfl
  simp only [ex, he, asT, frz, h1, ha, h2, ixN_lt hk, hd, hc, and_self, if_true, T.put]
theorem ev_slcFo {q : Int} (h1 : ev G a ε = some (.pt j [], ε1)) (h2 : ev G lo ε1 = some (.sh (.int q), ε2)) (hg : gt ε2 j = some (.ow ts)) (hf : flatT ts = some ds) (h4 : slcD (.lst ds) (some q) none = some r) : ev G (.slcF a lo) ε = some (r, ε2) := by
  simp only [ev, h1, h2, waits, peek, hg, T.get, hf, Option.map, h4]
theorem ev_ixo (h1 : ev G a ε = some (.pt j [], ε1)) (h2 : ev G b ε1 = some (.sh (.int (k : Nat)), ε2)) (hg : gt ε2 j = some (.ow ts)) (hk : ts[k]? = some (.d d)) : ev G (.ix a b) ε = some (.sh d, ε2) := by
  have lt : k < ts.length := by
    rcases Nat.lt_or_ge k ts.length with z | z
    · exact z
    · rw [List.getElem?_eq_none z] at hk; cases hk
  simp only [ev, h1, h2, waits, ixR, hg, T.get, ixN_lt lt, hk, Option.map]
theorem ev_b2 {bb : B2} (h1 : ev G a ε = some (.sh d1, ε1)) (h2 : ev G b ε1 = some (.sh d2, ε2)) (h3 : b2D bb d1 d2 = some r) : ev G (.b2 bb a b) ε = some (r, ε2) := by
  simp only [ev, h1, h2, h3, Option.map]
end
theorem vec_set {α : Type} {n k : Nat} {f : Nat → α} {v : α} : (vec n f).set k v = vec n fun i => if i = k then v else f i := by
  refine List.ext_getElem? fun i => ?_
  by_cases hi : i < n
  · rw [vec_get hi]
    by_cases e : k = i
    · subst e
      rw [List.getElem?_set_self (by rw [vec_length]; exact hi), if_pos rfl]
    · rw [List.getElem?_set_ne e, vec_get hi, if_neg (fun z => e z.symm)]
  · rw [List.getElem?_eq_none (by rw [List.length_set, vec_length]; omega), List.getElem?_eq_none (by rw [vec_length]; omega)]
/-- the sum from a place on -/
def tl (n : Nat) (f : Nat → Int) (t : Nat) : Int := (vec (n - t) fun k => f (t + k)).sum
theorem tl_step {n : Nat} {f : Nat → Int} {t : Nat} (h : t < n) : tl n f t = f t + tl n f (t + 1) := by
  unfold tl
  have : vec (n - t) (fun k => f (t + k)) = f t :: vec (n - (t + 1)) fun k => f (t + 1 + k) := by
    rw [show n - t = (n - (t + 1)) + 1 by omega]
    unfold vec
    rw [List.range_succ_eq_map, List.map_cons, List.map_map]
    congr 1
    refine List.map_congr_left fun k _ => ?_
    show f (t + (k + 1)) = f (t + 1 + k)
    congr 1
    omega
  rw [this, List.sum_cons]
theorem tl_end {n : Nat} {f : Nat → Int} : tl n f n = 0 := by unfold tl; rw [Nat.sub_self]; rfl
theorem tl_zero {n : Nat} {f : Nat → Int} : tl n f 0 = (vec n f).sum := by
  unfold tl
  rw [Nat.sub_zero]
  congr 1
  exact vec_congr fun k _ => by rw [Nat.zero_add]
theorem tl_nonneg {n : Nat} {f : Nat → Int} (h : ∀ k, k < n → 0 ≤ f k) : ∀ t, t ≤ n → 0 ≤ tl n f t := by
  have gen : ∀ m t, t + m = n → 0 ≤ tl n f t := by
    intro m
    induction m with
    | zero => intro t ht; rw [show t = n by omega, tl_end]; exact Int.le_refl _
    | succ m ih =>
      intro t ht
      rw [tl_step (by omega)]
      have := ih (t + 1) (by omega)
      have := h t (by omega)
      omega
  exact fun t ht => gen (n - t) t (by omega)
theorem tl_congr {n : Nat} {f g : Nat → Int} {t : Nat} (h : ∀ k, t ≤ k → k < n → f k = g k) : tl n f t = tl n g t := by
  unfold tl
  congr 1
  exact vec_congr fun k hk => h (t + k) (by omega) (by omega)
theorem tl_upd {n k : Nat} {f : Nat → Int} {v : Int} (hk : k < n) : ∀ t, t ≤ k → tl n (fun i => if i = k then v else f i) t = tl n f t - f k + v := by
  have gen : ∀ m t, t + m = k → tl n (fun i => if i = k then v else f i) t = tl n f t - f k + v := by
    intro m
    induction m with
    | zero =>
      intro t ht
      have e : t = k := by omega
      subst e
      rw [tl_step hk, tl_step (f := f) hk, tl_congr (f := fun i => if i = t then v else f i) (g := f) (t := t + 1) fun i h1 h2 => if_neg (by omega)]
      rw [if_pos rfl]
      omega
    | succ m ih =>
      intro t ht
      rw [tl_step (by omega), tl_step (f := f) (show t < n by omega), ih (t + 1) (by omega), if_neg (by omega)]
      omega
  exact fun t ht => gen (k - t) t (by omega)
/-- what a rule's list is: rows that are data, or rows that are lists of one's own -/
def matT (b : Bool) (n : Nat) (M : Nat → Nat → Rat) : List T := vec n fun s => if b = true then .d (.lst (vec n fun g => rd (M s g))) else .l (vec n fun g => .d (rd (M s g)))
theorem matT_data {b : Bool} {n : Nat} {M : Nat → Nat → Rat} : D.lst (T.toDs (matT b n M)) = mat false false true n M := by
  unfold matT
  rw [toDs_vec]
  unfold mat
  show D.lst _ = D.lst _
  congr 1
  refine vec_congr fun s _ => ?_
  cases b
  · show D.lst (T.toDs _) = D.lst _
    rw [toDs_vec]
    rfl
  · rfl
/-- a rule: small, in each row something that stays or goes -/
structure Rule (n e : Nat) (M : Nat → Nat → Rat) : Prop where
  bd : ∀ s g, s < n → g < n → Bd e (M s g)
  pos : ∀ s, s < n → ∃ g, g < n ∧ 0 < (M s g).num
theorem num_pos {t b : Int} (h : 0 < t) (hb : 0 < b) : 0 < (Rat.divInt t b).num := by
  have hg : 0 < Nat.gcd t.natAbs b.natAbs := Nat.gcd_pos_of_pos_left _ (by omega)
  have e := rd_pos (t := t) (b := b) hb
  unfold rd at e
  simp only [D.tup.injEq, List.cons.injEq, D.int.injEq, and_true] at e
  rw [e.1]
  obtain ⟨x, hx⟩ : ((Nat.gcd t.natAbs b.natAbs : Nat) : Int) ∣ t := Int.ofNat_dvd_left.mpr (Nat.gcd_dvd_left _ _)
  generalize Nat.gcd t.natAbs b.natAbs = g at hg hx
  rw [hx, Int.mul_comm, Int.mul_fdiv_cancel _ (by omega)]
  rcases Int.lt_or_le 0 x with h' | h'
  · exact h'
  · have := Int.mul_nonpos_of_nonneg_of_nonpos (show (0 : Int) ≤ g by omega) h'; omega
def w_flow : List S := [.set 11 (.b2 .max (.con (.int 0)) (.bin .sub (.var 7) (.b1 .sum (.slcF (.var 4) (.bin .add (.var 9) (.con (.int 1))))))), .set 12 (.call 0 [(.ix (.var 0) (.bin .add (.bin .mul (.var 6) (.var 3)) (.var 9))), (.var 11), (.b2 .min (.var 7) (.ix (.var 4) (.var 9)))]), .app 8 (.call 1 [(.var 12), (.bin .mul (.var 2) (.ix (.var 1) (.var 6)))]), .set 7 (.bin .sub (.var 7) (.var 12)), .setIx 4 (.var 9) (.bin .sub (.ix (.var 4) (.var 9)) (.var 12))]
/-- one row of flows -/
theorem flow_row {n e s : Nat} {dg w : Nat → Int} {sc : Int} {left0 : Nat → Int} {rule : List T} (hn : n ≤ 6) (hs : s < n) (hdg : ∀ k, k < 36 → 0 ≤ dg k ∧ dg k < 60) (hsc : 0 < sc) (ssc : Sm 4 sc) (hw : 0 < w s) (sw : Sm e (w s)) (he : e ≤ 1000)
    (hl0 : ∀ t, t < n → 0 ≤ left0 t ∧ Sm (e + 4) (left0 t)) (hsum : sc * w s ≤ tl n left0 0) {z9 z11 z12 : Option W} (h9 : Sl z9) (h11 : Sl z11) (h12 : Sl z12) :
    ∃ (left f : Nat → Int) (z9' z11' z12' : Option W), Sl z9' ∧ Sl z11' ∧ Sl z12' ∧ (∀ t, t < n → 0 ≤ left t ∧ Sm (e + 4) (left t)) ∧ tl n left 0 = tl n left0 0 - sc * w s ∧ (∀ t, t < n → 0 ≤ f t ∧ f t ≤ sc * w s) ∧ (∃ t, t < n ∧ 0 < f t) ∧
      forF (exs [f_btw, f_frac] 0 w_flow) (.one 9) (vec n fun k => .int k) [some (.sh (.lst (vec 36 fun k => .int (dg k)))), some (.sh (.lst (vec n fun k => .int (w k)))), some (.sh (.int sc)), some (.sh (.int n)), some (.ow (vec n fun t => .d (.int (left0 t)))), some (.ow rule), some (.sh (.int s)), some (.sh (.int (sc * w s))), some (.ow []), z9, none, z11, z12]
        = some (.nx, [some (.sh (.lst (vec 36 fun k => .int (dg k)))), some (.sh (.lst (vec n fun k => .int (w k)))), some (.sh (.int sc)), some (.sh (.int n)), some (.ow (vec n fun t => .d (.int (left t)))), some (.ow rule), some (.sh (.int s)), some (.sh (.int 0)), some (.ow (vec n fun t => .d (rd (Rat.divInt (f t) (sc * w s))))), z9', none, z11', z12']) := by
  have hx : ∀ k : Nat, k < 36 → ixD (.lst (vec 36 fun k => .int (dg k))) (.int k) = some (.int (dg k)) := fun k hk => lst_ix hk
  have hy : ∀ k : Nat, k < n → ixD (.lst (vec n fun k => .int (w k))) (.int k) = some (.int (w k)) := fun k hk => lst_ix hk
  generalize D.lst (vec 36 fun k => .int (dg k)) = X at hx
  generalize D.lst (vec n fun k => .int (w k)) = Y at hy
  have sb : Sm (e + 4) (sc * w s) := by rw [Nat.add_comm]; exact ssc.mul sw
  have bp : 0 < sc * w s := Int.mul_pos hsc hw
  have mw := bin_mul ssc sw
  generalize hB : sc * w s = Bt at hsum sb bp mw
  obtain ⟨ε', hf, left, f, rest, z9', z11', z12', a1, a2, a3, a4, a5, a6, a7, a8, a9, a10, rfl⟩ := forF_inv (body := exs [f_btw, f_frac] 0 w_flow) (tg := .one 9) (its := vec n fun k => .int k)
    (fun k ε => ∃ (left f : Nat → Int) (rest : Int) (z9 z11 z12 : Option W), Sl z9 ∧ Sl z11 ∧ Sl z12 ∧ (∀ t, t < n → 0 ≤ left t ∧ Sm (e + 4) (left t)) ∧ (0 ≤ rest ∧ rest ≤ Bt) ∧ rest ≤ tl n left k ∧ tl n left 0 = tl n left0 0 - (Bt - rest) ∧ (∀ t, t < k → 0 ≤ f t ∧ f t ≤ Bt) ∧ ((∃ t, t < k ∧ 0 < f t) ∨ rest = Bt) ∧ k ≤ n ∧
      ε = [some (.sh X), some (.sh Y), some (.sh (.int sc)), some (.sh (.int n)), some (.ow (vec n fun t => .d (.int (left t)))), some (.ow rule), some (.sh (.int s)), some (.sh (.int rest)), some (.ow (vec k fun t => .d (rd (Rat.divInt (f t) Bt)))), z9, none, z11, z12]) (by
    rintro t d ε hd ⟨left, f, rest, z9, z11, z12, a1, a2, a3, a4, a5, a6, a7, a8, a9, _, rfl⟩
    have ht : t < n := by
      rcases Nat.lt_or_ge t n with l | l
      · exact l
      · rw [List.getElem?_eq_none (by rw [vec_length]; exact l)] at hd; cases hd
    rw [vec_get ht] at hd
    cases hd
    have lt := a4 t ht
    have tn := tl_nonneg (fun k hk => (a4 k hk).1) (t + 1) (by omega)
    have ts := tl_step (f := left) ht
    have srest : Sm (e + 4) rest := sb.le (by omega)
    generalize hlow : (if rest - tl n left (t + 1) > 0 then rest - tl n left (t + 1) else 0) = low
    generalize hhigh : (if left t < rest then left t else rest) = high
    have l0 : 0 ≤ low := by rw [← hlow]; split <;> omega
    have l1 : rest - tl n left (t + 1) ≤ low := by rw [← hlow]; split <;> omega
    have l2 : low ≤ high := by rw [← hlow, ← hhigh]; split <;> split <;> omega
    have l3 : high ≤ rest ∧ high ≤ left t := by rw [← hhigh]; split <;> omega
    have hdgk := hdg (s * n + t) (by
      have : s * n + t < n * n := by
        have : s * n + n ≤ n * n := by rw [← Nat.succ_mul]; exact Nat.mul_le_mul_right _ hs
        omega
      have : n * n ≤ 6 * 6 := Nat.mul_le_mul hn hn
      omega)
    have ixk : ixD X (.int ((s : Int) * n + t)) = some (.int (dg (s * n + t))) := by
      have := hx (s * n + t) (by
        have : s * n + t < n * n := by
          have : s * n + n ≤ n * n := by rw [← Nat.succ_mul]; exact Nat.mul_le_mul_right _ hs
          omega
        have : n * n ≤ 6 * 6 := Nat.mul_le_mul hn hn
        omega)
      rwa [show ((s * n + t : Nat) : Int) = (s : Int) * n + t by push_cast; rfl] at this
    obtain ⟨fl, f1, f2, f3⟩ := f_btw_eq (n := e + 4) hdgk.2 l2 (srest.le (by omega)) (srest.le (by omega)) (by omega)
    have fr := f_frac_eq (t := fl) (b := Bt) (by omega) (sb.mono (by omega))
    have msn := bin_mul (a := (s : Int)) (b := (n : Int)) (n := 3) (m := 3) (Sm.of_range (k := 7) (by omega) (by omega) (by decide)) (Sm.of_range (k := 7) (by omega) (by omega) (by decide))
    refine ⟨[some (.sh X), some (.sh Y), some (.sh (.int sc)), some (.sh (.int n)), some (.ow (vec n fun t => .d (.int (left t)))), some (.ow rule), some (.sh (.int s)), some (.sh (.int rest)), some (.ow (vec t fun t => .d (rd (Rat.divInt (f t) Bt)))), some (.sh (.int t)), none, z11, z12],
      [some (.sh X), some (.sh Y), some (.sh (.int sc)), some (.sh (.int n)), some (.ow (vec n fun i => .d (.int (if i = t then left t - fl else left i)))), some (.ow rule), some (.sh (.int s)), some (.sh (.int (rest - fl))), some (.ow (vec (t + 1) fun i => .d (rd (Rat.divInt (if i = t then fl else f i) Bt)))), some (.sh (.int t)), none, some (.sh (.int low)), some (.sh (.int fl))], by rcases a1 with rfl | ⟨d, rfl⟩ <;> rfl, ?_,
      (fun i => if i = t then left t - fl else left i), (fun i => if i = t then fl else f i), rest - fl, _, _, _, .inr ⟨_, rfl⟩, .inr ⟨_, rfl⟩, .inr ⟨_, rfl⟩, fun i hi => ?_, by omega, ?_, ?_, fun i hi => ?_, ?_, by omega, rfl⟩
    · -- the block
      have sumv : b1D .sum (.lst (vec (n - (t + 1)) fun k => .int (left (t + 1 + k)))) = some (.sh (.int (tl n left (t + 1)))) := b1_sum (k := false)
      have e11 : ev [f_btw, f_frac] (.b2 .max (.con (.int 0)) (.bin .sub (.var 7) (.b1 .sum (.slcF (.var 4) (.bin .add (.var 9) (.con (.int 1))))))) [some (.sh X), some (.sh Y), some (.sh (.int sc)), some (.sh (.int n)), some (.ow (vec n fun t => .d (.int (left t)))), some (.ow rule), some (.sh (.int s)), some (.sh (.int rest)), some (.ow (vec t fun t => .d (rd (Rat.divInt (f t) Bt)))), some (.sh (.int t)), none, z11, z12] = some (.sh (.int low), [some (.sh X), some (.sh Y), some (.sh (.int sc)), some (.sh (.int n)), some (.ow (vec n fun t => .d (.int (left t)))), some (.ow rule), some (.sh (.int s)), some (.sh (.int rest)), some (.ow (vec t fun t => .d (rd (Rat.divInt (f t) Bt)))), some (.sh (.int t)), none, z11, z12]) := by
        refine ev_b2 (d1 := .int 0) rfl (ev_bin (d1 := .int rest) rfl (ev_b1f (ev_slcFo (q := ((t + 1 : Nat) : Int)) (j := 4) rfl (ev_bin (d1 := .int t) (d2 := .int 1) rfl rfl rfl) rfl flatT_vec (slcF_vec (by omega))) flatT_vec sumv) bin_sub) ?_
        simp only [b2D, hlow]
      have e12 : ev [f_btw, f_frac] (.call 0 [(.ix (.var 0) (.bin .add (.bin .mul (.var 6) (.var 3)) (.var 9))), (.var 11), (.b2 .min (.var 7) (.ix (.var 4) (.var 9)))]) [some (.sh X), some (.sh Y), some (.sh (.int sc)), some (.sh (.int n)), some (.ow (vec n fun t => .d (.int (left t)))), some (.ow rule), some (.sh (.int s)), some (.sh (.int rest)), some (.ow (vec t fun t => .d (rd (Rat.divInt (f t) Bt)))), some (.sh (.int t)), none, some (.sh (.int low)), z12] = some (.sh (.int fl), [some (.sh X), some (.sh Y), some (.sh (.int sc)), some (.sh (.int n)), some (.ow (vec n fun t => .d (.int (left t)))), some (.ow rule), some (.sh (.int s)), some (.sh (.int rest)), some (.ow (vec t fun t => .d (rd (Rat.divInt (f t) Bt)))), some (.sh (.int t)), none, some (.sh (.int low)), z12]) := by
        refine ev_call (evs_cons (ev_ix (d := X) rfl (ev_bin (ev_bin (d1 := .int s) (d2 := .int n) rfl rfl msn) (d2 := .int t) rfl bin_add) ixk) (evs_cons (d := .int low) rfl (evs_cons (ev_b2 (d1 := .int rest) rfl (ev_ixo (j := 4) (k := t) rfl rfl rfl (vec_get ht)) (r := .sh (.int high)) ?_) evs_nil))) rfl f3
        simp only [b2D, hhigh]
      have upd : (vec n fun t => T.d (.int (left t))).set t (T.d (.int (left t - fl))) = vec n fun i => T.d (.int (if i = t then left t - fl else left i)) := by
        rw [vec_set]
        refine vec_congr fun i _ => ?_
        split <;> rfl
      have snoc : (vec t fun t => T.d (rd (Rat.divInt (f t) Bt))) ++ [T.d (rd (Rat.divInt fl Bt))] = vec (t + 1) fun i => T.d (rd (Rat.divInt (if i = t then fl else f i) Bt)) := by
        rw [vec_succ, if_pos rfl]
        congr 1
        exact vec_congr fun i hi => by rw [if_neg (by omega)]
      rw [← upd, ← snoc]
      refine exs_cons (ex_set e11 (by rcases a2 with rfl | ⟨d, rfl⟩ <;> rfl)) (exs_cons (ex_set e12 (by rcases a3 with rfl | ⟨d, rfl⟩ <;> rfl)) (exs_cons (ex_app rfl (ev_call (evs_cons (d := .int fl) rfl (evs_cons (ev_bin (d1 := .int sc) rfl (ev_ix (d := Y) (i := s) rfl rfl (hy s hs)) mw) evs_nil)) rfl fr) rfl (by rw [vec_length]; omega)) (exs_cons (ex_set (ev_bin (d1 := .int rest) (d2 := .int fl) rfl rfl bin_sub) rfl) (exs_cons (ex_setIx (ev_bin (ev_ixo (j := 4) (k := t) rfl rfl rfl (vec_get ht)) (d2 := .int fl) rfl bin_sub) rfl (k := t) rfl rfl (by rw [vec_length]; exact ht) (by rw [vec_get ht]; rfl) rfl) exs_nil))))
    · dsimp only
      split
      · exact ⟨by omega, lt.2.le (by omega)⟩
      · exact a4 i hi
    · rw [tl_congr (g := left) (t := t + 1) fun i h1 h2 => if_neg (by omega)]
      omega
    · rw [tl_upd ht 0 (Nat.zero_le _)]
      omega
    · dsimp only
      split
      · omega
      · exact a8 i (by omega)
    · by_cases z : 0 < fl
      · exact .inl ⟨t, by omega, by simp only [if_true]; exact z⟩
      · rcases a9 with ⟨u, u1, u2⟩ | u
        · exact .inl ⟨u, by omega, by dsimp only; rw [if_neg (by omega)]; exact u2⟩
        · exact .inr (by omega))
    (ε := [some (.sh X), some (.sh Y), some (.sh (.int sc)), some (.sh (.int n)), some (.ow (vec n fun t => .d (.int (left0 t)))), some (.ow rule), some (.sh (.int s)), some (.sh (.int Bt)), some (.ow []), z9, none, z11, z12])
    ⟨left0, fun _ => 0, Bt, z9, z11, z12, h9, h11, h12, hl0, ⟨by omega, Int.le_refl _⟩, hsum, by omega, fun t ht => by omega, .inr rfl, Nat.zero_le _, rfl⟩
  rw [vec_length] at a6 a8 a9 hf
  rw [tl_end] at a6
  have r0 : rest = 0 := by omega
  subst r0
  exact ⟨left, f, z9', z11', z12', a1, a2, a3, a4, by omega, a8, by rcases a9 with h | h; exact h; omega, hf⟩
def b_flows : List S := [.set 3 (.b1 .len (.var 1)), .set 4 (.lc (.bin .mul (.var 2) (.var 10)) (.one 10) .seq [(.var 1)] [] [10]), .set 5 (.lst []), .forS (.one 6) .rng1 [(.var 3)] [.set 7 (.bin .mul (.var 2) (.ix (.var 1) (.var 6))), .set 8 (.lst []), .forS (.one 9) .rng1 [(.var 3)] w_flow, .app 5 (.var 8)], .ret (.var 5)]
theorem ex_app_ow {G : List Fn} {n i j : Nat} {e : E} {ε : Env} {us : List T} {ts : List T} (hl : gt ε i = some (.ow ts)) (he : ev G e ε = some (.pt j [], ε)) (hj : gt ε j = some (.ow us)) (hg : gt (st (unal j (.lst (T.toDs us)) ε) j (some (.sh (.lst (T.toDs us))))) i = some (.ow ts)) (hs : ts.length < 16000000) : ex G n (.app i e) ε = some (.nx, st (st (unal j (.lst (T.toDs us)) ε) j (some (.sh (.lst (T.toDs us))))) i (some (.ow (ts ++ [.d (.lst (T.toDs us))])))) := by
  have h1 : locate ε i = some (i, []) := by unfold locate; rw [hl]
  have hd : dAt (.lst (T.toDs us)) [] = some (.lst (T.toDs us)) := by simp only [dAt]
  have h3 : asT (.pt j []) ε = some (.d (.lst (T.toDs us)), st (unal j (.lst (T.toDs us)) ε) j (some (.sh (.lst (T.toDs us))))) := by simp only [asT, frz, hj, hd]
  have h2 : listAt (st (unal j (.lst (T.toDs us)) ε) j (some (.sh (.lst (T.toDs us))))) i [] = some (ts, ts) := by unfold listAt; rw [hg]; rfl
  simp only [ex, h1, he, h3, h2, waits, hs, T.put, and_self, if_true]
theorem tl_scale {n : Nat} {w : Nat → Int} {sc : Int} : ∀ t, t ≤ n → tl n (fun t => sc * w t) t = sc * tl n w t := by
  have gen : ∀ m t, t + m = n → tl n (fun t => sc * w t) t = sc * tl n w t := by
    intro m
    induction m with
    | zero => intro t ht; rw [show t = n by omega, tl_end, tl_end, Int.mul_zero]
    | succ m ih => intro t ht; rw [tl_step (by omega), tl_step (f := w) (show t < n by omega), ih (t + 1) (by omega), Int.mul_add]
  exact fun t ht => gen (n - t) t (by omega)
theorem r_flows {n e : Nat} {dg w : Nat → Int} {sc : Int} (hn : n ≤ 6) (hdg : ∀ k, k < 36 → 0 ≤ dg k ∧ dg k < 60) (hsc : 0 < sc) (ssc : Sm 4 sc) (hw : ∀ s, s < n → 0 < w s ∧ Sm e (w s)) (he : e ≤ 1000) :
    ∃ M, Rule n (e + 4) M ∧ run [f_btw, f_frac] 0 10 b_flows [.lst (vec 36 fun k => .int (dg k)), .lst (vec n fun k => .int (w k)), .int sc] = some (.fr (matT true n M)) := by
  have row := fun (s : Nat) (hs : s < n) (left0 : Nat → Int) (rule : List T) => flow_row (e := e) (dg := dg) (w := w) (left0 := left0) (rule := rule) hn hs hdg hsc ssc (hw s hs).1 (hw s hs).2 he
  have hl := len_con (k := false) (n := n) (f := fun k => .int (w k))
  have hy : ∀ k : Nat, k < n → ixD (.lst (vec n fun k => .int (w k))) (.int k) = some (.int (w k)) := fun k hk => lst_ix hk
  have hit : itD .seq [.lst (vec n fun k => .int (w k))] = some (vec n fun k => .int (w k)) := rfl
  rw [show con false (vec n fun k => D.int (w k)) = .lst (vec n fun k => D.int (w k)) from rfl] at hl
  generalize D.lst (vec 36 fun k => .int (dg k)) = X at row
  generalize D.lst (vec n fun k => .int (w k)) = Y at row hl hy hit
  have bp : ∀ s, s < n → 0 < sc * w s := fun s hs => Int.mul_pos hsc (hw s hs).1
  have sb : ∀ s, s < n → Sm (e + 4) (sc * w s) := fun s hs => by rw [Nat.add_comm]; exact ssc.mul (hw s hs).2
  have mw : ∀ s, s < n → binD .mul (.int sc) (.int (w s)) = some (.sh (.int (sc * w s))) := fun s hs => bin_mul ssc (hw s hs).2
  have tp : ∀ t, t ≤ n → 0 ≤ tl n (fun t => sc * w t) t := tl_nonneg fun k hk => by have := bp k hk; omega
  have elc : ev [f_btw, f_frac] (.lc (.bin .mul (.var 2) (.var 10)) (.one 10) .seq [(.var 1)] [] [10]) [some (.sh X), some (.sh Y), some (.sh (.int sc)), some (.sh (.int n)), none, none, none, none, none, none, none, none, none] = some (.fr (vec n fun t => .d (.int (sc * w t))), [some (.sh X), some (.sh Y), some (.sh (.int sc)), some (.sh (.int n)), none, none, none, none, none, none, none, none, none]) :=
    ev_map (ds := [Y]) (ε1 := [some (.sh X), some (.sh Y), some (.sh (.int sc)), some (.sh (.int n)), none, none, none, none, none, none, none, none, none]) _ rfl hit rfl (by omega) (fun t ht => ⟨[some (.sh X), some (.sh Y), some (.sh (.int sc)), some (.sh (.int n)), none, none, none, none, none, none, some (.sh (.int (w t))), none, none], .sh (.int (sc * w t)), rfl, ev_bin (d1 := .int sc) (d2 := .int (w t)) rfl rfl (mw t ht), rfl, rfl, rfl⟩) rfl
  obtain ⟨ε', hf, left, f, z6, z7, z8, z9, z11, z12, a1, a2, a3, a4, a5, a6, a7, a8, a9, rfl⟩ := forF_inv (body := exs [f_btw, f_frac] 0 [.set 7 (.bin .mul (.var 2) (.ix (.var 1) (.var 6))), .set 8 (.lst []), .forS (.one 9) .rng1 [(.var 3)] w_flow, .app 5 (.var 8)]) (tg := .one 6) (its := vec n fun k => .int k)
    (fun s ε => ∃ (left : Nat → Int) (f : Nat → Nat → Int) (z6 z7 z8 z9 z11 z12 : Option W), Sl z6 ∧ Sl z7 ∧ Sl z8 ∧ Sl z9 ∧ Sl z11 ∧ Sl z12 ∧ (∀ t, t < n → 0 ≤ left t ∧ Sm (e + 4) (left t)) ∧ tl n left 0 = tl n (fun t => sc * w t) s ∧ (∀ u, u < s → (∀ t, t < n → 0 ≤ f u t ∧ f u t ≤ sc * w u) ∧ ∃ t, t < n ∧ 0 < f u t) ∧
      ε = [some (.sh X), some (.sh Y), some (.sh (.int sc)), some (.sh (.int n)), some (.ow (vec n fun t => .d (.int (left t)))), some (.ow (vec s fun u => .d (.lst (vec n fun t => rd (Rat.divInt (f u t) (sc * w u)))))), z6, z7, z8, z9, none, z11, z12]) (by
    rintro s d ε hd ⟨left, f, z6, z7, z8, z9, z11, z12, a1, a2, a3, a4, a5, a6, a7, a8, a9, rfl⟩
    have hs : s < n := by
      rcases Nat.lt_or_ge s n with l | l
      · exact l
      · rw [List.getElem?_eq_none (by rw [vec_length]; exact l)] at hd; cases hd
    rw [vec_get hs] at hd
    cases hd
    have ts := tl_step (f := fun t => sc * w t) hs
    have tn := tp (s + 1) (by omega)
    obtain ⟨left', f', z9', z11', z12', c1, c2, c3, c4, c5, c6, c7, c8⟩ := row s hs left (vec s fun u => .d (.lst (vec n fun t => rd (Rat.divInt (f u t) (sc * w u))))) a7 (by rw [a8, ts]; omega) a4 a5 a6
    refine ⟨[some (.sh X), some (.sh Y), some (.sh (.int sc)), some (.sh (.int n)), some (.ow (vec n fun t => .d (.int (left t)))), some (.ow (vec s fun u => .d (.lst (vec n fun t => rd (Rat.divInt (f u t) (sc * w u)))))), some (.sh (.int s)), z7, z8, z9, none, z11, z12],
      [some (.sh X), some (.sh Y), some (.sh (.int sc)), some (.sh (.int n)), some (.ow (vec n fun t => .d (.int (left' t)))), some (.ow (vec (s + 1) fun u => .d (.lst (vec n fun t => rd (Rat.divInt ((if u = s then f' else f u) t) (sc * w u)))))), some (.sh (.int s)), some (.sh (.int 0)), some (.sh (.lst (vec n fun t => rd (Rat.divInt (f' t) (sc * w s))))), z9', none, z11', z12'], by rcases a1 with rfl | ⟨d, rfl⟩ <;> rfl, ?_,
      left', (fun u => if u = s then f' else f u), _, _, _, _, _, _, .inr ⟨_, rfl⟩, .inr ⟨_, rfl⟩, .inr ⟨_, rfl⟩, c1, c2, c3, c4, by rw [c5, a8, ts]; omega, fun u hu => ?_, rfl⟩
    · have e8 : ex [f_btw, f_frac] 0 (.set 8 (.lst [])) [some (.sh X), some (.sh Y), some (.sh (.int sc)), some (.sh (.int n)), some (.ow (vec n fun t => .d (.int (left t)))), some (.ow (vec s fun u => .d (.lst (vec n fun t => rd (Rat.divInt (f u t) (sc * w u)))))), some (.sh (.int s)), some (.sh (.int (sc * w s))), z8, z9, none, z11, z12] = some (.nx, [some (.sh X), some (.sh Y), some (.sh (.int sc)), some (.sh (.int n)), some (.ow (vec n fun t => .d (.int (left t)))), some (.ow (vec s fun u => .d (.lst (vec n fun t => rd (Rat.divInt (f u t) (sc * w u)))))), some (.sh (.int s)), some (.sh (.int (sc * w s))), some (.ow []), z9, none, z11, z12]) := by
        have : ev [f_btw, f_frac] (.lst []) [some (.sh X), some (.sh Y), some (.sh (.int sc)), some (.sh (.int n)), some (.ow (vec n fun t => .d (.int (left t)))), some (.ow (vec s fun u => .d (.lst (vec n fun t => rd (Rat.divInt (f u t) (sc * w u)))))), some (.sh (.int s)), some (.sh (.int (sc * w s))), z8, z9, none, z11, z12] = some (.fr [], [some (.sh X), some (.sh Y), some (.sh (.int sc)), some (.sh (.int n)), some (.ow (vec n fun t => .d (.int (left t)))), some (.ow (vec s fun u => .d (.lst (vec n fun t => rd (Rat.divInt (f u t) (sc * w u)))))), some (.sh (.int s)), some (.sh (.int (sc * w s))), z8, z9, none, z11, z12]) := by
          rw [ev.eq_def]
          simp only [evs]
          rw [if_pos (show lenOk _ from by unfold lenOk; rw [sizeLine_eq]; exact (by decide : (0 : Nat) ≤ 16777216))]
          rfl
        exact ex_set this (by rcases a3 with rfl | ⟨d, rfl⟩ <;> rfl)
      have snoc : (vec s fun u => T.d (.lst (vec n fun t => rd (Rat.divInt (f u t) (sc * w u))))) ++ [T.d (.lst (vec n fun t => rd (Rat.divInt (f' t) (sc * w s))))] = vec (s + 1) fun u => .d (.lst (vec n fun t => rd (Rat.divInt ((if u = s then f' else f u) t) (sc * w u)))) := by
        rw [vec_succ, if_pos rfl]
        congr 1
        exact vec_congr fun u hu => by rw [if_neg (by omega)]
      rw [← snoc]
      refine exs_cons (ex_set (ev_bin (d1 := .int sc) rfl (ev_ix (d := Y) (i := s) rfl rfl (hy s hs)) (mw s hs)) (by rcases a2 with rfl | ⟨d, rfl⟩ <;> rfl)) (exs_cons e8 (exs_cons (ex_for (ds := [.int n]) rfl (itD_rng1 (by omega)) c8) (exs_cons ?_ exs_nil)))
      have := ex_app_ow (G := [f_btw, f_frac]) (n := 0) (i := 5) (j := 8) (e := .var 8) (ε := [some (.sh X), some (.sh Y), some (.sh (.int sc)), some (.sh (.int n)), some (.ow (vec n fun t => .d (.int (left' t)))), some (.ow (vec s fun u => .d (.lst (vec n fun t => rd (Rat.divInt (f u t) (sc * w u)))))), some (.sh (.int s)), some (.sh (.int 0)), some (.ow (vec n fun t => .d (rd (Rat.divInt (f' t) (sc * w s))))), z9', none, z11', z12']) (us := vec n fun t => .d (rd (Rat.divInt (f' t) (sc * w s)))) (ts := vec s fun u => .d (.lst (vec n fun t => rd (Rat.divInt (f u t) (sc * w u))))) rfl rfl rfl (by
        rcases c1 with rfl | ⟨d, rfl⟩ <;> rcases c2 with rfl | ⟨d, rfl⟩ <;> rcases c3 with rfl | ⟨d, rfl⟩ <;> rfl) (by rw [vec_length]; omega)
      rw [this, toDs_vec]
      rcases c1 with rfl | ⟨d, rfl⟩ <;> rcases c2 with rfl | ⟨d, rfl⟩ <;> rcases c3 with rfl | ⟨d, rfl⟩ <;> rfl
    · dsimp only
      split
      · rename_i eq; subst eq; exact ⟨c6, c7⟩
      · exact a9 u (by omega))
    (ε := [some (.sh X), some (.sh Y), some (.sh (.int sc)), some (.sh (.int n)), some (.ow (vec n fun t => .d (.int (sc * w t)))), some (.ow []), none, none, none, none, none, none, none])
    ⟨fun t => sc * w t, fun _ _ => 0, none, none, none, none, none, none, .inl rfl, .inl rfl, .inl rfl, .inl rfl, .inl rfl, .inl rfl, fun t ht => ⟨by have := bp t ht; dsimp only; omega, sb t ht⟩, rfl, fun u hu => by omega, rfl⟩
  rw [vec_length] at hf a9
  refine ⟨fun s t => Rat.divInt (f s t) (sc * w s), ⟨fun s t hs ht => ?_, fun s hs => ?_⟩, ?_⟩
  · have := (a9 s hs).1 t ht
    exact Bd.divInt ((sb s hs).le (by omega)) (sb s hs) (by have := bp s hs; omega)
  · obtain ⟨t, ht, h⟩ := (a9 s hs).2
    exact ⟨t, ht, num_pos h (bp s hs)⟩
  · have e5 : ex [f_btw, f_frac] 0 (.set 5 (.lst [])) [some (.sh X), some (.sh Y), some (.sh (.int sc)), some (.sh (.int n)), some (.ow (vec n fun t => .d (.int (sc * w t)))), none, none, none, none, none, none, none, none] = some (.nx, [some (.sh X), some (.sh Y), some (.sh (.int sc)), some (.sh (.int n)), some (.ow (vec n fun t => .d (.int (sc * w t)))), some (.ow []), none, none, none, none, none, none, none]) := by
      refine ex_set (x := .fr []) (ε1 := [some (.sh X), some (.sh Y), some (.sh (.int sc)), some (.sh (.int n)), some (.ow (vec n fun t => .d (.int (sc * w t)))), none, none, none, none, none, none, none, none]) ?_ rfl
      rw [ev.eq_def]
      simp only [evs]
      rw [if_pos (show lenOk _ from by unfold lenOk; rw [sizeLine_eq]; exact (by decide : (0 : Nat) ≤ 16777216))]
      rfl
    exact run_of rfl (exs_cons (ex_set (ev_b1 (d := Y) rfl hl) rfl) (exs_cons (ex_set elc rfl) (exs_cons e5 (exs_cons (ex_for (ds := [.int n]) rfl (itD_rng1 (by omega)) hf) (exs_ret (ex_ret rfl)))))) rfl
noncomputable def f_flows : Fn := rF [f_btw, f_frac] 3 10 b_flows
end PyD
set_option Elab.async false
set_option linter.all false
set_option maxRecDepth 100000
set_option maxHeartbeats 4000000
/-! Pya: the law's making: a free rule; a rule spoilt. -/
namespace PyD
open PySem L2

theorem f_flows_eq {n e : Nat} {dg w : Nat → Int} {sc : Int} (hn : n ≤ 6) (hdg : ∀ k, k < 36 → 0 ≤ dg k ∧ dg k < 60) (hsc : 0 < sc) (ssc : Sm 4 sc) (hw : ∀ s, s < n → 0 < w s ∧ Sm e (w s)) (he : e ≤ 1000) :
    ∃ M, Rule n (e + 4) M ∧ f_flows [.lst (vec 36 fun k => .int (dg k)), .lst (vec n fun k => .int (w k)), .int sc] = some (.fr (matT true n M)) := let ⟨M, h1, h2⟩ := r_flows hn hdg hsc ssc hw he; ⟨M, h1, rF_eq h2⟩
/-- weights are small -/
theorem wt_20 {a b : Int} {n m : Nat} {h : Nat → Int} (hx : Xok a b) (hs : Span n h m) (hm : m ≤ 101) {k : Nat} (hk : k < n) : Sm 437 (wt a b n h k) ∧ 0 < wt a b n h k := by
  obtain ⟨h0, h1, _, _⟩ := hs
  have l1 := (lo_is (h := h) h0).2.2 k hk
  have l2 := (hi_is (h := h) h0).2.2 k hk
  have pa := hx.pos
  have pb : 0 < b := Int.lt_trans hx.pos hx.lt
  have hle := hx.le
  have hlt := hx.lt
  refine ⟨?_, Int.mul_pos (Int.pow_pos pa) (Int.pow_pos pb)⟩
  unfold wt Sm
  generalize hi1 : (h k - lo n h).toNat = i
  generalize hj1 : (hi n h - h k).toNat = j
  rw [Int.natAbs_mul, Int.natAbs_pow, Int.natAbs_pow]
  have e1 : a.natAbs ^ i ≤ 20 ^ i := Nat.pow_le_pow_left (by omega) i
  have e2 : b.natAbs ^ j ≤ 20 ^ j := Nat.pow_le_pow_left (by omega) j
  have e3 : a.natAbs ^ i * b.natAbs ^ j ≤ 20 ^ (i + j) := by rw [Nat.pow_add]; exact Nat.mul_le_mul e1 e2
  have e4 : (20 : Nat) ^ (i + j) ≤ 20 ^ 101 := Nat.pow_le_pow_right (by decide) (by omega)
  have e5 : (20 : Nat) ^ 101 < 2 ^ 437 := by decide +kernel
  exact Nat.lt_of_le_of_lt (Nat.le_trans e3 e4) e5
theorem Bd.sub {n m : Nat} {p q : Rat} (h : Bd n p) (g : Bd m q) : Bd (n + m + 1) (p - q) := by
  rw [← sub_divInt]
  refine Bd.divInt (Sm.sub (n := n + m) (h.1.mul g.2) ?_) ((h.2.mul g.2).mono (by omega)) (den2_ne p q)
  rw [Nat.add_comm]
  exact g.1.mul h.2
/-! ### _law_spoilt -/
def b_spoilt : List S := [.set 2 (.b1 .len (.var 0)), .set 3 (.bin .mod (.b1 .int (.ix (.var 1) (.con (.int 0)))) (.var 2)), .set 4 (.lc (.var 10) (.one 10) .rng1 [(.var 2)] [(.cmp .gt (.ix (.ix (.ix (.var 0) (.var 3)) (.var 10)) (.con (.int 0))) (.con (.int 0)))] [10]), .set 5 (.ix (.var 4) (.bin .mod (.b1 .int (.ix (.var 1) (.con (.int 1)))) (.b1 .len (.var 4)))), .set 6 (.bin .mod (.b1 .int (.bin .add (.bin .add (.var 5) (.con (.int 1))) (.bin .mod (.bin .fdiv (.b1 .int (.ix (.var 1) (.con (.int 2)))) (.con (.int 2))) (.bin .sub (.var 2) (.con (.int 1)))))) (.var 2)), .set 7 (.ix (.ix (.var 0) (.var 3)) (.var 5)), .ifS (.cmp .eq (.bin .mod (.b1 .int (.ix (.var 1) (.con (.int 2)))) (.con (.int 2))) (.con (.int 1))) [.set 7 (.call 2 [(.var 7), (.tup [(.con (.int 1)), (.con (.int 2))])])] [], .set 8 (.lc (.b1 .list (.var 11)) (.one 11) .seq [(.var 0)] [] [11]), .set 9 (.ix (.var 8) (.var 3)), .setIx 9 (.var 5) (.call 0 [(.ix (.var 9) (.var 5)), (.var 7)]), .setIx 9 (.var 6) (.call 1 [(.ix (.var 9) (.var 6)), (.var 7)]), .ret (.var 8)]
section
variable {G : List Fn} {ε ε1 ε2 ε3 : Env} {a b c e lo : E} {d d1 d2 : D} {ds : List D} {ts us ts0 : List T} {r x y : R} {i j k n m : Nat}
/-- a list within the list of the name j -/
theorem ev_ixa (h1 : ev G a ε = some (.pt j [m], ε1)) (h2 : ev G b ε1 = some (.sh (.int (k : Nat)), ε2)) (hc : calm b = true) (hg : gt ε2 j = some (.ow ts)) (hm : ts[m]? = some (.l us)) (hk : us[k]? = some (.d d)) : ev G (.ix a b) ε = some (.sh d, ε2) := by
  have lt : k < us.length := by
    rcases Nat.lt_or_ge k us.length with z | z
    · exact z
    · rw [List.getElem?_eq_none z] at hk; cases hk
  simp only [ev, h1, h2, waits, hc, ixR, hg, T.get, hm, ixN_lt lt, hk, Option.map]
theorem ev_ixl (h1 : ev G a ε = some (.pt j [], ε1)) (h2 : ev G b ε1 = some (.sh (.int (k : Nat)), ε2)) (hg : gt ε2 j = some (.ow ts)) (hk : ts[k]? = some (.l us)) : ev G (.ix a b) ε = some (.pt j [k], ε2) := by
  have lt : k < ts.length := by
    rcases Nat.lt_or_ge k ts.length with z | z
    · exact z
    · rw [List.getElem?_eq_none z] at hk; cases hk
  simp only [ev, h1, h2, waits, ixR, hg, T.get, ixN_lt lt, hk, Option.map, List.nil_append]
theorem ex_setIxa (he : ev G e ε = some (.sh d, ε1)) (hl : gt ε1 i = some (.al j [m])) (ha : ev G a ε1 = some (.sh (.int (k : Nat)), ε2)) (hg : gt ε2 j = some (.ow ts)) (hm : ts[m]? = some (.l us)) (hk : k < us.length) (hd : isData us[k]? = true) (hc : calm a = true) : ex G n (.setIx i a e) ε = some (.nx, st ε2 j (some (.ow (ts.set m (.l (us.set k (.d d))))))) := by
  have h1 : locate ε1 i = some (j, [m]) := by unfold locate; rw [hl]
  have h2 : listAt ε2 j [m] = some (ts, us) := by unfold listAt; rw [hg]; simp only [T.get, hm, Option.map]
  simp only [ex, he, asT, frz, h1, ha, h2, ixN_lt hk, hd, hc, and_self, if_true, T.put, hm]
end
theorem rd_half : D.tup [.int 1, .int 2] = rd (Rat.divInt 1 2) := by rw [rd_pos (by decide)]; rfl
theorem mat_ix {n : Nat} {M : Nat → Nat → Rat} {s : Nat} (hs : s < n) : ixD (mat false false true n M) (.int s) = some (.lst (vec n fun g => rd (M s g))) := by
  unfold mat
  rw [ixD_con, vec_atI hs]
  rfl
theorem len_mat {n : Nat} {M : Nat → Nat → Rat} : b1D .len (mat false false true n M) = some (.sh (.int n)) := len_con (k := false)
theorem it_mat {n : Nat} {M : Nat → Nat → Rat} : itD .seq [mat false false true n M] = some (vec n fun s => .lst (vec n fun g => rd (M s g))) := rfl
theorem r_spoilt {n e : Nat} {M : Nat → Nat → Rat} {r : Nat → Int} (hn : n ≤ 1000) (hn2 : 1 < n) (hM : Rule n e M) (he : e ≤ 4000) : ∃ M', (∀ s g, s < n → g < n → Bd (e + (e + 2) + 1) (M' s g)) ∧ run [f_lless, f_ladded, f_ltimed] 0 10 b_spoilt [mat false false true n M, .lst (vec 3 fun k => .int (r k))] = some (.fr (matT false n M')) := by
  have hr : ∀ k : Nat, k < 3 → ixD (.lst (vec 3 fun k => .int (r k))) (.int k) = some (.int (r k)) := fun k hk => lst_ix hk
  have hml := len_mat (n := n) (M := M)
  have hmi := fun (s : Nat) (hs : s < n) => mat_ix (M := M) hs
  have hmt := it_mat (n := n) (M := M)
  generalize mat false false true n M = X at hml hmi hmt
  generalize D.lst (vec 3 fun k => .int (r k)) = Y at hr
  have ha := fmod_range (a := r 0) (b := n) (by omega)
  obtain ⟨at_, hat⟩ := Int.eq_ofNat_of_zero_le ha.1
  have hat2 : at_ < n := by omega
  -- the places that hold something
  have hfilt : ev [f_lless, f_ladded, f_ltimed] (.lc (.var 10) (.one 10) .rng1 [(.var 2)] [(.cmp .gt (.ix (.ix (.ix (.var 0) (.var 3)) (.var 10)) (.con (.int 0))) (.con (.int 0)))] [10]) [some (.sh X), some (.sh Y), some (.sh (.int n)), some (.sh (.int at_)), none, none, none, none, none, none, none, none] = some (.fr (((vec n fun k => D.int k).filter fun d => match d with | .int k => decide (0 < (M at_ k.toNat).num) | _ => false).map T.d), [some (.sh X), some (.sh Y), some (.sh (.int n)), some (.sh (.int at_)), none, none, none, none, none, none, none, none]) := by
    have := ev_lc (G := [f_lless, f_ladded, f_ltimed]) (elt := .var 10) (tg := .one 10) (kd := .rng1) (src := [.var 2]) (ifs := [(.cmp .gt (.ix (.ix (.ix (.var 0) (.var 3)) (.var 10)) (.con (.int 0))) (.con (.int 0)))]) (ws := [10]) (ε := [some (.sh X), some (.sh Y), some (.sh (.int n)), some (.sh (.int at_)), none, none, none, none, none, none, none, none]) (ds := [.int n]) rfl (itD_rng1 (by omega)) rfl (lcF_filter (fun d => match d with | .int k => decide (0 < (M at_ k.toNat).num) | _ => false) T.d (fun d hd => ?_) (acc := []) (by rw [vec_length]; simp; omega))
    · exact this
    · obtain ⟨k, hk, rfl⟩ := vec_mem.mp hd
      refine ⟨[some (.sh X), some (.sh Y), some (.sh (.int n)), some (.sh (.int at_)), none, none, none, none, none, none, some (.sh (.int k)), none], .sh (.int k), rfl, ?_, rfl, rfl, rfl, rfl⟩
      simp only [evT]
      exact ev_cmp (ev_ix (ev_ix (ev_ix (d := X) (i := at_) rfl rfl (hmi at_ hat2)) (b := .var 10) (i := k) rfl (lst_ix hk)) (b := .con (.int 0)) (i := 0) rfl (show ixD (rd (M at_ k)) (.int 0) = some (.int (M at_ k).num) from rfl)) (d2 := .int 0) rfl rfl
  generalize hF : ((vec n fun k => D.int k).filter fun d => match d with | .int k => decide (0 < (M at_ k.toNat).num) | _ => false) = F at hfilt
  have hmem : ∀ d ∈ F, ∃ k : Nat, k < n ∧ d = .int k := fun d hd => by
    rw [← hF] at hd
    obtain ⟨k, hk, e⟩ := vec_mem.mp (List.mem_filter.mp hd).1
    exact ⟨k, hk, e.symm⟩
  have hne : 0 < F.length := by
    obtain ⟨g, hg, hp⟩ := hM.pos at_ hat2
    rw [← hF]
    refine List.length_pos_of_mem (a := D.int g) (List.mem_filter.mpr ⟨vec_mem.mpr ⟨g, hg, rfl⟩, ?_⟩)
    simpa using hp
  have hb := fmod_range (a := r 1) (b := F.length) (by omega)
  obtain ⟨q, hq⟩ := Int.eq_ofNat_of_zero_le hb.1
  have hq2 : q < F.length := by omega
  obtain ⟨src, hsrc, hFq⟩ := hmem F[q] (List.getElem_mem hq2)
  have hd := fmod_range (a := (r 2).fdiv 2) (b := n - 1) (by omega)
  have hgl := fmod_range (a := (src : Int) + 1 + ((r 2).fdiv 2).fmod (n - 1)) (b := n) (by omega)
  obtain ⟨goal, hgoal⟩ := Int.eq_ofNat_of_zero_le hgl.1
  have hgoal2 : goal < n := by omega
  have hgs : goal ≠ src := by
    rintro rfl
    rw [Int.fmod_eq_emod_of_nonneg _ (by omega)] at hgoal
    have := Int.emod_add_mul_ediv ((goal : Int) + 1 + ((r 2).fdiv 2).fmod (n - 1)) n
    rw [hgoal] at this
    have h3 : (n : Int) * (((goal : Int) + 1 + ((r 2).fdiv 2).fmod (n - 1)) / n) = 1 + ((r 2).fdiv 2).fmod (n - 1) := by omega
    generalize ((goal : Int) + 1 + ((r 2).fdiv 2).fmod (n - 1)) / n = z at h3
    rcases Int.lt_or_le 0 z with hz | hz
    · have := Int.mul_le_mul_of_nonneg_left (show (1 : Int) ≤ z by omega) (show (0 : Int) ≤ n by omega)
      omega
    · have := Int.mul_nonpos_of_nonneg_of_nonpos (show (0 : Int) ≤ n by omega) hz
      omega
  -- what is moved
  have bsrc := hM.bd at_ src hat2 hsrc
  obtain ⟨part, hbp, hpart⟩ : ∃ part : Rat, Bd (e + 2) part ∧ ∀ {z}, exs [f_lless, f_ladded, f_ltimed] 0 [.ifS (.cmp .eq (.bin .mod (.b1 .int (.ix (.var 1) (.con (.int 2)))) (.con (.int 2))) (.con (.int 1))) [.set 7 (.call 2 [(.var 7), (.tup [(.con (.int 1)), (.con (.int 2))])])] []] [some (.sh X), some (.sh Y), some (.sh (.int n)), some (.sh (.int at_)), z, some (.sh (.int src)), some (.sh (.int goal)), some (.sh (rd (M at_ src))), none, none, none, none] = some (.nx, [some (.sh X), some (.sh Y), some (.sh (.int n)), some (.sh (.int at_)), z, some (.sh (.int src)), some (.sh (.int goal)), some (.sh (rd part)), none, none, none, none]) := by
    have hc : ∀ {z}, ev [f_lless, f_ladded, f_ltimed] (.cmp .eq (.bin .mod (.b1 .int (.ix (.var 1) (.con (.int 2)))) (.con (.int 2))) (.con (.int 1))) [some (.sh X), some (.sh Y), some (.sh (.int n)), some (.sh (.int at_)), z, some (.sh (.int src)), some (.sh (.int goal)), some (.sh (rd (M at_ src))), none, none, none, none] = some (.sh (.bl (decide ((r 2).fmod 2 = 1))), [some (.sh X), some (.sh Y), some (.sh (.int n)), some (.sh (.int at_)), z, some (.sh (.int src)), some (.sh (.int goal)), some (.sh (rd (M at_ src))), none, none, none, none]) := fun {z} =>
      ev_cmp (ev_bin (ev_b1 (ev_ix (d := Y) (i := 2) rfl rfl (hr 2 (by decide))) b1_int) (d2 := .int 2) rfl (bin_mod (by decide))) (d2 := .int 1) rfl (cmpD_eq (eqD_int _ _))
    by_cases h : (r 2).fmod 2 = 1
    · have hb2 : Bd 2 (Rat.divInt 1 2) := Bd.divInt (by unfold Sm; decide) (by unfold Sm; decide) (by decide)
      have ft := f_ltimed_eq bsrc hb2 (by omega)
      rw [decide_eq_true h] at hc
      refine ⟨M at_ src * Rat.divInt 1 2, bsrc.mul hb2, fun {z} => exs_cons (ex_ifT hc (exs_cons (ex_set (ε1 := [some (.sh X), some (.sh Y), some (.sh (.int n)), some (.sh (.int at_)), z, some (.sh (.int src)), some (.sh (.int goal)), some (.sh (rd (M at_ src))), none, none, none, none]) (ev_call (ds := [rd (M at_ src), rd (Rat.divInt 1 2)]) (evs_cons rfl (evs_cons (d := rd (Rat.divInt 1 2)) ?_ evs_nil)) rfl ft) rfl) exs_nil)) exs_nil⟩
      rw [← rd_half]
      simp [run, exs, ex, ev, evs, evT, gt, st, put, putR, kill, unal, frz, peek, peekH, asT, flatT, flatT_d, toDs_d, waits, calm, calms, cmpD, binD, negD, notD, isD, isiD, b2D, b1D, B1.deep, callD, fin, lenOk, sizeLine_eq, asg, asgs, itD, items, plainW, wipeE, back, locate, listAt, T.get, T.put, T.toD, T.toDs, dAt, isData, ixR, ixD, eqD_int, atI_nat]
    · rw [decide_eq_false h] at hc
      exact ⟨M at_ src, bsrc.mono (by omega), fun {z} => exs_cons (ex_ifF hc exs_nil) exs_nil⟩
  have bgoal := hM.bd at_ goal hat2 hgoal2
  have fl := f_lless_eq bsrc hbp (by omega)
  have fa := f_ladded_eq bgoal hbp (by omega)
  refine ⟨fun s g => if s = at_ then (if g = goal then M at_ goal + part else if g = src then M at_ src - part else M at_ g) else M s g, fun s g hs hg => ?_, ?_⟩
  · dsimp only
    split
    · split
      · exact bgoal.add hbp
      · split
        · exact bsrc.sub hbp
        · exact (hM.bd at_ g hat2 hg).mono (by omega)
    · exact (hM.bd s g hs hg).mono (by omega)
  · have e4 : ∀ {z}, ev [f_lless, f_ladded, f_ltimed] (.bin .mod (.b1 .int (.ix (.var 1) (.con (.int 1)))) (.b1 .len (.var 4))) [some (.sh X), some (.sh Y), some (.sh (.int n)), some (.sh (.int at_)), some (.ow (F.map T.d)), z, none, none, none, none, none, none] = some (.sh (.int q), [some (.sh X), some (.sh Y), some (.sh (.int n)), some (.sh (.int at_)), some (.ow (F.map T.d)), z, none, none, none, none, none, none]) := fun {z} => by
      have := ev_bin (G := [f_lless, f_ladded, f_ltimed]) (ε := [some (.sh X), some (.sh Y), some (.sh (.int n)), some (.sh (.int at_)), some (.ow (F.map T.d)), z, none, none, none, none, none, none]) (ev_b1 (ev_ix (a := .var 1) (b := .con (.int 1)) (d := Y) (i := 1) rfl rfl (hr 1 (by decide))) b1_int) (ev_b1o (bb := .len) (a := .var 4) (j := 4) rfl rfl (flatT_d F) (rfl : b1D .len (.lst F) = some (.sh (.int F.length)))) (bin_mod (by omega))
      rw [hq] at this
      exact this
    have hFm : (F.map T.d)[q]? = some (T.d (.int src)) := by rw [List.getElem?_map, List.getElem?_eq_getElem hq2, hFq]; rfl
    have e6 : ∀ {z}, ev [f_lless, f_ladded, f_ltimed] (.bin .mod (.b1 .int (.bin .add (.bin .add (.var 5) (.con (.int 1))) (.bin .mod (.bin .fdiv (.b1 .int (.ix (.var 1) (.con (.int 2)))) (.con (.int 2))) (.bin .sub (.var 2) (.con (.int 1)))))) (.var 2)) [some (.sh X), some (.sh Y), some (.sh (.int n)), some (.sh (.int at_)), some (.ow (F.map T.d)), some (.sh (.int src)), z, none, none, none, none, none] = some (.sh (.int goal), [some (.sh X), some (.sh Y), some (.sh (.int n)), some (.sh (.int at_)), some (.ow (F.map T.d)), some (.sh (.int src)), z, none, none, none, none, none]) := fun {z} => by
      have := ev_bin (G := [f_lless, f_ladded, f_ltimed]) (ε := [some (.sh X), some (.sh Y), some (.sh (.int n)), some (.sh (.int at_)), some (.ow (F.map T.d)), some (.sh (.int src)), z, none, none, none, none, none]) (ev_b1 (d := .int ((src : Int) + 1 + ((r 2).fdiv 2).fmod (n - 1))) (ev_bin (ev_bin (a := .var 5) (b := .con (.int 1)) (d1 := .int src) (d2 := .int 1) rfl rfl bin_add) (ev_bin (ev_bin (ev_b1 (ev_ix (a := .var 1) (b := .con (.int 2)) (d := Y) (i := 2) rfl rfl (hr 2 (by decide))) b1_int) (b := .con (.int 2)) (d2 := .int 2) rfl (bin_div (n := 2) (by decide) (by unfold Sm; decide))) (ev_bin (a := .var 2) (b := .con (.int 1)) (d1 := .int n) (d2 := .int 1) rfl rfl bin_sub) (bin_mod (by omega))) bin_add) b1_int) (b := .var 2) (d2 := .int n) rfl (bin_mod (by omega))
      rw [hgoal] at this
      exact this
    have e8 : ev [f_lless, f_ladded, f_ltimed] (.lc (.b1 .list (.var 11)) (.one 11) .seq [(.var 0)] [] [11]) [some (.sh X), some (.sh Y), some (.sh (.int n)), some (.sh (.int at_)), some (.ow (F.map T.d)), some (.sh (.int src)), some (.sh (.int goal)), some (.sh (rd part)), none, none, none, none] = some (.fr (matT false n M), [some (.sh X), some (.sh Y), some (.sh (.int n)), some (.sh (.int at_)), some (.ow (F.map T.d)), some (.sh (.int src)), some (.sh (.int goal)), some (.sh (rd part)), none, none, none, none]) := by
      refine ev_map (ds := [X]) (ε1 := [some (.sh X), some (.sh Y), some (.sh (.int n)), some (.sh (.int at_)), some (.ow (F.map T.d)), some (.sh (.int src)), some (.sh (.int goal)), some (.sh (rd part)), none, none, none, none]) _ rfl hmt rfl (by omega) (fun s hs => ⟨[some (.sh X), some (.sh Y), some (.sh (.int n)), some (.sh (.int at_)), some (.ow (F.map T.d)), some (.sh (.int src)), some (.sh (.int goal)), some (.sh (rd part)), none, none, none, some (.sh (.lst (vec n fun g => rd (M s g))))], .fr (vec n fun g => .d (rd (M s g))), rfl, ev_b1 (d := .lst (vec n fun g => rd (M s g))) rfl ?_, rfl, rfl, rfl⟩) rfl
      simp only [b1D, items, Option.map, vec_map]
    have hrow : (matT false n M)[at_]? = some (.l (vec n fun g => .d (rd (M at_ g)))) := by unfold matT; rw [vec_get hat2]; rfl
    have hrow2 : ((matT false n M).set at_ (.l ((vec n fun g => T.d (rd (M at_ g))).set src (.d (rd (M at_ src - part))))))[at_]? = some (.l ((vec n fun g => T.d (rd (M at_ g))).set src (.d (rd (M at_ src - part))))) := by
      rw [List.getElem?_set_self (by unfold matT; rw [vec_length]; exact hat2)]
    have fin_ : ((matT false n M).set at_ (.l ((vec n fun g => T.d (rd (M at_ g))).set src (.d (rd (M at_ src - part)))))).set at_ (.l (((vec n fun g => T.d (rd (M at_ g))).set src (.d (rd (M at_ src - part)))).set goal (.d (rd (M at_ goal + part))))) = matT false n fun s g => if s = at_ then (if g = goal then M at_ goal + part else if g = src then M at_ src - part else M at_ g) else M s g := by
      rw [List.set_set]
      unfold matT
      rw [vec_set]
      refine vec_congr fun s hs => ?_
      by_cases h : s = at_
      · subst h
        simp only [if_true, Bool.false_eq_true, if_false, vec_set]
        refine congrArg T.l (vec_congr fun g hg => ?_)
        by_cases h1 : g = goal
        · rw [if_pos h1, if_pos h1]
        · rw [if_neg h1, if_neg h1]
          by_cases h2 : g = src
          · rw [if_pos h2, if_pos h2]
          · rw [if_neg h2, if_neg h2]
      · simp only [if_neg h, Bool.false_eq_true, if_false]
    refine run_of (r := .pt 8 []) (ε := [some (.sh X), some (.sh Y), some (.sh (.int n)), some (.sh (.int at_)), some (.ow (F.map T.d)), some (.sh (.int src)), some (.sh (.int goal)), some (.sh (rd part)), some (.ow (matT false n fun s g => if s = at_ then (if g = goal then M at_ goal + part else if g = src then M at_ src - part else M at_ g) else M s g)), some (.al 8 [at_]), none, none]) rfl (exs_cons (ex_set (ev_b1 (d := X) rfl hml) rfl) (exs_cons (ex_set (x := .sh (.int at_)) (ε1 := [some (.sh X), some (.sh Y), some (.sh (.int n)), none, none, none, none, none, none, none, none, none]) ?_ rfl) (exs_cons (ex_set hfilt rfl) (exs_cons (ex_set (ev_ixo (j := 4) (k := q) rfl e4 rfl hFm) rfl) (exs_cons (ex_set e6 rfl) (exs_cons (ex_set (ev_ix (ev_ix (d := X) (i := at_) rfl rfl (hmi at_ hat2)) (b := .var 5) (i := src) rfl (lst_ix hsrc)) rfl) ?_)))))) rfl
    · have := ev_bin (G := [f_lless, f_ladded, f_ltimed]) (ε := [some (.sh X), some (.sh Y), some (.sh (.int n)), none, none, none, none, none, none, none, none, none]) (ev_b1 (ev_ix (a := .var 1) (b := .con (.int 0)) (d := Y) (i := 0) rfl rfl (hr 0 (by decide))) b1_int) (b := .var 2) (d2 := .int n) rfl (bin_mod (by omega))
      rw [hat] at this
      exact this
    · have step : ∀ {a : S} {rest : List S} {ε ε1 : Env} {q}, exs [f_lless, f_ladded, f_ltimed] 0 [a] ε = some (.nx, ε1) → exs [f_lless, f_ladded, f_ltimed] 0 rest ε1 = q → exs [f_lless, f_ladded, f_ltimed] 0 (a :: rest) ε = q := fun {a rest ε ε1 q} h1 h2 => by
        simp only [exs] at h1 ⊢
        cases h3 : ex [f_lless, f_ladded, f_ltimed] 0 a ε with
        | none => rw [h3] at h1; cases h1
        | some y =>
          obtain ⟨o, ε'⟩ := y
          rw [h3] at h1
          cases o with
          | nx => cases h1; exact h2
          | _ => cases h1
      refine step hpart (exs_cons (ex_set e8 (ε2 := [some (.sh X), some (.sh Y), some (.sh (.int n)), some (.sh (.int at_)), some (.ow (F.map T.d)), some (.sh (.int src)), some (.sh (.int goal)), some (.sh (rd part)), some (.ow (matT false n M)), none, none, none]) rfl) (exs_cons (ex_set (ev_ixl (j := 8) (k := at_) rfl rfl rfl hrow) (ε2 := [some (.sh X), some (.sh Y), some (.sh (.int n)), some (.sh (.int at_)), some (.ow (F.map T.d)), some (.sh (.int src)), some (.sh (.int goal)), some (.sh (rd part)), some (.ow (matT false n M)), some (.al 8 [at_]), none, none]) ?_) (exs_cons (ex_setIxa (j := 8) (m := at_) (k := src) (ev_call (evs_cons (ev_ixa (j := 8) (m := at_) (k := src) rfl rfl rfl rfl hrow (vec_get hsrc)) (evs_cons rfl evs_nil)) rfl fl) rfl rfl rfl hrow (by rw [vec_length]; exact hsrc) (by rw [vec_get hsrc]; rfl) rfl) (exs_cons (ex_setIxa (j := 8) (m := at_) (k := goal) (ev_call (evs_cons (ev_ixa (j := 8) (m := at_) (k := goal) (d := rd (M at_ goal)) rfl rfl rfl rfl hrow2 (by rw [List.getElem?_set_ne (fun z => hgs z.symm), vec_get hgoal2])) (evs_cons rfl evs_nil)) rfl fa) rfl rfl rfl hrow2 (by rw [List.length_set, vec_length]; exact hgoal2) (by rw [List.getElem?_set_ne (fun z => hgs z.symm), vec_get hgoal2]; rfl) rfl) (exs_ret (ex_ret (ε1 := [some (.sh X), some (.sh Y), some (.sh (.int n)), some (.sh (.int at_)), some (.ow (F.map T.d)), some (.sh (.int src)), some (.sh (.int goal)), some (.sh (rd part)), some (.ow (matT false n fun s g => if s = at_ then (if g = goal then M at_ goal + part else if g = src then M at_ src - part else M at_ g) else M s g)), some (.al 8 [at_]), none, none]) ?_))))))
      · have : (T.get (matT false n M) [at_]).isSome = true := by simp only [T.get, hrow]; rfl
        simp only [putR, gt, List.length_cons, List.length_nil, this, and_true]
        rfl
      · rw [← fin_]
        rfl
noncomputable def f_spoilt : Fn := rF [f_lless, f_ladded, f_ltimed] 2 10 b_spoilt
end PyD
set_option Elab.async false
set_option linter.all false
set_option maxRecDepth 100000
set_option maxHeartbeats 4000000
/-! Pyb: the law's making: a free rule. -/
namespace PyD
open PySem L2

theorem f_spoilt_eq {n e : Nat} {M : Nat → Nat → Rat} {r : Nat → Int} (hn : n ≤ 1000) (hn2 : 1 < n) (hM : Rule n e M) (he : e ≤ 4000) : ∃ M', (∀ s g, s < n → g < n → Bd (e + (e + 2) + 1) (M' s g)) ∧ f_spoilt [mat false false true n M, .lst (vec 3 fun k => .int (r k))] = some (.fr (matT false n M')) := let ⟨M', h1, h2⟩ := r_spoilt hn hn2 hM he; ⟨M', h1, rF_eq h2⟩
def w_free : List S := [.set 4 (.lc (.b2 .max (.con (.int 0)) (.bin .sub (.ix (.var 0) (.bin .add (.bin .mul (.var 3) (.var 1)) (.var 5))) (.con (.int 19)))) (.one 5) .rng1 [(.var 1)] [] [5]), .ifS (.cmp .eq (.b1 .sum (.var 4)) (.con (.int 0))) [.setIx 4 (.var 3) (.con (.int 1))] [], .app 2 (.lc (.call 0 [(.var 6), (.b1 .sum (.var 4))]) (.one 6) .seq [(.var 4)] [] [6])]
def b_free : List S := [.set 2 (.lst []), .forS (.one 3) .rng1 [(.var 1)] w_free, .ret (.var 2)]
theorem sum_nonneg {n : Nat} {f : Nat → Int} (h : ∀ k, k < n → 0 ≤ f k) : 0 ≤ (vec n f).sum := by rw [← tl_zero]; exact tl_nonneg h 0 (Nat.zero_le _)
theorem sum_has {n : Nat} {f : Nat → Int} (h : ∀ k, k < n → 0 ≤ f k) (hp : 0 < (vec n f).sum) : ∃ k, k < n ∧ 0 < f k := by
  refine Classical.byContradiction fun hno => ?_
  have hz : vec n f = vec n fun _ => 0 := vec_congr fun k hk => by
    have := h k hk
    by_cases z : 0 < f k
    · exact absurd ⟨k, hk, z⟩ hno
    · omega
  rw [hz] at hp
  have : ∀ m, (vec m fun _ => (0 : Int)).sum = 0 := by
    intro m
    induction m with
    | zero => rfl
    | succ m ih => rw [vec_succ, List.sum_append, ih]; rfl
  rw [this] at hp
  omega
theorem lst_nil {G : List Fn} {ε : Env} : ev G (.lst []) ε = some (.fr [], ε) := by
  rw [ev.eq_def]
  simp only [evs]
  rw [if_pos (show lenOk _ from by unfold lenOk; rw [sizeLine_eq]; exact (by decide : (0 : Nat) ≤ 16777216))]
  rfl
theorem r_free {n : Nat} {dg : Nat → Int} (hn : n ≤ 6) (hdg : ∀ k, k < 36 → 0 ≤ dg k ∧ dg k < 60) :
    ∃ M, Rule n 20 M ∧ run [f_frac] 0 5 b_free [.lst (vec 36 fun k => .int (dg k)), .int n] = some (.fr (matT false n M)) := by
  have hx : ∀ k : Nat, k < 36 → ixD (.lst (vec 36 fun k => .int (dg k))) (.int k) = some (.int (dg k)) := fun k hk => lst_ix hk
  generalize D.lst (vec 36 fun k => .int (dg k)) = X at hx
  have bnd : ∀ s t, s < n → t < n → s * n + t < 36 := fun s t hs ht => by
    have h1 : s * n + n ≤ n * n := by rw [← Nat.succ_mul]; exact Nat.mul_le_mul_right _ hs
    have h2 : n * n ≤ 6 * 6 := Nat.mul_le_mul hn hn
    omega
  obtain ⟨ε', hf, p, z3, z4, a1, a2, a3, rfl⟩ := forF_inv (body := exs [f_frac] 0 w_free) (tg := .one 3) (its := vec n fun k => .int k)
    (fun s ε => ∃ (p : Nat → Nat → Int) (z3 z4 : Option W), Sl z3 ∧ Sl z4 ∧ (∀ u, u < s → (∀ t, t < n → 0 ≤ p u t ∧ p u t ≤ 41) ∧ 0 < (vec n (p u)).sum) ∧ ε = [some (.sh X), some (.sh (.int n)), some (.ow (vec s fun u => .l (vec n fun t => .d (rd (Rat.divInt (p u t) (vec n (p u)).sum))))), z3, z4, none, none]) (by
    rintro s d ε hd ⟨p, z3, z4, a1, a2, a3, rfl⟩
    have hs : s < n := by
      rcases Nat.lt_or_ge s n with l | l
      · exact l
      · rw [List.getElem?_eq_none (by rw [vec_length]; exact l)] at hd; cases hd
    rw [vec_get hs] at hd
    cases hd
    have msn := bin_mul (a := (s : Int)) (b := (n : Int)) (n := 3) (m := 3) (Sm.of_range (k := 7) (by omega) (by omega) (by decide)) (Sm.of_range (k := 7) (by omega) (by omega) (by decide))
    -- the parts
    have hp0 : ∃ q : Nat → Int, (∀ t, t < n → 0 ≤ q t ∧ q t ≤ 40) ∧ ev [f_frac] (.lc (.b2 .max (.con (.int 0)) (.bin .sub (.ix (.var 0) (.bin .add (.bin .mul (.var 3) (.var 1)) (.var 5))) (.con (.int 19)))) (.one 5) .rng1 [(.var 1)] [] [5]) [some (.sh X), some (.sh (.int n)), some (.ow (vec s fun u => .l (vec n fun t => .d (rd (Rat.divInt (p u t) (vec n (p u)).sum))))), some (.sh (.int s)), z4, none, none] = some (.fr (vec n fun t => .d (.int (q t))), [some (.sh X), some (.sh (.int n)), some (.ow (vec s fun u => .l (vec n fun t => .d (rd (Rat.divInt (p u t) (vec n (p u)).sum))))), some (.sh (.int s)), z4, none, none]) := by
      refine ⟨fun t => if dg (s * n + t) - 19 > 0 then dg (s * n + t) - 19 else 0, fun t ht => ?_, ?_⟩
      · have := hdg (s * n + t) (bnd s t hs ht)
        dsimp only
        split <;> omega
      · refine ev_map (ds := [.int n]) (ε1 := [some (.sh X), some (.sh (.int n)), some (.ow (vec s fun u => .l (vec n fun t => .d (rd (Rat.divInt (p u t) (vec n (p u)).sum))))), some (.sh (.int s)), z4, none, none]) _ rfl (itD_rng1 (by omega)) (by rcases a2 with rfl | ⟨d, rfl⟩ <;> rfl) (by omega) (fun t ht => ⟨[some (.sh X), some (.sh (.int n)), some (.ow (vec s fun u => .l (vec n fun t => .d (rd (Rat.divInt (p u t) (vec n (p u)).sum))))), some (.sh (.int s)), z4, some (.sh (.int t)), none], _, rfl, ev_b2 (d1 := .int 0) rfl (ev_bin (ev_ix (d := X) (i := ((s * n + t : Nat) : Int)) rfl (ev_bin (ev_bin (d1 := .int s) (d2 := .int n) rfl rfl msn) (d2 := .int t) rfl (by rw [bin_add]; push_cast; rfl)) (hx _ (bnd s t hs ht))) (d2 := .int 19) rfl bin_sub) rfl, rfl, rfl, rfl⟩) rfl
    obtain ⟨q, hq, elc⟩ := hp0
    -- with something in it
    have hsum : b1D .sum (.lst (vec n fun t => .int (q t))) = some (.sh (.int (vec n q).sum)) := b1_sum (k := false)
    obtain ⟨q', hq', hpos, eif⟩ : ∃ q' : Nat → Int, (∀ t, t < n → 0 ≤ q' t ∧ q' t ≤ 41) ∧ 0 < (vec n q').sum ∧ ex [f_frac] 0 (.ifS (.cmp .eq (.b1 .sum (.var 4)) (.con (.int 0))) [.setIx 4 (.var 3) (.con (.int 1))] []) [some (.sh X), some (.sh (.int n)), some (.ow (vec s fun u => .l (vec n fun t => .d (rd (Rat.divInt (p u t) (vec n (p u)).sum))))), some (.sh (.int s)), some (.ow (vec n fun t => .d (.int (q t)))), none, none] = some (.nx, [some (.sh X), some (.sh (.int n)), some (.ow (vec s fun u => .l (vec n fun t => .d (rd (Rat.divInt (p u t) (vec n (p u)).sum))))), some (.sh (.int s)), some (.ow (vec n fun t => .d (.int (q' t)))), none, none]) := by
      have hc := ev_cmp (G := [f_frac]) (ε := [some (.sh X), some (.sh (.int n)), some (.ow (vec s fun u => .l (vec n fun t => .d (rd (Rat.divInt (p u t) (vec n (p u)).sum))))), some (.sh (.int s)), some (.ow (vec n fun t => .d (.int (q t)))), none, none]) (o := .eq) (ev_b1o (a := .var 4) (j := 4) rfl rfl flatT_vec hsum) (b := .con (.int 0)) (d2 := .int 0) rfl (cmpD_eq (eqD_int _ _))
      have nn := sum_nonneg (f := q) fun k hk => (hq k hk).1
      by_cases h : (vec n q).sum = 0
      · rw [decide_eq_true h] at hc
        have upd : (vec n fun t => T.d (.int (q t))).set s (T.d (.int 1)) = vec n fun t => T.d (.int (if t = s then 1 else q t)) := by
          rw [vec_set]
          refine vec_congr fun i _ => ?_
          split <;> rfl
        refine ⟨fun t => if t = s then 1 else q t, fun t ht => ?_, ?_, ?_⟩
        · have := hq t ht
          dsimp only
          split <;> omega
        · rw [← tl_zero, tl_upd hs 0 (Nat.zero_le _), tl_zero, h]
          have : q s ≤ 0 := by
            refine Int.not_lt.mp fun z => ?_
            have h2 := tl_step (n := n) (f := q) hs
            have h3 := tl_nonneg (fun k hk => (hq k hk).1) (s + 1) (by omega)
            have h4 : tl n q 0 = 0 := by rw [tl_zero]; exact h
            have h5 : ∀ t, t ≤ n → tl n q t ≤ tl n q 0 := by
              intro t
              induction t with
              | zero => intro _; exact Int.le_refl _
              | succ t ih =>
                intro ht
                have := ih (by omega)
                have := tl_step (n := n) (f := q) (show t < n by omega)
                have := (hq t (by omega)).1
                omega
            have := h5 s (by omega)
            omega
          omega
        · rw [← upd]
          exact ex_ifT hc (exs_cons (ex_setIx (k := s) (d := .int 1) rfl rfl rfl rfl (by rw [vec_length]; exact hs) (by rw [vec_get hs]; rfl) rfl) exs_nil)
      · rw [decide_eq_false h] at hc
        exact ⟨q, fun t ht => ⟨(hq t ht).1, by have := (hq t ht).2; omega⟩, by omega, ex_ifF hc exs_nil⟩
    have hsum' : b1D .sum (.lst (vec n fun t => .int (q' t))) = some (.sh (.int (vec n q').sum)) := b1_sum (k := false)
    have st : Sm (6 + n) (vec n q').sum := sum_sm fun k hk => Sm.of_range (k := 42) (hq' k hk).1 (by have := (hq' k hk).2; omega) (by decide)
    generalize hT : (vec n q').sum = tot at hpos hsum' st
    have erow : ev [f_frac] (.lc (.call 0 [(.var 6), (.b1 .sum (.var 4))]) (.one 6) .seq [(.var 4)] [] [6]) [some (.sh X), some (.sh (.int n)), some (.ow (vec s fun u => .l (vec n fun t => .d (rd (Rat.divInt (p u t) (vec n (p u)).sum))))), some (.sh (.int s)), some (.ow (vec n fun t => .d (.int (q' t)))), none, none] = some (.fr (vec n fun t => .d (rd (Rat.divInt (q' t) tot))), [some (.sh X), some (.sh (.int n)), some (.ow (vec s fun u => .l (vec n fun t => .d (rd (Rat.divInt (p u t) (vec n (p u)).sum))))), some (.sh (.int s)), some (.sh (.lst (vec n fun t => .int (q' t)))), none, none]) := by
      have h1 := evs_ow (G := [f_frac]) (e := .var 4) (es := []) (j := 4) (ε := [some (.sh X), some (.sh (.int n)), some (.ow (vec s fun u => .l (vec n fun t => .d (rd (Rat.divInt (p u t) (vec n (p u)).sum))))), some (.sh (.int s)), some (.ow (vec n fun t => .d (.int (q' t)))), none, none]) rfl rfl evs_nil
      rw [toDs_vec] at h1
      refine ev_map _ h1 (rfl : itD .seq [.lst (vec n fun t => T.toD (.d (.int (q' t))))] = some (vec n fun t => .int (q' t))) rfl (by omega) (fun t ht => ⟨[some (.sh X), some (.sh (.int n)), some (.ow (vec s fun u => .l (vec n fun t => .d (rd (Rat.divInt (p u t) (vec n (p u)).sum))))), some (.sh (.int s)), some (.sh (.lst (vec n fun t => .int (q' t)))), none, some (.sh (.int (q' t)))], _, rfl, ev_call (evs_cons (d := .int (q' t)) rfl (evs_cons (ev_b1 (d := .lst (vec n fun t => .int (q' t))) rfl hsum') evs_nil)) rfl (f_frac_eq (by omega) (st.mono (by omega))), rfl, rfl, rfl⟩) rfl
    refine ⟨[some (.sh X), some (.sh (.int n)), some (.ow (vec s fun u => .l (vec n fun t => .d (rd (Rat.divInt (p u t) (vec n (p u)).sum))))), some (.sh (.int s)), z4, none, none], [some (.sh X), some (.sh (.int n)), some (.ow (vec (s + 1) fun u => .l (vec n fun t => .d (rd (Rat.divInt ((if u = s then q' else p u) t) (vec n (if u = s then q' else p u)).sum))))), some (.sh (.int s)), some (.sh (.lst (vec n fun t => .int (q' t)))), none, none], by rcases a1 with rfl | ⟨d, rfl⟩ <;> rfl, ?_, fun u => if u = s then q' else p u, _, _, .inr ⟨_, rfl⟩, .inr ⟨_, rfl⟩, fun u hu => ?_, rfl⟩
    · have snoc : (vec s fun u => T.l (vec n fun t => .d (rd (Rat.divInt (p u t) (vec n (p u)).sum)))) ++ [T.l (vec n fun t => .d (rd (Rat.divInt (q' t) tot)))] = vec (s + 1) fun u => .l (vec n fun t => .d (rd (Rat.divInt ((if u = s then q' else p u) t) (vec n (if u = s then q' else p u)).sum))) := by
        rw [vec_succ]
        simp only [if_true, hT]
        refine congrArg (· ++ _) (vec_congr fun u hu => ?_)
        have hne : ¬ u = s := by omega
        simp only [if_neg hne]
      rw [← snoc]
      exact exs_cons (ex_set elc (by rcases a2 with rfl | ⟨d, rfl⟩ <;> rfl)) (exs_cons eif (exs_cons (ex_app_fr rfl erow rfl (by rw [vec_length]; omega)) exs_nil))
    · dsimp only
      split
      · exact ⟨hq', by rw [hT]; exact hpos⟩
      · exact a3 u (by omega))
    (ε := [some (.sh X), some (.sh (.int n)), some (.ow []), none, none, none, none]) ⟨fun _ _ => 0, none, none, .inl rfl, .inl rfl, fun u hu => by omega, rfl⟩
  rw [vec_length] at hf a3
  refine ⟨fun s t => Rat.divInt (p s t) (vec n (p s)).sum, ⟨fun s t hs ht => ?_, fun s hs => ?_⟩, ?_⟩
  · have h := a3 s hs
    have s1 : Sm 6 (p s t) := Sm.of_range (k := 42) (h.1 t ht).1 (by have := (h.1 t ht).2; omega) (by decide)
    have s2 : Sm (6 + n) (vec n (p s)).sum := sum_sm fun k hk => Sm.of_range (k := 42) (h.1 k hk).1 (by have := (h.1 k hk).2; omega) (by decide)
    exact Bd.divInt (s1.mono (by omega)) (s2.mono (by omega)) (by omega)
  · have h := a3 s hs
    obtain ⟨t, ht, hp⟩ := sum_has (fun k hk => (h.1 k hk).1) h.2
    exact ⟨t, ht, num_pos hp h.2⟩
  · exact run_of rfl (exs_cons (ex_set lst_nil rfl) (exs_cons (ex_for (ds := [.int n]) rfl (itD_rng1 (by omega)) hf) (exs_ret (ex_ret rfl)))) rfl
noncomputable def f_free : Fn := rF [f_frac] 2 5 b_free
theorem f_free_eq {n : Nat} {dg : Nat → Int} (hn : n ≤ 6) (hdg : ∀ k, k < 36 → 0 ≤ dg k ∧ dg k < 60) :
    ∃ M, Rule n 20 M ∧ f_free [.lst (vec 36 fun k => .int (dg k)), .int n] = some (.fr (matT false n M)) := let ⟨M, h1, h2⟩ := r_free hn hdg; ⟨M, h1, rF_eq h2⟩
end PyD
set_option Elab.async false
set_option linter.all false
set_option maxRecDepth 100000
set_option maxHeartbeats 4000000
/-! Pyc: the law's making: a rule that sends back what it gets. -/
namespace PyD
open PySem L2

def w_back : List S := [.set 10 (.call 0 [(.ix (.var 0) (.bin .add (.bin .mul (.var 6) (.var 3)) (.var 8))), (.con (.int 0)), (.b2 .min (.ix (.var 4) (.var 6)) (.ix (.var 4) (.var 8)))]), .set 11 (.ix (.var 5) (.var 8)), .setIx 7 (.var 8) (.var 10), .setIx 11 (.var 6) (.var 10), .setIx 4 (.var 6) (.bin .sub (.ix (.var 4) (.var 6)) (.var 10)), .setIx 4 (.var 8) (.bin .sub (.ix (.var 4) (.var 8)) (.var 10))]
def b_back : List S := [.set 3 (.b1 .len (.var 1)), .set 4 (.lc (.bin .mul (.var 2) (.var 9)) (.one 9) .seq [(.var 1)] [] [9]), .set 5 (.lc (.lc (.con (.int 0)) (.one 8) .rng1 [(.var 3)] [] [8]) (.one 6) .rng1 [(.var 3)] [] [6]), .forS (.one 6) .rng1 [(.var 3)] [.set 7 (.ix (.var 5) (.var 6)), .forS (.one 8) .rng2 [(.bin .add (.var 6) (.con (.int 1))), (.var 3)] w_back, .setIx 7 (.var 6) (.ix (.var 4) (.var 6))], .ret (.lc (.lc (.call 1 [(.ix (.ix (.var 5) (.var 6)) (.var 8)), (.bin .mul (.var 2) (.ix (.var 1) (.var 6)))]) (.one 8) .rng1 [(.var 3)] [] [8]) (.one 6) .rng1 [(.var 3)] [] [6])]
/-- a square of numbers, its rows lists of one's own -/
def sq (n : Nat) (A : Nat → Nat → Int) : List T := vec n fun s => .l (vec n fun t => .d (.int (A s t)))
def up2 (A : Nat → Nat → Int) (s t : Nat) (v : Int) : Nat → Nat → Int := fun i j => if i = s ∧ j = t then v else A i j
theorem sq_get {n : Nat} {A : Nat → Nat → Int} {s : Nat} (hs : s < n) : (sq n A)[s]? = some (.l (vec n fun t => .d (.int (A s t)))) := by unfold sq; rw [vec_get hs]
theorem sq_set {n s t : Nat} {A : Nat → Nat → Int} {v : Int} : (sq n A).set s (.l ((vec n fun t => T.d (.int (A s t))).set t (.d (.int v)))) = sq n (up2 A s t v) := by
  unfold sq up2
  rw [vec_set]
  refine vec_congr fun i hi => ?_
  by_cases h : i = s
  · subst h
    simp only [if_true, true_and, vec_set]
    refine congrArg T.l (vec_congr fun j hj => ?_)
    by_cases h2 : j = t
    · rw [if_pos h2, if_pos h2]
    · rw [if_neg h2, if_neg h2]
  · have h2 : ∀ j, ¬ (i = s ∧ j = t) := fun j z => h z.1
    simp only [if_neg h, if_neg (h2 _)]
theorem low_set {n k : Nat} {f : Nat → Int} {v : Int} : (vec n fun t => T.d (.int (f t))).set k (T.d (.int v)) = vec n fun t => T.d (.int (if t = k then v else f t)) := by
  rw [vec_set]
  refine vec_congr fun i _ => ?_
  split <;> rfl
def Al (z : Option W) : Prop := z = none ∨ ∃ m, z = some (.al 5 [m])
/-- what the turns so far leave: s the row, t the place in it -/
structure Bk (n e : Nat) (B : Nat → Int) (s t : Nat) (left : Nat → Int) (A : Nat → Nat → Int) : Prop where
  lf : ∀ k, k < n → 0 ≤ left k ∧ Sm e (left k)
  nn : ∀ i j, i < n → j < n → 0 ≤ A i j ∧ Sm e (A i j)
  done : ∀ i, i < s → ∃ j, j < n ∧ 0 < A i j
  open_ : ∀ i, s ≤ i → i < n → left i = B i ∨ ∃ j, j < n ∧ j ≠ i ∧ (min i j < s ∨ (min i j = s ∧ max i j < t)) ∧ 0 < A i j
theorem back_turn {n e s t : Nat} {B left : Nat → Int} {A : Nat → Nat → Int} (hst : s < t) (ht : t < n) (h : Bk n e B s t left A) {fl : Int} (f0 : 0 ≤ fl) (f1 : fl ≤ left s) (f2 : fl ≤ left t) :
    Bk n e B s (t + 1) (fun k => if k = t then left t - fl else if k = s then left s - fl else left k) (up2 (up2 A s t fl) t s fl) := by
  have ls := h.lf s (by omega)
  have lt := h.lf t ht
  refine ⟨fun k hk => ?_, fun i j hi hj => ?_, fun i hi => ?_, fun i h1 h2 => ?_⟩
  · try dsimp only
    split
    · exact ⟨by omega, lt.2.le (by omega)⟩
    · split
      · exact ⟨by omega, ls.2.le (by omega)⟩
      · exact h.lf k hk
  · unfold up2
    split
    · exact ⟨f0, ls.2.le (by omega)⟩
    · split
      · exact ⟨f0, ls.2.le (by omega)⟩
      · exact h.nn i j hi hj
  · obtain ⟨j, hj, hp⟩ := h.done i hi
    refine ⟨j, hj, ?_⟩
    unfold up2
    rw [if_neg (by omega), if_neg (by omega)]
    exact hp
  · by_cases z : 0 < fl
    · by_cases c1 : i = t
      · refine .inr ⟨s, by omega, by omega, by omega, ?_⟩
        unfold up2
        rw [if_pos ⟨c1, rfl⟩]
        exact z
      · by_cases c2 : i = s
        · refine .inr ⟨t, by omega, by omega, by omega, ?_⟩
          unfold up2
          rw [if_neg (by omega), if_pos ⟨c2, rfl⟩]
          exact z
        · rcases h.open_ i h1 h2 with g | ⟨j, g1, g2, g3, g4⟩
          · refine .inl ?_
            try dsimp only
            rw [if_neg c1, if_neg c2]
            exact g
          · refine .inr ⟨j, g1, g2, by omega, ?_⟩
            unfold up2
            rw [if_neg (by omega), if_neg (by omega)]
            exact g4
    · rcases h.open_ i h1 h2 with g | ⟨j, g1, g2, g3, g4⟩
      · refine .inl ?_
        try dsimp only
        split
        · rename_i c; subst c; omega
        · split
          · rename_i c; subst c; omega
          · exact g
      · refine .inr ⟨j, g1, g2, by omega, ?_⟩
        unfold up2
        rw [if_neg (by omega), if_neg (by omega)]
        exact g4
theorem back_row {n e s : Nat} {B left : Nat → Int} {A : Nat → Nat → Int} (hs : s < n) (hB : 0 < B s) (h : Bk n e B s n left A) : Bk n e B (s + 1) (s + 2) left (up2 A s s (left s)) := by
  refine ⟨h.lf, fun i j hi hj => ?_, fun i hi => ?_, fun i h1 h2 => ?_⟩
  · unfold up2
    split
    · exact h.lf s hs
    · exact h.nn i j hi hj
  · rcases Nat.lt_succ_iff_lt_or_eq.mp hi with z | z
    · obtain ⟨j, hj, hp⟩ := h.done i z
      refine ⟨j, hj, ?_⟩
      unfold up2
      rw [if_neg (by omega)]
      exact hp
    · subst z
      rcases h.open_ i (Nat.le_refl _) hs with g | ⟨j, g1, g2, g3, g4⟩
      · refine ⟨i, hs, ?_⟩
        unfold up2
        rw [if_pos ⟨rfl, rfl⟩, g]
        exact hB
      · refine ⟨j, g1, ?_⟩
        unfold up2
        rw [if_neg (by omega)]
        exact g4
  · rcases h.open_ i (by omega) h2 with g | ⟨j, g1, g2, g3, g4⟩
    · exact .inl g
    · refine .inr ⟨j, g1, g2, by omega, ?_⟩
      unfold up2
      rw [if_neg (by omega)]
      exact g4
theorem back_in {n e s : Nat} {dg : Nat → Int} {X Y : D} {sc : Int} {B left0 : Nat → Int} {A0 : Nat → Nat → Int} (hn : n ≤ 6) (hs : s < n) (hdg : ∀ k, k < 36 → 0 ≤ dg k ∧ dg k < 60) (hx : ∀ k : Nat, k < 36 → ixD X (.int k) = some (.int (dg k))) (he : e ≤ 1000) (h : Bk n e B s (s + 1) left0 A0) {z8 z10 z11 : Option W} (h8 : Sl z8) (h10 : Sl z10) (h11 : Al z11) :
    ∃ left A z8' z10' z11', Bk n e B s n left A ∧ Sl z8' ∧ Sl z10' ∧ Al z11' ∧ forF (exs [f_btw, f_frac] 0 w_back) (.one 8) (vec (n - (s + 1)) fun k => .int ((s + 1 + k : Nat) : Int)) [some (.sh X), some (.sh Y), some (.sh (.int sc)), some (.sh (.int n)), some (.ow (vec n fun t => .d (.int (left0 t)))), some (.ow (sq n A0)), some (.sh (.int s)), some (.al 5 [s]), z8, none, z10, z11]
      = some (.nx, [some (.sh X), some (.sh Y), some (.sh (.int sc)), some (.sh (.int n)), some (.ow (vec n fun t => .d (.int (left t)))), some (.ow (sq n A)), some (.sh (.int s)), some (.al 5 [s]), z8', none, z10', z11']) := by
  obtain ⟨ε', hf, left, A, z8', z10', z11', a1, a2, a3, a4, rfl⟩ := forF_inv (body := exs [f_btw, f_frac] 0 w_back) (tg := .one 8) (its := vec (n - (s + 1)) fun k => .int ((s + 1 + k : Nat) : Int))
    (fun k ε => ∃ (left : Nat → Int) (A : Nat → Nat → Int) (z8 z10 z11 : Option W), Bk n e B s (s + 1 + k) left A ∧ Sl z8 ∧ Sl z10 ∧ Al z11 ∧ ε = [some (.sh X), some (.sh Y), some (.sh (.int sc)), some (.sh (.int n)), some (.ow (vec n fun t => .d (.int (left t)))), some (.ow (sq n A)), some (.sh (.int s)), some (.al 5 [s]), z8, none, z10, z11]) (by
    rintro k d ε hd ⟨left, A, z8, z10, z11, a1, a2, a3, a4, rfl⟩
    have hk : k < n - (s + 1) := by
      rcases Nat.lt_or_ge k (n - (s + 1)) with l | l
      · exact l
      · rw [List.getElem?_eq_none (by rw [vec_length]; exact l)] at hd; cases hd
    rw [vec_get hk] at hd
    cases hd
    generalize hT : s + 1 + k = t at a1
    have hst : s < t := by omega
    have ht : t < n := by omega
    have ls := a1.lf s hs
    have lt := a1.lf t ht
    generalize hm : (if left t < left s then left t else left s) = mn
    have m1 : 0 ≤ mn ∧ mn ≤ left s ∧ mn ≤ left t := by rw [← hm]; split <;> omega
    have bnd : s * n + t < 36 := by
      have h1 : s * n + n ≤ n * n := by rw [← Nat.succ_mul]; exact Nat.mul_le_mul_right _ hs
      have h2 : n * n ≤ 6 * 6 := Nat.mul_le_mul hn hn
      omega
    have msn := bin_mul (a := (s : Int)) (b := (n : Int)) (n := 3) (m := 3) (Sm.of_range (k := 7) (by omega) (by omega) (by decide)) (Sm.of_range (k := 7) (by omega) (by omega) (by decide))
    obtain ⟨fl, f1, f2, f3⟩ := f_btw_eq (n := e + 1) (hdg _ bnd).2 m1.1 (by unfold Sm; simp; exact Nat.two_pow_pos _) ((ls.2.le (by omega)).mono (by omega)) (by omega)
    have tn := back_turn hst ht a1 f1 (by omega) (by omega)
    refine ⟨[some (.sh X), some (.sh Y), some (.sh (.int sc)), some (.sh (.int n)), some (.ow (vec n fun t => .d (.int (left t)))), some (.ow (sq n A)), some (.sh (.int s)), some (.al 5 [s]), some (.sh (.int t)), none, z10, z11],
      [some (.sh X), some (.sh Y), some (.sh (.int sc)), some (.sh (.int n)), some (.ow (vec n fun k => .d (.int (if k = t then left t - fl else if k = s then left s - fl else left k)))), some (.ow (sq n (up2 (up2 A s t fl) t s fl))), some (.sh (.int s)), some (.al 5 [s]), some (.sh (.int t)), none, some (.sh (.int fl)), some (.al 5 [t])], by rcases a2 with rfl | ⟨d, rfl⟩ <;> rfl, ?_, _, _, _, _, _, (by rw [show s + 1 + (k + 1) = t + 1 by omega]; exact tn), .inr ⟨_, rfl⟩, .inr ⟨_, rfl⟩, .inr ⟨_, rfl⟩, rfl⟩
    have e10 : ev [f_btw, f_frac] (.call 0 [(.ix (.var 0) (.bin .add (.bin .mul (.var 6) (.var 3)) (.var 8))), (.con (.int 0)), (.b2 .min (.ix (.var 4) (.var 6)) (.ix (.var 4) (.var 8)))]) [some (.sh X), some (.sh Y), some (.sh (.int sc)), some (.sh (.int n)), some (.ow (vec n fun t => .d (.int (left t)))), some (.ow (sq n A)), some (.sh (.int s)), some (.al 5 [s]), some (.sh (.int t)), none, z10, z11] = some (.sh (.int fl), [some (.sh X), some (.sh Y), some (.sh (.int sc)), some (.sh (.int n)), some (.ow (vec n fun t => .d (.int (left t)))), some (.ow (sq n A)), some (.sh (.int s)), some (.al 5 [s]), some (.sh (.int t)), none, z10, z11]) :=
      ev_call (evs_cons (ev_ix (d := X) (i := ((s * n + t : Nat) : Int)) rfl (ev_bin (ev_bin (d1 := .int s) (d2 := .int n) rfl rfl msn) (d2 := .int t) rfl (by rw [bin_add]; push_cast; rfl)) (hx _ bnd)) (evs_cons (d := .int 0) rfl (evs_cons (ev_b2 (ev_ixo (j := 4) (k := s) rfl rfl rfl (vec_get hs)) (ev_ixo (j := 4) (k := t) rfl rfl rfl (vec_get ht)) (r := .sh (.int mn)) (by simp only [b2D, hm])) evs_nil))) rfl f3
    have g1 : ((sq n A).set s (.l ((vec n fun t => T.d (.int (A s t))).set t (.d (.int fl))))) = sq n (up2 A s t fl) := sq_set
    have g2 : ((sq n (up2 A s t fl)).set t (.l ((vec n fun k => T.d (.int (up2 A s t fl t k))).set s (.d (.int fl))))) = sq n (up2 (up2 A s t fl) t s fl) := sq_set
    have g3 : ((vec n fun k => T.d (.int (left k))).set s (T.d (.int (left s - fl)))).set t (T.d (.int (left t - fl))) = vec n fun k => T.d (.int (if k = t then left t - fl else if k = s then left s - fl else left k)) := by
      rw [low_set, low_set]
    rw [← g3, ← g2, ← g1]
    refine exs_cons (ex_set e10 (ε2 := [some (.sh X), some (.sh Y), some (.sh (.int sc)), some (.sh (.int n)), some (.ow (vec n fun t => .d (.int (left t)))), some (.ow (sq n A)), some (.sh (.int s)), some (.al 5 [s]), some (.sh (.int t)), none, some (.sh (.int fl)), z11]) (by rcases a3 with rfl | ⟨d, rfl⟩ <;> rfl)) (exs_cons (ex_set (ev_ixl (j := 5) (k := t) rfl rfl rfl (sq_get ht)) (ε2 := [some (.sh X), some (.sh Y), some (.sh (.int sc)), some (.sh (.int n)), some (.ow (vec n fun t => .d (.int (left t)))), some (.ow (sq n A)), some (.sh (.int s)), some (.al 5 [s]), some (.sh (.int t)), none, some (.sh (.int fl)), some (.al 5 [t])]) ?_) (exs_cons (ex_setIxa (j := 5) (m := s) (k := t) (d := .int fl) rfl rfl rfl rfl (sq_get hs) (by rw [vec_length]; exact ht) (by rw [vec_get ht]; rfl) rfl) (exs_cons (ex_setIxa (j := 5) (m := t) (k := s) (d := .int fl) (us := vec n fun k => T.d (.int (up2 A s t fl t k))) rfl rfl rfl rfl (by rw [g1]; exact sq_get ht) (by rw [vec_length]; exact hs) (by rw [vec_get hs]; rfl) rfl) (exs_cons (ex_setIx (k := s) (ev_bin (ev_ixo (j := 4) (k := s) rfl rfl rfl (vec_get hs)) (d2 := .int fl) rfl bin_sub) rfl rfl rfl (by rw [vec_length]; exact hs) (by rw [vec_get hs]; rfl) rfl) (exs_cons (ex_setIx (k := t) (ev_bin (ev_ixo (j := 4) (k := t) (d := .int (left t)) rfl rfl rfl (by rw [List.getElem?_set_ne (by omega), vec_get ht])) (d2 := .int fl) rfl bin_sub) rfl rfl rfl (by rw [List.length_set, vec_length]; exact ht) (by rw [List.getElem?_set_ne (by omega), vec_get ht]; rfl) rfl) exs_nil)))))
    have hsome : (T.get (sq n A) [t]).isSome = true := by simp only [T.get, sq_get ht]; rfl
    rcases a4 with rfl | ⟨m, rfl⟩ <;> (simp only [putR, gt, List.length_cons, List.length_nil, hsome, and_true]; rfl))
    (ε := [some (.sh X), some (.sh Y), some (.sh (.int sc)), some (.sh (.int n)), some (.ow (vec n fun t => .d (.int (left0 t)))), some (.ow (sq n A0)), some (.sh (.int s)), some (.al 5 [s]), z8, none, z10, z11]) ⟨left0, A0, z8, z10, z11, h, h8, h10, h11, rfl⟩
  rw [vec_length, show s + 1 + (n - (s + 1)) = n by omega] at a1
  exact ⟨left, A, z8', z10', z11', a1, a2, a3, a4, hf⟩
theorem r_back {n e : Nat} {dg w : Nat → Int} {sc : Int} (hn : n ≤ 6) (hdg : ∀ k, k < 36 → 0 ≤ dg k ∧ dg k < 60) (hsc : 0 < sc) (ssc : Sm 4 sc) (hw : ∀ s, s < n → 0 < w s ∧ Sm e (w s)) (he : e ≤ 900) :
    ∃ M, Rule n (e + 4) M ∧ run [f_btw, f_frac] 0 9 b_back [.lst (vec 36 fun k => .int (dg k)), .lst (vec n fun k => .int (w k)), .int sc] = some (.fr (matT false n M)) := by
  have hx : ∀ k : Nat, k < 36 → ixD (.lst (vec 36 fun k => .int (dg k))) (.int k) = some (.int (dg k)) := fun k hk => lst_ix hk
  have hl := len_con (k := false) (n := n) (f := fun k => .int (w k))
  have hy : ∀ k : Nat, k < n → ixD (.lst (vec n fun k => .int (w k))) (.int k) = some (.int (w k)) := fun k hk => lst_ix hk
  have hit : itD .seq [.lst (vec n fun k => .int (w k))] = some (vec n fun k => .int (w k)) := rfl
  rw [show con false (vec n fun k => D.int (w k)) = .lst (vec n fun k => D.int (w k)) from rfl] at hl
  generalize D.lst (vec 36 fun k => .int (dg k)) = X at hx
  generalize D.lst (vec n fun k => .int (w k)) = Y at hl hy hit
  have bp : ∀ s, s < n → 0 < sc * w s := fun s hs => Int.mul_pos hsc (hw s hs).1
  have sb : ∀ s, s < n → Sm (e + 4) (sc * w s) := fun s hs => by rw [Nat.add_comm]; exact ssc.mul (hw s hs).2
  have mw : ∀ s, s < n → binD .mul (.int sc) (.int (w s)) = some (.sh (.int (sc * w s))) := fun s hs => bin_mul ssc (hw s hs).2
  have elc : ev [f_btw, f_frac] (.lc (.bin .mul (.var 2) (.var 9)) (.one 9) .seq [(.var 1)] [] [9]) [some (.sh X), some (.sh Y), some (.sh (.int sc)), some (.sh (.int n)), none, none, none, none, none, none, none, none] = some (.fr (vec n fun t => .d (.int (sc * w t))), [some (.sh X), some (.sh Y), some (.sh (.int sc)), some (.sh (.int n)), none, none, none, none, none, none, none, none]) :=
    ev_map (ds := [Y]) (ε1 := [some (.sh X), some (.sh Y), some (.sh (.int sc)), some (.sh (.int n)), none, none, none, none, none, none, none, none]) _ rfl hit rfl (by omega) (fun t ht => ⟨[some (.sh X), some (.sh Y), some (.sh (.int sc)), some (.sh (.int n)), none, none, none, none, none, some (.sh (.int (w t))), none, none], .sh (.int (sc * w t)), rfl, ev_bin (d1 := .int sc) (d2 := .int (w t)) rfl rfl (mw t ht), rfl, rfl, rfl⟩) rfl
  have e5 : ev [f_btw, f_frac] (.lc (.lc (.con (.int 0)) (.one 8) .rng1 [(.var 3)] [] [8]) (.one 6) .rng1 [(.var 3)] [] [6]) [some (.sh X), some (.sh Y), some (.sh (.int sc)), some (.sh (.int n)), some (.ow (vec n fun t => .d (.int (sc * w t)))), none, none, none, none, none, none, none] = some (.fr (sq n fun _ _ => 0), [some (.sh X), some (.sh Y), some (.sh (.int sc)), some (.sh (.int n)), some (.ow (vec n fun t => .d (.int (sc * w t)))), none, none, none, none, none, none, none]) :=
    ev_map (ds := [.int n]) (ε1 := [some (.sh X), some (.sh Y), some (.sh (.int sc)), some (.sh (.int n)), some (.ow (vec n fun t => .d (.int (sc * w t)))), none, none, none, none, none, none, none]) _ rfl (itD_rng1 (by omega)) rfl (by omega) (fun s hs => ⟨[some (.sh X), some (.sh Y), some (.sh (.int sc)), some (.sh (.int n)), some (.ow (vec n fun t => .d (.int (sc * w t)))), none, some (.sh (.int s)), none, none, none, none, none], .fr (vec n fun _ => .d (.int 0)), rfl,
      ev_map (ds := [.int n]) (ε1 := [some (.sh X), some (.sh Y), some (.sh (.int sc)), some (.sh (.int n)), some (.ow (vec n fun t => .d (.int (sc * w t)))), none, some (.sh (.int s)), none, none, none, none, none]) _ rfl (itD_rng1 (by omega)) rfl (by omega) (fun t ht => ⟨[some (.sh X), some (.sh Y), some (.sh (.int sc)), some (.sh (.int n)), some (.ow (vec n fun t => .d (.int (sc * w t)))), none, some (.sh (.int s)), none, some (.sh (.int t)), none, none, none], .sh (.int 0), rfl, rfl, rfl, rfl, rfl⟩) rfl, rfl, rfl, rfl⟩) rfl
  obtain ⟨ε', hf, left, A, z6, z7, z8, z10, z11, a1, a2, a3, a4, a5, a6, rfl⟩ := forF_inv (body := exs [f_btw, f_frac] 0 [.set 7 (.ix (.var 5) (.var 6)), .forS (.one 8) .rng2 [(.bin .add (.var 6) (.con (.int 1))), (.var 3)] w_back, .setIx 7 (.var 6) (.ix (.var 4) (.var 6))]) (tg := .one 6) (its := vec n fun k => .int k)
    (fun s ε => ∃ (left : Nat → Int) (A : Nat → Nat → Int) (z6 z7 z8 z10 z11 : Option W), Bk n (e + 4) (fun k => sc * w k) s (s + 1) left A ∧ Sl z6 ∧ Al z7 ∧ Sl z8 ∧ Sl z10 ∧ Al z11 ∧ ε = [some (.sh X), some (.sh Y), some (.sh (.int sc)), some (.sh (.int n)), some (.ow (vec n fun t => .d (.int (left t)))), some (.ow (sq n A)), z6, z7, z8, none, z10, z11]) (by
    rintro s d ε hd ⟨left, A, z6, z7, z8, z10, z11, a1, a2, a3, a4, a5, a6, rfl⟩
    have hs : s < n := by
      rcases Nat.lt_or_ge s n with l | l
      · exact l
      · rw [List.getElem?_eq_none (by rw [vec_length]; exact l)] at hd; cases hd
    rw [vec_get hs] at hd
    cases hd
    obtain ⟨left', A', z8', z10', z11', b1, b2, b3, b4, b5⟩ := back_in (X := X) (Y := Y) (sc := sc) hn hs hdg hx (by omega) a1 a4 a5 a6
    have br := back_row hs (bp s hs) b1
    refine ⟨[some (.sh X), some (.sh Y), some (.sh (.int sc)), some (.sh (.int n)), some (.ow (vec n fun t => .d (.int (left t)))), some (.ow (sq n A)), some (.sh (.int s)), z7, z8, none, z10, z11], [some (.sh X), some (.sh Y), some (.sh (.int sc)), some (.sh (.int n)), some (.ow (vec n fun t => .d (.int (left' t)))), some (.ow (sq n (up2 A' s s (left' s)))), some (.sh (.int s)), some (.al 5 [s]), z8', none, z10', z11'], by rcases a2 with rfl | ⟨d, rfl⟩ <;> rfl, ?_, left', _, _, _, _, _, _, br, .inr ⟨_, rfl⟩, .inr ⟨_, rfl⟩, b2, b3, b4, rfl⟩
    rw [← sq_set]
    refine exs_cons (ex_set (ev_ixl (j := 5) (k := s) rfl rfl rfl (sq_get hs)) (ε2 := [some (.sh X), some (.sh Y), some (.sh (.int sc)), some (.sh (.int n)), some (.ow (vec n fun t => .d (.int (left t)))), some (.ow (sq n A)), some (.sh (.int s)), some (.al 5 [s]), z8, none, z10, z11]) ?_) (exs_cons (ex_for (ds := [.int ((s + 1 : Nat) : Int), .int n]) (evs_cons (ev_bin (d1 := .int s) (d2 := .int 1) rfl rfl rfl) (evs_cons (d := .int n) rfl evs_nil)) (itD_rng2 (by omega) (by omega)) b5) (exs_cons (ex_setIxa (j := 5) (m := s) (k := s) (ev_ixo (j := 4) (k := s) rfl rfl rfl (vec_get hs)) rfl rfl rfl (sq_get hs) (by rw [vec_length]; exact hs) (by rw [vec_get hs]; rfl) rfl) exs_nil))
    have hsome : (T.get (sq n A) [s]).isSome = true := by simp only [T.get, sq_get hs]; rfl
    rcases a3 with rfl | ⟨m, rfl⟩ <;> (simp only [putR, gt, List.length_cons, List.length_nil, hsome, and_true]; rfl))
    (ε := [some (.sh X), some (.sh Y), some (.sh (.int sc)), some (.sh (.int n)), some (.ow (vec n fun t => .d (.int (sc * w t)))), some (.ow (sq n fun _ _ => 0)), none, none, none, none, none, none])
    ⟨fun t => sc * w t, fun _ _ => 0, none, none, none, none, none, ⟨fun k hk => ⟨Int.le_of_lt (bp k hk), sb k hk⟩, fun i j _ _ => ⟨Int.le_refl _, by unfold Sm; simp; exact Nat.two_pow_pos _⟩, fun i hi => by omega, fun i _ _ => .inl rfl⟩, .inl rfl, .inl rfl, .inl rfl, .inl rfl, .inl rfl, rfl⟩
  rw [vec_length] at a1
  refine ⟨fun s t => Rat.divInt (A s t) (sc * w s), ⟨fun s t hs ht => ?_, fun s hs => ?_⟩, ?_⟩
  · exact Bd.divInt (a1.nn s t hs ht).2 (sb s hs) (by have := bp s hs; omega)
  · obtain ⟨j, hj, hp⟩ := a1.done s hs
    exact ⟨j, hj, num_pos hp (bp s hs)⟩
  · have plain : ∀ {z z' : Option W}, Sl z → Sl z' → True := fun _ _ => trivial
    have eout : ev [f_btw, f_frac] (.lc (.lc (.call 1 [(.ix (.ix (.var 5) (.var 6)) (.var 8)), (.bin .mul (.var 2) (.ix (.var 1) (.var 6)))]) (.one 8) .rng1 [(.var 3)] [] [8]) (.one 6) .rng1 [(.var 3)] [] [6]) [some (.sh X), some (.sh Y), some (.sh (.int sc)), some (.sh (.int n)), some (.ow (vec n fun t => .d (.int (left t)))), some (.ow (sq n A)), z6, z7, z8, none, z10, z11] = some (.fr (matT false n fun s t => Rat.divInt (A s t) (sc * w s)), [some (.sh X), some (.sh Y), some (.sh (.int sc)), some (.sh (.int n)), some (.ow (vec n fun t => .d (.int (left t)))), some (.ow (sq n A)), z6, z7, z8, none, z10, z11]) := by
      refine ev_map (ds := [.int n]) (ε1 := [some (.sh X), some (.sh Y), some (.sh (.int sc)), some (.sh (.int n)), some (.ow (vec n fun t => .d (.int (left t)))), some (.ow (sq n A)), z6, z7, z8, none, z10, z11]) _ rfl (itD_rng1 (by omega)) (by rcases a2 with rfl | ⟨d, rfl⟩ <;> rfl) (by omega) (fun s hs => ⟨[some (.sh X), some (.sh Y), some (.sh (.int sc)), some (.sh (.int n)), some (.ow (vec n fun t => .d (.int (left t)))), some (.ow (sq n A)), some (.sh (.int s)), z7, z8, none, z10, z11], .fr (vec n fun t => .d (rd (Rat.divInt (A s t) (sc * w s)))), rfl, ?_, rfl, rfl, rfl⟩) rfl
      refine ev_map (ds := [.int n]) (ε1 := [some (.sh X), some (.sh Y), some (.sh (.int sc)), some (.sh (.int n)), some (.ow (vec n fun t => .d (.int (left t)))), some (.ow (sq n A)), some (.sh (.int s)), z7, z8, none, z10, z11]) _ rfl (itD_rng1 (by omega)) (by rcases a4 with rfl | ⟨d, rfl⟩ <;> rfl) (by omega) (fun t ht => ⟨[some (.sh X), some (.sh Y), some (.sh (.int sc)), some (.sh (.int n)), some (.ow (vec n fun t => .d (.int (left t)))), some (.ow (sq n A)), some (.sh (.int s)), z7, some (.sh (.int t)), none, z10, z11], _, rfl, ev_call (evs_cons (ev_ixa (j := 5) (m := s) (k := t) (ev_ixl (j := 5) (k := s) rfl rfl rfl (sq_get hs)) rfl rfl rfl (sq_get hs) (vec_get ht)) (evs_cons (ev_bin (d1 := .int sc) rfl (ev_ix (d := Y) (i := s) rfl rfl (hy s hs)) (mw s hs)) evs_nil)) rfl (f_frac_eq (by have := bp s hs; omega) ((sb s hs).mono (by omega))), rfl, rfl, rfl⟩) rfl
    exact run_of rfl (exs_cons (ex_set (ev_b1 (d := Y) rfl hl) rfl) (exs_cons (ex_set elc rfl) (exs_cons (ex_set e5 rfl) (exs_cons (ex_for (ds := [.int n]) rfl (itD_rng1 (by omega)) hf) (exs_ret (ex_ret eout)))))) rfl
noncomputable def f_back : Fn := rF [f_btw, f_frac] 3 9 b_back
theorem f_back_eq {n e : Nat} {dg w : Nat → Int} {sc : Int} (hn : n ≤ 6) (hdg : ∀ k, k < 36 → 0 ≤ dg k ∧ dg k < 60) (hsc : 0 < sc) (ssc : Sm 4 sc) (hw : ∀ s, s < n → 0 < w s ∧ Sm e (w s)) (he : e ≤ 900) :
    ∃ M, Rule n (e + 4) M ∧ f_back [.lst (vec 36 fun k => .int (dg k)), .lst (vec n fun k => .int (w k)), .int sc] = some (.fr (matT false n M)) := let ⟨M, h1, h2⟩ := r_back hn hdg hsc ssc hw he; ⟨M, h1, rF_eq h2⟩
end PyD
set_option Elab.async false
set_option linter.all false
set_option maxRecDepth 100000
set_option maxHeartbeats 4000000
/-! Pyd: the law's making: a rule of a kind. -/
namespace PyD
open PySem L2

theorem Rule.mono {n e f : Nat} {M : Nat → Nat → Rat} (h : Rule n e M) (l : e ≤ f) : Rule n f M := ⟨fun s g hs hg => (h.bd s g hs hg).mono l, h.pos⟩
theorem ev_tup2 {G : List Fn} {ε ε1 : Env} {es : List E} {d1 d2 : D} (h : evs G es ε = some ([d1, d2], ε1)) : ev G (.tup es) ε = some (.sh (.tup [d1, d2]), ε1) := by
  rw [ev.eq_def]
  simp only [h]
  rw [if_pos (show lenOk _ from by unfold lenOk; rw [sizeLine_eq]; exact (by decide : (2 : Nat) ≤ 16777216))]
def b_rule : List S := [.set 3 (.b1 .len (.var 1)), .set 4 (.ix (.var 2) (.ix (.var 0) (.con (.int 0)))), .ifS (.cmp .eq (.var 4) (.con (.int 1))) [.ret (.call 1 [(.slcF (.var 0) (.con (.int 5))), (.var 1), (.bin .add (.con (.int 1)) (.ix (.var 0) (.con (.int 1))))])] [], .ifS (.cmp .eq (.var 4) (.con (.int 2))) [.ret (.lc (.lc (.call 4 [(.var 8), (.b1 .sum (.var 1))]) (.one 8) .seq [(.var 1)] [] [8]) (.one 6) .rng1 [(.var 3)] [] [6])] [], .ifS (.cmp .eq (.var 4) (.con (.int 3))) [.ret (.lc (.lc (.tup [(.b1 .int (.cmp .eq (.var 7) (.var 9))), (.con (.int 1))]) (.one 9) .rng1 [(.var 3)] [] [9]) (.one 7) .rng1 [(.var 3)] [] [7])] [], .ifS (.cmp .eq (.var 4) (.con (.int 4))) [.ret (.call 2 [(.slcF (.var 0) (.con (.int 5))), (.var 3)])] [], .set 5 (.call 0 [(.slcF (.var 0) (.con (.int 5))), (.var 1), (.bin .add (.con (.int 1)) (.ix (.var 0) (.con (.int 1))))]), .ifS (.and (.cmp .eq (.var 4) (.con (.int 5))) (.cmp .gt (.var 3) (.con (.int 1)))) [.ret (.call 3 [(.var 5), (.slc (.var 0) (.con (.int 2)) (.con (.int 5)))])] [], .ret (.var 5)]
/-- the digits of a rule's row -/
def RowOk (rw_ : Nat → Int) : Prop := (0 ≤ rw_ 0 ∧ rw_ 0 < 10) ∧ (0 ≤ rw_ 1 ∧ rw_ 1 < 12) ∧ (0 ≤ rw_ 2 ∧ rw_ 2 < 8) ∧ (0 ≤ rw_ 3 ∧ rw_ 3 < 8) ∧ (0 ≤ rw_ 4 ∧ rw_ 4 < 10) ∧ ∀ k, k < 36 → 0 ≤ rw_ (5 + k) ∧ rw_ (5 + k) < 60
theorem r_rule {n e : Nat} {rw_ w mn : Nat → Int} (hn : n ≤ 6) (hn0 : 0 < n) (hr : RowOk rw_) (hw : ∀ s, s < n → 0 < w s ∧ Sm e (w s)) (he : e ≤ 500) (he5 : 5 ≤ e) :
    ∃ M b, (∀ s g, s < n → g < n → Bd (2 * e + 11) (M s g)) ∧ (mn (rw_ 0).toNat ≠ 5 → Rule n (e + 20) M) ∧ run [f_flows, f_back, f_free, f_spoilt, f_frac] 0 7 b_rule [.lst (vec 41 fun k => .int (rw_ k)), .lst (vec n fun k => .int (w k)), .lst (vec 10 fun k => .int (mn k))] = some (.fr (matT b n M)) := by
  obtain ⟨r0, r1, r2, r3, r4, r5⟩ := hr
  have hx : ∀ k : Nat, k < 41 → ixD (.lst (vec 41 fun k => .int (rw_ k))) (.int k) = some (.int (rw_ k)) := fun k hk => lst_ix hk
  have hs5 := slcF_vec (n := 41) (a := 5) (f := fun k => .int (rw_ k)) (by decide)
  have hs3 := slc_vec (n := 41) (a := 2) (b := 5) (f := fun k => .int (rw_ k)) (by decide) (by decide)
  have hl := len_con (k := false) (n := n) (f := fun k => .int (w k))
  have hsum := b1_sum (k := false) (n := n) (w := w)
  have hit : itD .seq [.lst (vec n fun k => .int (w k))] = some (vec n fun k => .int (w k)) := rfl
  have hmn : ∀ k : Nat, k < 10 → ixD (.lst (vec 10 fun k => .int (mn k))) (.int k) = some (.int (mn k)) := fun k hk => lst_ix hk
  rw [show con false (vec n fun k => D.int (w k)) = .lst (vec n fun k => D.int (w k)) from rfl] at hl hsum
  have scp : 0 < 1 + rw_ 1 := by omega
  have ssc : Sm 4 (1 + rw_ 1) := Sm.of_range (k := 13) (by omega) (by omega) (by decide)
  obtain ⟨M1, c1, c2⟩ := f_back_eq (dg := fun k => rw_ (5 + k)) hn r5 scp ssc hw (by omega)
  obtain ⟨M4, d1, d2⟩ := f_free_eq (dg := fun k => rw_ (5 + k)) hn r5
  obtain ⟨M0, b1, b2⟩ := f_flows_eq (dg := fun k => rw_ (5 + k)) hn r5 scp ssc hw (by omega)
  generalize D.lst (vec 41 fun k => .int (rw_ k)) = X at hx hs5 hs3
  generalize D.lst (vec n fun k => .int (w k)) = Y at hl hsum hit c2 b2
  generalize D.lst (vec 10 fun k => .int (mn k)) = Z at hmn
  generalize hk0 : mn (rw_ 0).toNat = kind
  have e4 : ev [f_flows, f_back, f_free, f_spoilt, f_frac] (.ix (.var 2) (.ix (.var 0) (.con (.int 0)))) [some (.sh X), some (.sh Y), some (.sh Z), some (.sh (.int n)), none, none, none, none, none, none] = some (.sh (.int kind), [some (.sh X), some (.sh Y), some (.sh Z), some (.sh (.int n)), none, none, none, none, none, none]) := by
    refine ev_ix (d := Z) (i := rw_ 0) rfl (ev_ix (d := X) (i := 0) rfl rfl (hx 0 (by decide))) ?_
    have := hmn (rw_ 0).toNat (by omega)
    rwa [show ((rw_ 0).toNat : Int) = rw_ 0 by omega, hk0] at this
  have hc : ∀ (c : Int) {z5}, ev [f_flows, f_back, f_free, f_spoilt, f_frac] (.cmp .eq (.var 4) (.con (.int c))) [some (.sh X), some (.sh Y), some (.sh Z), some (.sh (.int n)), some (.sh (.int kind)), z5, none, none, none, none] = some (.sh (.bl (decide (kind = c))), [some (.sh X), some (.sh Y), some (.sh Z), some (.sh (.int n)), some (.sh (.int kind)), z5, none, none, none, none]) := fun c {z5} => ev_cmp (d1 := .int kind) (d2 := .int c) rfl rfl (cmpD_eq (eqD_int _ _))
  have esl : ev [f_flows, f_back, f_free, f_spoilt, f_frac] (.slcF (.var 0) (.con (.int 5))) [some (.sh X), some (.sh Y), some (.sh Z), some (.sh (.int n)), some (.sh (.int kind)), none, none, none, none, none] = some (.fr (vec 36 fun k => .d (.int (rw_ (5 + k)))), [some (.sh X), some (.sh Y), some (.sh Z), some (.sh (.int n)), some (.sh (.int kind)), none, none, none, none, none]) := ev_slcF (d := X) (i := 5) rfl rfl hs5
  have esl' : D.lst (T.toDs (vec 36 fun k => T.d (.int (rw_ (5 + k))))) = .lst (vec 36 fun k => .int (rw_ (5 + k))) := by rw [toDs_vec]; rfl
  have esc : ev [f_flows, f_back, f_free, f_spoilt, f_frac] (.bin .add (.con (.int 1)) (.ix (.var 0) (.con (.int 1)))) [some (.sh X), some (.sh Y), some (.sh Z), some (.sh (.int n)), some (.sh (.int kind)), none, none, none, none, none] = some (.sh (.int (1 + rw_ 1)), [some (.sh X), some (.sh Y), some (.sh Z), some (.sh (.int n)), some (.sh (.int kind)), none, none, none, none, none]) := ev_bin (d1 := .int 1) rfl (ev_ix (d := X) (i := 1) rfl rfl (hx 1 (by decide))) bin_add
  have args3 := evs_fr (es := [.var 1, .bin .add (.con (.int 1)) (.ix (.var 0) (.con (.int 1)))]) esl (evs_cons (d := Y) rfl (evs_cons esc evs_nil))
  rw [esl'] at args3
  have args2 := evs_fr (es := [.var 3]) esl (evs_cons (d := .int n) rfl evs_nil)
  rw [esl'] at args2
  have start : ∀ {q}, exs [f_flows, f_back, f_free, f_spoilt, f_frac] 0 (b_rule.drop 2) [some (.sh X), some (.sh Y), some (.sh Z), some (.sh (.int n)), some (.sh (.int kind)), none, none, none, none, none] = q → exs [f_flows, f_back, f_free, f_spoilt, f_frac] 0 b_rule [some (.sh X), some (.sh Y), some (.sh Z), none, none, none, none, none, none, none] = q := fun {q} h => exs_cons (ex_set (ev_b1 (d := Y) rfl hl) rfl) (exs_cons (ex_set e4 rfl) h)
  by_cases k1 : kind = 1
  · have h1 := hc 1 (z5 := none)
    rw [decide_eq_true k1] at h1
    exact ⟨M1, false, fun s g hs hg => (c1.bd s g hs hg).mono (by omega), fun _ => c1.mono (by omega), run_of rfl (start (exs_ret (ex_ifT h1 (exs_ret (ex_ret (ev_call args3 rfl c2)))))) rfl⟩
  have h1 := hc 1 (z5 := none)
  rw [decide_eq_false k1] at h1
  by_cases k2 : kind = 2
  · have h2 := hc 2 (z5 := none)
    rw [decide_eq_true k2] at h2
    have tp := sum_pos hn0 fun k hk => (hw k hk).1
    have ts := sum_sm fun k hk => (hw k hk).2
    have hbd : ∀ s g, s < n → g < n → Bd (e + n) (shr n w g) := fun s g _ hg => Bd.divInt ((hw g hg).2.mono (by omega)) ts (by omega)
    refine ⟨fun _ g => shr n w g, false, fun s g hs hg => (hbd s g hs hg).mono (by omega), fun _ => ⟨fun s g hs hg => (hbd s g hs hg).mono (by omega), fun s _ => ⟨0, hn0, num_pos (hw 0 hn0).1 tp⟩⟩, run_of rfl (start (exs_cons (ex_ifF h1 exs_nil) (exs_ret (ex_ifT h2 (exs_ret (ex_ret (ev_map (ds := [.int n]) (ε1 := [some (.sh X), some (.sh Y), some (.sh Z), some (.sh (.int n)), some (.sh (.int kind)), none, none, none, none, none]) _ rfl (itD_rng1 (by omega)) rfl (by omega) (fun s hs => ⟨[some (.sh X), some (.sh Y), some (.sh Z), some (.sh (.int n)), some (.sh (.int kind)), none, some (.sh (.int s)), none, none, none], .fr (vec n fun g => .d (rd (shr n w g))), rfl,
      ev_map (ds := [Y]) (ε1 := [some (.sh X), some (.sh Y), some (.sh Z), some (.sh (.int n)), some (.sh (.int kind)), none, some (.sh (.int s)), none, none, none]) _ rfl hit rfl (by omega) (fun g hg => ⟨[some (.sh X), some (.sh Y), some (.sh Z), some (.sh (.int n)), some (.sh (.int kind)), none, some (.sh (.int s)), none, some (.sh (.int (w g))), none], .sh (rd (shr n w g)), rfl, ev_call (evs_cons (d := .int (w g)) rfl (evs_cons (ev_b1 (d := Y) rfl hsum) evs_nil)) rfl (f_frac_eq (by omega) (ts.mono (by omega))), rfl, rfl, rfl⟩) rfl, rfl, rfl, rfl⟩) rfl))))))) rfl⟩
  have h2 := hc 2 (z5 := none)
  rw [decide_eq_false k2] at h2
  by_cases k3 : kind = 3
  · have h3 := hc 3 (z5 := none)
    rw [decide_eq_true k3] at h3
    have hone : ∀ b : Bool, rd (if b = true then (1 : Rat) else 0) = .tup [.int (if b = true then 1 else 0), .int 1] := fun b => by cases b <;> rfl
    have hb1 : ∀ b : Bool, Bd 1 (if b = true then (1 : Rat) else 0) := fun b => by cases b <;> exact ⟨by unfold Sm; decide, by unfold Sm; decide⟩
    refine ⟨fun s g => if decide ((s : Int) = g) = true then (1 : Rat) else 0, false, fun s g _ _ => (hb1 _).mono (by omega), fun _ => ⟨fun s g _ _ => (hb1 _).mono (by omega), fun s hs => ⟨s, hs, by simp⟩⟩, run_of rfl (start (exs_cons (ex_ifF h1 exs_nil) (exs_cons (ex_ifF h2 exs_nil) (exs_ret (ex_ifT h3 (exs_ret (ex_ret (ev_map (ds := [.int n]) (ε1 := [some (.sh X), some (.sh Y), some (.sh Z), some (.sh (.int n)), some (.sh (.int kind)), none, none, none, none, none]) _ rfl (itD_rng1 (by omega)) rfl (by omega) (fun s hs => ⟨[some (.sh X), some (.sh Y), some (.sh Z), some (.sh (.int n)), some (.sh (.int kind)), none, none, some (.sh (.int s)), none, none], .fr (vec n fun g => .d (rd (if decide ((s : Int) = g) = true then (1 : Rat) else 0))), rfl,
      ev_map (ds := [.int n]) (ε1 := [some (.sh X), some (.sh Y), some (.sh Z), some (.sh (.int n)), some (.sh (.int kind)), none, none, some (.sh (.int s)), none, none]) _ rfl (itD_rng1 (by omega)) rfl (by omega) (fun g hg => ⟨[some (.sh X), some (.sh Y), some (.sh Z), some (.sh (.int n)), some (.sh (.int kind)), none, none, some (.sh (.int s)), none, some (.sh (.int g))], .sh (rd (if decide ((s : Int) = g) = true then (1 : Rat) else 0)), rfl, ?_, rfl, rfl, rfl⟩) rfl, rfl, rfl, rfl⟩) rfl)))))))) rfl⟩
    rw [hone]
    exact ev_tup2 (evs_cons (ev_b1 (ev_cmp (d1 := .int s) (d2 := .int g) rfl rfl (cmpD_eq (eqD_int _ _))) rfl) (evs_cons (d := .int 1) rfl evs_nil))
  have h3 := hc 3 (z5 := none)
  rw [decide_eq_false k3] at h3
  by_cases k4 : kind = 4
  · have h4 := hc 4 (z5 := none)
    rw [decide_eq_true k4] at h4
    exact ⟨M4, false, fun s g hs hg => (d1.bd s g hs hg).mono (by omega), fun _ => d1.mono (by omega), run_of rfl (start (exs_cons (ex_ifF h1 exs_nil) (exs_cons (ex_ifF h2 exs_nil) (exs_cons (ex_ifF h3 exs_nil) (exs_ret (ex_ifT h4 (exs_ret (ex_ret (ev_call args2 rfl d2))))))))) rfl⟩
  have h4 := hc 4 (z5 := none)
  rw [decide_eq_false k4] at h4
  have eset := ex_set (n := 0) (i := 5) (ev_call (G := [f_flows, f_back, f_free, f_spoilt, f_frac]) (k := 0) args3 rfl b2) (ε2 := [some (.sh X), some (.sh Y), some (.sh Z), some (.sh (.int n)), some (.sh (.int kind)), some (.ow (matT true n M0)), none, none, none, none]) rfl
  have hgt : ev [f_flows, f_back, f_free, f_spoilt, f_frac] (.cmp .gt (.var 3) (.con (.int 1))) [some (.sh X), some (.sh Y), some (.sh Z), some (.sh (.int n)), some (.sh (.int kind)), some (.ow (matT true n M0)), none, none, none, none] = some (.sh (.bl (decide (1 < (n : Int)))), [some (.sh X), some (.sh Y), some (.sh Z), some (.sh (.int n)), some (.sh (.int kind)), some (.ow (matT true n M0)), none, none, none, none]) := ev_cmp (d1 := .int n) (d2 := .int 1) rfl rfl rfl
  have h5 := hc 5 (z5 := some (.ow (matT true n M0)))
  by_cases k5 : kind = 5 ∧ 1 < n
  · rw [decide_eq_true k5.1] at h5
    rw [decide_eq_true (show 1 < (n : Int) by omega)] at hgt
    obtain ⟨M', g1, g2⟩ := f_spoilt_eq (r := fun k => rw_ (2 + k)) (by omega) k5.2 b1 (by omega)
    have sl := evs_fr (G := [f_flows, f_back, f_free, f_spoilt, f_frac]) (es := []) (ev_slc (ε := [some (.sh X), some (.sh Y), some (.sh Z), some (.sh (.int n)), some (.sh (.int kind)), some (.sh (mat false false true n M0)), none, none, none, none]) (a := .var 0) (lo := .con (.int 2)) (hi := .con (.int 5)) (d := X) (i := 2) (j := 5) rfl rfl rfl hs3) evs_nil
    rw [toDs_vec] at sl
    have args5 := evs_ow (G := [f_flows, f_back, f_free, f_spoilt, f_frac]) (e := .var 5) (es := [.slc (.var 0) (.con (.int 2)) (.con (.int 5))]) (j := 5) (ε := [some (.sh X), some (.sh Y), some (.sh Z), some (.sh (.int n)), some (.sh (.int kind)), some (.ow (matT true n M0)), none, none, none, none]) (ts := matT true n M0) rfl rfl (by rw [matT_data]; exact sl)
    rw [matT_data] at args5
    exact ⟨M', false, fun s g hs hg => (g1 s g hs hg).mono (by omega), fun z => absurd k5.1 z, run_of rfl (start (exs_cons (ex_ifF h1 exs_nil) (exs_cons (ex_ifF h2 exs_nil) (exs_cons (ex_ifF h3 exs_nil) (exs_cons (ex_ifF h4 exs_nil) (exs_cons eset (exs_ret (ex_ifT (ev_andT h5 hgt) (exs_ret (ex_ret (ev_call args5 rfl g2))))))))))) rfl⟩
  · refine ⟨M0, true, fun s g hs hg => (b1.bd s g hs hg).mono (by omega), fun _ => b1.mono (by omega), run_of rfl (start (exs_cons (ex_ifF h1 exs_nil) (exs_cons (ex_ifF h2 exs_nil) (exs_cons (ex_ifF h3 exs_nil) (exs_cons (ex_ifF h4 exs_nil) (exs_cons eset (exs_cons (ex_ifF (ε1 := [some (.sh X), some (.sh Y), some (.sh Z), some (.sh (.int n)), some (.sh (.int kind)), some (.ow (matT true n M0)), none, none, none, none]) ?_ exs_nil) (exs_ret (ex_ret rfl))))))))) rfl⟩
    by_cases k6 : kind = 5
    · rw [decide_eq_true k6] at h5
      rw [decide_eq_false (show ¬ 1 < (n : Int) by omega)] at hgt
      exact ev_andT h5 hgt
    · rw [decide_eq_false k6] at h5
      exact ev_andF h5
noncomputable def f_rule : Fn := rF [f_flows, f_back, f_free, f_spoilt, f_frac] 3 7 b_rule
theorem f_rule_eq {n e : Nat} {rw_ w mn : Nat → Int} (hn : n ≤ 6) (hn0 : 0 < n) (hr : RowOk rw_) (hw : ∀ s, s < n → 0 < w s ∧ Sm e (w s)) (he : e ≤ 500) (he5 : 5 ≤ e) :
    ∃ M b, (∀ s g, s < n → g < n → Bd (2 * e + 11) (M s g)) ∧ (mn (rw_ 0).toNat ≠ 5 → Rule n (e + 20) M) ∧ f_rule [.lst (vec 41 fun k => .int (rw_ k)), .lst (vec n fun k => .int (w k)), .lst (vec 10 fun k => .int (mn k))] = some (.fr (matT b n M)) := let ⟨M, b, h1, h2, h3⟩ := r_rule hn hn0 hr hw he he5; ⟨M, b, h1, h2, rF_eq h3⟩
end PyD
set_option Elab.async false
set_option linter.all false
set_option maxRecDepth 100000
set_option maxHeartbeats 4000000
/-! Pye: the law's making: four rules. -/
namespace PyD
open PySem L2
section
variable {G : List Fn} {ε ε1 ε2 : Env} {a b : E} {es : List E} {ds xs ys : List D} {x y : R} {d1 d2 : D} {r : R}
theorem lenOk_le {n : Nat} (h : n ≤ 10000) : lenOk n := by unfold lenOk; rw [sizeLine_eq]; omega
theorem bin_rep {j : Int} (h0 : 0 ≤ j) (h : j ≤ 100) (hl : xs.length ≤ 100) : binD .mul (.lst xs) (.int j) = some (.fr ((List.replicate j.toNat xs).flatten.map .d)) := by
  simp only [binD]
  rw [if_pos]
  refine ⟨by unfold rngOk; omega, lenOk_le ?_⟩
  exact Nat.le_trans (Nat.mul_le_mul hl (by omega : j.toNat ≤ 100)) (by decide)
theorem bin_cat (h : xs.length + ys.length ≤ 10000) : binD .add (.lst xs) (.lst ys) = some (.fr ((xs ++ ys).map .d)) := by
  simp only [binD]
  rw [if_pos (lenOk_le h)]
theorem ev_lst (h : evs G es ε = some (ds, ε1)) (hl : ds.length ≤ 10000) : ev G (.lst es) ε = some (.fr (ds.map .d), ε1) := by
  rw [ev.eq_def]
  simp only [h]
  rw [if_pos (lenOk_le hl)]
theorem ev_binR {o : Bop} (h1 : ev G a ε = some (x, ε1)) (h2 : ev G b ε1 = some (y, ε2)) (hw : waits x b = true) (p1 : peek x ε2 = some d1) (p2 : peek y ε2 = some d2) (h3 : binD o d1 d2 = some r) : ev G (.bin o a b) ε = some (r, ε2) := by
  simp only [ev, h1, h2, hw, p1, p2, h3, Option.map]
theorem peek_fr : peek (.fr (ds.map .d)) ε = some (.lst ds) := by simp only [peek, flatT_d, Option.map]
theorem evs_con {k : List Int} : evs G (k.map fun i => .con (.int i)) ε = some (k.map .int, ε) := by
  induction k with
  | nil => exact evs_nil
  | cons i k ih => exact evs_cons rfl ih
def sz41 (k : Nat) : Int := match k with
  | 0 => 10
  | 1 => 12
  | 2 => 8
  | 3 => 8
  | 4 => 10
  | _ => 60
theorem ev_sizes : ev G (.bin .add (.lst [(.con (.int 10)), (.con (.int 12)), (.con (.int 8)), (.con (.int 8)), (.con (.int 10))]) (.bin .mul (.lst [(.con (.int 60))]) (.con (.int 36)))) ε = some (.fr (vec 41 fun k => .d (.int (sz41 k))), ε) := by
  refine (ev_binR (ev_lst (evs_con (k := [10, 12, 8, 8, 10])) (by decide)) (ev_binR (ev_lst (evs_con (k := [60])) (by decide)) rfl rfl peek_fr rfl (bin_rep (by decide) (by decide) (by decide))) rfl peek_fr peek_fr (bin_cat (by decide))).trans ?_
  rfl
theorem sz41_ok {k : Nat} (h : k < 41) : 0 < sz41 k ∧ sz41 k < 100000 := by
  have : ∀ k : Fin 41, 0 < sz41 k.1 ∧ sz41 k.1 < 100000 := by decide
  exact this ⟨k, h⟩
theorem row_of_dig {f : Nat → Int} (h : Dig 41 sz41 f) : RowOk f := by
  have h' : ∀ k, k < 41 → 0 ≤ f k ∧ f k < sz41 k := h
  refine ⟨h' 0 (by decide), h' 1 (by decide), h' 2 (by decide), h' 3 (by decide), h' 4 (by decide), fun k hk => ?_⟩
  have := h' (5 + k) (by omega)
  rwa [show sz41 (5 + k) = 60 by rw [show 5 + k = k + 5 by omega]; rfl] at this
end
end PyD
set_option Elab.async false
set_option linter.all false
set_option maxRecDepth 100000
set_option maxHeartbeats 4000000
/-! Pyf: the law's making: four rules, stage by stage. -/
namespace PyD
open PySem L2
noncomputable abbrev G4 : List Fn := [f_lw, f_rule, f_dig, f_spoilt, f_cell]
abbrev e4 (S A X H Wd R : D) (n : Nat) (w7 z8 z9 : Option W) : Env := [some (.sh S), some (.sh A), some (.sh X), some (.sh H), some (.sh Wd), some (.sh R), some (.sh (.int n)), w7, z8, z9, none]
abbrev s4B : S := .ifS (.and (.cmp .eq (.ix (.ix (.var 5) (.con (.int 2))) (.con (.int 0))) (.con (.int 4))) (.cmp .gt (.var 6) (.con (.int 1)))) [.set 7 (.call 3 [(.var 7), (.slc (.ix (.var 5) (.con (.int 2))) (.con (.int 2)) (.con (.int 5)))])] []
abbrev s4D : S := .ifS (.and (.cmp .gt (.ix (.ix (.var 5) (.con (.int 2))) (.con (.int 0))) (.con (.int 7))) (.cmp .gt (.var 6) (.con (.int 1)))) [.set 7 (.bin .add (.lst [(.ix (.var 7) (.con (.int 1))), (.ix (.var 7) (.con (.int 0)))]) (.slcF (.var 7) (.con (.int 2))))] []
/-- the rows, read -/
def Rows (R : D) (F : Nat → Nat → Int) : Prop := ∀ k : Nat, k < 4 → ixD R (.int k) = some (.lst (vec 41 fun j => .int (F k j)))
theorem row_at {R : D} {F : Nat → Nat → Int} (hR : Rows R F) {k : Nat} (hk : k < 4) {ε : Env} (h : gt ε 5 = some (.sh R)) : ev G4 (.ix (.var 5) (.con (.int k))) ε = some (.sh (.lst (vec 41 fun j => .int (F k j))), ε) := ev_ix (d := R) (i := k) (by simp only [ev, h]) rfl (hR k hk)
theorem row_n {R : D} {F : Nat → Nat → Int} (hR : Rows R F) {k j : Nat} (hk : k < 4) (hj : j < 41) {ε : Env} (h : gt ε 5 = some (.sh R)) : ev G4 (.ix (.ix (.var 5) (.con (.int k))) (.con (.int j))) ε = some (.sh (.int (F k j)), ε) := ev_ix (i := j) (row_at hR hk h) rfl (lst_ix hj)
theorem st_B {S A X H Wd R : D} {n : Nat} {F : Nat → Nat → Int} {b : Bool} {M : Nat → Nat → Rat} (hR : Rows R F) (hn : n ≤ 6) (hb : ∀ s g, s < n → g < n → Bd 885 (M s g)) (hM : F 2 0 = 4 → Rule n 457 M) :
    ∃ b' M', (∀ s g, s < n → g < n → Bd 920 (M' s g)) ∧ ex G4 0 s4B (e4 S A X H Wd R n (some (.ow (matT b n M))) none none) = some (.nx, e4 S A X H Wd R n (some (.ow (matT b' n M'))) none none) := by
  have c1 : ∀ {w}, ev G4 (.cmp .eq (.ix (.ix (.var 5) (.con (.int 2))) (.con (.int 0))) (.con (.int 4))) (e4 S A X H Wd R n w none none) = some (.sh (.bl (decide (F 2 0 = 4))), e4 S A X H Wd R n w none none) := fun {w} => ev_cmp (d1 := .int (F 2 0)) (d2 := .int 4) (row_n (k := 2) (j := 0) hR (by decide) (by decide) rfl) rfl (cmpD_eq (eqD_int _ _))
  have c2 : ∀ {w}, ev G4 (.cmp .gt (.var 6) (.con (.int 1))) (e4 S A X H Wd R n w none none) = some (.sh (.bl (decide (1 < (n : Int)))), e4 S A X H Wd R n w none none) := fun {w} => ev_cmp (d1 := .int n) (d2 := .int 1) rfl rfl rfl
  have keep : (∀ s g, s < n → g < n → Bd 920 (M s g)) := fun s g hs hg => (hb s g hs hg).mono (by omega)
  by_cases h : F 2 0 = 4
  · have c1 := @c1 (some (.ow (matT b n M)))
    have c2 := @c2 (some (.ow (matT b n M)))
    rw [decide_eq_true h] at c1
    by_cases h2 : 1 < n
    · rw [decide_eq_true (show 1 < (n : Int) by omega)] at c2
      obtain ⟨M', g1, g2⟩ := f_spoilt_eq (r := fun k => F 2 (2 + k)) (by omega) h2 (hM h) (by omega)
      refine ⟨false, M', fun s g hs hg => (g1 s g hs hg).mono (by omega), ex_ifT (ev_andT c1 c2) ?_⟩
      have sl := evs_fr (G := G4) (es := []) (ev_slc (a := .ix (.var 5) (.con (.int 2))) (lo := .con (.int 2)) (hi := .con (.int 5)) (ε := e4 S A X H Wd R n (some (.sh (mat false false true n M))) none none) (i := 2) (j := 5) (row_at (k := 2) hR (by decide) rfl) rfl rfl (slc_vec (n := 41) (a := 2) (b := 5) (by decide) (by decide))) evs_nil
      rw [toDs_vec] at sl
      have args := evs_ow (G := G4) (e := .var 7) (j := 7) (ε := e4 S A X H Wd R n (some (.ow (matT b n M))) none none) (ts := matT b n M) rfl rfl (by rw [matT_data]; exact sl)
      rw [matT_data] at args
      exact exs_cons (ex_set (ev_call args rfl g2) rfl) exs_nil
    · rw [decide_eq_false (show ¬ 1 < (n : Int) by omega)] at c2
      exact ⟨b, M, keep, ex_ifF (ev_andT c1 c2) exs_nil⟩
  · have c1 := @c1 (some (.ow (matT b n M)))
    rw [decide_eq_false h] at c1
    exact ⟨b, M, keep, ex_ifF (ev_andF c1) exs_nil⟩
end PyD
set_option Elab.async false
set_option linter.all false
set_option maxRecDepth 100000
set_option maxHeartbeats 4000000
/-! Pyg: the law's making: the rows changed about. -/
namespace PyD
open PySem L2
theorem Sm.of_abs7 {i : Int} (h : i.natAbs < 2 ^ 7) : Sm 7 i := by
  unfold Sm
  omega
theorem span_of {n : Nat} {h : Nat → Int} {m : Nat} (hn : 0 < n) (hm : m ≤ 101) (hb : ∀ k, k < n → -50 ≤ h k ∧ h k ≤ (m : Int) - 50) : Span n h m := by
  obtain ⟨_, ⟨k1, l1, l2⟩, _⟩ := lo_is (h := h) hn
  obtain ⟨_, ⟨k2, u1, u2⟩, _⟩ := hi_is (h := h) hn
  have a1 := hb k1 l1
  have a2 := hb k2 u1
  rw [l2] at a1
  rw [u2] at a2
  refine ⟨hn, by omega, ?_, ?_⟩
  · exact (Sm.of_abs7 (by omega)).mono (by omega)
  · exact (Sm.of_abs7 (by omega)).mono (by omega)
end PyD
set_option Elab.async false
set_option linter.all false
set_option maxRecDepth 100000
set_option maxHeartbeats 4000000
/-! Pyg: the law's making: the rows changed about. -/
namespace PyD
open PySem L2
theorem evs_pt {G : List Fn} {e : E} {es : List E} {ε ε1 ε2 : Env} {j : Nat} {π : List Nat} {ts : List T} {d : D} {ds : List D} (h1 : ev G e ε = some (.pt j π, ε1)) (hg : gt ε1 j = some (.ow ts)) (hd : dAt (.lst (T.toDs ts)) π = some d) (h2 : evs G es (st (unal j (.lst (T.toDs ts)) ε1) j (some (.sh (.lst (T.toDs ts))))) = some (ds, ε2)) : evs G (e :: es) ε = some (d :: ds, ε2) := by
  simp only [evs, h1, frz, hg, hd, h2]
theorem swap_vec {α : Type} {n : Nat} {f : Nat → α} (h : 1 < n) : [f 1, f 0] ++ (vec (n - 2) fun k => f (2 + k)) = vec n fun s => f (if s = 0 then 1 else if s = 1 then 0 else s) := by
  refine List.ext_getElem? fun k => ?_
  match k with
  | 0 => rw [vec_get (by omega)]; rfl
  | 1 => rw [vec_get (by omega)]; rfl
  | k + 2 =>
    rw [List.getElem?_append_right (by simp), show k + 2 - [f 1, f 0].length = k from rfl]
    by_cases l : k + 2 < n
    · rw [vec_get l, vec_get (by omega), if_neg (by omega), if_neg (by omega), Nat.add_comm]
    · rw [List.getElem?_eq_none (by rw [vec_length]; omega), List.getElem?_eq_none (by rw [vec_length]; omega)]
theorem dAt_one {xs : List D} {k : Nat} {d : D} (h : xs[k]? = some d) : dAt (.lst xs) [k] = some d := by simp only [dAt, h]
theorem sw_lt {n s : Nat} (h2 : 1 < n) (hs : s < n) : (if s = 0 then 1 else if s = 1 then 0 else s) < n := by
  split
  · exact h2
  · split <;> omega
def rowD (n : Nat) (M : Nat → Nat → Rat) (s : Nat) : D := .lst (vec n fun g => rd (M s g))
/-- what a matrix is, rows changed about -/
theorem st_D {S A X H Wd R : D} {n : Nat} {q : Option D} {F : Nat → Nat → Int} {b : Bool} {M : Nat → Nat → Rat} (hR : Rows R F) (hn : n ≤ 6) (hb : ∀ s g, s < n → g < n → Bd 920 (M s g)) :
    ∃ ts M', (∀ s g, s < n → g < n → Bd 920 (M' s g)) ∧ D.lst (T.toDs ts) = mat false false true n M' ∧ ex G4 0 s4D (e4 S A X H Wd R n (some (.ow (matT b n M))) none (q.map W.sh)) = some (.nx, e4 S A X H Wd R n (some (.ow ts)) none (q.map W.sh)) := by
  have c1 : ∀ {w}, ev G4 (.cmp .gt (.ix (.ix (.var 5) (.con (.int 2))) (.con (.int 0))) (.con (.int 7))) (e4 S A X H Wd R n w none (q.map W.sh)) = some (.sh (.bl (decide (7 < F 2 0))), e4 S A X H Wd R n w none (q.map W.sh)) := fun {w} => ev_cmp (d1 := .int (F 2 0)) (d2 := .int 7) (row_n (k := 2) (j := 0) hR (by decide) (by decide) rfl) rfl rfl
  have c2 : ∀ {w}, ev G4 (.cmp .gt (.var 6) (.con (.int 1))) (e4 S A X H Wd R n w none (q.map W.sh)) = some (.sh (.bl (decide (1 < (n : Int)))), e4 S A X H Wd R n w none (q.map W.sh)) := fun {w} => ev_cmp (d1 := .int n) (d2 := .int 1) rfl rfl rfl
  by_cases h : 7 < F 2 0
  · have c1 := @c1 (some (.ow (matT b n M)))
    have c2 := @c2 (some (.ow (matT b n M)))
    rw [decide_eq_true h] at c1
    by_cases h2 : 1 < n
    · rw [decide_eq_true (show 1 < (n : Int) by omega)] at c2
      have fin_ : ∀ {w7 : Option W} {ε1 : Env}, ev G4 (.bin .add (.lst [(.ix (.var 7) (.con (.int 1))), (.ix (.var 7) (.con (.int 0)))]) (.slcF (.var 7) (.con (.int 2)))) (e4 S A X H Wd R n (some (.ow (matT b n M))) none (q.map W.sh)) = some (.fr (([rowD n M 1, rowD n M 0] ++ vec (n - 2) fun k => rowD n M (2 + k)).map .d), ε1) → putR 7 (.fr (([rowD n M 1, rowD n M 0] ++ vec (n - 2) fun k => rowD n M (2 + k)).map .d)) ε1 = some (e4 S A X H Wd R n (some (.ow (([rowD n M 1, rowD n M 0] ++ vec (n - 2) fun k => rowD n M (2 + k)).map .d))) none (q.map W.sh)) → ∃ ts M', (∀ s g, s < n → g < n → Bd 920 (M' s g)) ∧ D.lst (T.toDs ts) = mat false false true n M' ∧ ex G4 0 s4D (e4 S A X H Wd R n (some (.ow (matT b n M))) none (q.map W.sh)) = some (.nx, e4 S A X H Wd R n (some (.ow ts)) none (q.map W.sh)) := fun {w7} {ε1} g1 g2 =>
        ⟨_, fun s g => M (if s = 0 then 1 else if s = 1 then 0 else s) g, fun s g hs hg => hb (if s = 0 then 1 else if s = 1 then 0 else s) g (sw_lt h2 hs) hg, by rw [toDs_d, swap_vec h2]; rfl, ex_ifT (ev_andT c1 c2) (exs_cons (ex_set g1 g2) exs_nil)⟩
      have rest : slcD (mat false false true n M) (some (2 : Nat)) none = some (.fr (vec (n - 2) fun k => .d (rowD n M (2 + k)))) := slcF_vec (n := n) (a := 2) (f := rowD n M) (by omega)
      have restm : (vec (n - 2) fun k => T.d (rowD n M (2 + k))) = (vec (n - 2) fun k => rowD n M (2 + k)).map .d := by rw [vec_map]
      rw [restm] at rest
      cases b with
      | true =>
        have hf : flatT (matT true n M) = some (vec n (rowD n M)) := by
          rw [show matT true n M = (vec n (rowD n M)).map T.d by rw [vec_map]; rfl, flatT_d]
        have i : ∀ k, k < n → (matT true n M)[k]? = some (.d (rowD n M k)) := fun k hk => vec_get hk
        have two := ev_lst (evs_cons (ev_ixo (G := G4) (a := .var 7) (b := .con (.int 1)) (j := 7) (k := 1) (ε := e4 S A X H Wd R n (some (.ow (matT true n M))) none (q.map W.sh)) rfl rfl rfl (i 1 h2)) (evs_cons (ev_ixo (G := G4) (a := .var 7) (b := .con (.int 0)) (j := 7) (k := 0) rfl rfl rfl (i 0 (by omega))) evs_nil)) (by simp)
        refine fin_ (w7 := none) (ev_binR two (ev_slcFo (lo := .con (.int 2)) (q := 2) rfl rfl rfl hf rest) rfl peek_fr peek_fr (bin_cat ?_)) ?_
        · rw [vec_length]; simp; omega
        · cases q <;> rfl
      | false =>
        have i : ∀ k, k < n → (matT false n M)[k]? = some (.l (vec n fun g => .d (rd (M k g)))) := fun k hk => vec_get hk
        have dd : dAt (.lst (T.toDs (matT false n M))) [1] = some (rowD n M 1) := by
          rw [matT_data]
          exact dAt_one (xs := vec n (rowD n M)) (vec_get h2)
        have e1 := ev_ixl (G := G4) (a := .var 7) (b := .con (.int 1)) (j := 7) (k := 1) (ε := e4 S A X H Wd R n (some (.ow (matT false n M))) none (q.map W.sh)) rfl rfl rfl (i 1 h2)
        have two := ev_lst (evs_pt (es := [.ix (.var 7) (.con (.int 0))]) e1 rfl dd (by
          rw [matT_data, show st (unal 7 (mat false false true n M) (e4 S A X H Wd R n (some (.ow (matT false n M))) none (q.map W.sh))) 7 (some (.sh (mat false false true n M))) = e4 S A X H Wd R n (some (.sh (mat false false true n M))) none (q.map W.sh) by cases q <;> rfl]
          exact evs_cons (ev_ix (d := mat false false true n M) (i := (0 : Nat)) rfl rfl (mat_ix (by omega))) evs_nil)) (by simp)
        refine fin_ (w7 := none) (ev_binR two (ev_slcF (lo := .con (.int 2)) (d := mat false false true n M) (i := 2) rfl rfl rest) rfl peek_fr peek_fr (bin_cat ?_)) ?_
        · rw [vec_length]; simp; omega
        · cases q <;> rfl
    · rw [decide_eq_false (show ¬ 1 < (n : Int) by omega)] at c2
      exact ⟨matT b n M, M, hb, matT_data, ex_ifF (ev_andT c1 c2) exs_nil⟩
  · have c1 := @c1 (some (.ow (matT b n M)))
    rw [decide_eq_false h] at c1
    exact ⟨matT b n M, M, hb, matT_data, ex_ifF (ev_andF c1) exs_nil⟩
end PyD
set_option Elab.async false
set_option linter.all false
set_option maxRecDepth 100000
set_option maxHeartbeats 4000000
/-! Pyi: the law's making: a rule made for heights near by. -/
namespace PyD
open PySem L2
abbrev x4 : E := .bin .mod (.b1 .int (.ix (.ix (.var 5) (.con (.int 2))) (.con (.int 3)))) (.var 6)
abbrev s4C : S := .ifS (.and (.cmp .gt (.ix (.ix (.var 5) (.con (.int 2))) (.con (.int 0))) (.con (.int 4))) (.cmp .lt (.ix (.ix (.var 5) (.con (.int 2))) (.con (.int 0))) (.con (.int 8)))) [.set 9 (.b1 .list (.var 3)), .setIx 9 x4 (.bin .add (.ix (.var 9) x4) (.con (.int 1))), .set 7 (.call 1 [(.ix (.var 5) (.con (.int 2))), (.call 0 [(.var 2), (.var 9)]), (.lst [(.con (.int 0)), (.con (.int 0)), (.con (.int 0)), (.con (.int 0)), (.con (.int 0)), (.con (.int 0)), (.con (.int 1)), (.con (.int 2)), (.con (.int 0)), (.con (.int 0))])])] []
def mn2 (k : Nat) : Int := [0, 0, 0, 0, 0, 0, 1, 2, 0, 0].getD k 0
theorem st_C {S A H Wd R : D} {n : Nat} {a c : Int} {h : Nat → Int} {kx kh : Bool} {F : Nat → Nat → Int} {b : Bool} {M : Nat → Nat → Rat} (hR : Rows R F) (hF : RowOk (F 2)) (hn : n ≤ 6) (hn0 : 0 < n) (hx : Xok a c) (hh : ∀ k, k < n → -50 ≤ h k ∧ h k ≤ 50) (hb : ∀ s g, s < n → g < n → Bd 920 (M s g)) :
    ∃ b' M' q, (∀ s g, s < n → g < n → Bd 920 (M' s g)) ∧ ex G4 0 s4C (e4 S A (con kx [.int a, .int c]) (con kh (vec n fun k => .int (h k))) Wd R n (some (.ow (matT b n M))) none none) = some (.nx, e4 S A (con kx [.int a, .int c]) (con kh (vec n fun k => .int (h k))) Wd R n (some (.ow (matT b' n M'))) none (Option.map W.sh q)) := by
  obtain ⟨r0, r1, r2, r3, r4, r5⟩ := hF
  have c1 : ∀ {w}, ev G4 (.cmp .gt (.ix (.ix (.var 5) (.con (.int 2))) (.con (.int 0))) (.con (.int 4))) (e4 S A (con kx [.int a, .int c]) (con kh (vec n fun k => .int (h k))) Wd R n w none none) = some (.sh (.bl (decide (4 < F 2 0))), e4 S A (con kx [.int a, .int c]) (con kh (vec n fun k => .int (h k))) Wd R n w none none) := fun {w} => ev_cmp (d1 := .int (F 2 0)) (d2 := .int 4) (row_n (k := 2) (j := 0) hR (by decide) (by decide) rfl) rfl rfl
  have c2 : ∀ {w}, ev G4 (.cmp .lt (.ix (.ix (.var 5) (.con (.int 2))) (.con (.int 0))) (.con (.int 8))) (e4 S A (con kx [.int a, .int c]) (con kh (vec n fun k => .int (h k))) Wd R n w none none) = some (.sh (.bl (decide (F 2 0 < 8))), e4 S A (con kx [.int a, .int c]) (con kh (vec n fun k => .int (h k))) Wd R n w none none) := fun {w} => ev_cmp (d1 := .int (F 2 0)) (d2 := .int 8) (row_n (k := 2) (j := 0) hR (by decide) (by decide) rfl) rfl rfl
  have c1 := @c1 (some (.ow (matT b n M)))
  have c2 := @c2 (some (.ow (matT b n M)))
  by_cases k1 : 4 < F 2 0
  · rw [decide_eq_true k1] at c1
    by_cases k2 : F 2 0 < 8
    · rw [decide_eq_true k2] at c2
      have hnz : (n : Int) ≠ 0 := by omega
      have i0 : 0 ≤ (F 2 3).fmod n := Int.fmod_nonneg_of_pos _ (by omega)
      have i1 : (F 2 3).fmod n < n := Int.fmod_lt_of_pos _ (by omega)
      obtain ⟨i, hi⟩ : ∃ i : Nat, (F 2 3).fmod n = i := ⟨((F 2 3).fmod n).toNat, by omega⟩
      have il : i < n := by omega
      have ex4 : ∀ {w7 z9}, ev G4 x4 (e4 S A (con kx [.int a, .int c]) (con kh (vec n fun k => .int (h k))) Wd R n w7 none z9) = some (.sh (.int i), e4 S A (con kx [.int a, .int c]) (con kh (vec n fun k => .int (h k))) Wd R n w7 none z9) := fun {w7 z9} => by
        have := ev_bin (G := G4) (ε := e4 S A (con kx [.int a, .int c]) (con kh (vec n fun k => .int (h k))) Wd R n w7 none z9) (ev_b1 (bb := .int) (row_n (k := 2) (j := 3) hR (by decide) (by decide) rfl) rfl) (b := .var 6) rfl (bin_mod (a := F 2 3) hnz)
        rw [hi] at this
        exact this
      have fl : ∀ f : Nat → Int, flatT (vec n fun k => T.d (.int (f k))) = some (vec n fun k => .int (f k)) := fun f => flatT_vec
      have lst9 : b1D .list (con kh (vec n fun k => .int (h k))) = some (.fr (vec n fun k => .d (.int (h k)))) := by
        rw [show (vec n fun k => T.d (.int (h k))) = (vec n fun k => D.int (h k)).map T.d by rw [vec_map]]
        cases kh <;> rfl
      have sp : Span n (fun k => if k = i then h i + 1 else h k) 101 := span_of hn0 (by omega) fun k hk => by
        have := hh k hk
        have := hh i il
        split <;> omega
      have sa : Sm 5 a := Sm.of_range (k := 32) (by have := hx.pos; omega) (by have := hx.lt; have := hx.le; omega) (by decide)
      have sc : Sm 5 c := Sm.of_range (k := 32) (by have := hx.pos; have := hx.lt; omega) (by have := hx.le; omega) (by decide)
      obtain ⟨M', b', g1, _, g2⟩ := f_rule_eq (mn := mn2) (rw_ := F 2) hn hn0 ⟨r0, r1, r2, r3, r4, r5⟩ (fun s hs => let z := wt_20 hx sp (Nat.le_refl _) hs; ⟨z.2, z.1⟩) (by omega) (by omega)
      have g3 := f_lw_eq (n := n) (h := fun k => if k = i then h i + 1 else h k) kx false (by omega) sa sc sp (by omega)
      have h9 : (vec n fun k => T.d (.int (h k))).set i (T.d (.int (h i + 1))) = vec n fun k => T.d (.int (if k = i then h i + 1 else h k)) := by
        rw [vec_set]
        exact vec_congr fun k _ => by split <;> rfl
      have p1 : ex G4 0 (.set 9 (.b1 .list (.var 3))) (e4 S A (con kx [.int a, .int c]) (con kh (vec n fun k => .int (h k))) Wd R n (some (.ow (matT b n M))) none none) = some (.nx, e4 S A (con kx [.int a, .int c]) (con kh (vec n fun k => .int (h k))) Wd R n (some (.ow (matT b n M))) none (some (.ow (vec n fun k => .d (.int (h k)))))) := ex_set (ev_b1 rfl lst9) rfl
      have p2 : ex G4 0 (.setIx 9 x4 (.bin .add (.ix (.var 9) x4) (.con (.int 1)))) (e4 S A (con kx [.int a, .int c]) (con kh (vec n fun k => .int (h k))) Wd R n (some (.ow (matT b n M))) none (some (.ow (vec n fun k => .d (.int (h k)))))) = some (.nx, e4 S A (con kx [.int a, .int c]) (con kh (vec n fun k => .int (h k))) Wd R n (some (.ow (matT b n M))) none (some (.ow (vec n fun k => .d (.int (if k = i then h i + 1 else h k)))))) := by
        refine (ex_setIx (k := i) (ts0 := vec n fun k => T.d (.int (h k))) (ts := vec n fun k => T.d (.int (h k))) (ev_bin (ev_ixo (j := 9) (k := i) rfl ex4 rfl (vec_get il)) rfl bin_add) rfl ex4 rfl (by rw [vec_length]; exact il) (by rw [vec_get il]; rfl) rfl).trans ?_
        rw [h9]
        rfl
      have args := evs_cons (G := G4) (row_at (k := 2) (ε := e4 S A (con kx [.int a, .int c]) (con kh (vec n fun k => .int (h k))) Wd R n (some (.ow (matT b n M))) none (some (.ow (vec n fun k => .d (.int (if k = i then h i + 1 else h k)))))) hR (by decide) rfl) (evs_fr (ev_call (evs_cons (e := .var 2) rfl (evs_ow (e := .var 9) (j := 9) rfl rfl evs_nil)) (k := 0) rfl (by rw [toDs_vec]; exact g3)) (evs_fr (ev_lst (evs_con (k := [0, 0, 0, 0, 0, 0, 1, 2, 0, 0])) (by decide)) evs_nil))
      rw [toDs_vec, toDs_d] at args
      have p3 : ex G4 0 (.set 7 (.call 1 [(.ix (.var 5) (.con (.int 2))), (.call 0 [(.var 2), (.var 9)]), (.lst [(.con (.int 0)), (.con (.int 0)), (.con (.int 0)), (.con (.int 0)), (.con (.int 0)), (.con (.int 0)), (.con (.int 1)), (.con (.int 2)), (.con (.int 0)), (.con (.int 0))])])) _ = some (.nx, e4 S A (con kx [.int a, .int c]) (con kh (vec n fun k => .int (h k))) Wd R n (some (.ow (matT b' n M'))) none (some (.sh (.lst (T.toDs (vec n fun k => T.d (.int (if k = i then h i + 1 else h k)))))))) := ex_set (ev_call args rfl g2) rfl
      exact ⟨b', M', some (.lst (T.toDs (vec n fun k => T.d (.int (if k = i then h i + 1 else h k))))), fun s g hs hg => (g1 s g hs hg).mono (by omega), ex_ifT (ev_andT c1 c2) (exs_cons p1 (exs_cons p2 (exs_cons p3 exs_nil)))⟩
    · rw [decide_eq_false k2] at c2
      exact ⟨b, M, none, hb, ex_ifF (ev_andT c1 c2) exs_nil⟩
  · rw [decide_eq_false k1] at c1
    exact ⟨b, M, none, hb, ex_ifF (ev_andF c1) exs_nil⟩
end PyD
set_option Elab.async false
set_option linter.all false
set_option maxRecDepth 100000
set_option maxHeartbeats 2000000
/-! PyIni: objects made by their own first method. -/
namespace PyD
open PySem L2 Evl PyProof.Rows

/-- a part of such a method: a statement; a field given to the object -/
inductive I where
  | s (s : S) | f (f : Str) (e : E)
def putFD (f : Str) (d : D) : List (Str × D) → List (Str × D)
  | [] => [(f, d)]
  | (g, x) :: r => if g = f then (g, d) :: r else (g, x) :: putFD f d r
def selfAt (x : Addr) (ε : Env) : Prop := gt ε 0 = some (.sh (.adr x))
noncomputable def exI (G : List Fn) (n : Nat) (x : Addr) : List I → Env → List (Str × D) → Option (List (Str × D))
  | [], _, fs => some fs
  | .s s :: r, ε, fs => match ex G n s ε with
    | some (.nx, ε1) => exI G n x r ε1 fs
    | _ => none
  | .f f e :: r, ε, fs => match ev G e ε with
    | some (v, ε1) => match frz v ε1 with
      | some (d, ε2) => @ite _ (selfAt x ε2 ∧ fs.length < 1000) (Classical.propDecidable _) (exI G n x r ε2 (putFD f d fs)) none
      | none => none
    | none => none
section
variable (tb : Tb) (N : List Str) (fns : List Str)
def cI (n : Nat) (sc : Scope) (own : Str → Bool) (st : Stmt) : I := match st with
  | .Assign ts e _ => match ts with
    | [.Attribute (.Name x _) f _] => if slot N sc x = some 0 ∧ (isLc e = false ∧ f ∈ fns) then .f f (cE tb N n sc own e) else .s .bad
    | _ => .s (cS tb N n sc own st)
  | _ => .s (cS tb N n sc own st)
end
section
variable {tb : Tb} {G : List Fn} {cl : Nat → Addr} {N : List Str} {fns : List Str} {sc scope : Scope} {own : Str → Bool} {X : Cx} {c : Nat} {m n : Nat}
theorem rpf_putF {K : PySem.W.Frag} {F : Hp} {f : Str} {d : D} {v : V} (h : Rp K cl F d v) : ∀ {fs : List (Str × D)} {vs : List (Str × V)}, Rpf K cl F fs vs → Rpf K cl F (putFD f d fs) (putF f v vs)
  | [], _, e => by cases e; exact ⟨v, [], rfl, h, rfl⟩
  | (g, x) :: fs, _, e => by
    obtain ⟨y, r, rfl, h1, h2⟩ := e
    unfold putFD putF
    simp only
    by_cases z : g = f
    · rw [if_pos z, if_pos z]; exact ⟨v, r, rfl, h, h2⟩
    · rw [if_neg z, if_neg z]; exact ⟨y, _, rfl, h1, rpf_putF h h2⟩
theorem rpf_len {K : PySem.W.Frag} {F : Hp} : ∀ {fs : List (Str × D)} {vs : List (Str × V)}, Rpf K cl F fs vs → vs.length = fs.length
  | [], _, e => by cases e; rfl
  | p :: fs, _, e => by
    obtain ⟨y, r, rfl, h1, h2⟩ := e
    simp [rpf_len h2]
/-- own lists, or the object in the making -/
abbrev OwX (ow : Nat → AT) (x : Addr) : Addr → Prop := fun a => Own ow a ∨ a = x
theorem Stp.wide {P P' : Addr → Prop} {F H F' H' : Hp} (s : Stp P P' F H F' H') (x : Addr) : Stp (fun a => P a ∨ a = x) (fun a => P' a ∨ a = x) F H F' H' :=
  ⟨s.ex, fun a o h n => s.keep a o h fun p => n (.inl p), s.dom, fun a o h => (s.news a o h).imp id fun z => z.imp id .inl, fun a h => h.elim (fun z => (s.own a z).imp .inl id) fun z => .inl (.inr z)⟩
theorem Stp.outw {P : Addr → Prop} {F H : Hp} {x : Addr} {o o' : HO} (hx : H x = some o) : Stp (fun a => P a ∨ a = x) (fun a => P a ∨ a = x) F H F (upd H x o') :=
  ⟨Ex.refl F, fun a o1 h n => by rw [upd_ne fun z => n (.inr z)]; exact h, fun a h => by
    by_cases z : a = x
    · rw [z, upd_same] at h; cases h
    · rwa [upd_ne z] at h, fun a o h => .inl h, fun a h => .inl h⟩
def tI (K : PySem.W.Frag) (cl : Nat → Addr) (c : Nat) (G : List Fn) (n : Nat) (is : List I) : TS := fun D σ H => ∃ ε ow F x dx vs fs res, Rel K cl σ ε ow F H ∧ H x = some (.ins (cl c) dx vs) ∧ F x = none ∧ ¬ Own ow x ∧ Rpf K cl F fs vs ∧ exI G n x is ε fs = some res ∧
  ∀ σ' ε' ow' F' H' vs', Rel K cl σ' ε' ow' F' H' → Stp (OwX ow x) (OwX ow' x) F H F' H' → H' x = some (.ins (cl c) dx vs') → F' x = none → ¬ Own ow' x → Rpf K cl F' res vs' → D.nx σ' H'
theorem stays {K : PySem.W.Frag} {ow ow' : Nat → AT} {F H F' H' : Hp} {x : Addr} {o : HO} (s : Stp (Own ow) (Own ow') F H F' H') (hx : H x = some o) (hF : F x = none) (hn : ¬ Own ow x) : H' x = some o ∧ F' x = none ∧ ¬ Own ow' x := by
  refine ⟨s.keep x o hx hn, ?_, fun z => ?_⟩
  · cases e : F' x with
    | none => rfl
    | some o' =>
      rcases s.news x o' e with w | w | w
      · rw [hF] at w; cases w
      · rw [hx] at w; cases w
      · exact absurd w hn
  · rcases s.own x z with w | w
    · exact hn w
    · rw [hx] at w; cases w
theorem ini_s {st : Stmt} {sts : List Stmt} {s : S} {r : List I} (h1 : PS X st (tSv X.K cl (ex G m s))) (h2 : PSs X sts (tI X.K cl c G m r)) : PSs X (st :: sts) (tI X.K cl c G m (.s s :: r)) := by
  refine PSs.imp (pss_cons h1 h2) fun D σ H ⟨ε, ow, F, x, dx, vs, fs, res, q, hx, hF, hn, hr, e, k⟩ => ?_
  unfold exI at e
  split at e
  · rename_i ε1 e1
    refine ⟨ε, ow, F, .nx, ε1, q, e1, fun σ1 ow1 F1 H1 A => ?_⟩
    obtain ⟨g1, g2, g3⟩ := stays (K := X.K) A.stp hx hF hn
    exact ⟨ε1, ow1, F1, x, dx, vs, fs, res, A.rel, g1, g2, g3, Rpf.ex A.stp.ex fs vs hr, e, fun σ' ε' ow' F' H' vs' q' s' => k σ' ε' ow' F' H' vs' q' ((A.stp.wide x).trans s')⟩
  · cases e
theorem ini_f (C : Ctx tb G cl N sc own X) {e : Expr} {y f : Str} {py pa pos : Pos} {sts : List Stmt} {r : List I} (hy : slot N sc y = some 0) (hl : isLc e = false) (hcls : Cls X.K (cl c) ∧ NoAttr X.K (cl c) f) (h2 : PSs X sts (tI X.K cl c G m r)) :
    PSs X (.Assign [.Attribute (.Name y py) f pa] e pos :: sts) (tI X.K cl c G m (.f f (cE tb N n sc own e) :: r)) := by
  obtain ⟨l1, l2, l3, l4⟩ := slot_ok hy
  have hv : PE X (.Name y py) (tEv X.K cl true (ev G (.var 0))) := pe_var_ok (by rw [C.N]; exact l4) (by rw [C.sc]; exact l1) l2 l3
  refine PSs.imp (pss_cons (ps_fld hv (cE_ok n e sc own X C).1 (sw_no hl)) h2) fun D σ H ⟨ε, ow, F, x, dx, vs, fs, res, q, hx, hF, hn, hr, e, k⟩ => ?_
  unfold exI at e
  split at e
  · rename_i v ε1 e1
    split at e
    · rename_i d ε2 e2
      split at e
      · rename_i hs
        refine ⟨ε, ow, F, v, ε1, q, e1, fun u ow1 F1 H1 R1 => ?_⟩
        obtain ⟨ow2, F2, A2, hd⟩ := frz_acc R1 e2
        have ev0 : ev G (.var 0) ε2 = some (.sh (.adr x), ε2) := by simp only [ev, show gt ε2 0 = some (.sh (.adr x)) from hs.1]
        refine ⟨ε2, ow2, F2, .sh (.adr x), ε2, A2.rel, ev0, fun u3 ow3 F3 H3 R3 => ?_⟩
        obtain ⟨g1, g2, g3⟩ := stays (K := X.K) A2.stp hx hF hn
        obtain ⟨j1, j2, j3⟩ := stays (K := X.K) R3.stp g1 g2 g3
        have e3 : u3 = .ref x := R3.rep
        have r3 : Rpf X.K cl F3 fs vs := Rpf.ex (A2.stp.ex.trans R3.stp.ex) fs vs hr
        refine ⟨x, cl c, dx, vs, e3, j1, hcls.1, hcls.2, by rw [rpf_len r3]; exact hs.2, ?_⟩
        exact ⟨ε2, ow3, F3, x, dx, putF f u vs, putFD f d fs, res, R3.rel.out j2 j3, upd_same, j2, j3, rpf_putF (Rp.ex R3.stp.ex d u hd) r3, e, fun σ' ε' ow' F' H' vs' q' s' => k σ' ε' ow' F' H' vs' q' ((((A2.stp.trans R3.stp).wide x).trans (Stp.outw j1)).trans s')⟩
      · cases e
    · cases e
  · cases e
theorem ini_ok (n : Nat) (hp : PassesOwn (model X.prog X.w) X.A X.env X.xe) (C : Ctx tb G cl N sc own X) (hcls : ∀ f ∈ fns, Cls X.K (cl c) ∧ NoAttr X.K (cl c) f) : ∀ sts : List Stmt, PSs X sts (tI X.K cl c G m (sts.map (cI tb N fns n sc own)))
  | [] => PSs.imp pss_nil fun D σ H ⟨ε, ow, F, x, dx, vs, fs, res, q, hx, hF, hn, hr, e, k⟩ => by
    unfold exI at e
    cases e
    exact k σ ε ow F H vs q Stp.refl hx hF hn hr
  | st :: sts => by
    have ih := ini_ok n hp C hcls sts
    have gen : PSs X (st :: sts) (tI X.K cl c G m (.s (cS tb N n sc own st) :: sts.map (cI tb N fns n sc own))) := ini_s (cS_ok hp C n st) ih
    have bad : PSs X (st :: sts) (tI X.K cl c G m (.s .bad :: sts.map (cI tb N fns n sc own))) := ini_s (bad_ok) ih
    rw [List.map_cons]
    unfold cI
    split
    · split
      · split
        · rename_i z
          exact ini_f C z.1 z.2.1 (hcls _ z.2.2) ih
        · exact bad
      · exact gen
    · exact gen
end
/-- the promise of such a method, called for a new object -/
def spI (K : PySem.W.Frag) (cl : Nat → Addr) (c : Nat) (g : Fn) : Sp := fun vs H Q _ => ∃ x dx us F ds r H0, vs = .ref x :: us ∧ H = upd (upd H0 dx (.own x)) x (.ins (cl c) dx []) ∧ Ex F H0 ∧ H0 x = none ∧ H0 dx = none ∧ dx ≠ x ∧ Rps K cl F ds us ∧ g ds = some r ∧ ∀ F' H', StpF F H0 F' H' → RepF K cl H0 F' H' (.ref x) r → Q .non H'
def RunsI (tb : Tb) (G : List Fn) (N ps fns : List Str) (c fuel : Nat) (scope : Scope) (body : List Stmt) (g : Fn) : Prop :=
  ∀ ds r, g ds = some r → ds.length + 1 = ps.length ∧ ∃ fs, r = .sh (.ins c fs) ∧ ∀ x, ∃ n, exI G n x (body.map (cI tb N fns fuel scope (fun _ => true))) (some (.sh (.adr x)) :: (ds.map (fun d => some (.sh d)) ++ List.replicate (N.length - ps.length) none)) [] = some fs
section
variable {tb : Tb} {G : List Fn} {cl : Nat → Addr} {N ps fns : List Str} {P : Program} {w : World} {K : PySem.W.Frag} {mg : Str → Option Value} {base : Heap} {c : Nat}
theorem init_ok {x qual : Str} {params : Arguments} {body : List Stmt} {scope : Scope} {dvs : List V} {kws : List (Str × V)} {fa : Addr} {fd : FuncData} {k fuel : Nat} {g : Fn} (FD : FunD K x qual params body scope dvs kws fa fd) (S : FnScope N ps scope) (hpN : ps.length ≤ N.length)
    (T : ∀ A, Room k A → Tab tb G cl P w K mg base A) (hcls : ∀ f ∈ fns, Cls K (cl c) ∧ NoAttr K (cl c) f) (hr : RunsI tb G N ps fns c fuel scope body g) : FnOk P w K mg base CX0 (k + 1) fa fd ps (spI K cl c g) := by
  refine FD.ok S (fun vs H Q E h => ?_) (fun cdv A outer s H vs Q E hroom h => ?_)
  · obtain ⟨x, dx, us, F, ds, r, H0, rfl, _, _, _, _, _, h1, h2, _⟩ := h
    rw [List.length_cons, ← h1.length]
    exact (hr ds r h2).1
  · obtain ⟨x, dx, us, F, ds, r, H0, rfl, rfl, e0, hx, hdx, hne, h1, h2, h3⟩ := h
    obtain ⟨hl, fs, rfl, hrun⟩ := hr ds r h2
    obtain ⟨n, hrun⟩ := hrun x
    have C : Ctx tb G cl N scope (fun _ => true) (cxOf CX0 P w K mg base N qual scope fa cdv A outer s (upd (upd H0 dx (.own x)) x (.ins (cl c) dx [])) E).nox := ⟨rfl, S.nd, rfl, rfl, fun _ _ => rfl, hroom.units, T _ hroom⟩
    refine ⟨_, PSs.nox (ini_ok (m := n) fuel PassesOwn.never C hcls body), ?_⟩
    have hF : F x = none := by
      cases z : F x with
      | none => rfl
      | some o => have := e0 _ _ z; rw [hx] at this; cases this
    have hFd : F dx = none := by
      cases z : F dx with
      | none => rfl
      | some o => have := e0 _ _ z; rw [hdx] at this; cases this
    have e1 : Ex F (upd (upd H0 dx (.own x)) x (.ins (cl c) dx [])) := fun a o z => by
      rw [upd_ne (fun y => by rw [y, hF] at z; cases z), upd_ne (fun y => by rw [y, hFd] at z; cases z)]
      exact e0 a o z
    have q := rel_start (N := N) (ds := .adr x :: ds) (vs := .ref x :: us) e1 ⟨_, us, rfl, rfl, h1⟩ (by rw [List.length_cons, hl]; exact hpN)
    rw [List.length_cons, hl] at q
    have no : ∀ a, ¬ Own (fun _ => AT.leaf) a := fun a ⟨i, m⟩ => by cases m
    refine ⟨_, _, F, x, dx, [], [], fs, q, upd_same, hF, no x, rfl, hrun, fun σ' ε' ow' F' H' vs' q' s' g1 g2 g3 g4 => ?_⟩
    have keep : Ex H0 H' := fun a o z => by
      have nx : a ≠ x := fun y => by rw [y, hx] at z; cases z
      have nd : a ≠ dx := fun y => by rw [y, hdx] at z; cases z
      refine s'.keep a o ?_ fun y => y.elim (no a) nx
      rw [upd_ne nx, upd_ne nd]
      exact z
    have low : ∀ a, upd (upd H0 dx (.own x)) x (.ins (cl c) dx []) a = none → H0 a = none := fun a z => by
      by_cases nx : a = x
      · rw [nx, upd_same] at z; cases z
      · rw [upd_ne nx] at z
        by_cases nd : a = dx
        · rw [nd, upd_same] at z; cases z
        · rwa [upd_ne nd] at z
    refine h3 (upd F' x (.ins (cl c) dx vs')) H' ⟨fun a o z => ?_, keep, fun a z => low a (s'.dom a z), fun a o z => ?_, fun a o z => ?_⟩ ?_
    · rw [upd_ne (fun y => by rw [y, hF] at z; cases z)]
      exact s'.ex a o z
    · by_cases nx : a = x
      · exact .inr (by rw [nx]; exact hx)
      · rw [upd_ne nx] at z
        rcases s'.news a o z with w | w | w
        · exact .inl w
        · exact .inr (low a w)
        · exact absurd w fun y => y.elim (no a) nx
    · by_cases nx : a = x
      · rw [nx, upd_same] at z; cases z; rw [nx]; exact g1
      · rw [upd_ne nx] at z; exact q'.sub a o z
    · refine ⟨x, dx, vs', rfl, upd_same, Rpf.ex (fun a o z => ?_) fs vs' g4⟩
      rw [upd_ne (fun y => by rw [y, g2] at z; cases z)]
      exact z
/-- a class, called: the object is data -/
theorem callP_make {A : Around} {x : Str} {fi : Addr} {fd : FuncData} {k : Nat} {g : Fn} {dsV : List Value} {dvs : List V} {dfl : List D} (M : Mk K (cl c) fi) (F : FnOk P w K mg base CX0 k fi fd ps (spI K cl c g)) (hr : Room (k + 1) A) (hm : mg x = some (.ref (cl c))) (hb : Binds K fd ps dsV) (hd : Vals dvs dsV)
    (hdv : ∀ F, Rps K cl F dfl dvs) (hdb : (x == ("__debug__" : Str)) = false) : CallP P w K mg base A cl x (fun ds => g (ds ++ dfl)) := by
  intro X e1 e2 e3 e4 e5 e6 hg es t p pos hs hne pa
  subst e1 e2 e3 e4 e5 e6
  cases es with
  | nil => cases hne
  | cons e es =>
    rw [List.any_cons, Bool.or_eq_false_iff] at hs
    refine ⟨fun pins s σ H Q I h => ?_⟩
    refine wpAny_Call_Name_kw (ld_glob I hg hm ?_ hdb)
    refine PySem.W.callWith_K (h₀ := X.base) I.ok.mod.kin M.kp (thn (pa.run pos pins s σ H _ I h) fun us s1 ⟨vs, H1, I1, r, q⟩ => ⟨I1.kIn, ?_⟩) (star_one hs.1) (star_any hs.2)
    refine run_make M F hr hb hd pass0 I1 r (E := fun _ _ _ => False) fun x dx hx hdx hne => ?_
    obtain ⟨F0, ds, r0, e0, h1, h2, h3⟩ := q
    exact ⟨x, dx, vs ++ dvs, F0, ds ++ dfl, r0, H1, rfl, rfl, e0, hx, hdx, hne, h1.append (hdv F0), h2, fun F' H' s rp => ⟨rfl, h3 (.ref x) F' H' s rp⟩⟩
end
end PyD
namespace PyD
open PySem L2
section
variable {G : List Fn} {n n' : Nat} {x : Addr}
theorem exI_mono (l : n ≤ n') : ∀ (is : List I) (ε : Env) (fs res : List (Str × D)), exI G n x is ε fs = some res → exI G n' x is ε fs = some res
  | [], _, _, _, h => by unfold exI at h ⊢; exact h
  | .s s :: r, ε, fs, res, h => by
    unfold exI at h ⊢
    split at h
    · rename_i ε1 e1
      rw [ex_mono l s ε _ e1]
      exact exI_mono l r ε1 fs res h
    · cases h
  | .f f e :: r, ε, fs, res, h => by
    unfold exI at h ⊢
    split at h
    · split at h
      · rename_i d ε2 e2
        split at h
        · rename_i z
          rw [if_pos z]
          exact exI_mono l r ε2 _ res h
        · cases h
      · cases h
    · cases h
theorem exI_nil {ε : Env} {fs : List (Str × D)} : exI G n x [] ε fs = some fs := by unfold exI; rfl
theorem exI_s {s : S} {r : List I} {ε ε1 : Env} {fs : List (Str × D)} {q : Option (List (Str × D))} (h : ex G n s ε = some (.nx, ε1)) (k : exI G n x r ε1 fs = q) : exI G n x (.s s :: r) ε fs = q := by
  rw [exI, h]
  exact k
theorem exI_f {f : Str} {e : E} {r : List I} {ε ε1 ε2 : Env} {fs : List (Str × D)} {v : R} {d : D} {q : Option (List (Str × D))} (h : ev G e ε = some (v, ε1)) (hf : frz v ε1 = some (d, ε2)) (hs : gt ε2 0 = some (.sh (.adr x))) (hl : fs.length < 1000) (k : exI G n x r ε2 (putFD f d fs) = q) : exI G n x (.f f e :: r) ε fs = q := by
  rw [exI, h]
  simp only [hf]
  rw [if_pos ⟨hs, hl⟩]
  exact k
end
/-- the object that such a method makes, as data -/
noncomputable def rI (G : List Fn) (k m c : Nat) (is : List I) : Fn := fun ds => by
  classical exact if h : ds.length + 1 = k ∧ ∃ fs, ∀ x, ∃ n, exI G n x is (some (.sh (.adr x)) :: (ds.map (fun d => some (.sh d)) ++ List.replicate m none)) [] = some fs then some (.sh (.ins c h.2.choose)) else none
theorem rI_eq {G : List Fn} {k m c n : Nat} {is : List I} {ds : List D} {fs : List (Str × D)} (h : ∀ x, exI G n x is (some (.sh (.adr x)) :: (ds.map (fun d => some (.sh d)) ++ List.replicate m none)) [] = some fs) (hl : ds.length + 1 = k := by rfl) : rI G k m c is ds = some (.sh (.ins c fs)) := by
  have ex : ds.length + 1 = k ∧ ∃ fs, ∀ x, ∃ n, exI G n x is (some (.sh (.adr x)) :: (ds.map (fun d => some (.sh d)) ++ List.replicate m none)) [] = some fs := ⟨hl, fs, fun x => ⟨n, h x⟩⟩
  unfold rI
  rw [dif_pos ex]
  obtain ⟨n2, h2⟩ := ex.2.choose_spec 0
  have h3 := exI_mono (Nat.le_max_left n n2) _ _ _ _ (h 0)
  have h4 := exI_mono (Nat.le_max_right n n2) _ _ _ _ h2
  rw [h3] at h4
  rw [← Option.some.inj h4]
theorem rI_runs {tb : Tb} {G : List Fn} {N ps fns : List Str} {c fuel : Nat} {scope : Scope} {body : List Stmt} {is : List I} {k m : Nat} (hb : body.map (cI tb N fns fuel scope (fun _ => true)) = is) (hk : ps.length = k) (hm : N.length - ps.length = m) : RunsI tb G N ps fns c fuel scope body (rI G k m c is) := by
  intro ds r e
  unfold rI at e
  split at e
  · rename_i ex
    cases e
    rw [hb, hm, hk]
    exact ⟨ex.1, _, rfl, ex.2.choose_spec⟩
  · cases e
end PyD
set_option Elab.async false
set_option linter.all false
set_option maxRecDepth 100000
set_option maxHeartbeats 4000000
/-! Pyj: the law's making: four rules, begun and handed back. -/
namespace PyD
open PySem L2
def mn0 (k : Nat) : Int := 0
def mnb (k : Nat) : Int := 1
def mn3 (k : Nat) : Int := [4, 4, 4, 4, 4, 4, 0, 1, 2, 3].getD k 0
def mn1 (k : Nat) : Int := [5, 5, 5, 5, 1, 0, 0, 0, 0, 0].getD k 0
abbrev mD (f : Nat → Int) : D := .lst (vec 10 fun k => .int (f k))
abbrev mns : List T := [.d (mD mn0), .d (mD mnb), .d (mD mn0), .d (mD mn3)]
abbrev s4E : S := .set 8 (.lst [(.bin .mul (.lst [(.con (.int 0))]) (.con (.int 10))), (.bin .mul (.lst [(.con (.int 1))]) (.con (.int 10))), (.bin .mul (.lst [(.con (.int 0))]) (.con (.int 10))), (.lst [(.con (.int 4)), (.con (.int 4)), (.con (.int 4)), (.con (.int 4)), (.con (.int 4)), (.con (.int 4)), (.con (.int 0)), (.con (.int 1)), (.con (.int 2)), (.con (.int 3))])])
abbrev r4 (k : Nat) : E := .call 1 [(.ix (.var 5) (.con (.int k))), (.var 4), (.ix (.var 8) (.con (.int k)))]
abbrev s4F : S := .ret (.lst [(.call 1 [(.ix (.var 5) (.con (.int 0))), (.var 4), (.ix (.var 8) (.con (.int 0)))]), (.call 1 [(.ix (.var 5) (.con (.int 1))), (.var 4), (.ix (.var 8) (.con (.int 1)))]), (.var 7), (.call 1 [(.ix (.var 5) (.con (.int 3))), (.var 4), (.ix (.var 8) (.con (.int 3)))])])
theorem ev_rep {G : List Fn} {ε : Env} {i : Int} : ev G (.bin .mul (.lst [(.con (.int i))]) (.con (.int 10))) ε = some (.fr ((List.replicate 10 (D.int i)).map .d), ε) := by
  refine (ev_binR (ev_lst (evs_con (k := [i])) (by simp)) rfl rfl peek_fr rfl (bin_rep (by decide) (by decide) (by simp))).trans ?_
  rfl
theorem st_E {S A X H Wd R : D} {n : Nat} {w7 z9 : Option W} : ex G4 0 s4E (e4 S A X H Wd R n w7 none z9) = some (.nx, e4 S A X H Wd R n w7 (some (.ow mns)) z9) := by
  refine ex_set (ε1 := e4 S A X H Wd R n w7 none z9) (x := .fr mns) ?_ rfl
  have l := ev_lst (G := G4) (ε := e4 S A X H Wd R n w7 none z9) (evs_fr (ev_rep (i := 0)) (evs_fr (ev_rep (i := 1)) (evs_fr (ev_rep (i := 0)) (evs_fr (ev_lst (evs_con (k := [4, 4, 4, 4, 4, 4, 0, 1, 2, 3])) (by decide)) evs_nil)))) (by simp)
  refine l.trans ?_
  simp only [toDs_d]
  rfl
theorem rule_item {S A X H R : D} {n : Nat} {w : Nat → Int} {w7 z9 : Option W} {F : Nat → Nat → Int} (hR : Rows R F) (hF : ∀ k, k < 4 → RowOk (F k)) (hn : n ≤ 6) (hn0 : 0 < n) (hw : ∀ s, s < n → 0 < w s ∧ Sm 437 (w s)) {k : Nat} (hk : k < 4) {mn : Nat → Int} (hm : mns[k]? = some (.d (mD mn))) :
    ∃ M, (∀ s g, s < n → g < n → Bd 920 (M s g)) ∧ ∃ ts, D.lst (T.toDs ts) = mat false false true n M ∧ ev G4 (r4 k) (e4 S A X H (.lst (vec n fun s => .int (w s))) R n w7 (some (.ow mns)) z9) = some (.fr ts, e4 S A X H (.lst (vec n fun s => .int (w s))) R n w7 (some (.ow mns)) z9) := by
  obtain ⟨M, b, g1, _, g2⟩ := f_rule_eq (mn := mn) hn hn0 (hF k hk) hw (by decide) (by decide)
  refine ⟨M, fun s g hs hg => (g1 s g hs hg).mono (by omega), matT b n M, matT_data, ?_⟩
  exact ev_call (evs_cons (row_at hR hk rfl) (evs_cons (e := .var 4) rfl (evs_cons (ev_ixo (j := 8) (k := k) rfl rfl rfl hm) evs_nil))) rfl g2
theorem st_F {S A X H R : D} {n : Nat} {w : Nat → Int} {q : Option D} {ts : List T} {M : Nat → Nat → Rat} {F : Nat → Nat → Int} (hR : Rows R F) (hF : ∀ k, k < 4 → RowOk (F k)) (hn : n ≤ 6) (hn0 : 0 < n) (hw : ∀ s, s < n → 0 < w s ∧ Sm 437 (w s)) (hM : ∀ s g, s < n → g < n → Bd 920 (M s g)) (hts : D.lst (T.toDs ts) = mat false false true n M) :
    ∃ (N : Nat → Nat → Nat → Rat) (ε' : Env), (∀ k s g, k < 4 → s < n → g < n → Bd 920 (N k s g)) ∧ exs G4 0 [s4E, s4F] (e4 S A X H (.lst (vec n fun s => .int (w s))) R n (some (.ow ts)) none (q.map W.sh)) = some (.rt (.fr (vec 4 fun k => .d (mat false false true n (N k)))), ε') := by
  obtain ⟨M0, b0, t0, d0, i0⟩ := rule_item (S := S) (A := A) (X := X) (H := H) (w7 := some (.ow ts)) (z9 := q.map W.sh) hR hF hn hn0 hw (k := 0) (by decide) rfl
  obtain ⟨M1, b1, t1, d1, i1⟩ := rule_item (S := S) (A := A) (X := X) (H := H) (w7 := some (.ow ts)) (z9 := q.map W.sh) hR hF hn hn0 hw (k := 1) (by decide) rfl
  obtain ⟨M3, b3, t3, d3, i3⟩ := rule_item (S := S) (A := A) (X := X) (H := H) (w7 := some (.sh (mat false false true n M))) (z9 := q.map W.sh) hR hF hn hn0 hw (k := 3) (by decide) rfl
  have a7 := evs_ow (G := G4) (e := .var 7) (es := [r4 3]) (j := 7) (ts := ts) (ε := e4 S A X H (.lst (vec n fun s => .int (w s))) R n (some (.ow ts)) (some (.ow mns)) (q.map W.sh)) rfl rfl (by
    rw [hts, show st (unal 7 (mat false false true n M) (e4 S A X H (.lst (vec n fun s => .int (w s))) R n (some (.ow ts)) (some (.ow mns)) (q.map W.sh))) 7 (some (.sh (mat false false true n M))) = e4 S A X H (.lst (vec n fun s => .int (w s))) R n (some (.sh (mat false false true n M))) (some (.ow mns)) (q.map W.sh) by cases q <;> rfl]
    exact evs_fr i3 evs_nil)
  rw [hts, d3] at a7
  have all := ev_lst (evs_fr i0 (evs_fr i1 a7)) (by simp)
  rw [d0, d1] at all
  refine ⟨fun k => match k with
    | 0 => M0
    | 1 => M1
    | 2 => M
    | _ => M3, _, ?_, exs_cons st_E (exs_ret (ex_ret (all.trans rfl)))⟩
  intro k s g hk hs hg
  match k, hk with
  | 0, _ => exact b0 s g hs hg
  | 1, _ => exact b1 s g hs hg
  | 2, _ => exact hM s g hs hg
  | 3, _ => exact b3 s g hs hg
/-! ### the start -/
abbrev s4a : S := .set 4 (.call 0 [(.var 2), (.var 3)])
abbrev s4b : S := .set 5 (.lc (.call 2 [(.call 4 [(.var 0), (.bin .add (.var 1) (.var 10))]), (.bin .add (.lst [(.con (.int 10)), (.con (.int 12)), (.con (.int 8)), (.con (.int 8)), (.con (.int 10))]) (.bin .mul (.lst [(.con (.int 60))]) (.con (.int 36))))]) (.one 10) .rng1 [(.con (.int 4))] [] [10])
abbrev s4c : S := .set 6 (.b1 .len (.var 3))
abbrev s4d : S := .set 7 (.call 1 [(.ix (.var 5) (.con (.int 2))), (.var 4), (.lst [(.con (.int 5)), (.con (.int 5)), (.con (.int 5)), (.con (.int 5)), (.con (.int 1)), (.con (.int 0)), (.con (.int 0)), (.con (.int 0)), (.con (.int 0)), (.con (.int 0))])])
abbrev s4C' : S := .ifS (.and (.cmp .gt (.ix (.ix (.var 5) (.con (.int 2))) (.con (.int 0))) (.con (.int 4))) (.cmp .lt (.ix (.ix (.var 5) (.con (.int 2))) (.con (.int 0))) (.con (.int 8)))) [.set 9 (.b1 .list (.var 3)), .setIx 9 (.bin .mod (.b1 .int (.ix (.ix (.var 5) (.con (.int 2))) (.con (.int 3)))) (.var 6)) (.bin .add (.ix (.var 9) (.bin .mod (.b1 .int (.ix (.ix (.var 5) (.con (.int 2))) (.con (.int 3)))) (.var 6))) (.con (.int 1))), .set 7 (.call 1 [(.ix (.var 5) (.con (.int 2))), (.call 0 [(.var 2), (.var 9)]), (.lst [(.con (.int 0)), (.con (.int 0)), (.con (.int 0)), (.con (.int 0)), (.con (.int 0)), (.con (.int 0)), (.con (.int 1)), (.con (.int 2)), (.con (.int 0)), (.con (.int 0))])])] []
def b_four : List S := [s4a, s4b, s4c, s4d, s4B, s4C', s4D, s4E, s4F]
noncomputable def f_four : Fn := rF G4 4 7 b_four
theorem f_four_eq (ns : List Int) {at_ n : Nat} {a c : Int} {h : Nat → Int} (kx kh : Bool) (hat : at_ ≤ 900) (hn : n ≤ 6) (hn0 : 0 < n) (hx : Xok a c) (hh : ∀ k, k < n → -50 ≤ h k ∧ h k ≤ 50) :
    ∃ N : Nat → Nat → Nat → Rat, (∀ k s g, k < 4 → s < n → g < n → Bd 920 (N k s g)) ∧ f_four [.frl (ns.map .int), .int at_, con kx [.int a, .int c], con kh (vec n fun k => .int (h k))] = some (.fr (vec 4 fun k => .d (mat false false true n (N k)))) := by
  have sp : Span n h 100 := span_of hn0 (by omega) fun k hk => by
    have := hh k hk
    omega
  have sa : Sm 5 a := Sm.of_range (k := 32) (by have := hx.pos; omega) (by have := hx.lt; have := hx.le; omega) (by decide)
  have sc : Sm 5 c := Sm.of_range (k := 32) (by have := hx.pos; have := hx.lt; omega) (by have := hx.le; omega) (by decide)
  have hw : ∀ s, s < n → 0 < wt a c n h s ∧ Sm 437 (wt a c n h s) := fun s hs => let z := wt_20 hx sp (by omega) hs; ⟨z.2, z.1⟩
  obtain ⟨C, F, hF⟩ : ∃ (C : Nat → Int) (F : Nat → Nat → Int), ∀ k, k < 4 → f_cell [.frl (ns.map .int), .int ((at_ + k : Nat) : Int)] = some (.sh (.int (C k))) ∧ Dig 41 sz41 (F k) ∧ f_dig [.int (C k), .lst (vec 41 fun j => .int (sz41 j))] = some (.fr (vec 41 fun j => .d (.int (F k j)))) := by
    have : ∀ k : Nat, ∃ (c : Int) (f : Nat → Int), k < 4 → f_cell [.frl (ns.map .int), .int ((at_ + k : Nat) : Int)] = some (.sh (.int c)) ∧ Dig 41 sz41 f ∧ f_dig [.int c, .lst (vec 41 fun j => .int (sz41 j))] = some (.fr (vec 41 fun j => .d (.int (f j)))) := fun k => by
      by_cases hk : k < 4
      · obtain ⟨c, hc⟩ := f_cell_eq ns (k := at_ + k) (by omega)
        obtain ⟨f, h1, h2⟩ := f_dig_eq (m := 41) (sz := sz41) c (by decide) fun k hk => sz41_ok hk
        exact ⟨c, f, fun _ => ⟨hc, h1, h2⟩⟩
      · exact ⟨0, fun _ => 0, fun z => absurd z hk⟩
    exact ⟨fun k => (this k).choose, fun k => (this k).choose_spec.choose, fun k hk => (this k).choose_spec.choose_spec hk⟩
  have hRow : ∀ k, k < 4 → RowOk (F k) := fun k hk => row_of_dig (hF k hk).2.1
  have hD : D.lst (T.toDs (vec 4 fun k => T.l (vec 41 fun j => T.d (.int (F k j))))) = .lst (vec 4 fun k => .lst (vec 41 fun j => .int (F k j))) := by
    rw [toDs_vec]
    congr 1
  have hR : Rows (.lst (vec 4 fun k => .lst (vec 41 fun j => .int (F k j)))) F := fun k hk => lst_ix hk
  have hmul : D.lst (T.toDs (vec n fun k => T.d (.int (wt a c n h k)))) = .lst (vec n fun k => .int (wt a c n h k)) := by rw [toDs_vec]; rfl
  have p1 : ex G4 0 s4a [some (.sh (.frl (ns.map .int))), some (.sh (.int at_)), some (.sh (con kx [.int a, .int c])), some (.sh (con kh (vec n fun k => .int (h k)))), none, none, none, none, none, none, none] = some (.nx, [some (.sh (.frl (ns.map .int))), some (.sh (.int at_)), some (.sh (con kx [.int a, .int c])), some (.sh (con kh (vec n fun k => .int (h k)))), some (.ow (vec n fun k => .d (.int (wt a c n h k)))), none, none, none, none, none, none]) :=
    ex_set (ev_call (evs_cons (e := .var 2) rfl (evs_cons (e := .var 3) rfl evs_nil)) (k := 0) rfl (f_lw_eq kx kh (by omega) sa sc sp (by omega))) rfl
  have p2 : ex G4 0 s4b [some (.sh (.frl (ns.map .int))), some (.sh (.int at_)), some (.sh (con kx [.int a, .int c])), some (.sh (con kh (vec n fun k => .int (h k)))), some (.ow (vec n fun k => .d (.int (wt a c n h k)))), none, none, none, none, none, none] = some (.nx, [some (.sh (.frl (ns.map .int))), some (.sh (.int at_)), some (.sh (con kx [.int a, .int c])), some (.sh (con kh (vec n fun k => .int (h k)))), some (.ow (vec n fun k => .d (.int (wt a c n h k)))), some (.ow (vec 4 fun k => .l (vec 41 fun j => .d (.int (F k j))))), none, none, none, none, none]) := by
    refine ex_set (ev_map (n := 4) (h := fun k => .int k) (ds := [.int 4]) (ε1 := [some (.sh (.frl (ns.map .int))), some (.sh (.int at_)), some (.sh (con kx [.int a, .int c])), some (.sh (con kh (vec n fun k => .int (h k)))), some (.ow (vec n fun k => .d (.int (wt a c n h k)))), none, none, none, none, none, none]) (fun k => .l (vec 41 fun j => .d (.int (F k j)))) rfl (itD_rng1 (n := 4) (by decide)) rfl (by decide) (fun k hk => ?_) rfl) rfl
    obtain ⟨g1, _, g3⟩ := hF k hk
    refine ⟨[some (.sh (.frl (ns.map .int))), some (.sh (.int at_)), some (.sh (con kx [.int a, .int c])), some (.sh (con kh (vec n fun k => .int (h k)))), some (.ow (vec n fun k => .d (.int (wt a c n h k)))), none, none, none, none, none, some (.sh (.int k))], .fr (vec 41 fun j => .d (.int (F k j))), rfl, ?_, rfl, rfl, rfl⟩
    exact ev_call (evs_cons (ev_call (k := 4) (evs_cons (e := .var 0) rfl (evs_cons (ev_bin (a := .var 1) (b := .var 10) rfl rfl bin_add) evs_nil)) rfl g1) (evs_fr ev_sizes evs_nil)) (k := 2) rfl (by rw [toDs_vec]; exact g3)
  have p3 : ex G4 0 s4c [some (.sh (.frl (ns.map .int))), some (.sh (.int at_)), some (.sh (con kx [.int a, .int c])), some (.sh (con kh (vec n fun k => .int (h k)))), some (.ow (vec n fun k => .d (.int (wt a c n h k)))), some (.ow (vec 4 fun k => .l (vec 41 fun j => .d (.int (F k j))))), none, none, none, none, none] = some (.nx, [some (.sh (.frl (ns.map .int))), some (.sh (.int at_)), some (.sh (con kx [.int a, .int c])), some (.sh (con kh (vec n fun k => .int (h k)))), some (.ow (vec n fun k => .d (.int (wt a c n h k)))), some (.ow (vec 4 fun k => .l (vec 41 fun j => .d (.int (F k j))))), some (.sh (.int n)), none, none, none, none]) :=
    ex_set (ev_b1 (a := .var 3) rfl len_con) rfl
  obtain ⟨M1, b1, m1, m2, m3⟩ := f_rule_eq (mn := mn1) hn hn0 (hRow 2 (by decide)) hw (by decide) (by decide)
  have p4 : ex G4 0 s4d [some (.sh (.frl (ns.map .int))), some (.sh (.int at_)), some (.sh (con kx [.int a, .int c])), some (.sh (con kh (vec n fun k => .int (h k)))), some (.ow (vec n fun k => .d (.int (wt a c n h k)))), some (.ow (vec 4 fun k => .l (vec 41 fun j => .d (.int (F k j))))), some (.sh (.int n)), none, none, none, none] = some (.nx, e4 (.frl (ns.map .int)) (.int at_) (con kx [.int a, .int c]) (con kh (vec n fun k => .int (h k))) (.lst (vec n fun k => .int (wt a c n h k))) (.lst (vec 4 fun k => .lst (vec 41 fun j => .int (F k j)))) n (some (.ow (matT b1 n M1))) none none) := by
    have l := evs_fr (G := G4) (ε := e4 (.frl (ns.map .int)) (.int at_) (con kx [.int a, .int c]) (con kh (vec n fun k => .int (h k))) (.lst (vec n fun k => .int (wt a c n h k))) (.lst (vec 4 fun k => .lst (vec 41 fun j => .int (F k j)))) n none none none) (ev_lst (evs_con (k := [5, 5, 5, 5, 1, 0, 0, 0, 0, 0])) (by decide)) evs_nil
    rw [toDs_d] at l
    have w4 := evs_ow (G := G4) (e := .var 4) (j := 4) (ts := vec n fun k => T.d (.int (wt a c n h k))) (ε := [some (.sh (.frl (ns.map .int))), some (.sh (.int at_)), some (.sh (con kx [.int a, .int c])), some (.sh (con kh (vec n fun k => .int (h k)))), some (.ow (vec n fun k => .d (.int (wt a c n h k)))), some (.sh (.lst (vec 4 fun k => .lst (vec 41 fun j => .int (F k j))))), some (.sh (.int n)), none, none, none, none]) rfl rfl (by rw [hmul]; exact l)
    rw [hmul] at w4
    have args := evs_pt (G := G4) (j := 5) (π := [2]) (d := .lst (vec 41 fun j => .int (F 2 j))) (ts := vec 4 fun k => T.l (vec 41 fun j => T.d (.int (F k j)))) (ε := [some (.sh (.frl (ns.map .int))), some (.sh (.int at_)), some (.sh (con kx [.int a, .int c])), some (.sh (con kh (vec n fun k => .int (h k)))), some (.ow (vec n fun k => .d (.int (wt a c n h k)))), some (.ow (vec 4 fun k => .l (vec 41 fun j => .d (.int (F k j))))), some (.sh (.int n)), none, none, none, none])
      (ev_ixl (a := .var 5) (b := .con (.int 2)) (k := 2) rfl rfl rfl (vec_get (by decide))) rfl (by rw [hD]; exact dAt_one (vec_get (by decide))) (by rw [hD]; exact w4)
    exact ex_set (ev_call args (k := 1) rfl m3) rfl
  obtain ⟨b2, M2, g2, p5⟩ := st_B (S := .frl (ns.map .int)) (A := .int at_) (X := con kx [.int a, .int c]) (H := con kh (vec n fun k => .int (h k))) (Wd := .lst (vec n fun k => .int (wt a c n h k))) (b := b1) hR hn m1 (fun z => m2 (by rw [z]; decide))
  obtain ⟨b3, M3, q3, g3, p6⟩ := st_C (S := .frl (ns.map .int)) (A := .int at_) (H := .non) (Wd := .lst (vec n fun k => .int (wt a c n h k))) (kx := kx) (kh := kh) (b := b2) hR (hRow 2 (by decide)) hn hn0 hx hh g2
  obtain ⟨ts, M4, g4, g4d, p7⟩ := st_D (S := .frl (ns.map .int)) (A := .int at_) (X := con kx [.int a, .int c]) (H := con kh (vec n fun k => .int (h k))) (Wd := .lst (vec n fun k => .int (wt a c n h k))) (b := b3) (q := q3) hR hn g3
  obtain ⟨N, ε', g5, p8⟩ := st_F (S := .frl (ns.map .int)) (A := .int at_) (X := con kx [.int a, .int c]) (H := con kh (vec n fun k => .int (h k))) (q := q3) hR hRow hn hn0 hw g4 g4d
  exact ⟨N, g5, rF_eq (n := 0) (run_of rfl (exs_cons p1 (exs_cons p2 (exs_cons p3 (exs_cons p4 (exs_cons p5 (exs_cons p6 (exs_cons p7 p8))))))) rfl)⟩
end PyD
set_option Elab.async false
set_option linter.all false
set_option maxRecDepth 100000
set_option maxHeartbeats 4000000
/-! Pyk: frozen, a body, a warm body. -/
namespace PyD
open PySem L2
def b_frozen : List S := [.ifS (.or (.isi (.var 0) .list) (.isi (.var 0) .tuple)) [.ret (.b1 .tuple (.lc (.call 0 [(.var 1)]) (.one 1) .seq [(.var 0)] [] [1]))] [], .ret (.var 0)]
theorem r_frozen_int (self : Fn) (i : Int) : run [self] 0 1 b_frozen [.int i] = some (.sh (.int i)) := by simp [run, exs, ex, ev, evs, evT, gt, st, put, putR, kill, unal, frz, peek, peekH, asT, flatT, flatT_d, toDs_d, waits, calm, calms, cmpD, binD, negD, notD, isD, isiD, b2D, b1D, B1.deep, callD, fin, lenOk, sizeLine_eq, asg, asgs, itD, items, plainW, wipeE, back, locate, listAt, T.get, T.put, T.toD, T.toDs, dAt, isData, ixR, ixD, eqD_int, atI_nat, b_frozen]
noncomputable def f_frozen0 : Fn := rF [fun _ => none] 1 1 b_frozen
noncomputable def f_frozen : Fn := rF [f_frozen0] 1 1 b_frozen
theorem r_frozen_seq (k : Bool) {n : Nat} (hn : n ≤ 1000000) (w : Nat → Int) : run [f_frozen0] 0 1 b_frozen [con k (vec n fun i => .int (w i))] = some (.sh (.tup (vec n fun i => .int (w i)))) := by
  have c : ev [f_frozen0] (.or (.isi (.var 0) .list) (.isi (.var 0) .tuple)) [some (.sh (con k (vec n fun i => .int (w i)))), none] = some (.sh (.bl true), [some (.sh (con k (vec n fun i => .int (w i)))), none]) := by
    cases k with
    | false => exact ev_orT (ev_isi (d := .lst (vec n fun i => .int (w i))) rfl rfl)
    | true => exact ev_orF (ev_isi (d := .tup (vec n fun i => .int (w i))) rfl rfl) (ev_isi (d := .tup (vec n fun i => .int (w i))) rfl rfl)
  refine run_of rfl (exs_ret (ex_ifT c (exs_ret (ex_ret (ev_b1f (ev_map (n := n) (h := fun i => .int (w i)) (ds := [con k (vec n fun i => .int (w i))]) (ε1 := [some (.sh (con k (vec n fun i => .int (w i)))), none]) (fun i => .d (.int (w i))) rfl itD_con rfl (by omega) (fun i hi => ⟨[some (.sh (con k (vec n fun i => .int (w i)))), some (.sh (.int (w i)))], .sh (.int (w i)), rfl, ev_call (evs_cons (e := .var 1) rfl evs_nil) rfl (rF_eq (r_frozen_int _ (w i))), rfl, rfl, rfl⟩) rfl) flatT_vec rfl))))) rfl
theorem r_frozen_nil : run [f_frozen0] 0 1 b_frozen [.ktp []] = some (.sh (.tup [])) := by
  have c : ev [f_frozen0] (.or (.isi (.var 0) .list) (.isi (.var 0) .tuple)) [some (.sh (.ktp [])), none] = some (.sh (.bl true), [some (.sh (.ktp [])), none]) := ev_orF (ev_isi (d := .ktp []) rfl rfl) (ev_isi (d := .ktp []) rfl rfl)
  exact run_of rfl (exs_ret (ex_ifT c (exs_ret (ex_ret (ev_b1f (ev_map (n := 0) (h := fun _ => .non) (ds := [.ktp []]) (ε1 := [some (.sh (.ktp [])), none]) (fun _ => .d .non) rfl rfl rfl (by omega) (fun i hi => absurd hi (by omega)) rfl) flatT_vec rfl))))) rfl
theorem f_frozen_seq (k : Bool) {n : Nat} (hn : n ≤ 1000000) (w : Nat → Int) : f_frozen [con k (vec n fun i => .int (w i))] = some (.sh (.tup (vec n fun i => .int (w i)))) := rF_eq (r_frozen_seq k hn w)
theorem f_frozen_nil : f_frozen [.ktp []] = some (.sh (.tup [])) := rF_eq r_frozen_nil
/-! ### the common divisor of a row -/
def gd (l : List Int) (a : Nat) : Nat := l.foldl (fun a b => Nat.gcd a b.natAbs) a
theorem gd_dvd : ∀ (l : List Int) (a : Nat), gd l a ∣ a ∧ ∀ i ∈ l, gd l a ∣ i.natAbs
  | [], a => ⟨Nat.dvd_refl a, fun i h => by cases h⟩
  | j :: l, a => by
    obtain ⟨h1, h2⟩ := gd_dvd l (Nat.gcd a j.natAbs)
    refine ⟨Nat.dvd_trans h1 (Nat.gcd_dvd_left _ _), fun i hi => ?_⟩
    rcases List.mem_cons.mp hi with rfl | z
    · exact Nat.dvd_trans h1 (Nat.gcd_dvd_right _ _)
    · exact h2 i z
theorem gd_loop {G : List Fn} {x : Addr} {Hd Wd Ld : D} {z4 : Option W} : ∀ (l : List Int) (a : Nat) (z : Option W), Sl z → ∃ z', Sl z' ∧ forF (exs G 0 [.set 5 (.b2 .gcd (.var 5) (.var 6))]) (.one 6) (l.map .int) [some (.sh (.adr x)), some (.sh Hd), some (.sh Wd), some (.sh Ld), z4, some (.sh (.int a)), z] = some (.nx, [some (.sh (.adr x)), some (.sh Hd), some (.sh Wd), some (.sh Ld), z4, some (.sh (.int (gd l a))), z'])
  | [], a, z, hz => ⟨z, hz, rfl⟩
  | j :: l, a, z, hz => by
    obtain ⟨z', h1, h2⟩ := gd_loop (G := G) (x := x) (Hd := Hd) (Wd := Wd) (Ld := Ld) (z4 := z4) l (Nat.gcd a j.natAbs) (some (.sh (.int j))) (.inr ⟨_, rfl⟩)
    refine ⟨z', h1, ?_⟩
    have e1 : asg (.one 6) (.int j) [some (.sh (.adr x)), some (.sh Hd), some (.sh Wd), some (.sh Ld), z4, some (.sh (.int a)), z] = some [some (.sh (.adr x)), some (.sh Hd), some (.sh Wd), some (.sh Ld), z4, some (.sh (.int a)), some (.sh (.int j))] := by
      rcases hz with rfl | ⟨d, rfl⟩ <;> rfl
    have e2 : exs G 0 [.set 5 (.b2 .gcd (.var 5) (.var 6))] [some (.sh (.adr x)), some (.sh Hd), some (.sh Wd), some (.sh Ld), z4, some (.sh (.int a)), some (.sh (.int j))] = some (.nx, [some (.sh (.adr x)), some (.sh Hd), some (.sh Wd), some (.sh Ld), z4, some (.sh (.int (Nat.gcd a j.natAbs : Nat))), some (.sh (.int j))]) :=
      exs_cons (ex_set (ev_b2 (a := .var 5) (b := .var 6) (d1 := .int a) (d2 := .int j) rfl rfl rfl) rfl) exs_nil
    simp only [List.map_cons, forF, e1, e2]
    exact h2
/-! ### a body -/
def b_init : List I := [.s (.set 1 (.call 0 [(.var 1)])), .s (.set 2 (.call 0 [(.var 2)])), .s (.set 3 (.call 0 [(.var 3)])), .s (.ifS (.cmp .eq (.b1 .len (.var 1)) (.con (.int 0))) [.bad] []), .s (.ifS (.or (.cmp .ne (.b1 .len (.var 2)) (.b1 .len (.var 1))) (.or (.cmp .lt (.b1 .minL (.var 2)) (.con (.int 0))) (.cmp .eq (.b1 .sum (.var 2)) (.con (.int 0))))) [.bad] []), .s (.forS (.one 4) .seq [(.var 3)] [.ifS (.cmp .ne (.b1 .len (.var 4)) (.b1 .len (.var 1))) [.bad] []]), .s (.set 5 (.con (.int 0))), .s (.forS (.one 6) .seq [(.var 2)] [.set 5 (.b2 .gcd (.var 5) (.var 6))]),
  .f "heights" (.var 1), .f "weights" (.b1 .tuple (.lc (.bin .fdiv (.var 6) (.var 5)) (.one 6) .seq [(.var 2)] [] [6])), .f "loads" (.var 3), .f "size" (.b1 .len (.var 1)), .f "total" (.bin .fdiv (.b1 .sum (.var 2)) (.var 5))]
def bodyF (n : Nat) (h w : Nat → Int) : List (Str × D) := [("heights", .tup (vec n fun k => .int (h k))), ("weights", .tup (vec n fun k => .int ((w k).fdiv (gd (vec n w) 0 : Nat)))), ("loads", .tup []), ("size", .int n), ("total", .int ((vec n w).sum.fdiv (gd (vec n w) 0 : Nat)))]
theorem r_init {n e : Nat} {h w : Nat → Int} (kh kw : Bool) (hn0 : 0 < n) (hn : n ≤ 1000) (hw : ∀ k, k < n → 0 < w k ∧ Sm e (w k)) (he : e < 9000) (x : Addr) :
    exI [f_frozen] 0 x b_init (some (.sh (.adr x)) :: (([con kh (vec n fun k => .int (h k)), con kw (vec n fun k => .int (w k)), .ktp []] : List D).map (fun d => some (.sh d)) ++ List.replicate 3 none)) [] = some (bodyF n h w) := by
  let TH : D := .tup (vec n fun k => .int (h k))
  let TW : D := .tup (vec n fun k => .int (w k))
  let ε (w5 z6 : Option W) : Env := [some (.sh (.adr x)), some (.sh TH), some (.sh TW), some (.sh (.tup [])), none, w5, z6]
  have hlo : 0 < lo n w := by
    obtain ⟨_, ⟨k, l1, l2⟩, _⟩ := lo_is (h := w) hn0
    rw [← l2]
    exact (hw k l1).1
  have hsum : 0 < (vec n w).sum := sum_pos hn0 fun k hk => (hw k hk).1
  have gdv := gd_dvd (vec n w) 0
  have g0 : gd (vec n w) 0 ∣ (w 0).natAbs := gdv.2 _ (vec_mem.mpr ⟨0, hn0, rfl⟩)
  have gpos : 0 < gd (vec n w) 0 := Nat.pos_of_dvd_of_pos g0 (by have := (hw 0 hn0).1; omega)
  have gsm : Sm e ((gd (vec n w) 0 : Nat) : Int) := (hw 0 hn0).2.le (by
    have := Nat.le_of_dvd (by have := (hw 0 hn0).1; omega) g0
    simpa using this)
  have gne : ((gd (vec n w) 0 : Nat) : Int) ≠ 0 := by omega
  obtain ⟨z6, hz6, p8⟩ := gd_loop (G := [f_frozen]) (x := x) (Hd := TH) (Wd := TW) (Ld := .tup []) (z4 := none) (vec n w) 0 none (.inl rfl)
  have lenH : b1D .len TH = some (.sh (.int n)) := len_con (k := true)
  have lenW : b1D .len TW = some (.sh (.int n)) := len_con (k := true)
  have minW : b1D .minL TW = some (.sh (.int (lo n w))) := b1_min (k := true) hn0
  have sumW : b1D .sum TW = some (.sh (.int (vec n w).sum)) := b1_sum (k := true)
  have wm : (vec n w).map D.int = vec n fun k => .int (w k) := vec_map _
  have p1 : ex [f_frozen] 0 (.set 1 (.call 0 [(.var 1)])) [some (.sh (.adr x)), some (.sh (con kh (vec n fun k => .int (h k)))), some (.sh (con kw (vec n fun k => .int (w k)))), some (.sh (.ktp [])), none, none, none] = some (.nx, [some (.sh (.adr x)), some (.sh TH), some (.sh (con kw (vec n fun k => .int (w k)))), some (.sh (.ktp [])), none, none, none]) :=
    ex_set (ev_call (evs_cons (e := .var 1) rfl evs_nil) rfl (f_frozen_seq kh (by omega) h)) rfl
  have p2 : ex [f_frozen] 0 (.set 2 (.call 0 [(.var 2)])) [some (.sh (.adr x)), some (.sh TH), some (.sh (con kw (vec n fun k => .int (w k)))), some (.sh (.ktp [])), none, none, none] = some (.nx, [some (.sh (.adr x)), some (.sh TH), some (.sh TW), some (.sh (.ktp [])), none, none, none]) :=
    ex_set (ev_call (evs_cons (e := .var 2) rfl evs_nil) rfl (f_frozen_seq kw (by omega) w)) rfl
  have p3 : ex [f_frozen] 0 (.set 3 (.call 0 [(.var 3)])) [some (.sh (.adr x)), some (.sh TH), some (.sh TW), some (.sh (.ktp [])), none, none, none] = some (.nx, ε none none) :=
    ex_set (ev_call (evs_cons (e := .var 3) rfl evs_nil) rfl f_frozen_nil) rfl
  have p4 : ex [f_frozen] 0 (.ifS (.cmp .eq (.b1 .len (.var 1)) (.con (.int 0))) [.bad] []) (ε none none) = some (.nx, ε none none) := by
    refine ex_ifF (ev_cmp (d1 := .int n) (d2 := .int 0) (ev_b1 (a := .var 1) rfl lenH) rfl (cmpD_eq ((eqD_int _ _).trans ?_))) exs_nil
    rw [decide_eq_false (by omega)]
  have p5 : ex [f_frozen] 0 (.ifS (.or (.cmp .ne (.b1 .len (.var 2)) (.b1 .len (.var 1))) (.or (.cmp .lt (.b1 .minL (.var 2)) (.con (.int 0))) (.cmp .eq (.b1 .sum (.var 2)) (.con (.int 0))))) [.bad] []) (ε none none) = some (.nx, ε none none) := by
    refine ex_ifF (ev_orF (ev_cmp (t := false) (d1 := .int n) (d2 := .int n) (ev_b1 (a := .var 2) rfl lenW) (ev_b1 (a := .var 1) rfl lenH) ((cmpD_ne (eqD_int _ _)).trans ?_)) (ev_orF (ev_cmp (t := false) (d1 := .int (lo n w)) (d2 := .int 0) (ev_b1 (a := .var 2) rfl minW) rfl ?_) (ev_cmp (t := false) (d1 := .int (vec n w).sum) (d2 := .int 0) (ev_b1 (a := .var 2) rfl sumW) rfl ((cmpD_eq (eqD_int _ _)).trans ?_)))) exs_nil
    · rw [decide_eq_true rfl]; rfl
    · show some (decide (lo n w < 0)) = some false
      rw [decide_eq_false (by omega)]
    · rw [decide_eq_false (by omega)]
  have p6 : ex [f_frozen] 0 (.forS (.one 4) .seq [(.var 3)] [.ifS (.cmp .ne (.b1 .len (.var 4)) (.b1 .len (.var 1))) [.bad] []]) (ε none none) = some (.nx, ε none none) := ex_for (its := []) (evs_cons (e := .var 3) rfl evs_nil) rfl rfl
  have p7 : ex [f_frozen] 0 (.set 5 (.con (.int 0))) (ε none none) = some (.nx, ε (some (.sh (.int 0))) none) := ex_set (x := .sh (.int 0)) rfl rfl
  have p8' : ex [f_frozen] 0 (.forS (.one 6) .seq [(.var 2)] [.set 5 (.b2 .gcd (.var 5) (.var 6))]) (ε (some (.sh (.int 0))) none) = some (.nx, ε (some (.sh (.int (gd (vec n w) 0 : Nat)))) z6) := ex_for (its := (vec n w).map .int) (evs_cons (e := .var 2) rfl evs_nil) (by rw [wm]; rfl) p8
  have q : ev [f_frozen] (.b1 .tuple (.lc (.bin .fdiv (.var 6) (.var 5)) (.one 6) .seq [(.var 2)] [] [6])) (ε (some (.sh (.int (gd (vec n w) 0 : Nat)))) z6) = some (.sh (.tup (vec n fun k => .int ((w k).fdiv (gd (vec n w) 0 : Nat)))), ε (some (.sh (.int (gd (vec n w) 0 : Nat)))) z6) := by
    refine ev_b1f (ev_map (n := n) (h := fun k => .int (w k)) (ds := [TW]) (ε1 := ε (some (.sh (.int (gd (vec n w) 0 : Nat)))) z6) (fun k => .d (.int ((w k).fdiv (gd (vec n w) 0 : Nat)))) (evs_cons (e := .var 2) rfl evs_nil) rfl ?_ (by omega) (fun k hk => ⟨ε (some (.sh (.int (gd (vec n w) 0 : Nat)))) (some (.sh (.int (w k)))), _, ?_, ev_bin (a := .var 6) (b := .var 5) rfl rfl (bin_div gne gsm he), rfl, rfl, ?_⟩) ?_) flatT_vec rfl
    · rcases hz6 with rfl | ⟨d, rfl⟩ <;> rfl
    · rcases hz6 with rfl | ⟨d, rfl⟩ <;> rfl
    · rcases hz6 with rfl | ⟨d, rfl⟩ <;> rfl
    · rcases hz6 with rfl | ⟨d, rfl⟩ <;> rfl
  refine exI_s p1 (exI_s p2 (exI_s p3 (exI_s p4 (exI_s p5 (exI_s p6 (exI_s p7 (exI_s p8' ?_)))))))
  refine exI_f (v := .sh TH) (d := TH) (ε1 := ε (some (.sh (.int (gd (vec n w) 0 : Nat)))) z6) (ε2 := ε (some (.sh (.int (gd (vec n w) 0 : Nat)))) z6) rfl rfl rfl (by show (0 : Nat) < 1000; decide) ?_
  refine exI_f q rfl rfl (by show (1 : Nat) < 1000; decide) ?_
  refine exI_f (v := .sh (.tup [])) (d := .tup []) (ε1 := ε (some (.sh (.int (gd (vec n w) 0 : Nat)))) z6) (ε2 := ε (some (.sh (.int (gd (vec n w) 0 : Nat)))) z6) rfl rfl rfl (by show (2 : Nat) < 1000; decide) ?_
  refine exI_f (ev_b1 (a := .var 1) rfl lenH) rfl rfl (by show (3 : Nat) < 1000; decide) ?_
  refine exI_f (ev_bin (ev_b1 (a := .var 2) rfl sumW) (b := .var 5) rfl (bin_div gne gsm he)) rfl rfl (by show (4 : Nat) < 1000; decide) ?_
  exact exI_nil
noncomputable def f_init : Fn := rI [f_frozen] 4 3 0 b_init
noncomputable def f_body : Fn := fun ds => f_init (ds ++ [.ktp []])
theorem f_body_eq {n e : Nat} {h w : Nat → Int} (kh kw : Bool) (hn0 : 0 < n) (hn : n ≤ 1000) (hw : ∀ k, k < n → 0 < w k ∧ Sm e (w k)) (he : e < 9000) : f_body [con kh (vec n fun k => .int (h k)), con kw (vec n fun k => .int (w k))] = some (.sh (.ins 0 (bodyF n h w))) :=
  rI_eq (n := 0) (ds := [con kh (vec n fun k => .int (h k)), con kw (vec n fun k => .int (w k)), .ktp []]) (r_init kh kw hn0 hn hw he)
/-! ### a warm body -/
def b_wb : List S := [.ret (.call 0 [(.var 1), (.call 1 [(.var 0), (.var 1), (.var 2)])])]
noncomputable def f_wb : Fn := rF [f_body, f_ww] 3 0 b_wb
theorem f_wb_eq {a b : Int} {n c m : Nat} {h : Nat → Int} (kx kh : Bool) (w : Wm a b n h c m) (hn0 : 0 < n) : f_wb [con kx [.int a, .int b], con kh (vec n fun k => .int (h k)), .int 1] = some (.sh (.ins 0 (bodyF n h (wt a b n h)))) :=
  rF_eq (n := 0) (run_of rfl (exs_ret (ex_ret (ev_call (evs_cons (e := .var 1) rfl (evs_cons (ev_call (evs_cons (e := .var 0) rfl (evs_cons (e := .var 1) rfl (evs_cons (e := .var 2) rfl evs_nil))) rfl (f_ww_eq kx kh (by have := w.hn; omega) w.ha w.hb w.hs (by have := w.cm; omega))) evs_nil)) rfl (f_body_eq (e := c * m + 2) kh true hn0 w.hn (fun k hk => ⟨w.pos k hk, wt_sm w.ha w.hb w.hs hk⟩) (by have := w.cm; omega))))) rfl)
/-- weights without a common divisor stay -/
theorem gd_one {a b : Int} {n : Nat} {h : Nat → Int} (hn0 : 0 < n) (hc : Nat.gcd a.natAbs b.natAbs = 1) : gd (vec n (wt a b n h)) 0 = 1 := by
  obtain ⟨_, d⟩ := gd_dvd (vec n (wt a b n h)) 0
  obtain ⟨_, ⟨k1, l1, l2⟩, l3⟩ := lo_is (h := h) hn0
  obtain ⟨_, ⟨k2, u1, u2⟩, u3⟩ := hi_is (h := h) hn0
  have d1 := d _ (vec_mem.mpr ⟨k1, l1, rfl⟩)
  have d2 := d _ (vec_mem.mpr ⟨k2, u1, rfl⟩)
  have e1 : wt a b n h k1 = b ^ (hi n h - lo n h).toNat := by
    unfold wt
    rw [l2, Int.sub_self]
    simp
  have e2 : wt a b n h k2 = a ^ (hi n h - lo n h).toNat := by
    unfold wt
    rw [u2, Int.sub_self]
    simp
  rw [e1] at d1
  rw [e2] at d2
  have := cop_pow hc (hi n h - lo n h).toNat (hi n h - lo n h).toNat
  exact Nat.dvd_one.mp (this ▸ Nat.dvd_gcd d2 d1)
theorem bodyF_weights {a b : Int} {n : Nat} {h : Nat → Int} (hn0 : 0 < n) (hc : Nat.gcd a.natAbs b.natAbs = 1) : (bodyF n h (wt a b n h)).lookup ("weights" : Str) = some (D.tup (vec n fun k => .int (wt a b n h k))) := by
  have : (bodyF n h (wt a b n h)).lookup ("weights" : Str) = some (D.tup (vec n fun k => .int ((wt a b n h k).fdiv (gd (vec n (wt a b n h)) 0 : Nat)))) := rfl
  rw [this, gd_one hn0 hc]
  congr 2
  exact vec_congr fun k _ => by simp
end PyD
set_option Elab.async false
set_option linter.all false
set_option maxRecDepth 100000
set_option maxHeartbeats 4000000
/-! Pyl: what the law asks of one rule. -/
namespace PyD
open PySem L2
noncomputable abbrev G5 : List Fn := [f_lw, f_lists, f_same, f_ow, f_leaves, f_keeps, f_wb]
def b_asked : List S := [.set 4 (.call 0 [(.var 0), (.var 1)]), .set 5 (.call 1 [(.var 2)]), .set 6 (.b1 .list (.var 1)), .ifS (.or (.not (.call 2 [(.call 4 [(.var 0), (.var 6), (.var 5)]), (.ix (.var 3) (.con (.int 0)))])) (.not (.call 2 [(.call 3 [(.var 0), (.var 6), (.var 5)]), (.ix (.var 3) (.con (.int 1)))]))) [.ret (.con (.bl false))] [], .ifS (.or (.not (.call 2 [(.call 5 [(.var 5), (.var 4)]), (.ix (.var 3) (.con (.int 0)))])) (.not (.call 2 [(.fld (.call 6 [(.var 0), (.var 6), (.con (.int 1))]) "weights" [0]), (.call 0 [(.var 0), (.var 1)])]))) [.ret (.con (.bl false))] [], .ifS (.or (.cmp .ne (.var 5) (.call 1 [(.var 2)])) (.or (.cmp .ne (.var 6) (.b1 .list (.var 1))) (.cmp .ne (.var 4) (.call 0 [(.var 0), (.var 1)])))) [.ret (.con (.bl false))] [], .set 7 (.b1 .tuple (.lc (.b1 .tuple (.var 8)) (.one 8) .seq [(.var 2)] [] [8])), .ret (.and (.call 2 [(.call 3 [(.b1 .list (.var 0)), (.b1 .tuple (.var 1)), (.var 7)]), (.ix (.var 3) (.con (.int 1)))]) (.call 2 [(.call 4 [(.b1 .list (.var 0)), (.b1 .tuple (.var 1)), (.var 7)]), (.ix (.var 3) (.con (.int 0)))]))]
theorem nice_rdk {k : Bool} {q : Rat} : Nice 1 (rdk k q) := by
  cases k
  · exact nice_con (k := false) (n := 0) fun d m => by
      simp only [List.mem_cons, List.mem_nil_iff, or_false] at m
      rcases m with rfl | rfl <;> exact .int
  · exact nice_rd
theorem nice_mat {k2 k3 k4 : Bool} {n : Nat} {M : Nat → Nat → Rat} : Nice 3 (mat k2 k3 k4 n M) := nice_vec fun s _ => nice_vec fun g _ => nice_rdk
theorem nice_ints {k : Bool} {n : Nat} {f : Nat → Int} : Nice 1 (con k (vec n fun i => .int (f i))) := nice_vec fun i _ => .int
theorem ne_self {n : Nat} {d : D} (h : Nice n d) (hn : n ≤ 60 := by decide) : cmpD .ne d d = some false := by
  have := cmpD_ne (eqD_nice' h h hn hn)
  rw [bOf_true rfl] at this
  exact this
theorem ev_fld {G : List Fn} {ε ε1 : Env} {a : E} {f : Str} {cs : List Nat} {c : Nat} {fs : List (Str × D)} {d : D} (h : ev G a ε = some (.sh (.ins c fs), ε1)) (hc : c ∈ cs) (hf : fs.lookup f = some d) : ev G (.fld a f cs) ε = some (.sh d, ε1) := by
  simp only [ev, h]
  rw [if_pos hc, hf]
  rfl
/-- a rule, its table, what is due -/
structure Due (a c : Int) (n : Nat) (h : Nat → Int) (M : Nat → Nat → Rat) (b : Bool) (p : D) : Prop where
  x : Xok a c
  n0 : 0 < n
  n6 : n ≤ 6
  hh : ∀ k, k < n → -50 ≤ h k ∧ h k ≤ 50
  bm : ∀ s g, s < n → g < n → Bd 920 (M s g)
  eb : b = bOf (∀ g, g < n → after n (shr n (wt a c n h)) M g = shr n (wt a c n h) g)
  ep : PairIs n (fun s t => bOf (¬ shr n (wt a c n h) s * M s t = shr n (wt a c n h) t * M t s)) p
section
variable {a c : Int} {n : Nat} {h : Nat → Int} {M : Nat → Nat → Rat} {b : Bool} {p : D}
theorem Due.sp (d : Due a c n h M b p) : Span n h 100 := span_of d.n0 (by omega) fun k hk => by
    have := d.hh k hk
    omega
theorem xok_sm {a c : Int} (hx : Xok a c) : Sm 5 a ∧ Sm 5 c := ⟨Sm.of_range (k := 32) (by have := hx.pos; omega) (by have := hx.lt; have := hx.le; omega) (by decide), Sm.of_range (k := 32) (by have := hx.pos; have := hx.lt; omega) (by have := hx.le; omega) (by decide)⟩
theorem Due.wm (d : Due a c n h M b p) : Wm a c n h 5 100 := ⟨by have := d.n6; omega, (xok_sm d.x).1, (xok_sm d.x).2, d.sp, by decide, fun k hk => (wt_20 d.x d.sp (by omega) hk).2⟩
theorem Due.leaves (d : Due a c n h M b p) (kx kh k2 k3 k4 : Bool) : f_leaves [con kx [.int a, .int c], con kh (vec n fun k => .int (h k)), mat k2 k3 k4 n M] = some (.sh (.bl b)) := by
  have := d.n6
  rw [d.eb]
  refine f_leaves_eq kx kh k2 k3 k4 d.wm d.bm ?_ (by omega)
  have : (5 * 100 + 2 + n + 920 + 1) * n ≤ (5 * 100 + 2 + 6 + 920 + 1) * 6 := Nat.mul_le_mul (by omega) d.n6
  omega
theorem Due.ow (d : Due a c n h M b p) (kx kh k2 k3 k4 : Bool) : f_ow [con kx [.int a, .int c], con kh (vec n fun k => .int (h k)), mat k2 k3 k4 n M] = some (.sh p) := by
  have := d.n6
  obtain ⟨q, g1, g2⟩ := f_ow_eq kx kh k2 k3 k4 d.wm d.bm (by omega)
  rw [g2, g1.uniq d.ep]
theorem Due.lw (d : Due a c n h M b p) (kx kh : Bool) : f_lw [con kx [.int a, .int c], con kh (vec n fun k => .int (h k))] = some (.fr (vec n fun k => .d (.int (wt a c n h k)))) := f_lw_eq kx kh (by have := d.n6; omega) (xok_sm d.x).1 (xok_sm d.x).2 d.sp (by omega)
theorem Due.keeps (d : Due a c n h M b p) (k k2 k3 k4 : Bool) : f_keeps [mat k2 k3 k4 n M, con k (vec n fun s => .int (wt a c n h s))] = some (.sh (.bl b)) := by
  have := d.n6
  have pos : 0 < (vec n (wt a c n h)).sum := sum_pos d.n0 fun k hk => (wt_20 d.x d.sp (by omega) hk).2
  rw [d.eb]
  refine f_keeps_eq (a := 443) k k2 k3 k4 (by omega) (by omega) (fun s hs => (wt_20 d.x d.sp (by omega) hs).1.mono (by omega)) ((sum_sm fun s hs => (wt_20 d.x d.sp (by omega) hs).1).mono (by omega)) d.bm ?_ (by omega)
  have : (443 + 920 + 1) * n ≤ (443 + 920 + 1) * 6 := Nat.mul_le_mul_left _ d.n6
  omega
theorem Due.wb (d : Due a c n h M b p) (kx kh : Bool) : f_wb [con kx [.int a, .int c], con kh (vec n fun k => .int (h k)), .int 1] = some (.sh (.ins 0 (bodyF n h (wt a c n h)))) := f_wb_eq kx kh d.wm d.n0
abbrev askE (a c : Int) (n : Nat) (h : Nat → Int) (M : Nat → Nat → Rat) (b : Bool) (p : D) (w4 w5 w6 w7 : Option W) : Env := [some (.sh (con true [.int a, .int c])), some (.sh (con false (vec n fun k => .int (h k)))), some (.sh (mat false false true n M)), some (.sh (.lst [.bl b, p])), w4, w5, w6, w7, none]
theorem r_asked (d : Due a c n h M b p) : run G5 0 5 b_asked [con true [.int a, .int c], con false (vec n fun k => .int (h k)), mat false false true n M, .lst [.bl b, p]] = some (.sh (.bl true)) := by
  have n6 := d.n6
  let w := wt a c n h
  let W4 : D := con false (vec n fun k => .int (w k))
  let W5 : D := mat false false false n M
  let W6 : D := con false (vec n fun k => .int (h k))
  let ts4 : List T := vec n fun k => .d (.int (w k))
  let ts5 : List T := vec n fun s => .l (vec n fun g => .l [.d (.int (M s g).num), .d (.int (M s g).den)])
  let ts6 : List T := vec n fun k => .d (.int (h k))
  have d4 : D.lst (T.toDs ts4) = W4 := by show D.lst (T.toDs (vec n fun k => T.d (.int (w k)))) = _; rw [toDs_vec]; rfl
  have d5 : D.lst (T.toDs ts5) = W5 := lists_data
  have d6 : D.lst (T.toDs ts6) = W6 := by show D.lst (T.toDs (vec n fun k => T.d (.int (h k)))) = _; rw [toDs_vec]; rfl
  have l6 : ∀ {w4 w5 w6 w7}, ev G5 (.b1 .list (.var 1)) (askE a c n h M b p w4 w5 w6 w7) = some (.fr ts6, askE a c n h M b p w4 w5 w6 w7) := fun {w4 w5 w6 w7} => ev_b1 (a := .var 1) (d := W6) rfl (by
    show (items W6).map (fun ds => R.fr (ds.map .d)) = _
    rw [show items W6 = some (vec n fun k => .int (h k)) from items_con]
    show some (R.fr ((vec n fun k => D.int (h k)).map .d)) = _
    rw [vec_map])
  have q1 : ex G5 0 (.set 4 (.call 0 [(.var 0), (.var 1)])) (askE a c n h M b p none none none none) = some (.nx, askE a c n h M b p (some (.ow ts4)) none none none) := ex_set (ev_call (evs_cons (e := .var 0) rfl (evs_cons (e := .var 1) rfl evs_nil)) rfl (d.lw true false)) rfl
  have q2 : ex G5 0 (.set 5 (.call 1 [(.var 2)])) (askE a c n h M b p (some (.ow ts4)) none none none) = some (.nx, askE a c n h M b p (some (.ow ts4)) (some (.ow ts5)) none none) := ex_set (ev_call (evs_cons (e := .var 2) rfl evs_nil) rfl (f_lists_mat false false true (by omega) M)) rfl
  have q3 : ex G5 0 (.set 6 (.b1 .list (.var 1))) (askE a c n h M b p (some (.ow ts4)) (some (.ow ts5)) none none) = some (.nx, askE a c n h M b p (some (.ow ts4)) (some (.ow ts5)) (some (.ow ts6)) none) := ex_set l6 rfl
  have due0 : ∀ {w4 w5 w6 w7}, ev G5 (.ix (.var 3) (.con (.int 0))) (askE a c n h M b p w4 w5 w6 w7) = some (.sh (.bl b), askE a c n h M b p w4 w5 w6 w7) := fun {w4 w5 w6 w7} => ev_ix (a := .var 3) (d := .lst [.bl b, p]) (i := 0) rfl rfl rfl
  have due1 : ∀ {w4 w5 w6 w7}, ev G5 (.ix (.var 3) (.con (.int 1))) (askE a c n h M b p w4 w5 w6 w7) = some (.sh p, askE a c n h M b p w4 w5 w6 w7) := fun {w4 w5 w6 w7} => ev_ix (a := .var 3) (d := .lst [.bl b, p]) (i := 1) rfl rfl rfl
  have a5 : evs G5 [(.var 5)] (askE a c n h M b p (some (.ow ts4)) (some (.ow ts5)) (some (.sh W6)) none) = some ([W5], askE a c n h M b p (some (.ow ts4)) (some (.sh W5)) (some (.sh W6)) none) := by
    have := evs_ow (G := G5) (e := .var 5) (j := 5) (ts := ts5) (ε := askE a c n h M b p (some (.ow ts4)) (some (.ow ts5)) (some (.sh W6)) none) rfl rfl evs_nil
    rw [d5] at this
    exact this
  have a6 : evs G5 [(.var 6), (.var 5)] (askE a c n h M b p (some (.ow ts4)) (some (.ow ts5)) (some (.ow ts6)) none) = some ([W6, W5], askE a c n h M b p (some (.ow ts4)) (some (.sh W5)) (some (.sh W6)) none) := by
    have := evs_ow (G := G5) (e := .var 6) (j := 6) (ts := ts6) (es := [(.var 5)]) (ε := askE a c n h M b p (some (.ow ts4)) (some (.ow ts5)) (some (.ow ts6)) none) rfl rfl (by rw [d6]; exact a5)
    rw [d6] at this
    exact this
  have c1 : ev G5 (.call 2 [(.call 4 [(.var 0), (.var 6), (.var 5)]), (.ix (.var 3) (.con (.int 0)))]) (askE a c n h M b p (some (.ow ts4)) (some (.ow ts5)) (some (.ow ts6)) none) = some (.sh (.bl true), askE a c n h M b p (some (.ow ts4)) (some (.sh W5)) (some (.sh W6)) none) :=
    ev_call (evs_cons (ev_call (evs_cons (e := .var 0) rfl a6) (k := 4) rfl (d.leaves true false false false false)) (evs_cons due0 evs_nil)) (k := 2) rfl (f_same_bl b)
  have c2 : ev G5 (.call 2 [(.call 3 [(.var 0), (.var 6), (.var 5)]), (.ix (.var 3) (.con (.int 1)))]) (askE a c n h M b p (some (.ow ts4)) (some (.sh W5)) (some (.sh W6)) none) = some (.sh (.bl true), askE a c n h M b p (some (.ow ts4)) (some (.sh W5)) (some (.sh W6)) none) :=
    ev_call (evs_cons (ev_call (evs_cons (e := .var 0) rfl (evs_cons (e := .var 6) rfl (evs_cons (e := .var 5) rfl evs_nil))) (k := 3) rfl (d.ow true false false false false)) (evs_cons due1 evs_nil)) (k := 2) rfl (f_same_pair d.ep)
  have q4 := ex_ifF (n := 0) (a := [.ret (.con (.bl false))]) (ev_orF (ev_not c1) (ev_not c2)) exs_nil
  have a4 : evs G5 [(.var 4)] (askE a c n h M b p (some (.ow ts4)) (some (.sh W5)) (some (.sh W6)) none) = some ([W4], askE a c n h M b p (some (.sh W4)) (some (.sh W5)) (some (.sh W6)) none) := by
    have := evs_ow (G := G5) (e := .var 4) (j := 4) (ts := ts4) (ε := askE a c n h M b p (some (.ow ts4)) (some (.sh W5)) (some (.sh W6)) none) rfl rfl evs_nil
    rw [d4] at this
    exact this
  have c3 : ev G5 (.call 2 [(.call 5 [(.var 5), (.var 4)]), (.ix (.var 3) (.con (.int 0)))]) (askE a c n h M b p (some (.ow ts4)) (some (.sh W5)) (some (.sh W6)) none) = some (.sh (.bl true), askE a c n h M b p (some (.sh W4)) (some (.sh W5)) (some (.sh W6)) none) :=
    ev_call (evs_cons (ev_call (evs_cons (e := .var 5) rfl a4) (k := 5) rfl (d.keeps false false false false)) (evs_cons due0 evs_nil)) (k := 2) rfl (f_same_bl b)
  have l4 : ev G5 (.call 0 [(.var 0), (.var 1)]) (askE a c n h M b p (some (.sh W4)) (some (.sh W5)) (some (.sh W6)) none) = some (.fr ts4, askE a c n h M b p (some (.sh W4)) (some (.sh W5)) (some (.sh W6)) none) := ev_call (evs_cons (e := .var 0) rfl (evs_cons (e := .var 1) rfl evs_nil)) rfl (d.lw true false)
  have c4 : ev G5 (.call 2 [(.fld (.call 6 [(.var 0), (.var 6), (.con (.int 1))]) "weights" [0]), (.call 0 [(.var 0), (.var 1)])]) (askE a c n h M b p (some (.sh W4)) (some (.sh W5)) (some (.sh W6)) none) = some (.sh (.bl true), askE a c n h M b p (some (.sh W4)) (some (.sh W5)) (some (.sh W6)) none) := by
    have args := evs_fr l4 evs_nil
    rw [d4] at args
    exact ev_call (evs_cons (ev_fld (ev_call (evs_cons (e := .var 0) rfl (evs_cons (e := .var 6) rfl (evs_cons (e := .con (.int 1)) rfl evs_nil))) (k := 6) rfl (d.wb true false)) (by simp) (bodyF_weights d.n0 d.x.cop)) args) (k := 2) rfl (f_same_seq false (by omega) w)
  have q5 := ex_ifF (n := 0) (a := [.ret (.con (.bl false))]) (ev_orF (ev_not c3) (ev_not c4)) exs_nil
  have t1 : ev G5 (.cmp .ne (.var 5) (.call 1 [(.var 2)])) (askE a c n h M b p (some (.sh W4)) (some (.sh W5)) (some (.sh W6)) none) = some (.sh (.bl false), askE a c n h M b p (some (.sh W4)) (some (.sh W5)) (some (.sh W6)) none) :=
    ev_cmp' (a := .var 5) (x := .sh W5) (d1 := W5) (d2 := W5) rfl (ev_call (evs_cons (e := .var 2) rfl evs_nil) rfl (f_lists_mat false false true (by omega) M)) rfl rfl (by show some (D.lst (T.toDs ts5)) = _; rw [d5]) (ne_self nice_mat)
  have t2 : ev G5 (.cmp .ne (.var 6) (.b1 .list (.var 1))) (askE a c n h M b p (some (.sh W4)) (some (.sh W5)) (some (.sh W6)) none) = some (.sh (.bl false), askE a c n h M b p (some (.sh W4)) (some (.sh W5)) (some (.sh W6)) none) :=
    ev_cmp' (a := .var 6) (x := .sh W6) (d1 := W6) (d2 := W6) rfl l6 rfl rfl (by show some (D.lst (T.toDs ts6)) = _; rw [d6]) (ne_self nice_ints)
  have t3 : ev G5 (.cmp .ne (.var 4) (.call 0 [(.var 0), (.var 1)])) (askE a c n h M b p (some (.sh W4)) (some (.sh W5)) (some (.sh W6)) none) = some (.sh (.bl false), askE a c n h M b p (some (.sh W4)) (some (.sh W5)) (some (.sh W6)) none) :=
    ev_cmp' (a := .var 4) (x := .sh W4) (d1 := W4) (d2 := W4) rfl l4 rfl rfl (by show some (D.lst (T.toDs ts4)) = _; rw [d4]) (ne_self nice_ints)
  have q6 := ex_ifF (n := 0) (a := [.ret (.con (.bl false))]) (ev_orF t1 (ev_orF t2 t3)) exs_nil
  let W7 : D := mat true true true n M
  have q7 : ex G5 0 (.set 7 (.b1 .tuple (.lc (.b1 .tuple (.var 8)) (.one 8) .seq [(.var 2)] [] [8]))) (askE a c n h M b p (some (.sh W4)) (some (.sh W5)) (some (.sh W6)) none) = some (.nx, askE a c n h M b p (some (.sh W4)) (some (.sh W5)) (some (.sh W6)) (some (.sh W7))) := by
    refine ex_set (ev_b1f (ev_map (n := n) (h := fun s => .lst (vec n fun g => rd (M s g))) (ds := [mat false false true n M]) (ε1 := askE a c n h M b p (some (.sh W4)) (some (.sh W5)) (some (.sh W6)) none) (fun s => .d (.tup (vec n fun g => rd (M s g)))) (evs_cons (e := .var 2) rfl evs_nil) it_mat rfl (by omega) (fun s hs => ⟨[some (.sh (con true [.int a, .int c])), some (.sh (con false (vec n fun k => .int (h k)))), some (.sh (mat false false true n M)), some (.sh (.lst [.bl b, p])), some (.sh W4), some (.sh W5), some (.sh W6), none, some (.sh (.lst (vec n fun g => rd (M s g))))], .sh (.tup (vec n fun g => rd (M s g))), rfl, ev_b1 (a := .var 8) rfl rfl, rfl, rfl, rfl⟩) rfl) flatT_vec rfl) rfl
  have k1 : ∀ {e : E} {k : Nat} {f : Fn} {d' : D}, G5[k]? = some f → f [con false [.int a, .int c], con true (vec n fun k => .int (h k)), W7] = some (.sh d') → ev G5 (.call k [(.b1 .list (.var 0)), (.b1 .tuple (.var 1)), (.var 7)]) (askE a c n h M b p (some (.sh W4)) (some (.sh W5)) (some (.sh W6)) (some (.sh W7))) = some (.sh d', askE a c n h M b p (some (.sh W4)) (some (.sh W5)) (some (.sh W6)) (some (.sh W7))) := fun {e k f d'} h1 h2 =>
    ev_call (evs_fr (ev_b1 (a := .var 0) (bb := .list) (d := con true [.int a, .int c]) (r := .fr [.d (.int a), .d (.int c)]) rfl rfl) (evs_cons (ev_b1 (a := .var 1) (d := con false (vec n fun k => .int (h k))) rfl rfl) (evs_cons (e := .var 7) rfl evs_nil))) h1 h2
  have c5 := ev_call (k := 2) (f := f_same) (G := G5) (evs_cons (k1 (e := .bad) (k := 3) rfl (d.ow false true true true true)) (evs_cons due1 evs_nil)) rfl (f_same_pair d.ep)
  have c6 := ev_call (k := 2) (f := f_same) (G := G5) (evs_cons (k1 (e := .bad) (k := 4) rfl (d.leaves false true true true true)) (evs_cons due0 evs_nil)) rfl (f_same_bl b)
  exact run_of rfl (exs_cons q1 (exs_cons q2 (exs_cons q3 (exs_cons q4 (exs_cons q5 (exs_cons q6 (exs_cons q7 (exs_ret (ex_ret (ev_andT c5 c6)))))))))) rfl
noncomputable def f_asked : Fn := rF G5 4 5 b_asked
theorem f_asked_eq (d : Due a c n h M b p) : f_asked [con true [.int a, .int c], con false (vec n fun k => .int (h k)), mat false false true n M, .lst [.bl b, p]] = some (.sh (.bl true)) := rF_eq (r_asked d)
end
end PyD
set_option Elab.async false
set_option linter.all false
set_option maxRecDepth 100000
set_option maxHeartbeats 4000000
/-! Pym: the law of rules that leave. -/
namespace PyD
open PySem L2
noncomputable abbrev G6 : List Fn := [f_dig, f_x, f_tab, f_four, f_cell, f_wh, f_lw, f_same, f_ll, f_fp, f_asked, f_leaves, f_ow, f_lists]
section
variable {G : List Fn} {ε ε1 ε2 ε3 : Env} {a b lo hi : E} {d : D} {ts : List T} {ds : List D} {r : R} {j k : Nat} {p q : Int}
theorem ev_var {i : Nat} (h : gt ε i = some (.sh d)) : ev G (.var i) ε = some (.sh d, ε) := by simp only [ev, h]
theorem ev_ixf (h1 : ev G a ε = some (.fr ts, ε1)) (h2 : ev G b ε1 = some (.sh (.int (k : Nat)), ε2)) (hk : ts[k]? = some (.d d)) : ev G (.ix a b) ε = some (.sh d, ε2) := by
  have l : k < ts.length := by
    rcases Nat.lt_or_ge k ts.length with z | z
    · exact z
    · rw [List.getElem?_eq_none z] at hk; cases hk
  simp only [ev, h1, h2, waits, ixR, ixN_lt l, Option.bind, hk, Option.map]
theorem ev_slco (h1 : ev G a ε = some (.pt j [], ε1)) (h2 : ev G lo ε1 = some (.sh (.int p), ε2)) (h3 : ev G hi ε2 = some (.sh (.int q), ε3)) (hg : gt ε3 j = some (.ow ts)) (hf : flatT ts = some ds) (h4 : slcD (.lst ds) (some p) (some q) = some r) : ev G (.slc a lo hi) ε = some (r, ε3) := by
  simp only [ev, h1, h2, h3, waits, peek, hg, T.get, hf, Option.map, Bool.and_self, h4]
end
def w_in : List S := [.set 9 (.call 5 [(.var 8)]), .set 10 (.call 6 [(.var 6), (.var 7)]), .set 11 (.lst [(.call 8 [(.var 10), (.var 9)]), (.call 9 [(.var 10), (.var 9)])]), .app 1 (.lst [(.var 6), (.var 7), (.var 8), (.var 11)]), .ifS (.not (.call 10 [(.var 6), (.var 7), (.var 8), (.var 11)])) [.ret (.con (.bl false))] []]
def w_turn : List S := [.set 4 (.call 0 [(.call 4 [(.var 0), (.bin .mul (.con (.int 5)) (.var 2))]), (.bin .add (.lst [(.con (.int 8)), (.con (.int 3)), (.con (.int 19)), (.con (.int 380)), (.con (.int 10))]) (.bin .mul (.lst [(.con (.int 101))]) (.con (.int 6))))]), .set 5 (.ix (.ix (.lst [(.lst [(.con (.int 3)), (.con (.int 4)), (.con (.int 3)), (.con (.int 5)), (.con (.int 3)), (.con (.int 4)), (.con (.int 6)), (.con (.int 2))]), (.lst [(.con (.int 2)), (.con (.int 3)), (.con (.int 2)), (.con (.int 4)), (.con (.int 2)), (.con (.int 3)), (.con (.int 1)), (.con (.int 5))]), (.lst [(.con (.int 3)), (.con (.int 2)), (.con (.int 4)), (.con (.int 3)), (.con (.int 1)), (.con (.int 5)), (.con (.int 2)), (.con (.int 6))])]) (.var 2)) (.ix (.var 4) (.con (.int 0)))), .set 6 (.call 1 [(.slc (.var 4) (.con (.int 1)) (.con (.int 4)))]), .set 7 (.call 2 [(.slcF (.var 4) (.con (.int 4))), (.var 5), (.con (.bl true)), (.con (.int 50))]), .forS (.one 8) .seq [(.call 3 [(.var 0), (.bin .add (.bin .mul (.con (.int 5)) (.var 2)) (.con (.int 1))), (.var 6), (.var 7)])] w_in]
def w_two : List S := [.ifS (.not (.call 7 [(.call 11 [(.ix (.var 3) (.con (.int 0))), (.b1 .list (.ix (.var 3) (.con (.int 1)))), (.call 13 [(.ix (.var 3) (.con (.int 2)))])]), (.ix (.ix (.var 3) (.con (.int 3))) (.con (.int 0)))])) [.ret (.con (.bl false))] [], .ifS (.not (.call 7 [(.call 12 [(.ix (.var 3) (.con (.int 0))), (.b1 .list (.ix (.var 3) (.con (.int 1)))), (.call 13 [(.ix (.var 3) (.con (.int 2)))])]), (.ix (.ix (.var 3) (.con (.int 3))) (.con (.int 1)))])) [.ret (.con (.bl false))] []]
def b_law : List S := [.set 1 (.lst []), .forS (.one 2) .rng1 [(.con (.int 3))] w_turn, .forS (.one 3) .seq [(.var 1)] w_two, .ret (.con (.bl true))]
/-- what is kept of one rule -/
abbrev kT (a c : Int) (n : Nat) (h : Nat → Int) (M : Nat → Nat → Rat) (b : Bool) (p : D) : List D := [con true [.int a, .int c], con false (vec n fun k => .int (h k)), mat false false true n M, .lst [.bl b, p]]
def Kept (ts : List T) : Prop := ∀ t ∈ ts, ∃ a c n h M b p, Due a c n h M b p ∧ t = .l ((kT a c n h M b p).map .d)
def Old (z9 z10 z11 : Option W) : Prop := (z9 = none ∧ z10 = none ∧ z11 = none) ∨ ∃ d9 d10 d11, z9 = some (.sh d9) ∧ z10 = some (.sh d10) ∧ z11 = some (.sh d11)
abbrev LE (S : D) (kept : List T) (t : D) (hd : List T) (d5 X H : D) (z8 z9 z10 z11 : Option W) : Env := [some (.sh S), some (.ow kept), some (.sh t), none, some (.ow hd), some (.sh d5), some (.sh X), some (.sh H), z8, z9, z10, z11]
theorem in_step {S : D} {kept hd : List T} {t d5 : D} {a c : Int} {n : Nat} {h : Nat → Int} {M : Nat → Nat → Rat} {z9 z10 z11 : Option W} (hx : Xok a c) (hn0 : 0 < n) (hn : n ≤ 6) (hh : ∀ k, k < n → -50 ≤ h k ∧ h k ≤ 50) (hM : ∀ s g, s < n → g < n → Bd 920 (M s g)) (ho : Old z9 z10 z11) (hk : kept.length ≤ 1000) :
    ∃ b p y9 y10 y11, Due a c n h M b p ∧ Old y9 y10 y11 ∧ exs G6 0 w_in (LE S kept t hd d5 (con true [.int a, .int c]) (con false (vec n fun k => .int (h k))) (some (.sh (mat false false true n M))) z9 z10 z11) = some (.nx, LE S (kept ++ [.l ((kT a c n h M b p).map .d)]) t hd d5 (con true [.int a, .int c]) (con false (vec n fun k => .int (h k))) (some (.sh (mat false false true n M))) y9 y10 y11) := by
  obtain ⟨B, hB, sB, hdv, sU, ts, e9, d9⟩ := f_wh_eq false false true (by omega) hM (by omega)
  have hsp : Span n h 100 := span_of hn0 (by omega) fun k hk => by
    have := hh k hk
    omega
  have hw : ∀ s, s < n → Sm 437 (wt a c n h s) := fun s hs => (wt_20 hx hsp (by omega) hs).1
  have big : 920 * n * n ≤ 920 * 6 * 6 := Nat.mul_le_mul (Nat.mul_le_mul_left _ hn) hn
  have pos : 0 < (vec n (wt a c n h)).sum := sum_pos hn0 fun k hk => (wt_20 hx hsp (by omega) hk).2
  have e8 := f_ll_eq (e := 437) (f := 920 + (1 + 920 * n * n)) (w := wt a c n h) (U := Uw M B) (B := B) (by omega) hw sU (sB.mono (by omega)) (by omega)
  obtain ⟨p, ep, e10⟩ := f_fp_eq (e := 437) (f := 920 + (1 + 920 * n * n)) (w := wt a c n h) (U := Uw M B) (B := B) (by omega) hw sU (by omega)
  have due : Due a c n h M (bOf (∀ t, t < n → (vec n fun s => wt a c n h s * Uw M B s t).sum = wt a c n h t * B)) p := by
    refine ⟨hx, hn0, hn, hh, hM, (bOf_iff (rest_iff hB (by omega) hdv)).symm, ep.congr fun s t h1 h2 => ?_⟩
    exact bOf_iff (not_congr (pair_iff hB (by omega) hdv (by omega) h2).symm)
  generalize bOf (∀ t, t < n → (vec n fun s => wt a c n h s * Uw M B s t).sum = wt a c n h t * B) = b at due e8
  let ts4 : List T := vec n fun k => .d (.int (wt a c n h k))
  have d4 : D.lst (T.toDs ts4) = .lst (vec n fun k => .int (wt a c n h k)) := by show D.lst (T.toDs (vec n fun k => T.d (.int (wt a c n h k)))) = _; rw [toDs_vec]; rfl
  let X : D := con true [.int a, .int c]
  let H : D := con false (vec n fun k => .int (h k))
  let R8 : Option W := some (.sh (mat false false true n M))
  have q1 : ex G6 0 (.set 9 (.call 5 [(.var 8)])) (LE S kept t hd d5 X H R8 z9 z10 z11) = some (.nx, LE S kept t hd d5 X H R8 (some (.ow ts)) z10 z11) := by
    refine ex_set (ev_call (evs_cons (e := .var 8) rfl evs_nil) rfl e9) ?_
    rcases ho with ⟨rfl, rfl, rfl⟩ | ⟨_, _, _, rfl, rfl, rfl⟩ <;> rfl
  have q2 : ex G6 0 (.set 10 (.call 6 [(.var 6), (.var 7)])) (LE S kept t hd d5 X H R8 (some (.ow ts)) z10 z11) = some (.nx, LE S kept t hd d5 X H R8 (some (.ow ts)) (some (.ow ts4)) z11) := by
    refine ex_set (ev_call (evs_cons (e := .var 6) rfl (evs_cons (e := .var 7) rfl evs_nil)) rfl (f_lw_eq true false (by omega) (xok_sm hx).1 (xok_sm hx).2 hsp (by omega))) ?_
    rcases ho with ⟨rfl, rfl, rfl⟩ | ⟨_, _, _, rfl, rfl, rfl⟩ <;> rfl
  let Y9 : D := whl n (Uw M B) B
  let Y10 : D := .lst (vec n fun k => .int (wt a c n h k))
  have q3 : ex G6 0 (.set 11 (.lst [(.call 8 [(.var 10), (.var 9)]), (.call 9 [(.var 10), (.var 9)])])) (LE S kept t hd d5 X H R8 (some (.ow ts)) (some (.ow ts4)) z11) = some (.nx, LE S kept t hd d5 X H R8 (some (.sh Y9)) (some (.sh Y10)) (some (.ow [.d (.bl b), .d p]))) := by
    have z11' : z11 = none ∨ ∃ d, z11 = some (.sh d) := by
      rcases ho with ⟨_, _, h⟩ | ⟨_, _, d, _, _, h⟩
      · exact .inl h
      · exact .inr ⟨d, h⟩
    have a1 : evs G6 [(.var 10), (.var 9)] (LE S kept t hd d5 X H R8 (some (.ow ts)) (some (.ow ts4)) z11) = some ([Y10, Y9], LE S kept t hd d5 X H R8 (some (.sh Y9)) (some (.sh Y10)) z11) := by
      have a2 := evs_ow (G := G6) (e := .var 9) (j := 9) (ts := ts) (ε := LE S kept t hd d5 X H R8 (some (.ow ts)) (some (.sh Y10)) z11) rfl rfl evs_nil
      rw [d9] at a2
      have a3 := evs_ow (G := G6) (e := .var 10) (es := [(.var 9)]) (j := 10) (ts := ts4) (ds := [Y9]) (ε2 := LE S kept t hd d5 X H R8 (some (.sh Y9)) (some (.sh Y10)) z11) (ε := LE S kept t hd d5 X H R8 (some (.ow ts)) (some (.ow ts4)) z11) rfl rfl (by
        rw [d4]
        rcases z11' with rfl | ⟨d, rfl⟩ <;> exact a2)
      rw [d4] at a3
      exact a3
    have l := ev_lst (evs_cons (ev_call a1 (k := 8) rfl e8) (evs_cons (ev_call (evs_cons (e := .var 10) rfl (evs_cons (e := .var 9) rfl evs_nil)) (k := 9) rfl e10) evs_nil)) (by simp)
    refine ex_set l ?_
    rcases z11' with rfl | ⟨d, rfl⟩ <;> rfl
  have q4 : ex G6 0 (.app 1 (.lst [(.var 6), (.var 7), (.var 8), (.var 11)])) (LE S kept t hd d5 X H R8 (some (.sh Y9)) (some (.sh Y10)) (some (.ow [.d (.bl b), .d p]))) = some (.nx, LE S (kept ++ [.l ((kT a c n h M b p).map .d)]) t hd d5 X H R8 (some (.sh Y9)) (some (.sh Y10)) (some (.sh (.lst [.bl b, p])))) := by
    have a11 := evs_ow (G := G6) (e := .var 11) (j := 11) (ts := [.d (.bl b), .d p]) (ε := LE S kept t hd d5 X H R8 (some (.sh Y9)) (some (.sh Y10)) (some (.ow [.d (.bl b), .d p]))) rfl rfl evs_nil
    have l := ev_lst (evs_cons (G := G6) (e := .var 6) (d := X) (ε := LE S kept t hd d5 X H R8 (some (.sh Y9)) (some (.sh Y10)) (some (.ow [.d (.bl b), .d p]))) rfl (evs_cons (e := .var 7) (d := H) rfl (evs_cons (e := .var 8) (d := mat false false true n M) rfl a11))) (by simp)
    exact ex_app_fr (i := 1) (ts0 := kept) (ts := kept) rfl l rfl (by omega)
  have q5 : ex G6 0 (.ifS (.not (.call 10 [(.var 6), (.var 7), (.var 8), (.var 11)])) [.ret (.con (.bl false))] []) (LE S (kept ++ [.l ((kT a c n h M b p).map .d)]) t hd d5 X H R8 (some (.sh Y9)) (some (.sh Y10)) (some (.sh (.lst [.bl b, p])))) = some (.nx, LE S (kept ++ [.l ((kT a c n h M b p).map .d)]) t hd d5 X H R8 (some (.sh Y9)) (some (.sh Y10)) (some (.sh (.lst [.bl b, p])))) :=
    ex_ifF (ev_not (ev_call (evs_cons (e := .var 6) rfl (evs_cons (e := .var 7) rfl (evs_cons (e := .var 8) rfl (evs_cons (e := .var 11) rfl evs_nil)))) (k := 10) rfl (f_asked_eq due))) exs_nil
  exact ⟨b, p, _, _, _, due, .inr ⟨_, _, _, rfl, rfl, rfl⟩, exs_cons q1 (exs_cons q2 (exs_cons q3 (exs_cons q4 (exs_cons q5 exs_nil))))⟩
theorem kept_app {kept : List T} {a c : Int} {n : Nat} {h : Nat → Int} {M : Nat → Nat → Rat} {b : Bool} {p : D} (hk : Kept kept) (d : Due a c n h M b p) : Kept (kept ++ [.l ((kT a c n h M b p).map .d)]) := fun t m => by
  rcases List.mem_append.mp m with z | z
  · exact hk t z
  · rw [List.mem_singleton] at z
    exact ⟨a, c, n, h, M, b, p, d, z⟩
theorem in_loop {S : D} {kept hd : List T} {t d5 : D} {a c : Int} {n : Nat} {h : Nat → Int} {N : Nat → Nat → Nat → Rat} {z8 z9 z10 z11 : Option W} (hx : Xok a c) (hn0 : 0 < n) (hn : n ≤ 6) (hh : ∀ k, k < n → -50 ≤ h k ∧ h k ≤ 50) (hM : ∀ k s g, k < 4 → s < n → g < n → Bd 920 (N k s g)) (h8 : Sl z8) (ho : Old z9 z10 z11) (hk : Kept kept) (hl : kept.length ≤ 900) :
    ∃ kept' y8 y9 y10 y11, Kept kept' ∧ kept'.length = kept.length + 4 ∧ Old y9 y10 y11 ∧ Sl y8 ∧ forF (exs G6 0 w_in) (.one 8) (vec 4 fun k => mat false false true n (N k)) (LE S kept t hd d5 (con true [.int a, .int c]) (con false (vec n fun k => .int (h k))) z8 z9 z10 z11) = some (.nx, LE S kept' t hd d5 (con true [.int a, .int c]) (con false (vec n fun k => .int (h k))) y8 y9 y10 y11) := by
  obtain ⟨ε', e1, kept', y8, y9, y10, y11, k1, k2, k3, k4, rfl⟩ := forF_inv (body := exs G6 0 w_in) (tg := .one 8) (its := vec 4 fun k => mat false false true n (N k)) (fun k ε => ∃ kept' y8 y9 y10 y11, Kept kept' ∧ kept'.length = kept.length + k ∧ Old y9 y10 y11 ∧ Sl y8 ∧ ε = LE S kept' t hd d5 (con true [.int a, .int c]) (con false (vec n fun k => .int (h k))) y8 y9 y10 y11) (fun k d ε hd' ⟨kept', y8, y9, y10, y11, k1, k2, k3, k4, e⟩ => by
      have hk4 : k < 4 := by
        rcases Nat.lt_or_ge k 4 with z | z
        · exact z
        · rw [List.getElem?_eq_none (by rw [vec_length]; exact z)] at hd'; cases hd'
      rw [vec_get hk4] at hd'
      cases hd'
      subst e
      obtain ⟨b, p, x9, x10, x11, due, ho', he⟩ := in_step (S := S) (kept := kept') (hd := hd) (t := t) (d5 := d5) hx hn0 hn hh (fun s g => hM k s g hk4) k3 (by omega)
      refine ⟨LE S kept' t hd d5 (con true [.int a, .int c]) (con false (vec n fun k => .int (h k))) (some (.sh (mat false false true n (N k)))) y9 y10 y11, _, ?_, he, _, _, _, _, _, kept_app k1 due, by rw [List.length_append, k2]; rfl, ho', .inr ⟨_, rfl⟩, rfl⟩
      rcases k4 with rfl | ⟨d, rfl⟩ <;> rfl) ⟨kept, z8, z9, z10, z11, hk, rfl, ho, h8, rfl⟩
  rw [vec_length] at k2
  exact ⟨kept', y8, y9, y10, y11, k1, k2, k3, k4, e1⟩
/-! ### a turn -/
def sz11 (k : Nat) : Int := match k with
  | 0 => 8
  | 1 => 3
  | 2 => 19
  | 3 => 380
  | 4 => 10
  | _ => 101
theorem sz11_ok {k : Nat} (h : k < 11) : 0 < sz11 k ∧ sz11 k < 100000 := by
  have : ∀ k : Fin 11, 0 < sz11 k.1 ∧ sz11 k.1 < 100000 := by decide
  exact this ⟨k, h⟩
theorem ev_sizes11 {G : List Fn} {ε : Env} : ev G (.bin .add (.lst [(.con (.int 8)), (.con (.int 3)), (.con (.int 19)), (.con (.int 380)), (.con (.int 10))]) (.bin .mul (.lst [(.con (.int 101))]) (.con (.int 6)))) ε = some (.fr (vec 11 fun k => .d (.int (sz11 k))), ε) := by
  refine (ev_binR (ev_lst (evs_con (k := [8, 3, 19, 380, 10])) (by decide)) (ev_binR (ev_lst (evs_con (k := [101])) (by decide)) rfl rfl peek_fr rfl (bin_rep (by decide) (by decide) (by decide))) rfl peek_fr peek_fr (bin_cat (by decide))).trans ?_
  rfl
def szs : List (List Int) := [[3, 4, 3, 5, 3, 4, 6, 2], [2, 3, 2, 4, 2, 3, 1, 5], [3, 2, 4, 3, 1, 5, 2, 6]]
theorem szs_ok {t j : Nat} (ht : t < 3) (hj : j < 8) : ∃ n : Nat, 0 < n ∧ n ≤ 6 ∧ ∃ l, szs[t]? = some l ∧ l[j]? = some (n : Int) := by
  have : ∀ (t : Fin 3) (j : Fin 8), ∃ n : Fin 7, 0 < n.1 ∧ (szs.getD t.1 []).length = 8 ∧ (szs.getD t.1 []).getD j.1 0 = (n.1 : Int) := by decide
  obtain ⟨n, h1, h2, h3⟩ := this ⟨t, ht⟩ ⟨j, hj⟩
  refine ⟨n.1, h1, by have := n.2; omega, szs.getD t [], ?_, ?_⟩
  · rw [List.getD_eq_getElem?_getD, List.getElem?_eq_getElem (by exact ht)]
    rfl
  · rw [← h3, List.getD_eq_getElem?_getD (l := szs.getD t []), List.getElem?_eq_getElem (by rw [h2]; exact hj)]
    rfl
theorem f_tab_eq {m n : Nat} {r : Nat → Int} (most : Int) (hmost : 0 ≤ most ∧ most ≤ 50) (wide : Bool) (hn : 1 + n ≤ m) (hm : m ≤ 1000) (hm2 : 2 ≤ m) (hr : ∀ k, k < m → 0 ≤ r k ∧ r k < 101) : ∃ h : Nat → Int, (∀ k, k < n → -50 ≤ h k ∧ h k ≤ 50) ∧ f_tab [.lst (vec m fun k => .int (r k)), .int n, .bl wide, .int most] = some (.fr (vec n fun k => .d (.int (h k)))) := let ⟨h, h1, h2⟩ := r_tab most hmost wide hn hm hm2 hr; ⟨h, h1, rF_eq h2⟩
/-- at the start of a turn: nothing is set yet, or all is -/
def Tn (ns : List Int) (kept : List T) (ε : Env) : Prop := ε = [some (.sh (.frl (ns.map .int))), some (.ow kept), none, none, none, none, none, none, none, none, none, none] ∨
  ∃ t hd d5 X H z8 z9 z10 z11, Sl z8 ∧ Old z9 z10 z11 ∧ ε = LE (.frl (ns.map .int)) kept t hd d5 X H z8 z9 z10 z11
/-- .. and behind its digits -/
abbrev TE (S : D) (kept : List T) (t : D) (hd : List T) (z5 z6 z7 z8 z9 z10 z11 : Option W) : Env := [some (.sh S), some (.ow kept), some (.sh t), none, some (.ow hd), z5, z6, z7, z8, z9, z10, z11]
theorem turn_ok (ns : List Int) {t : Nat} (ht : t < 3) {kept : List T} {ε : Env} (hk : Kept kept) (hl : kept.length ≤ 800) (h : Tn ns kept ε) : ∃ ε1 kept' ε2, asg (.one 2) (.int t) ε = some ε1 ∧ Kept kept' ∧ kept'.length = kept.length + 4 ∧ exs G6 0 w_turn ε1 = some (.nx, ε2) ∧ Tn ns kept' ε2 := by
  obtain ⟨cell, hc⟩ := f_cell_eq ns (k := 5 * t) (by omega)
  obtain ⟨f, fd, fe⟩ := f_dig_eq (m := 11) (sz := sz11) cell (by decide) fun k hk => sz11_ok hk
  have f0 := fd 0 (by decide)
  obtain ⟨j, hj⟩ := Int.eq_ofNat_of_zero_le f0.1
  have hj8 : j < 8 := by
    have : f 0 < 8 := f0.2
    omega
  obtain ⟨n, hn0, hn6, l, hl1, hl2⟩ := szs_ok ht hj8
  obtain ⟨a, c, hx, xe⟩ := f_x_eq (r := fun k => f (1 + k)) (fd 1 (by decide)).1 (fd 2 (by decide))
  obtain ⟨hh, hh1, hh2⟩ := f_tab_eq (m := 7) (n := n) (r := fun k => f (4 + k)) 50 (by decide) true (by omega) (by decide) (by decide) fun k hk => by
    have d := fd (4 + k) (by omega)
    refine ⟨d.1, Int.lt_of_lt_of_le d.2 ?_⟩
    have : ∀ k : Fin 7, sz11 (4 + k.1) ≤ 101 := by decide
    exact this ⟨k, hk⟩
  obtain ⟨N, hN, ne⟩ := f_four_eq ns (at_ := 5 * t + 1) true false (by omega) hn6 hn0 hx hh1
  let S : D := .frl (ns.map .int)
  let hd : List T := vec 11 fun k => .d (.int (f k))
  -- behind the digits
  obtain ⟨ε1, z5, z6, z7, z8, z9, z10, z11, g1, g5, g6, g7, g8, gO, g2⟩ : ∃ ε1 z5 z6 z7 z8 z9 z10 z11, asg (.one 2) (.int t) ε = some ε1 ∧ Sl z5 ∧ Sl z6 ∧ Sl z7 ∧ Sl z8 ∧ Old z9 z10 z11 ∧ ex G6 0 (.set 4 (.call 0 [(.call 4 [(.var 0), (.bin .mul (.con (.int 5)) (.var 2))]), (.bin .add (.lst [(.con (.int 8)), (.con (.int 3)), (.con (.int 19)), (.con (.int 380)), (.con (.int 10))]) (.bin .mul (.lst [(.con (.int 101))]) (.con (.int 6))))])) ε1 = some (.nx, TE S kept (.int t) hd z5 z6 z7 z8 z9 z10 z11) := by
    have hm : binD .mul (.int 5) (.int t) = some (.sh (.int ((5 * t : Nat) : Int))) := by
      rw [bin_mul (n := 3) (m := 2) (by unfold Sm; decide) (by unfold Sm; omega)]
      rfl
    have go : ∀ ε1, gt ε1 0 = some (.sh S) → gt ε1 2 = some (.sh (.int t)) → ev G6 (.call 0 [(.call 4 [(.var 0), (.bin .mul (.con (.int 5)) (.var 2))]), (.bin .add (.lst [(.con (.int 8)), (.con (.int 3)), (.con (.int 19)), (.con (.int 380)), (.con (.int 10))]) (.bin .mul (.lst [(.con (.int 101))]) (.con (.int 6))))]) ε1 = some (.fr hd, ε1) := fun ε1 v0 v2 =>
      ev_call (evs_cons (ev_call (evs_cons (e := .var 0) (d := S) (ev_var v0) (evs_cons (ev_bin (a := .con (.int 5)) (b := .var 2) rfl (ev_var v2) hm) evs_nil)) (k := 4) rfl hc) (evs_fr ev_sizes11 evs_nil)) (k := 0) rfl (by rw [toDs_vec]; exact fe)
    rcases h with rfl | ⟨t0, hd0, d5, X, H, z8, z9, z10, z11, s8, o, rfl⟩
    · exact ⟨[some (.sh S), some (.ow kept), some (.sh (.int t)), none, none, none, none, none, none, none, none, none], none, none, none, none, none, none, none, rfl, .inl rfl, .inl rfl, .inl rfl, .inl rfl, .inl ⟨rfl, rfl, rfl⟩, ex_set (go _ rfl rfl) rfl⟩
    · refine ⟨LE S kept (.int t) hd0 d5 X H z8 z9 z10 z11, _, _, _, z8, z9, z10, z11, rfl, .inr ⟨d5, rfl⟩, .inr ⟨X, rfl⟩, .inr ⟨H, rfl⟩, s8, o, ex_set (go _ rfl rfl) ?_⟩
      rcases s8 with rfl | ⟨_, rfl⟩ <;> rcases o with ⟨rfl, rfl, rfl⟩ | ⟨_, _, _, rfl, rfl, rfl⟩ <;> rfl
  have p5 : ex G6 0 (.set 5 (.ix (.ix (.lst [(.lst [(.con (.int 3)), (.con (.int 4)), (.con (.int 3)), (.con (.int 5)), (.con (.int 3)), (.con (.int 4)), (.con (.int 6)), (.con (.int 2))]), (.lst [(.con (.int 2)), (.con (.int 3)), (.con (.int 2)), (.con (.int 4)), (.con (.int 2)), (.con (.int 3)), (.con (.int 1)), (.con (.int 5))]), (.lst [(.con (.int 3)), (.con (.int 2)), (.con (.int 4)), (.con (.int 3)), (.con (.int 1)), (.con (.int 5)), (.con (.int 2)), (.con (.int 6))])]) (.var 2)) (.ix (.var 4) (.con (.int 0))))) (TE S kept (.int t) hd z5 z6 z7 z8 z9 z10 z11) = some (.nx, TE S kept (.int t) hd (some (.sh (.int n))) z6 z7 z8 z9 z10 z11) := by
    have l1 := ev_lst (G := G6) (ε := TE S kept (.int t) hd z5 z6 z7 z8 z9 z10 z11) (evs_fr (ev_lst (evs_con (k := [3, 4, 3, 5, 3, 4, 6, 2])) (by decide)) (evs_fr (ev_lst (evs_con (k := [2, 3, 2, 4, 2, 3, 1, 5])) (by decide)) (evs_fr (ev_lst (evs_con (k := [3, 2, 4, 3, 1, 5, 2, 6])) (by decide)) evs_nil))) (by simp)
    simp only [toDs_d] at l1
    have l2 : ([D.lst ([3, 4, 3, 5, 3, 4, 6, 2].map .int), D.lst ([2, 3, 2, 4, 2, 3, 1, 5].map .int), D.lst ([3, 2, 4, 3, 1, 5, 2, 6].map .int)].map T.d)[t]? = some (.d (.lst (l.map .int))) := by
      have : ([D.lst ([3, 4, 3, 5, 3, 4, 6, 2].map .int), D.lst ([2, 3, 2, 4, 2, 3, 1, 5].map .int), D.lst ([3, 2, 4, 3, 1, 5, 2, 6].map .int)].map T.d) = szs.map fun l => T.d (.lst (l.map .int)) := rfl
      rw [this, List.getElem?_map, hl1]
      rfl
    refine ex_set (ev_ix (i := j) (ev_ixf l1 (b := .var 2) (k := t) rfl l2) (ev_ixo (a := .var 4) (b := .con (.int 0)) (j := 4) (k := 0) (d := .int j) rfl rfl rfl (by rw [← hj]; exact vec_get (by decide))) (d1 := .int n) ?_) ?_
    · show atI (l.map D.int) (j : Int) = _
      rw [atI_nat, List.getElem?_map, hl2]
      rfl
    · rcases g5 with rfl | ⟨_, rfl⟩ <;> rfl
  have p6 : ex G6 0 (.set 6 (.call 1 [(.slc (.var 4) (.con (.int 1)) (.con (.int 4)))])) (TE S kept (.int t) hd (some (.sh (.int n))) z6 z7 z8 z9 z10 z11) = some (.nx, TE S kept (.int t) hd (some (.sh (.int n))) (some (.sh (con true [.int a, .int c]))) z7 z8 z9 z10 z11) := by
    have s := evs_fr (G := G6) (es := []) (ev_slco (a := .var 4) (lo := .con (.int 1)) (hi := .con (.int 4)) (j := 4) (ε := TE S kept (.int t) hd (some (.sh (.int n))) z6 z7 z8 z9 z10 z11) rfl rfl rfl rfl (flatT_vec (n := 11) (y := fun k => .int (f k))) (slc_vec (n := 11) (a := 1) (b := 4) (by decide) (by decide))) evs_nil
    rw [toDs_vec] at s
    refine ex_set (ev_call s (k := 1) rfl xe) ?_
    rcases g6 with rfl | ⟨_, rfl⟩ <;> rfl
  have p7 : ex G6 0 (.set 7 (.call 2 [(.slcF (.var 4) (.con (.int 4))), (.var 5), (.con (.bl true)), (.con (.int 50))])) (TE S kept (.int t) hd (some (.sh (.int n))) (some (.sh (con true [.int a, .int c]))) z7 z8 z9 z10 z11) = some (.nx, TE S kept (.int t) hd (some (.sh (.int n))) (some (.sh (con true [.int a, .int c]))) (some (.ow (vec n fun k => .d (.int (hh k))))) z8 z9 z10 z11) := by
    have s := evs_fr (G := G6) (ev_slcFo (a := .var 4) (lo := .con (.int 4)) (j := 4) (ε := TE S kept (.int t) hd (some (.sh (.int n))) (some (.sh (con true [.int a, .int c]))) z7 z8 z9 z10 z11) rfl rfl rfl (flatT_vec (n := 11) (y := fun k => .int (f k))) (slcF_vec (n := 11) (a := 4) (by decide))) (evs_cons (e := .var 5) rfl (evs_cons (e := .con (.bl true)) rfl (evs_cons (e := .con (.int 50)) rfl evs_nil)))
    rw [toDs_vec] at s
    refine ex_set (ev_call s (k := 2) rfl hh2) ?_
    rcases g7 with rfl | ⟨_, rfl⟩ <;> rfl
  have hH : D.lst (T.toDs (vec n fun k => T.d (.int (hh k)))) = con false (vec n fun k => .int (hh k)) := by rw [toDs_vec]; rfl
  obtain ⟨kept', y8, y9, y10, y11, k1, k2, k3, k4, ke⟩ := in_loop (S := S) (hd := hd) (t := .int t) (d5 := .int n) hx hn0 hn6 hh1 hN g8 gO hk (by omega)
  have p8 : ex G6 0 (.forS (.one 8) .seq [(.call 3 [(.var 0), (.bin .add (.bin .mul (.con (.int 5)) (.var 2)) (.con (.int 1))), (.var 6), (.var 7)])] w_in) (TE S kept (.int t) hd (some (.sh (.int n))) (some (.sh (con true [.int a, .int c]))) (some (.ow (vec n fun k => .d (.int (hh k))))) z8 z9 z10 z11) = some (.nx, LE S kept' (.int t) hd (.int n) (con true [.int a, .int c]) (con false (vec n fun k => .int (hh k))) y8 y9 y10 y11) := by
    have v7 := evs_ow (G := G6) (e := .var 7) (es := []) (j := 7) (ts := vec n fun k => T.d (.int (hh k))) (ds := []) (ε2 := LE S kept (.int t) hd (.int n) (con true [.int a, .int c]) (con false (vec n fun k => .int (hh k))) z8 z9 z10 z11) (ε := TE S kept (.int t) hd (some (.sh (.int n))) (some (.sh (con true [.int a, .int c]))) (some (.ow (vec n fun k => .d (.int (hh k))))) z8 z9 z10 z11) rfl rfl (by
      rw [hH]
      rcases g8 with rfl | ⟨_, rfl⟩ <;> rcases gO with ⟨rfl, rfl, rfl⟩ | ⟨_, _, _, rfl, rfl, rfl⟩ <;> exact evs_nil)
    rw [hH] at v7
    have hm : binD .mul (.int 5) (.int t) = some (.sh (.int ((5 * t : Nat) : Int))) := by
      rw [bin_mul (n := 3) (m := 2) (by unfold Sm; decide) (by unfold Sm; omega)]
      rfl
    have src := ev_call (G := G6) (k := 3) (evs_cons (e := .var 0) (d := S) (ε := TE S kept (.int t) hd (some (.sh (.int n))) (some (.sh (con true [.int a, .int c]))) (some (.ow (vec n fun k => .d (.int (hh k))))) z8 z9 z10 z11) rfl (evs_cons (ev_bin (ev_bin (a := .con (.int 5)) (b := .var 2) rfl rfl hm) (b := .con (.int 1)) rfl bin_add) (evs_cons (e := .var 6) rfl v7))) rfl ne
    refine ex_for (evs_fr src evs_nil) (its := vec 4 fun k => mat false false true n (N k)) ?_ ke
    rw [toDs_vec]
    rfl
  exact ⟨ε1, kept', _, g1, k1, k2, exs_cons g2 (exs_cons p5 (exs_cons p6 (exs_cons p7 (exs_cons p8 exs_nil)))), .inr ⟨_, _, _, _, _, _, _, _, _, k4, k3, rfl⟩⟩
/-! ### once more, all of them -/
theorem two_step {S K : D} {z2 : Option W} {r : Env} {a c : Int} {n : Nat} {h : Nat → Int} {M : Nat → Nat → Rat} {b : Bool} {p : D} (d : Due a c n h M b p) : exs G6 0 w_two (some (.sh S) :: some (.sh K) :: z2 :: some (.sh (.lst (kT a c n h M b p))) :: r) = some (.nx, some (.sh S) :: some (.sh K) :: z2 :: some (.sh (.lst (kT a c n h M b p))) :: r) := by
  let ε : Env := some (.sh S) :: some (.sh K) :: z2 :: some (.sh (.lst (kT a c n h M b p))) :: r
  have i : ∀ (k : Nat) (d' : D), (kT a c n h M b p)[k]? = some d' → ev G6 (.ix (.var 3) (.con (.int k))) ε = some (.sh d', ε) := fun k d' e => ev_ix (a := .var 3) (d := .lst (kT a c n h M b p)) (i := k) rfl rfl (by show atI _ _ = _; rw [atI_nat]; exact e)
  have n6 := d.n6
  have d6 : D.lst (T.toDs ((vec n fun k => D.int (h k)).map T.d)) = con false (vec n fun k => .int (h k)) := by rw [toDs_d]; rfl
  have v : evs G6 [(.ix (.var 3) (.con (.int 0))), (.b1 .list (.ix (.var 3) (.con (.int 1)))), (.call 13 [(.ix (.var 3) (.con (.int 2)))])] ε = some ([con true [.int a, .int c], con false (vec n fun k => .int (h k)), mat false false false n M], ε) := by
    have v2 := evs_fr (ev_call (evs_cons (i 2 _ rfl) evs_nil) (k := 13) rfl (f_lists_mat false false true (by omega) M)) evs_nil
    rw [lists_data] at v2
    have v1 := evs_fr (ev_b1 (bb := .list) (i 1 _ rfl) (r := .fr ((vec n fun k => D.int (h k)).map .d)) rfl) v2
    rw [d6] at v1
    exact evs_cons (i 0 _ rfl) v1
  have due0 : ev G6 (.ix (.ix (.var 3) (.con (.int 3))) (.con (.int 0))) ε = some (.sh (.bl b), ε) := ev_ix (i 3 _ rfl) (i := 0) rfl rfl
  have due1 : ev G6 (.ix (.ix (.var 3) (.con (.int 3))) (.con (.int 1))) ε = some (.sh p, ε) := ev_ix (i 3 _ rfl) (i := 1) rfl rfl
  have c1 := ev_call (k := 7) (evs_cons (ev_call v (k := 11) rfl (d.leaves true false false false false)) (evs_cons due0 evs_nil)) rfl (f_same_bl b)
  have c2 := ev_call (k := 7) (evs_cons (ev_call v (k := 12) rfl (d.ow true false false false false)) (evs_cons due1 evs_nil)) rfl (f_same_pair d.ep)
  exact exs_cons (ex_ifF (ev_not c1) exs_nil) (exs_cons (ex_ifF (ev_not c2) exs_nil) exs_nil)
theorem two_loop {S K : D} {z2 : Option W} {r : Env} : ∀ (kept : List T) (z3 : Option W), Kept kept → Sl z3 → ∃ z3', forF (exs G6 0 w_two) (.one 3) (T.toDs kept) (some (.sh S) :: some (.sh K) :: z2 :: z3 :: r) = some (.nx, some (.sh S) :: some (.sh K) :: z2 :: z3' :: r)
  | [], z3, _, _ => ⟨z3, rfl⟩
  | t :: kept, z3, hk, hz => by
    obtain ⟨a, c, n, h, M, b, p, d, rfl⟩ := hk t List.mem_cons_self
    obtain ⟨z3', e⟩ := two_loop kept (some (.sh (.lst (kT a c n h M b p)))) (fun t m => hk t (List.mem_cons_of_mem _ m)) (.inr ⟨_, rfl⟩)
    refine ⟨z3', ?_⟩
    have e1 : asg (.one 3) (.lst (kT a c n h M b p)) (some (.sh S) :: some (.sh K) :: z2 :: z3 :: r) = some (some (.sh S) :: some (.sh K) :: z2 :: some (.sh (.lst (kT a c n h M b p))) :: r) := by
      show (if 3 < (some (W.sh S) :: some (W.sh K) :: z2 :: z3 :: r).length then some (put (some (W.sh S) :: some (W.sh K) :: z2 :: z3 :: r) 3 (some (.sh (.lst (kT a c n h M b p))))) else none) = _
      rw [if_pos (by simp only [List.length_cons]; omega)]
      rcases hz with rfl | ⟨_, rfl⟩ <;> rfl
    have e2 : T.toDs (.l ((kT a c n h M b p).map .d) :: kept) = .lst (kT a c n h M b p) :: T.toDs kept := by
      show D.lst (T.toDs ((kT a c n h M b p).map .d)) :: T.toDs kept = _
      rw [toDs_d]
    rw [e2]
    simp only [forF, e1, two_step d]
    exact e
theorem r_law (ns : List Int) : run G6 0 11 b_law [.frl (ns.map .int)] = some (.sh (.bl true)) := by
  obtain ⟨ε', e1, kept, k1, k2, k3⟩ := forF_inv (body := exs G6 0 w_turn) (tg := .one 2) (its := vec 3 fun k => .int k) (fun t ε => ∃ kept, Kept kept ∧ kept.length = 4 * t ∧ Tn ns kept ε) (fun t d ε hd ⟨kept, k1, k2, k3⟩ => by
    have ht : t < 3 := by
      rcases Nat.lt_or_ge t 3 with z | z
      · exact z
      · rw [List.getElem?_eq_none (by rw [vec_length]; exact z)] at hd; cases hd
    rw [vec_get ht] at hd
    cases hd
    obtain ⟨ε1, kept', ε2, a1, a2, a3, a4, a5⟩ := turn_ok ns ht k1 (by omega) k3
    exact ⟨ε1, ε2, a1, a4, kept', a2, by omega, a5⟩) (ε := [some (.sh (.frl (ns.map .int))), some (.ow []), none, none, none, none, none, none, none, none, none, none]) ⟨[], fun t m => (by cases m), rfl, .inl rfl⟩
  have q1 : ex G6 0 (.set 1 (.lst [])) [some (.sh (.frl (ns.map .int))), none, none, none, none, none, none, none, none, none, none, none] = some (.nx, [some (.sh (.frl (ns.map .int))), some (.ow []), none, none, none, none, none, none, none, none, none, none]) := ex_set lst_nil rfl
  have q2 := ex_for (G := G6) (n := 0) (tg := .one 2) (k := .rng1) (src := [(.con (.int 3))]) (b := w_turn) (ε := [some (.sh (.frl (ns.map .int))), some (.ow []), none, none, none, none, none, none, none, none, none, none]) (evs_cons (e := .con (.int 3)) rfl evs_nil) (itD_rng1 (n := 3) (by decide)) e1
  obtain ⟨z2, r, hz⟩ : ∃ z2 r, evs G6 [(.var 1)] ε' = some ([.lst (T.toDs kept)], some (.sh (.frl (ns.map .int))) :: some (.sh (.lst (T.toDs kept))) :: z2 :: none :: r) := by
    rcases k3 with rfl | ⟨t, hd, d5, X, H, z8, z9, z10, z11, s8, o, rfl⟩
    · exact ⟨_, _, evs_ow (e := .var 1) (j := 1) rfl rfl evs_nil⟩
    · refine ⟨some (.sh t), [some (.ow hd), some (.sh d5), some (.sh X), some (.sh H), z8, z9, z10, z11], evs_ow (e := .var 1) (j := 1) rfl rfl ?_⟩
      rcases s8 with rfl | ⟨_, rfl⟩ <;> rcases o with ⟨rfl, rfl, rfl⟩ | ⟨_, _, _, rfl, rfl, rfl⟩ <;> exact evs_nil
  obtain ⟨z3', e3⟩ := two_loop (S := .frl (ns.map .int)) (K := .lst (T.toDs kept)) (z2 := z2) (r := r) kept none k1 (.inl rfl)
  have q3 := ex_for (G := G6) (n := 0) (tg := .one 3) (k := .seq) (b := w_two) hz (its := T.toDs kept) rfl e3
  exact run_of rfl (exs_cons q1 (exs_cons q2 (exs_cons q3 (exs_ret (ex_ret rfl))))) rfl
noncomputable def f_law : Fn := rF G6 1 11 b_law
theorem f_law_eq (ns : List Int) : f_law [.frl (ns.map .int)] = some (.sh (.bl true)) := rF_eq (r_law ns)
end PyD
set_option Elab.async false
set_option linter.all false
set_option maxRecDepth 100000
set_option maxHeartbeats 0
namespace LW
open PySem PySem.Spec PyProof.Rows L2 PyD
def top (i : Nat) : Stmt := PySem.Challenge.pw_onewarmth_k79_rules_that_leave.main.body.getD i (.Pass ⟨0, 0, 0, 0⟩)
def inner (i j : Nat) : Stmt := match top i with
  | .ClassDef (body := b) .. => b.getD j (.Pass ⟨0, 0, 0, 0⟩)
  | _ => .Pass ⟨0, 0, 0, 0⟩
abbrev dTop (i : Nat) (x : Str) : He.DefD := ⟨(x, none), x, x, defArgs (top i), defBody (top i), defScope (top i), [], []⟩
def fn : List He.DefD := ([dTop 7 "ratio", dTop 8 "added", dTop 9 "timed", dTop 10 "sum_of", dTop 12 "frozen", dTop 14 "ruled", dTop 15 "keeps", dTop 19 "whole_power", dTop 21 "warm_weights", dTop 22 "warm_shares", dTop 23 "warm_body", dTop 25 "leaves", dTop 26 "one_way", dTop 28 "_law_whole", dTop 29 "_law_cell", dTop 30 "_law_digits", dTop 31 "_law_gcd", dTop 32 "_law_fraction", dTop 33 "_law_added", dTop 34 "_law_less", dTop 35 "_law_timed", dTop 36 "_law_power", dTop 37 "_law_same", dTop 38 "_law_lists", dTop 39 "_law_weights", dTop 40 "_law_x", dTop 41 "_law_table", dTop 42 "_law_rule", dTop 43 "_law_between", dTop 44 "_law_flows"] : List He.DefD) ++ ([dTop 45 "_law_back", dTop 46 "_law_free", dTop 47 "_law_spoilt", dTop 48 "_law_wholes", dTop 49 "_law_leaves", dTop 50 "_law_first_pair", dTop 51 "_law_four", dTop 52 "_law_asked", dTop 53 "law", ⟨("Body", some "__init__"), "__init__", "Body.__init__", defArgs (inner 17 0), defBody (inner 17 0), defScope (inner 17 0), [.adr (He.dflAt ("Body", some "__init__") 0)], []⟩] : List He.DefD)
def gl : List Str := (["ratio", "added", "timed", "sum_of", "frozen", "ruled", "keeps", "whole_power", "warm_weights", "warm_shares", "warm_body", "leaves", "one_way", "_law_whole", "_law_cell", "_law_digits", "_law_gcd", "_law_fraction", "_law_added", "_law_less", "_law_timed", "_law_power", "_law_same", "_law_lists", "_law_weights", "_law_x", "_law_table", "_law_rule", "_law_between", "_law_flows"] : List Str) ++ (["_law_back", "_law_free", "_law_spoilt", "_law_wholes", "_law_leaves", "_law_first_pair", "_law_four", "_law_asked", "law", "Body"] : List Str)
def fre : List Str := ["len", "abs", "sum", "min", "max", "int", "bool", "tuple", "list", "any", "all", "sorted", "range", "isinstance", "str"]
def fac : List He.Fa := [.cls "Body", .mkr "Body", .noat "Body" "heights", .noat "Body" "weights", .noat "Body" "loads", .noat "Body" "size", .noat "Body" "total"]
def fa : List He.Fa := (gl.map .glo ++ fre.map .free) ++ fac
/-- the empty tuple of the text -/
def emT (K : PySem.W.Frag) (a : Addr) : Bool := match K.lookup a with
  | some ⟨.type "tuple", _, .seq its _, _⟩ => its.isEmpty
  | _ => false
def exG (K : PySem.W.Frag) : Bool := (He.eqO (PySem.W.nsIn K mainGlobals "gcd") (some (some (.builtin "math.gcd"))) && emT K (He.dflAt ("Body", some "__init__") 0 K))
def loose : List Str := (["_wall", "__name__", "WarmthError", "NoRatio", "BadBody", "ratio", "added", "timed", "sum_of", "frozen", "ruled", "keeps", "Body", "whole_power", "warm_weights", "warm_shares", "warm_body", "leaves", "one_way", "_law_whole", "_law_cell", "_law_digits", "_law_gcd", "_law_fraction", "_law_added", "_law_less", "_law_timed", "_law_power", "_law_same", "_law_lists"] : List Str) ++ (["_law_weights", "_law_x", "_law_table", "_law_rule", "_law_between", "_law_flows", "_law_back", "_law_free", "_law_spoilt", "_law_wholes", "_law_leaves", "_law_first_pair", "_law_four", "_law_asked"] : List Str)
abbrev R : PySem.W.OpenRow := PySem.W.OpenLaw.row PySem.Challenge.rw_onewarmth_k79_rules_that_leave
abbrev hk : PySem.W.Hook := He.hookX 7 fa fn [] [] exG
def ob (s : PySem.W.SharedT) : He.AlX := He.obsX 7 fa fn [] [] exG (HandSHeadRun.getT s)
theorem ob_eq (s : PySem.W.SharedT) : ob s = hk.obs s.abs := He.obsX_eq (HandSHeadRun.getT_eq s)
theorem run_ (w : World) : HandSHeadRun.RunEqI R (PySem.W.view R.prog [0, 53]) hk ob 15000 loose w := by
  unfold HandSHeadRun.RunEqI
  kernel_rfl
abbrev fls : List (Str × List Nat) := [("weights", [0])]
def cl (K : PySem.W.Frag) (c : Nat) : Addr := match c with
  | 0 => He.ga K "Body"
  | _ => 0
structure Mx (K : PySem.W.Frag) (mg : Str → Option Value) : Prop where
  e : Env' fn gl K mg (cl K) fls
  hc0 : Cls K (cl K 0)
  hm0 : Mk K (cl K 0) (He.fAd K ("Body", some "__init__"))
  hn0 : ∀ f ∈ (["heights", "weights", "loads", "size", "total"] : List Str), NoAttr K (cl K 0) f
  he0_0 : emT K (He.dflAt ("Body", some "__init__") 0 K) = true
section
variable {P : Program} {w : World} {K : PySem.W.Frag} {mg : Str → Option Value} {base : Heap}
theorem emT_ok {a : Addr} (h : emT K a = true) : ∃ (o : Obj) (its : Array Value) (n : Nat), K.lookup a = some o ∧ o.cls = .type "tuple" ∧ o.data = .seq its n ∧ its.size ≤ sizeLine ∧ Vals [] its.toList := by
  unfold emT at h
  split at h
  · rename_i its n osl e
    have : its = #[] := by simpa using h
    subst this
    exact ⟨_, _, _, e, rfl, rfl, Nat.zero_le _, .nil⟩
  · cases h
theorem c_none {x : Str} (M : Mx K mg) (i : Nat) {params : Arguments} {body : List Stmt} {scope : Scope} (hd : fn[i]? = some ⟨(x, none), x, x, params, body, scope, [], []⟩) (hx : x ∈ gl) (hdb : (x == ("__debug__" : Str)) = false) {ps : List Str}
    (hb : ∀ (kV doc pm : Value) (an : Option Addr) (cdv ct : Value) (us : List Value), us.length = ps.length → bindArgs (PySem.W.fnOf x x params body scope .none kV doc pm an cdv ct) ⟨us, []⟩ = pure (ps.zip us)) : ∀ A, Room 1 A → CallP P w K mg base A (cl K) x (fun _ => none) := by
  intro A hA
  obtain ⟨fd, FD⟩ := M.e.d i _ hd
  exact callP_of (ps := ps) ⟨fun vs H Q E h => (by obtain ⟨_, _, _, _, _, h, _⟩ := h; cases h), fun A outer s H args us vs Q E _ _ _ _ h => (by obtain ⟨_, _, _, _, _, h, _⟩ := h; cases h)⟩ hA (M.e.g x hx) FD.kp (FunD.bindsN FD hb) hdb
theorem c_f_ratio (M : Mx K mg) : ∀ A, Room 1 A → CallP P w K mg base A (cl K) "ratio" f_ratio := PyD.step M.e 0 rfl (by decide +kernel) (by decide) (N := ["top", "bottom", "sign", "common"]) (ps := ["top", "bottom"]) ⟨rfl, rfl, rfl, by decide +kernel, rfl, by decide +kernel, by decide +kernel⟩ (by decide) (fun _ _ _ _ _ _ us hl => match us, hl with | [_, _], _ => rfl) (names := []) (G := []) (fun A r => .nil) (rF_runs (bs := b_ratio) (by kernel_rfl) rfl rfl)
theorem c_f_added (M : Mx K mg) : ∀ A, Room 2 A → CallP P w K mg base A (cl K) "added" f_added := PyD.step M.e 1 rfl (by decide +kernel) (by decide) (N := ["one", "two"]) (ps := ["one", "two"]) ⟨rfl, rfl, rfl, by decide +kernel, rfl, by decide +kernel, by decide +kernel⟩ (by decide) (fun _ _ _ _ _ _ us hl => match us, hl with | [_, _], _ => rfl) (names := ["ratio"]) (G := [f_ratio]) (fun A r => .cons (CallP.mono (c_f_ratio M) (by decide) A r) (.nil)) (rF_runs (bs := b_added) (by kernel_rfl) rfl rfl)
theorem c_f_timed (M : Mx K mg) : ∀ A, Room 2 A → CallP P w K mg base A (cl K) "timed" f_timed := PyD.step M.e 2 rfl (by decide +kernel) (by decide) (N := ["one", "two"]) (ps := ["one", "two"]) ⟨rfl, rfl, rfl, by decide +kernel, rfl, by decide +kernel, by decide +kernel⟩ (by decide) (fun _ _ _ _ _ _ us hl => match us, hl with | [_, _], _ => rfl) (names := ["ratio"]) (G := [f_ratio]) (fun A r => .cons (CallP.mono (c_f_ratio M) (by decide) A r) (.nil)) (rF_runs (bs := b_timed) (by kernel_rfl) rfl rfl)
theorem c_f_sum (M : Mx K mg) : ∀ A, Room 3 A → CallP P w K mg base A (cl K) "sum_of" f_sum := PyD.step M.e 3 rfl (by decide +kernel) (by decide) (N := ["fractions", "total", "fraction"]) (ps := ["fractions"]) ⟨rfl, rfl, rfl, by decide +kernel, rfl, by decide +kernel, by decide +kernel⟩ (by decide) (fun _ _ _ _ _ _ us hl => match us, hl with | [_], _ => rfl) (names := ["added"]) (G := [f_added]) (fun A r => .cons (CallP.mono (c_f_added M) (by decide) A r) (.nil)) (rF_runs (bs := b_sum_of) (by kernel_rfl) rfl rfl)
theorem c_none_frozen (M : Mx K mg) : ∀ A, Room 1 A → CallP P w K mg base A (cl K) "frozen" (fun _ => none) := c_none M 4 rfl (by decide +kernel) (by decide) (ps := ["value"]) (fun _ _ _ _ _ _ us hl => match us, hl with | [_], _ => rfl)
theorem c_f_frozen0 (M : Mx K mg) : ∀ A, Room 2 A → CallP P w K mg base A (cl K) "frozen" f_frozen0 := PyD.step M.e 4 rfl (by decide +kernel) (by decide) (N := ["value", "part"]) (ps := ["value"]) ⟨rfl, rfl, rfl, by decide +kernel, rfl, by decide +kernel, by decide +kernel⟩ (by decide) (fun _ _ _ _ _ _ us hl => match us, hl with | [_], _ => rfl) (names := ["frozen"]) (G := [fun _ => none]) (fun A r => .cons (CallP.mono (c_none_frozen M) (by decide) A r) (.nil)) (rF_runs (bs := b_frozen) (by kernel_rfl) rfl rfl)
theorem c_f_frozen (M : Mx K mg) : ∀ A, Room 3 A → CallP P w K mg base A (cl K) "frozen" f_frozen := PyD.step M.e 4 rfl (by decide +kernel) (by decide) (N := ["value", "part"]) (ps := ["value"]) ⟨rfl, rfl, rfl, by decide +kernel, rfl, by decide +kernel, by decide +kernel⟩ (by decide) (fun _ _ _ _ _ _ us hl => match us, hl with | [_], _ => rfl) (names := ["frozen"]) (G := [f_frozen0]) (fun A r => .cons (CallP.mono (c_f_frozen0 M) (by decide) A r) (.nil)) (rF_runs (bs := b_frozen) (by kernel_rfl) rfl rfl)
theorem c_f_ruled (M : Mx K mg) : ∀ A, Room 4 A → CallP P w K mg base A (cl K) "ruled" f_ruled := PyD.step M.e 5 rfl (by decide +kernel) (by decide) (N := ["filling", "rule", "states", "goal", "state"]) (ps := ["filling", "rule"]) ⟨rfl, rfl, rfl, by decide +kernel, rfl, by decide +kernel, by decide +kernel⟩ (by decide) (fun _ _ _ _ _ _ us hl => match us, hl with | [_, _], _ => rfl) (names := ["sum_of", "timed"]) (G := [f_sum, f_timed]) (fun A r => .cons (CallP.mono (c_f_sum M) (by decide) A r) (.cons (CallP.mono (c_f_timed M) (by decide) A r) (.nil))) (rF_runs (bs := b_ruled) (by kernel_rfl) rfl rfl)
theorem c_f_keeps (M : Mx K mg) : ∀ A, Room 5 A → CallP P w K mg base A (cl K) "keeps" f_keeps := PyD.step M.e 6 rfl (by decide +kernel) (by decide) (N := ["rule", "resting", "total", "rest", "weight"]) (ps := ["rule", "resting"]) ⟨rfl, rfl, rfl, by decide +kernel, rfl, by decide +kernel, by decide +kernel⟩ (by decide) (fun _ _ _ _ _ _ us hl => match us, hl with | [_, _], _ => rfl) (names := ["ratio", "ruled"]) (G := [f_ratio, f_ruled]) (fun A r => .cons (CallP.mono (c_f_ratio M) (by decide) A r) (.cons (CallP.mono (c_f_ruled M) (by decide) A r) (.nil))) (rF_runs (bs := b_keeps) (by kernel_rfl) rfl rfl)
theorem c_f_body (M : Mx K mg) : ∀ A, Room 5 A → CallP P w K mg base A (cl K) "Body" f_body := by
  intro A hA
  obtain ⟨fd, FD⟩ := M.e.d 39 _ rfl
  have I := init_ok (P := P) (w := w) (mg := mg) (base := base) (cl := cl K) (N := ["self", "heights", "weights", "loads", "load", "common", "weight"]) (ps := ["self", "heights", "weights", "loads"]) (fns := ["heights", "weights", "loads", "size", "total"]) (c := 0) (fuel := 60) (k := 3) FD ⟨rfl, rfl, rfl, by decide +kernel, rfl, by decide +kernel, by decide +kernel⟩ (by decide) (fun A r => M.e.b.tab M.e.gcd (xs := ["frozen"]) (G := [f_frozen]) (.cons (CallP.mono (c_f_frozen M) (by decide) A r) (.nil))) (fun f hf => ⟨M.hc0, M.hn0 f hf⟩) (rI_runs (is := b_init) (by kernel_rfl) rfl rfl)
  obtain ⟨ds, hds, hb⟩ := FunD.binds1 (ps := ["self", "heights", "weights", "loads"]) FD 3 0 (by simp [He.DefD.dvs]) rfl fun T kV doc pm an cdv ct us its h1 h2 => match us, its, h1, h2 with | [_, _, _], [_], _, _ => ⟨_, rfl, rfl⟩
  refine callP_make (dfl := [.ktp []]) M.hm0 I hA (M.e.g _ (by decide +kernel)) hb hds (fun F => ?_) (by decide)
  exact ⟨_, [], rfl, ⟨_, [], rfl, .inr (emT_ok M.he0_0), rfl⟩, rfl⟩
theorem c_f_wpower (M : Mx K mg) : ∀ A, Room 1 A → CallP P w K mg base A (cl K) "whole_power" f_wpower := PyD.step M.e 7 rfl (by decide +kernel) (by decide) (N := ["number", "exponent", "result", "square", "left"]) (ps := ["number", "exponent"]) ⟨rfl, rfl, rfl, by decide +kernel, rfl, by decide +kernel, by decide +kernel⟩ (by decide) (fun _ _ _ _ _ _ us hl => match us, hl with | [_, _], _ => rfl) (names := []) (G := []) (fun A r => .nil) (rF_runs (bs := b_power (.var 4)) (by kernel_rfl) rfl rfl)
theorem c_f_ww (M : Mx K mg) : ∀ A, Room 2 A → CallP P w K mg base A (cl K) "warm_weights" f_ww := PyD.step M.e 8 rfl (by decide +kernel) (by decide) (N := ["x", "heights", "coldness", "low", "high", "told", "height", "cold"]) (ps := ["x", "heights", "coldness"]) ⟨rfl, rfl, rfl, by decide +kernel, rfl, by decide +kernel, by decide +kernel⟩ (by decide) (fun _ _ _ _ _ _ us hl => match us, hl with | [_, _, _], _ => rfl) (names := ["whole_power"]) (G := [f_wpower]) (fun A r => .cons (CallP.mono (c_f_wpower M) (by decide) A r) (.nil)) (rF_runs (bs := b_ww) (by kernel_rfl) rfl rfl)
theorem c_f_wsh (M : Mx K mg) : ∀ A, Room 3 A → CallP P w K mg base A (cl K) "warm_shares" f_wsh := PyD.step M.e 9 rfl (by decide +kernel) (by decide) (N := ["x", "heights", "weights", "total", "weight"]) (ps := ["x", "heights"]) ⟨rfl, rfl, rfl, by decide +kernel, rfl, by decide +kernel, by decide +kernel⟩ (by decide) (fun _ _ _ _ _ _ us hl => match us, hl with | [_, _], _ => rfl) (names := ["warm_weights", "ratio"]) (G := [f_ww, f_ratio]) (fun A r => .cons (CallP.mono (c_f_ww M) (by decide) A r) (.cons (CallP.mono (c_f_ratio M) (by decide) A r) (.nil))) (rF_runs (bs := b_wsh) (by kernel_rfl) rfl rfl)
theorem c_f_wb (M : Mx K mg) : ∀ A, Room 6 A → CallP P w K mg base A (cl K) "warm_body" f_wb := PyD.step M.e 10 rfl (by decide +kernel) (by decide) (N := ["x", "heights", "coldness"]) (ps := ["x", "heights", "coldness"]) ⟨rfl, rfl, rfl, by decide +kernel, rfl, by decide +kernel, by decide +kernel⟩ (by decide) (fun _ _ _ _ _ _ us hl => match us, hl with | [_, _, _], _ => rfl) (names := ["Body", "warm_weights"]) (G := [f_body, f_ww]) (fun A r => .cons (CallP.mono (c_f_body M) (by decide) A r) (.cons (CallP.mono (c_f_ww M) (by decide) A r) (.nil))) (rF_runs (bs := b_wb) (by kernel_rfl) rfl rfl)
theorem c_f_leaves (M : Mx K mg) : ∀ A, Room 5 A → CallP P w K mg base A (cl K) "leaves" f_leaves := PyD.step M.e 11 rfl (by decide +kernel) (by decide) (N := ["x", "heights", "rule", "rest"]) (ps := ["x", "heights", "rule"]) ⟨rfl, rfl, rfl, by decide +kernel, rfl, by decide +kernel, by decide +kernel⟩ (by decide) (fun _ _ _ _ _ _ us hl => match us, hl with | [_, _, _], _ => rfl) (names := ["warm_shares", "ruled"]) (G := [f_wsh, f_ruled]) (fun A r => .cons (CallP.mono (c_f_wsh M) (by decide) A r) (.cons (CallP.mono (c_f_ruled M) (by decide) A r) (.nil))) (rF_runs (bs := b_leaves) (by kernel_rfl) rfl rfl)
theorem c_f_ow (M : Mx K mg) : ∀ A, Room 4 A → CallP P w K mg base A (cl K) "one_way" f_ow := PyD.step M.e 12 rfl (by decide +kernel) (by decide) (N := ["x", "heights", "rule", "rest", "one", "two"]) (ps := ["x", "heights", "rule"]) ⟨rfl, rfl, rfl, by decide +kernel, rfl, by decide +kernel, by decide +kernel⟩ (by decide) (fun _ _ _ _ _ _ us hl => match us, hl with | [_, _, _], _ => rfl) (names := ["warm_shares", "timed"]) (G := [f_wsh, f_timed]) (fun A r => .cons (CallP.mono (c_f_wsh M) (by decide) A r) (.cons (CallP.mono (c_f_timed M) (by decide) A r) (.nil))) (rF_runs (bs := b_ow) (by kernel_rfl) rfl rfl)
theorem c_f_whole (M : Mx K mg) : ∀ A, Room 1 A → CallP P w K mg base A (cl K) "_law_whole" f_whole := PyD.step M.e 13 rfl (by decide +kernel) (by decide) (N := ["value"]) (ps := ["value"]) ⟨rfl, rfl, rfl, by decide +kernel, rfl, by decide +kernel, by decide +kernel⟩ (by decide) (fun _ _ _ _ _ _ us hl => match us, hl with | [_], _ => rfl) (names := []) (G := []) (fun A r => .nil) (rF_runs (bs := b_whole) (by kernel_rfl) rfl rfl)
theorem c_f_cell (M : Mx K mg) : ∀ A, Room 1 A → CallP P w K mg base A (cl K) "_law_cell" f_cell := PyD.step M.e 14 rfl (by decide +kernel) (by decide) (N := ["script", "k", "seed", "cell"]) (ps := ["script", "k"]) ⟨rfl, rfl, rfl, by decide +kernel, rfl, by decide +kernel, by decide +kernel⟩ (by decide) (fun _ _ _ _ _ _ us hl => match us, hl with | [_, _], _ => rfl) (names := []) (G := []) (fun A r => .nil) (rF_runs (bs := b_cell) (by kernel_rfl) rfl rfl)
theorem c_f_dig (M : Mx K mg) : ∀ A, Room 1 A → CallP P w K mg base A (cl K) "_law_digits" f_dig := PyD.step M.e 15 rfl (by decide +kernel) (by decide) (N := ["cell", "sizes", "row", "rest", "seed", "k", "size", "twice"]) (ps := ["cell", "sizes"]) ⟨rfl, rfl, rfl, by decide +kernel, rfl, by decide +kernel, by decide +kernel⟩ (by decide) (fun _ _ _ _ _ _ us hl => match us, hl with | [_, _], _ => rfl) (names := []) (G := []) (fun A r => .nil) (rF_runs (bs := b_dig) (by kernel_rfl) rfl rfl)
theorem c_f_gcd (M : Mx K mg) : ∀ A, Room 1 A → CallP P w K mg base A (cl K) "_law_gcd" f_gcd := PyD.step M.e 16 rfl (by decide +kernel) (by decide) (N := ["a", "b", "one", "two", "rest"]) (ps := ["a", "b"]) ⟨rfl, rfl, rfl, by decide +kernel, rfl, by decide +kernel, by decide +kernel⟩ (by decide) (fun _ _ _ _ _ _ us hl => match us, hl with | [_, _], _ => rfl) (names := []) (G := []) (fun A r => .nil) (rF_runs (bs := b_gcd) (by kernel_rfl) rfl rfl)
theorem c_none__law_fraction (M : Mx K mg) : ∀ A, Room 1 A → CallP P w K mg base A (cl K) "_law_fraction" (fun _ => none) := c_none M 17 rfl (by decide +kernel) (by decide) (ps := ["top", "bottom"]) (fun _ _ _ _ _ _ us hl => match us, hl with | [_, _], _ => rfl)
theorem c_f_frac0 (M : Mx K mg) : ∀ A, Room 2 A → CallP P w K mg base A (cl K) "_law_fraction" f_frac0 := PyD.step M.e 17 rfl (by decide +kernel) (by decide) (N := ["top", "bottom", "common"]) (ps := ["top", "bottom"]) ⟨rfl, rfl, rfl, by decide +kernel, rfl, by decide +kernel, by decide +kernel⟩ (by decide) (fun _ _ _ _ _ _ us hl => match us, hl with | [_, _], _ => rfl) (names := ["_law_gcd", "_law_fraction"]) (G := [f_gcd, fun _ => none]) (fun A r => .cons (CallP.mono (c_f_gcd M) (by decide) A r) (.cons (CallP.mono (c_none__law_fraction M) (by decide) A r) (.nil))) (rF_runs (bs := b_frac) (by kernel_rfl) rfl rfl)
theorem c_f_frac (M : Mx K mg) : ∀ A, Room 3 A → CallP P w K mg base A (cl K) "_law_fraction" f_frac := PyD.step M.e 17 rfl (by decide +kernel) (by decide) (N := ["top", "bottom", "common"]) (ps := ["top", "bottom"]) ⟨rfl, rfl, rfl, by decide +kernel, rfl, by decide +kernel, by decide +kernel⟩ (by decide) (fun _ _ _ _ _ _ us hl => match us, hl with | [_, _], _ => rfl) (names := ["_law_gcd", "_law_fraction"]) (G := [f_gcd, f_frac0]) (fun A r => .cons (CallP.mono (c_f_gcd M) (by decide) A r) (.cons (CallP.mono (c_f_frac0 M) (by decide) A r) (.nil))) (rF_runs (bs := b_frac) (by kernel_rfl) rfl rfl)
theorem c_f_ladded (M : Mx K mg) : ∀ A, Room 4 A → CallP P w K mg base A (cl K) "_law_added" f_ladded := PyD.step M.e 18 rfl (by decide +kernel) (by decide) (N := ["one", "two"]) (ps := ["one", "two"]) ⟨rfl, rfl, rfl, by decide +kernel, rfl, by decide +kernel, by decide +kernel⟩ (by decide) (fun _ _ _ _ _ _ us hl => match us, hl with | [_, _], _ => rfl) (names := ["_law_fraction"]) (G := [f_frac]) (fun A r => .cons (CallP.mono (c_f_frac M) (by decide) A r) (.nil)) (rF_runs (bs := b_ladded) (by kernel_rfl) rfl rfl)
theorem c_f_lless (M : Mx K mg) : ∀ A, Room 4 A → CallP P w K mg base A (cl K) "_law_less" f_lless := PyD.step M.e 19 rfl (by decide +kernel) (by decide) (N := ["one", "two"]) (ps := ["one", "two"]) ⟨rfl, rfl, rfl, by decide +kernel, rfl, by decide +kernel, by decide +kernel⟩ (by decide) (fun _ _ _ _ _ _ us hl => match us, hl with | [_, _], _ => rfl) (names := ["_law_fraction"]) (G := [f_frac]) (fun A r => .cons (CallP.mono (c_f_frac M) (by decide) A r) (.nil)) (rF_runs (bs := b_lless) (by kernel_rfl) rfl rfl)
theorem c_f_ltimed (M : Mx K mg) : ∀ A, Room 4 A → CallP P w K mg base A (cl K) "_law_timed" f_ltimed := PyD.step M.e 20 rfl (by decide +kernel) (by decide) (N := ["one", "two"]) (ps := ["one", "two"]) ⟨rfl, rfl, rfl, by decide +kernel, rfl, by decide +kernel, by decide +kernel⟩ (by decide) (fun _ _ _ _ _ _ us hl => match us, hl with | [_, _], _ => rfl) (names := ["_law_fraction"]) (G := [f_frac]) (fun A r => .cons (CallP.mono (c_f_frac M) (by decide) A r) (.nil)) (rF_runs (bs := b_ltimed) (by kernel_rfl) rfl rfl)
theorem c_f_lpower (M : Mx K mg) : ∀ A, Room 1 A → CallP P w K mg base A (cl K) "_law_power" f_lpower := PyD.step M.e 21 rfl (by decide +kernel) (by decide) (N := ["number", "exponent", "told", "square", "left"]) (ps := ["number", "exponent"]) ⟨rfl, rfl, rfl, by decide +kernel, rfl, by decide +kernel, by decide +kernel⟩ (by decide) (fun _ _ _ _ _ _ us hl => match us, hl with | [_, _], _ => rfl) (names := []) (G := []) (fun A r => .nil) (rF_runs (bs := b_power (.b1 .int (.var 4))) (by kernel_rfl) rfl rfl)
theorem c_none__law_same (M : Mx K mg) : ∀ A, Room 1 A → CallP P w K mg base A (cl K) "_law_same" (fun _ => none) := c_none M 22 rfl (by decide +kernel) (by decide) (ps := ["value", "due"]) (fun _ _ _ _ _ _ us hl => match us, hl with | [_, _], _ => rfl)
theorem c_f_same0 (M : Mx K mg) : ∀ A, Room 2 A → CallP P w K mg base A (cl K) "_law_same" f_same0 := PyD.step M.e 22 rfl (by decide +kernel) (by decide) (N := ["value", "due", "k"]) (ps := ["value", "due"]) ⟨rfl, rfl, rfl, by decide +kernel, rfl, by decide +kernel, by decide +kernel⟩ (by decide) (fun _ _ _ _ _ _ us hl => match us, hl with | [_, _], _ => rfl) (names := ["_law_whole", "_law_same"]) (G := [f_whole, fun _ => none]) (fun A r => .cons (CallP.mono (c_f_whole M) (by decide) A r) (.cons (CallP.mono (c_none__law_same M) (by decide) A r) (.nil))) (rF_runs (bs := b_same) (by kernel_rfl) rfl rfl)
theorem c_f_same (M : Mx K mg) : ∀ A, Room 3 A → CallP P w K mg base A (cl K) "_law_same" f_same := PyD.step M.e 22 rfl (by decide +kernel) (by decide) (N := ["value", "due", "k"]) (ps := ["value", "due"]) ⟨rfl, rfl, rfl, by decide +kernel, rfl, by decide +kernel, by decide +kernel⟩ (by decide) (fun _ _ _ _ _ _ us hl => match us, hl with | [_, _], _ => rfl) (names := ["_law_whole", "_law_same"]) (G := [f_whole, f_same0]) (fun A r => .cons (CallP.mono (c_f_whole M) (by decide) A r) (.cons (CallP.mono (c_f_same0 M) (by decide) A r) (.nil))) (rF_runs (bs := b_same) (by kernel_rfl) rfl rfl)
theorem c_none__law_lists (M : Mx K mg) : ∀ A, Room 1 A → CallP P w K mg base A (cl K) "_law_lists" (fun _ => none) := c_none M 23 rfl (by decide +kernel) (by decide) (ps := ["value"]) (fun _ _ _ _ _ _ us hl => match us, hl with | [_], _ => rfl)
theorem c_f_lists0 (M : Mx K mg) : ∀ A, Room 2 A → CallP P w K mg base A (cl K) "_law_lists" f_lists0 := PyD.step M.e 23 rfl (by decide +kernel) (by decide) (N := ["value", "each"]) (ps := ["value"]) ⟨rfl, rfl, rfl, by decide +kernel, rfl, by decide +kernel, by decide +kernel⟩ (by decide) (fun _ _ _ _ _ _ us hl => match us, hl with | [_], _ => rfl) (names := ["_law_lists"]) (G := [fun _ => none]) (fun A r => .cons (CallP.mono (c_none__law_lists M) (by decide) A r) (.nil)) (rF_runs (bs := b_lists) (by kernel_rfl) rfl rfl)
theorem c_f_lists1 (M : Mx K mg) : ∀ A, Room 3 A → CallP P w K mg base A (cl K) "_law_lists" f_lists1 := PyD.step M.e 23 rfl (by decide +kernel) (by decide) (N := ["value", "each"]) (ps := ["value"]) ⟨rfl, rfl, rfl, by decide +kernel, rfl, by decide +kernel, by decide +kernel⟩ (by decide) (fun _ _ _ _ _ _ us hl => match us, hl with | [_], _ => rfl) (names := ["_law_lists"]) (G := [f_lists0]) (fun A r => .cons (CallP.mono (c_f_lists0 M) (by decide) A r) (.nil)) (rF_runs (bs := b_lists) (by kernel_rfl) rfl rfl)
theorem c_f_lists2 (M : Mx K mg) : ∀ A, Room 4 A → CallP P w K mg base A (cl K) "_law_lists" f_lists2 := PyD.step M.e 23 rfl (by decide +kernel) (by decide) (N := ["value", "each"]) (ps := ["value"]) ⟨rfl, rfl, rfl, by decide +kernel, rfl, by decide +kernel, by decide +kernel⟩ (by decide) (fun _ _ _ _ _ _ us hl => match us, hl with | [_], _ => rfl) (names := ["_law_lists"]) (G := [f_lists1]) (fun A r => .cons (CallP.mono (c_f_lists1 M) (by decide) A r) (.nil)) (rF_runs (bs := b_lists) (by kernel_rfl) rfl rfl)
theorem c_f_lists (M : Mx K mg) : ∀ A, Room 5 A → CallP P w K mg base A (cl K) "_law_lists" f_lists := PyD.step M.e 23 rfl (by decide +kernel) (by decide) (N := ["value", "each"]) (ps := ["value"]) ⟨rfl, rfl, rfl, by decide +kernel, rfl, by decide +kernel, by decide +kernel⟩ (by decide) (fun _ _ _ _ _ _ us hl => match us, hl with | [_], _ => rfl) (names := ["_law_lists"]) (G := [f_lists2]) (fun A r => .cons (CallP.mono (c_f_lists2 M) (by decide) A r) (.nil)) (rF_runs (bs := b_lists) (by kernel_rfl) rfl rfl)
theorem c_f_lw (M : Mx K mg) : ∀ A, Room 2 A → CallP P w K mg base A (cl K) "_law_weights" f_lw := PyD.step M.e 24 rfl (by decide +kernel) (by decide) (N := ["x", "heights", "low", "high", "each"]) (ps := ["x", "heights"]) ⟨rfl, rfl, rfl, by decide +kernel, rfl, by decide +kernel, by decide +kernel⟩ (by decide) (fun _ _ _ _ _ _ us hl => match us, hl with | [_, _], _ => rfl) (names := ["_law_power"]) (G := [f_lpower]) (fun A r => .cons (CallP.mono (c_f_lpower M) (by decide) A r) (.nil)) (rF_runs (bs := b_lw) (by kernel_rfl) rfl rfl)
theorem c_f_x (M : Mx K mg) : ∀ A, Room 4 A → CallP P w K mg base A (cl K) "_law_x" f_x := PyD.step M.e 25 rfl (by decide +kernel) (by decide) (N := ["row", "bottom"]) (ps := ["row"]) ⟨rfl, rfl, rfl, by decide +kernel, rfl, by decide +kernel, by decide +kernel⟩ (by decide) (fun _ _ _ _ _ _ us hl => match us, hl with | [_], _ => rfl) (names := ["_law_fraction"]) (G := [f_frac]) (fun A r => .cons (CallP.mono (c_f_frac M) (by decide) A r) (.nil)) (rF_runs (bs := b_x) (by kernel_rfl) rfl rfl)
theorem c_f_tab (M : Mx K mg) : ∀ A, Room 1 A → CallP P w K mg base A (cl K) "_law_table" f_tab := PyD.step M.e 26 rfl (by decide +kernel) (by decide) (N := ["row", "size", "wide", "most", "low", "each", "k"]) (ps := ["row", "size", "wide", "most"]) ⟨rfl, rfl, rfl, by decide +kernel, rfl, by decide +kernel, by decide +kernel⟩ (by decide) (fun _ _ _ _ _ _ us hl => match us, hl with | [_, _, _, _], _ => rfl) (names := []) (G := []) (fun A r => .nil) (rF_runs (bs := b_tab) (by kernel_rfl) rfl rfl)
theorem c_f_btw (M : Mx K mg) : ∀ A, Room 1 A → CallP P w K mg base A (cl K) "_law_between" f_btw := PyD.step M.e 28 rfl (by decide +kernel) (by decide) (N := ["digit", "low", "high"]) (ps := ["digit", "low", "high"]) ⟨rfl, rfl, rfl, by decide +kernel, rfl, by decide +kernel, by decide +kernel⟩ (by decide) (fun _ _ _ _ _ _ us hl => match us, hl with | [_, _, _], _ => rfl) (names := []) (G := []) (fun A r => .nil) (rF_runs (bs := b_btw) (by kernel_rfl) rfl rfl)
theorem c_f_flows (M : Mx K mg) : ∀ A, Room 4 A → CallP P w K mg base A (cl K) "_law_flows" f_flows := PyD.step M.e 29 rfl (by decide +kernel) (by decide) (N := ["digits", "weights", "scale", "size", "left", "rule", "s", "rest", "fresh", "t", "each", "low", "flow"]) (ps := ["digits", "weights", "scale"]) ⟨rfl, rfl, rfl, by decide +kernel, rfl, by decide +kernel, by decide +kernel⟩ (by decide) (fun _ _ _ _ _ _ us hl => match us, hl with | [_, _, _], _ => rfl) (names := ["_law_between", "_law_fraction"]) (G := [f_btw, f_frac]) (fun A r => .cons (CallP.mono (c_f_btw M) (by decide) A r) (.cons (CallP.mono (c_f_frac M) (by decide) A r) (.nil))) (rF_runs (bs := b_flows) (by kernel_rfl) rfl rfl)
theorem c_f_back (M : Mx K mg) : ∀ A, Room 4 A → CallP P w K mg base A (cl K) "_law_back" f_back := PyD.step M.e 30 rfl (by decide +kernel) (by decide) (N := ["digits", "weights", "scale", "size", "left", "sent", "s", "mine", "t", "each", "flow", "other"]) (ps := ["digits", "weights", "scale"]) ⟨rfl, rfl, rfl, by decide +kernel, rfl, by decide +kernel, by decide +kernel⟩ (by decide) (fun _ _ _ _ _ _ us hl => match us, hl with | [_, _, _], _ => rfl) (names := ["_law_between", "_law_fraction"]) (G := [f_btw, f_frac]) (fun A r => .cons (CallP.mono (c_f_btw M) (by decide) A r) (.cons (CallP.mono (c_f_frac M) (by decide) A r) (.nil))) (rF_runs (bs := b_back) (by kernel_rfl) rfl rfl)
theorem c_f_free (M : Mx K mg) : ∀ A, Room 4 A → CallP P w K mg base A (cl K) "_law_free" f_free := PyD.step M.e 31 rfl (by decide +kernel) (by decide) (N := ["digits", "size", "rule", "s", "parts", "t", "each"]) (ps := ["digits", "size"]) ⟨rfl, rfl, rfl, by decide +kernel, rfl, by decide +kernel, by decide +kernel⟩ (by decide) (fun _ _ _ _ _ _ us hl => match us, hl with | [_, _], _ => rfl) (names := ["_law_fraction"]) (G := [f_frac]) (fun A r => .cons (CallP.mono (c_f_frac M) (by decide) A r) (.nil)) (rF_runs (bs := b_free) (by kernel_rfl) rfl rfl)
theorem c_f_spoilt (M : Mx K mg) : ∀ A, Room 5 A → CallP P w K mg base A (cl K) "_law_spoilt" f_spoilt := PyD.step M.e 32 rfl (by decide +kernel) (by decide) (N := ["rule", "row", "size", "at", "full", "source", "goal", "part", "changed", "fresh", "k", "each"]) (ps := ["rule", "row"]) ⟨rfl, rfl, rfl, by decide +kernel, rfl, by decide +kernel, by decide +kernel⟩ (by decide) (fun _ _ _ _ _ _ us hl => match us, hl with | [_, _], _ => rfl) (names := ["_law_less", "_law_added", "_law_timed"]) (G := [f_lless, f_ladded, f_ltimed]) (fun A r => .cons (CallP.mono (c_f_lless M) (by decide) A r) (.cons (CallP.mono (c_f_ladded M) (by decide) A r) (.cons (CallP.mono (c_f_ltimed M) (by decide) A r) (.nil)))) (rF_runs (bs := b_spoilt) (by kernel_rfl) rfl rfl)
theorem c_f_rule (M : Mx K mg) : ∀ A, Room 6 A → CallP P w K mg base A (cl K) "_law_rule" f_rule := PyD.step M.e 27 rfl (by decide +kernel) (by decide) (N := ["row", "weights", "menu", "size", "kind", "rule", "k", "s", "each", "t"]) (ps := ["row", "weights", "menu"]) ⟨rfl, rfl, rfl, by decide +kernel, rfl, by decide +kernel, by decide +kernel⟩ (by decide) (fun _ _ _ _ _ _ us hl => match us, hl with | [_, _, _], _ => rfl) (names := ["_law_flows", "_law_back", "_law_free", "_law_spoilt", "_law_fraction"]) (G := [f_flows, f_back, f_free, f_spoilt, f_frac]) (fun A r => .cons (CallP.mono (c_f_flows M) (by decide) A r) (.cons (CallP.mono (c_f_back M) (by decide) A r) (.cons (CallP.mono (c_f_free M) (by decide) A r) (.cons (CallP.mono (c_f_spoilt M) (by decide) A r) (.cons (CallP.mono (c_f_frac M) (by decide) A r) (.nil)))))) (rF_runs (bs := b_rule) (by kernel_rfl) rfl rfl)
theorem c_f_wh (M : Mx K mg) : ∀ A, Room 2 A → CallP P w K mg base A (cl K) "_law_wholes" f_wh := PyD.step M.e 33 rfl (by decide +kernel) (by decide) (N := ["rule", "bottom", "each", "part"]) (ps := ["rule"]) ⟨rfl, rfl, rfl, by decide +kernel, rfl, by decide +kernel, by decide +kernel⟩ (by decide) (fun _ _ _ _ _ _ us hl => match us, hl with | [_], _ => rfl) (names := ["_law_gcd"]) (G := [f_gcd]) (fun A r => .cons (CallP.mono (c_f_gcd M) (by decide) A r) (.nil)) (rF_runs (bs := b_wh) (by kernel_rfl) rfl rfl)
theorem c_f_ll (M : Mx K mg) : ∀ A, Room 1 A → CallP P w K mg base A (cl K) "_law_leaves" f_ll := PyD.step M.e 34 rfl (by decide +kernel) (by decide) (N := ["weights", "whole", "size", "t", "s"]) (ps := ["weights", "whole"]) ⟨rfl, rfl, rfl, by decide +kernel, rfl, by decide +kernel, by decide +kernel⟩ (by decide) (fun _ _ _ _ _ _ us hl => match us, hl with | [_, _], _ => rfl) (names := []) (G := []) (fun A r => .nil) (rF_runs (bs := b_ll) (by kernel_rfl) rfl rfl)
theorem c_f_fp (M : Mx K mg) : ∀ A, Room 1 A → CallP P w K mg base A (cl K) "_law_first_pair" f_fp := PyD.step M.e 35 rfl (by decide +kernel) (by decide) (N := ["weights", "whole", "s", "t"]) (ps := ["weights", "whole"]) ⟨rfl, rfl, rfl, by decide +kernel, rfl, by decide +kernel, by decide +kernel⟩ (by decide) (fun _ _ _ _ _ _ us hl => match us, hl with | [_, _], _ => rfl) (names := []) (G := []) (fun A r => .nil) (rF_runs (bs := b_fp) (by kernel_rfl) rfl rfl)
theorem c_f_four (M : Mx K mg) : ∀ A, Room 7 A → CallP P w K mg base A (cl K) "_law_four" f_four := PyD.step M.e 36 rfl (by decide +kernel) (by decide) (N := ["script", "at", "x", "heights", "weights", "rows", "size", "third", "menus", "near", "k"]) (ps := ["script", "at", "x", "heights"]) ⟨rfl, rfl, rfl, by decide +kernel, rfl, by decide +kernel, by decide +kernel⟩ (by decide) (fun _ _ _ _ _ _ us hl => match us, hl with | [_, _, _, _], _ => rfl) (names := ["_law_weights", "_law_rule", "_law_digits", "_law_spoilt", "_law_cell"]) (G := [f_lw, f_rule, f_dig, f_spoilt, f_cell]) (fun A r => .cons (CallP.mono (c_f_lw M) (by decide) A r) (.cons (CallP.mono (c_f_rule M) (by decide) A r) (.cons (CallP.mono (c_f_dig M) (by decide) A r) (.cons (CallP.mono (c_f_spoilt M) (by decide) A r) (.cons (CallP.mono (c_f_cell M) (by decide) A r) (.nil)))))) (rF_runs (bs := b_four) (by kernel_rfl) rfl rfl)
theorem c_f_asked (M : Mx K mg) : ∀ A, Room 7 A → CallP P w K mg base A (cl K) "_law_asked" f_asked := PyD.step M.e 37 rfl (by decide +kernel) (by decide) (N := ["x", "heights", "rule", "due", "weights", "given", "table", "fixed", "each"]) (ps := ["x", "heights", "rule", "due"]) ⟨rfl, rfl, rfl, by decide +kernel, rfl, by decide +kernel, by decide +kernel⟩ (by decide) (fun _ _ _ _ _ _ us hl => match us, hl with | [_, _, _, _], _ => rfl) (names := ["_law_weights", "_law_lists", "_law_same", "one_way", "leaves", "keeps", "warm_body"]) (G := [f_lw, f_lists, f_same, f_ow, f_leaves, f_keeps, f_wb]) (fun A r => .cons (CallP.mono (c_f_lw M) (by decide) A r) (.cons (CallP.mono (c_f_lists M) (by decide) A r) (.cons (CallP.mono (c_f_same M) (by decide) A r) (.cons (CallP.mono (c_f_ow M) (by decide) A r) (.cons (CallP.mono (c_f_leaves M) (by decide) A r) (.cons (CallP.mono (c_f_keeps M) (by decide) A r) (.cons (CallP.mono (c_f_wb M) (by decide) A r) (.nil)))))))) (rF_runs (bs := b_asked) (by kernel_rfl) rfl rfl)
theorem runs_law : Runs (mkTb ["_law_digits", "_law_x", "_law_table", "_law_four", "_law_cell", "_law_wholes", "_law_weights", "_law_same", "_law_leaves", "_law_first_pair", "_law_asked", "leaves", "one_way", "_law_lists"] fls) [f_dig, f_x, f_tab, f_four, f_cell, f_wh, f_lw, f_same, f_ll, f_fp, f_asked, f_leaves, f_ow, f_lists] ["script", "kept", "turn", "one", "head", "size", "x", "heights", "rule", "whole", "weights", "due"] ["script"] 60 (defScope (top 53)) (defBody (top 53)) f_law := rF_runs (bs := b_law) (by kernel_rfl) rfl rfl
theorem calls_law (M : Mx K mg) : ∀ A, Room 7 A → Calls P w K mg base A (cl K) ["_law_digits", "_law_x", "_law_table", "_law_four", "_law_cell", "_law_wholes", "_law_weights", "_law_same", "_law_leaves", "_law_first_pair", "_law_asked", "leaves", "one_way", "_law_lists"] [f_dig, f_x, f_tab, f_four, f_cell, f_wh, f_lw, f_same, f_ll, f_fp, f_asked, f_leaves, f_ow, f_lists] := fun A r => .cons (CallP.mono (c_f_dig M) (by decide) A r) (.cons (CallP.mono (c_f_x M) (by decide) A r) (.cons (CallP.mono (c_f_tab M) (by decide) A r) (.cons (CallP.mono (c_f_four M) (by decide) A r) (.cons (CallP.mono (c_f_cell M) (by decide) A r) (.cons (CallP.mono (c_f_wh M) (by decide) A r) (.cons (CallP.mono (c_f_lw M) (by decide) A r) (.cons (CallP.mono (c_f_same M) (by decide) A r) (.cons (CallP.mono (c_f_ll M) (by decide) A r) (.cons (CallP.mono (c_f_fp M) (by decide) A r) (.cons (CallP.mono (c_f_asked M) (by decide) A r) (.cons (CallP.mono (c_f_leaves M) (by decide) A r) (.cons (CallP.mono (c_f_ow M) (by decide) A r) (.cons (CallP.mono (c_f_lists M) (by decide) A r) (.nil))))))))))))))
end
theorem fl_ok {f : Str} {cs : List Nat} {c : Nat} (h : fls.lookup f = some cs) (hc : c ∈ cs) : f ∈ (["heights", "weights", "loads", "size", "total"] : List Str) ∧ c = 0 := by
  have key : ∀ q ∈ fls, q.1 ∈ (["heights", "weights", "loads", "size", "total"] : List Str) ∧ ∀ c ∈ q.2, c = 0 := by decide +kernel
  obtain ⟨g, hg, e⟩ : ∃ q, q ∈ fls ∧ q.1 = f ∧ q.2 = cs := by
    generalize fls = l at h
    induction l with
    | nil => cases h
    | cons q l ih =>
      obtain ⟨g, ds⟩ := q
      rw [List.lookup_cons] at h
      cases z : f == g with
      | true =>
        rw [z] at h
        cases h
        exact ⟨(g, cs), List.mem_cons_self, (by simpa using z : f = g).symm, rfl⟩
      | false =>
        rw [z] at h
        obtain ⟨q, h1, h2⟩ := ih h
        exact ⟨q, List.mem_cons_of_mem _ h1, h2⟩
  have := key g hg
  rw [e.1, e.2] at this
  exact ⟨this.1, this.2 c hc⟩
theorem facts {P : Program} {w : World} {K : PySem.W.Frag} {h : Heap} {mg : Str → Option Value} {f : Addr} (X : K.In h) (G : h.Ns mainGlobals mg) (hfa : mg ("law" : Str) = some (.ref f)) (c : He.SaysX fa fn [] [] exG w h K) :
    ∃ (K : PySem.W.Frag) (fd : FuncData) (sp : Sp), K.In h ∧ (∀ (s : Shared) (v : Value), BindsTo s fd ⟨[v], []⟩ [("script", v)]) ∧
      (∀ (H : Hp) (a : Addr) (ns : List Int), ns.length ≤ 63 → Only H → SqL K H a (ns.map V.int) → sp [.ref a] H (fun v _ => v = .bl true) fun _ _ _ => False) ∧
      ∀ base : Heap, K.In base → base.Ns mainGlobals mg → FnOk P w K mg base CX0 8 f fd ["script"] sp := by
  have D := c.t.d
  obtain ⟨fd, F⟩ := D.def_ 38 rfl
  have e := hfa.symm.trans (He.glo_ok X G (D.fact 38 (f := .glo "law") rfl))
  cases e
  have b := FunD.bindsA (ps := ["script"]) F fun _ _ _ _ _ _ us hl => match us, hl with | [_], _ => rfl
  have fr : ∀ x ∈ fre, mg x = none := fun x hx => He.free_ok X G (D.facts (f := .free x) (List.mem_append_left _ (List.mem_append_right _ (List.mem_map_of_mem hx))))
  have gc : mg "gcd" = some (.builtin "math.gcd") := PySem.W.mg_of X G (He.eqO_ok (show He.eqO _ _ = true from (He.ba c.more).1))
  have hc0 : Cls K (cl K 0) := He.cls_ok (D.fact 55 (f := .cls "Body") rfl)
  have hm0 : Mk K (cl K 0) (He.fAd K ("Body", some "__init__")) := He.mkr_ok (D.fact 56 (f := .mkr "Body") rfl)
  have hn0 : ∀ f ∈ (["heights", "weights", "loads", "size", "total"] : List Str), NoAttr K (cl K 0) f := fun f hf => by
    simp only [List.mem_cons, List.mem_nil_iff, or_false] at hf
    rcases hf with rfl | rfl | rfl | rfl | rfl
    · exact He.noat_ok (D.fact 57 (f := .noat "Body" "heights") rfl)
    · exact He.noat_ok (D.fact 58 (f := .noat "Body" "weights") rfl)
    · exact He.noat_ok (D.fact 59 (f := .noat "Body" "loads") rfl)
    · exact He.noat_ok (D.fact 60 (f := .noat "Body" "size") rfl)
    · exact He.noat_ok (D.fact 61 (f := .noat "Body" "total") rfl)
  have he0_0 : emT K (He.dflAt ("Body", some "__init__") 0 K) = true := (He.ba c.more).2
  have M : Env' fn gl K mg (cl K) fls := ⟨fun i d hd => D.def_ i hd, fun x hx => He.glo_ok X G (D.facts (f := .glo x) (List.mem_append_left _ (List.mem_append_left _ (List.mem_map_of_mem hx)))), ⟨fun x hx => fr x (by revert x; decide +kernel), fr _ (by decide +kernel), fr _ (by decide +kernel), .inl gc, fun f cs h c2 h2 => by
    have : f ∈ (["heights", "weights", "loads", "size", "total"] : List Str) ∧ c2 = 0 := fl_ok h h2
    rw [this.2]
    exact ⟨hc0, hn0 f this.1⟩⟩, gc⟩
  refine ⟨K, fd, spD K (cl K) f_law, X, fun s v => b s [v] rfl, fun H a ns hl hO hS => ?_, fun base hB hG => ?_⟩
  · refine ⟨H, [.frl (ns.map .int)], _, Evl.Ex.refl H, ⟨_, [], rfl, ⟨a, _, rfl, hS, ?_⟩, rfl⟩, f_law_eq ns, fun v F' H' _ r => r⟩
    exact Rps.map_of fun i _ => rfl
  · exact fn_ok F ⟨rfl, rfl, rfl, by decide +kernel, rfl, by decide +kernel, by decide +kernel⟩ (by decide) (fun A r => M.b.tab gc (calls_law ⟨M, hc0, hm0, hn0, he0_0⟩ A r)) runs_law
end LW
open PySem PySem.W PySem.Calls PyProof.Rows
theorem PySem.Challenge.cw_onewarmth_k79_rules_that_leave_holds : PySem.Challenge.rw_onewarmth_k79_rules_that_leave.Holds := by
  w_on; o_law
  refine HandSHeadRun.head_imp (r := OpenLaw.row PySem.Challenge.rw_onewarmth_k79_rules_that_leave) (q := view (OpenLaw.row PySem.Challenge.rw_onewarmth_k79_rules_that_leave).prog [0, 53]) (H := LW.hk) (ob := LW.ob) (M := 15000) (loose := LW.loose) (d := HandSHeadRun.topDef (OpenLaw.row PySem.Challenge.rw_onewarmth_k79_rules_that_leave).prog 53) (kwd := []) LW.ob_eq
    LW.run_ (by kernel_rfl) (by kernel_rfl) (by kernel_rfl) (by rfl) (by first | assumption | decide +kernel) (by decide +kernel) ⟨rfl, rfl, rfl, rfl, rfl, by decide +kernel⟩ ?hw ?hc
  case hw => w_witness2
  case hc =>
    refine L2.walk_ofE (l := PySem.Challenge.rw_onewarmth_k79_rules_that_leave) (n := 63) (k := 8) (x := "script") (CX := L2.CX0) rfl (by decide) (by kernel_rfl) ⟨rfl, by decide, by decide⟩ ?F (fun _ _ _ _ z => z)
    intro w mg fa h Y G hmg0
    obtain ⟨K, KX, c⟩ := Y
    have hmg : mg ("law" : PySem.Str) = some (.ref fa) := by
      have e : (HandSHeadRun.topDef (OpenLaw.row PySem.Challenge.rw_onewarmth_k79_rules_that_leave).prog 53).name = ("law" : PySem.Str) := by kernel_rfl
      rw [← e]
      exact hmg0
    exact LW.facts (P := (PySem.Challenge.rw_onewarmth_k79_rules_that_leave).prog) (w := w) KX G hmg c
