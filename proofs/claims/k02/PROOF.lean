import PyProof.Rows.All
import Wide.All
import OpenK.AllK
import Wide.FinOn
import HandS.ForMost
import HandS.Exc
import HandS.TryOnly
import HandS.ExcOwn
import HandS.WordsExc
import HandS.CallSlots
import HandS.Flow
import HandS.IsInst
import HandS.TupAny
import HandS.Conv
import HandS.Deep
import HandS.Wide
import HandS.Style
import HandS.Ends
import PySem.Challenge.RW_characterroads_k02_cyclotomic_polynomial
set_option Elab.async false
set_option linter.all false
set_option maxRecDepth 1000000
/-! IPCore: values, store, the evaluator. -/
namespace IP
open PySem L2

/-- a value: tuples (and the script: a list that nobody writes) are values; lists, dicts, instances stand in the store -/
inductive U where
  | non | bl (b : Bool) | int (i : Int) | str (x : Str) | loc (l : Nat) | tup (us : List U) | scr (us : List U)
def U.isNon : U → Bool
  | .non => true
  | _ => false
/-- what stands in the store -/
inductive O where
  | lst (us : List U) | dK (kvs : List (Key × U)) | dT (kvs : List (List Key × U)) | ins (c : Nat) (fs : List (Str × U))
/-- the store: the newest first -/
structure Sto where
  n : Nat
  os : List O
def Sto.f (S : Sto) (l : Nat) : Option O := if l < S.n then S.os[S.n - 1 - l]? else none
def Sto.put (S : Sto) (l : Nat) (o : O) : Sto := ⟨S.n, S.os.set (S.n - 1 - l) o⟩
def Sto.new (S : Sto) (o : O) : Sto := ⟨S.n + 1, o :: S.os⟩
theorem Sto.f_new {S : Sto} {o : O} {k : Nat} : (S.new o).f k = if k = S.n then some o else S.f k := by
  unfold Sto.f Sto.new
  by_cases h : k = S.n
  · subst h
    simp
  · rw [if_neg h]
    by_cases h2 : k < S.n
    · have e : S.n + 1 - 1 - k = (S.n - 1 - k) + 1 := by omega
      simp only
      rw [if_pos (by omega), if_pos h2, e, List.getElem?_cons_succ]
    · simp only
      rw [if_neg (by omega), if_neg h2]
theorem Sto.f_put {S : Sto} {l : Nat} {o o' : O} (h : S.f l = some o') {k : Nat} : (S.put l o).f k = if k = l then some o else S.f k := by
  unfold Sto.f at h
  unfold Sto.f Sto.put
  split at h
  · rename_i hl
    by_cases hk : k = l
    · subst hk
      have q := (List.getElem?_eq_some_iff.mp h).1
      simp only [if_true]
      rw [if_pos hl, List.getElem?_set_self q]
    · rw [if_neg hk]
      by_cases h2 : k < S.n
      · simp only
        rw [if_pos h2, if_pos h2, List.getElem?_set_ne (by omega)]
      · simp only
        rw [if_neg h2, if_neg h2]
  · cases h
@[simp] theorem Sto.n_new {S : Sto} {o : O} : (S.new o).n = S.n + 1 := rfl
@[simp] theorem Sto.n_put {S : Sto} {l : Nat} {o : O} : (S.put l o).n = S.n := rfl
abbrev Fr := List (Option U)
structure Ex where
  c : Nat
  fs : List (Str × U)
inductive R where
  | ok (u : U) (S : Sto) | exc (x : Ex) (S : Sto) | bad
inductive Fl where
  | nx (σ : Fr) | rt (u : U) | bk (σ : Fr) | ct (σ : Fr) | ex (x : Ex) (σ : Fr)
inductive SR where
  | ok (f : Fl) (S : Sto) | bad
def R.bind (r : R) (f : U → Sto → R) : R := match r with
  | .ok u S => f u S
  | .exc x S => .exc x S
  | .bad => .bad
def R.bindS (r : R) (σ : Fr) (f : U → Sto → SR) : SR := match r with
  | .ok u S => f u S
  | .exc x S => .ok (.ex x σ) S
  | .bad => .bad
def SR.bind (r : SR) (f : Fr → Sto → SR) : SR := match r with
  | .ok (.nx σ) S => f σ S
  | .ok g S => .ok g S
  | .bad => .bad

inductive Bop where | add | sub | mul | fdiv | mod | pow
  deriving DecidableEq
inductive Cop where | lt | le | gt | ge | eq | ne | inn | nin
  deriving DecidableEq
inductive Bi where | len | abs | int | str | tuple | list | max2 | min2 | sum | any | bool
  deriving DecidableEq
inductive Bm where | append
  deriving DecidableEq
inductive IK where | seq | rng1 | rng2 | rng3 | enum | zip
  deriving DecidableEq
inductive Tg where | nm (i : Nat) | tp (is : List Nat)
/-- types for isinstance -/
inductive Ty where | int | bool | str | list | tuple | dict | cls (c : Nat)
  deriving DecidableEq
inductive CE where
  | var (i : Nat) | cst (u : U) | glob (i : Nat)
  | bin (o : Bop) (a b : CE) | neg (a : CE) | cmp (o : Cop) (a b : CE) | isN (a : CE) | notN (a : CE) | chn (o o' : Cop) (a b c : CE)
  | and (a b : CE) | or (a b : CE) | not (a : CE) | ife (c a b : CE)
  | nil | cons (a b : CE)
  | call (f : Nat) (a : CE) | bi (b : Bi) (a : CE) | lrg (a : CE) | bm (m : Bm) (o a : CE)
  | ix (a i : CE) | sl (kl kh : Bool) (a lo hi : CE) | tupc (a : CE) | lstc (a : CE)
  | lc (own : List Nat) (k : IK) (g : Tg) (src : CE) (hc : Bool) (cond body : CE)
  | isi (a : CE) (ts : List Ty)
inductive CS where
  | skip | seq (a b : CS) | set (i : Nat) (e : CE) | setT (is : List Nat) (e : CE) | par (i j : Nat) (a b : CE) | par3 (i j k : Nat) (a b c : CE) | sub (o i e : CE)
  | exp (e : CE) | ret (e : CE) | retN | ife (c : CE) (a b : CS) | whl (c : CE) (b : CS) | forr (k : IK) (g : Tg) (src : CE) (b : CS)
  | pass | brk | cont

/-! ### data -/
/-- the data of a value, to a depth -/
def datL (f : U → Option PyData) : List U → Option (List PyData)
  | [] => some []
  | u :: us => match f u, datL f us with
    | some d, some ds => some (d :: ds)
    | _, _ => none
def dat (S : Sto) : Nat → U → Option PyData
  | 0, _ => none
  | n + 1, u => match u with
    | .non => some .none
    | .bl b => some (.bool b)
    | .int i => some (.int i)
    | .str x => some (.str x)
    | .tup us => (datL (dat S n) us).map .tuple
    | .scr us => (datL (dat S n) us).map .list
    | .loc l => match S.f l with
      | some (.lst us) => (datL (dat S n) us).map .list
      | _ => none
def eqU (S : Sto) (u v : U) : Option Bool := match dat S 8 u, dat S 8 v with
  | some d, some e => if SeqAt.shaped d = true ∧ SeqAt.shaped e = true then some (PyData.eqv d e) else none
  | _, _ => none
/-- truth -/
def tru (S : Sto) : U → Option Bool
  | .non => some false
  | .bl b => some b
  | .int i => some (i != 0)
  | .str x => if x.length ≤ sizeLine then some ((x.length : Int) != 0) else none
  | .tup us => some (!us.isEmpty)
  | .scr us => some (!us.isEmpty)
  | .loc l => match S.f l with
    | some (.lst us) => some (!us.isEmpty)
    | some (.dK kvs) => some (!kvs.isEmpty)
    | _ => none
def lenU (S : Sto) : U → Option Nat
  | .str x => if x.length ≤ sizeLine then some x.length else none
  | .tup us => some us.length
  | .scr us => some us.length
  | .loc l => match S.f l with
    | some (.lst us) => some us.length
    | _ => none
  | _ => none
/-- a list's items -/
def items (S : Sto) (u : U) : Option (List U) := match u with
  | .scr us => some us
  | .loc l => match S.f l with
    | some (.lst us) => some us
    | _ => none
  | _ => none
def cutU (xs : List U) (lo hi : Option Int) : List U := (xs.drop (HT.sIx xs.length 0 lo)).take (HT.sIx xs.length xs.length hi - HT.sIx xs.length 0 lo)

/-! ### operators -/
def okO (o : Option U) (S : Sto) : R := match o with
  | some u => .ok u S
  | none => .bad
def okP (o : Option (U × Sto)) : R := match o with
  | some (u, S) => .ok u S
  | none => .bad
def mulOk (a b : Int) : Bool := !(decide (Builtin.Int.intBits a > shortFactorBits) && decide (Builtin.Int.intBits b > shortFactorBits) && Builtin.Int.intTooBig (Builtin.Int.intBits a + Builtin.Int.intBits b))
theorem mulOk_ok {a b : Int} (h : mulOk a b = true) : IntMulOk a b := by
  unfold IntMulOk
  unfold mulOk at h
  intro z
  rw [z] at h
  cases h
def bop (o : Bop) (u v : U) (S : Sto) : Option (U × Sto) := match o, u, v with
  | .add, .int i, .int j => some ((.int (i + j)), S)
  | .sub, .int i, .int j => some ((.int (i - j)), S)
  | .mul, .int i, .int j => if mulOk i j then some ((.int (i * j)), S) else none
  | .fdiv, .int i, .int j => if j ≠ 0 ∧ Builtin.divisionGoesByPylong i j = false then some ((.int (i.fdiv j)), S) else none
  | .mod, .int i, .int j => if j ≠ 0 then some ((.int (i.fmod j)), S) else none
  | .pow, .int i, .int j => if 0 ≤ j ∧ j ≤ 1000000 ∧ i.natAbs < 2 ^ 64 then some ((.int (i ^ j.toNat)), S) else none
  | .add, .str x, .str y => if x.length + y.length ≤ sizeLine then some ((.str (x ++ y)), S) else none
  | .add, .tup xs, .tup ys => if xs.length + ys.length ≤ sizeLine then some ((.tup (xs ++ ys)), S) else none
  | .add, .loc l, .loc m => match S.f l, S.f m with
    | some (.lst xs), some (.lst ys) => if xs.length + ys.length ≤ sizeLine then some (.loc S.n, S.new (.lst (xs ++ ys))) else none
    | _, _ => none
  | _, _, _ => none
/-- in -/
def inU (S : Sto) (u v : U) : Option Bool := match items S v with
  | some us => match dat S 8 u, datL (dat S 8) us with
    | some d, some ds => if SeqAt.shaped d = true ∧ SeqAt.shaped (.list ds) = true then some (ds.any fun z => PyData.eqv z d) else none
    | _, _ => none
  | none => none
def cop (o : Cop) (u v : U) (S : Sto) : Option Bool := match o, u, v with
  | .lt, .int i, .int j => some (decide (i < j))
  | .le, .int i, .int j => some (decide (i ≤ j))
  | .gt, .int i, .int j => some (decide (j < i))
  | .ge, .int i, .int j => some (decide (j ≤ i))
  | .eq, u, v => eqU S u v
  | .ne, u, v => (eqU S u v).map (!·)
  | .inn, u, v => inU S u v
  | .nin, u, v => (inU S u v).map (!·)
  | _, _, _ => none
def rgU (n : Nat) (a : Int) : List U := (List.range n).map fun i => U.int (a + (i : Nat))
/-- all are ints; all are bools -/
def intsU : List U → Option (List Int)
  | [] => some []
  | .int i :: us => (intsU us).map (i :: ·)
  | _ :: _ => none
def boolsU : List U → Option (List Bool)
  | [] => some []
  | .bl i :: us => (boolsU us).map (i :: ·)
  | _ :: _ => none
def biF (b : Bi) (us : List U) (S : Sto) : Option (U × Sto) := match b, us with
  | .len, [u] => ((lenU S u).map fun n => .int n).map (·, S)
  | .abs, [.int i] => some ((.int (if i < 0 then -i else i)), S)
  | .int, [.int i] => some ((.int i), S)
  | .int, [.bl k] => some ((.int (if k then 1 else 0)), S)
  | .bool, [.int i] => some ((.bl (i != 0)), S)
  | .bool, [.bl k] => some ((.bl k), S)
  | .str, [.int i] => if i.natAbs.log2 < 1920 then some ((.str (toString i)), S) else none
  | .tuple, [.tup us] => some ((.tup us), S)
  | .tuple, [u] => match items S u with
    | some us => some ((.tup us), S)
    | none => none
  | .list, [.tup us] => some (.loc S.n, S.new (.lst us))
  | .list, [u] => match items S u with
    | some us => some (.loc S.n, S.new (.lst us))
    | none => none
  | .max2, [.int i, .int j] => some ((.int (if j > i then j else i)), S)
  | .min2, [.int i, .int j] => some ((.int (if j < i then j else i)), S)
  | .sum, [u] => match (items S u).bind intsU with
    | some ns => some ((.int ns.sum), S)
    | none => none
  | .any, [u] => match (items S u).bind boolsU with
    | some bs => some ((.bl (bs.any id)), S)
    | none => none
  | _, _ => none
def bmf (m : Bm) (o : U) (us : List U) (S : Sto) : Option (U × Sto) := match m, o, us with
  | .append, .loc l, [u] => match S.f l with
    | some (.lst xs) => if xs.length < sizeLine then some (.non, S.put l (.lst (xs ++ [u]))) else none
    | _ => none
  | _, _, _ => none
/-- a method's receiver is of its type -/
def bmTy (m : Bm) (u : U) (S : Sto) : Bool := match m, u with
  | .append, .loc l => (match S.f l with | some (.lst _) => true | _ => false)
  | _, _ => false
/-- an item by its place, as atI tells it -/
def getU : List U → Nat → Option U
  | [], _ => none
  | u :: _, 0 => some u
  | _ :: us, n + 1 => getU us n
def setU : List U → Nat → U → Option (List U)
  | [], _, _ => none
  | _ :: us, 0, w => some (w :: us)
  | u :: us, n + 1, w => match setU us n w with
    | some r => some (u :: r)
    | none => none
def atU (us : List U) (i : Int) : Option U := match i with
  | .ofNat k => getU us k
  | .negSucc _ => atI us i
def putU (us : List U) (i : Int) (w : U) : Option (List U) := match i with
  | .ofNat k => setU us k w
  | .negSucc _ => (ixN us.length i).map fun j => us.set j w
theorem getU_eq : ∀ (us : List U) (k : Nat), getU us k = us[k]?
  | [], _ => rfl
  | _ :: _, 0 => rfl
  | _ :: us, n + 1 => by rw [getU, getU_eq us n]; rfl
theorem setU_eq : ∀ (us : List U) (k : Nat) (w : U), setU us k w = if k < us.length then some (us.set k w) else none
  | [], _, _ => rfl
  | _ :: _, 0, _ => rfl
  | u :: us, n + 1, w => by
    rw [setU, setU_eq us n w]
    by_cases h : n < us.length
    · rw [if_pos h, if_pos (show n + 1 < (u :: us).length from Nat.succ_lt_succ h)]; rfl
    · rw [if_neg h, if_neg (show ¬ n + 1 < (u :: us).length from fun z => h (Nat.lt_of_succ_lt_succ z))]
theorem ixN_nat {n k : Nat} : ixN n (Int.ofNat k) = if k < n then some k else none := by
  show ixN n (k : Int) = _
  unfold ixN
  by_cases h : k < n
  · rw [if_pos (show (0 : Int) ≤ k by omega), if_pos (show (k : Int) < (n : Int) by omega), if_pos h]; rfl
  · rw [if_pos (show (0 : Int) ≤ k by omega), if_neg (show ¬ (k : Int) < (n : Int) by omega), if_neg h]
theorem atU_eq (us : List U) (i : Int) : atU us i = atI us i := by
  cases i with
  | negSucc k => rfl
  | ofNat k =>
    show getU us k = (ixN us.length (Int.ofNat k)).bind fun j => us[j]?
    rw [getU_eq, ixN_nat]
    by_cases h : k < us.length
    · rw [if_pos h]; rfl
    · rw [if_neg h, List.getElem?_eq_none (by omega)]; rfl
theorem putU_eq (us : List U) (i : Int) (w : U) : putU us i w = (ixN us.length i).map fun j => us.set j w := by
  cases i with
  | negSucc k => rfl
  | ofNat k =>
    show setU us k w = _
    rw [setU_eq, ixN_nat]
    by_cases h : k < us.length
    · rw [if_pos h, if_pos h]; rfl
    · rw [if_neg h, if_neg h]; rfl
def ixU (u v : U) (S : Sto) : Option U := match u, v with
  | .tup us, .int i => atU us i
  | .str z, .int i => if z.length ≤ sizeLine then (atI z.cps.toList i).map fun c => .str ⟨#[c]⟩ else none
  | u, .int i => (items S u).bind fun us => atU us i
  | _, _ => none
def slU (u : U) (lo hi : Option Int) (S : Sto) : Option (U × Sto) := match u with
  | .tup us => some ((.tup (cutU us lo hi)), S)
  | u => match items S u with
    | some us => some (.loc S.n, S.new (.lst (cutU us lo hi)))
    | none => none
/-- the built-in types of values -/
inductive TN where | non | bool | int | str | list | tuple | dict
  deriving DecidableEq
def tnU (S : Sto) (u : U) : Option TN := match u with
  | .non => some .non
  | .bl _ => some .bool
  | .int _ => some .int
  | .str _ => some .str
  | .tup _ => some .tuple
  | .scr _ => some .list
  | .loc l => match S.f l with
    | some (.lst _) => some .list
    | some (.dK _) => some .dict
    | some (.dT _) => some .dict
    | _ => none
def tnTy (a : TN) (t : Ty) : Option Bool := match t with
  | .int => some (a == .int || a == .bool)
  | .bool => some (a == .bool)
  | .str => some (a == .str)
  | .list => some (a == .list)
  | .tuple => some (a == .tuple)
  | .dict => some (a == .dict)
  | .cls _ => none
def tyU (S : Sto) (u : U) (t : Ty) : Option Bool := match tnU S u with
  | some a => tnTy a t
  | none => none
def isiU (S : Sto) (u : U) : List Ty → Option Bool
  | [] => some false
  | t :: ts => match tyU S u t with
    | some true => some true
    | some false => isiU S u ts
    | none => none
/-! ### what a for walks -/
inductive ItS where
  | lst (u : U) | tup (us : List U) | rng (lo : Int) (n : Nat) | rngc (lo c : Int) (n : Nat) | str (x : Str) | enum (u : U) | zipL (u v : U)
def small62 (i : Int) : Bool := decide (-(2 ^ 62) ≤ i ∧ i < 2 ^ 62)
def itNew (k : IK) (us : List U) (S : Sto) : Option ItS := match k, us with
  | .seq, [.tup us] => some (.tup us)
  | .seq, [.str x] => some (.str x)
  | .seq, [u] => (items S u).map fun _ => .lst u
  | .rng1, [.int j] => if small62 j then some (.rng 0 j.toNat) else none
  | .rng2, [.int i, .int j] => if small62 i ∧ small62 j then some (.rng i (j - i).toNat) else none
  | .rng3, [.int i, .int j, .int c] => if c ≠ 0 ∧ c.natAbs < 1073741824 ∧ Builtin.Range.small i j c = true ∧ 0 ≤ Builtin.Range.rangeSize i j c then some (.rngc i c (Builtin.Range.rangeSize i j c).toNat) else none
  | .enum, [u] => (items S u).map fun _ => .enum u
  | .zip, [l, m] => match items S l, items S m with | some xs, some ys => if xs.length = ys.length then some (.zipL l m) else none | _, _ => none
  | _, _ => none
/-- how many turns as it stands now -/
def ItS.len (J : ItS) (S : Sto) : Option Nat := match J with
  | .lst l => (items S l).map (·.length)
  | .tup us => some us.length
  | .rng _ n => some n
  | .rngc _ _ n => some n
  | .str x => some x.cps.size
  | .enum l => (items S l).map (·.length)
  | .zipL l m => match items S l, items S m with | some xs, some ys => if xs.length = ys.length then some xs.length else none | _, _ => none
def ItS.at (J : ItS) (i : Nat) (S : Sto) : Option U := match J with
  | .lst l => (items S l).bind (·[i]?)
  | .tup us => us[i]?
  | .rng lo n => if i < n then some (.int (lo + (i : Nat))) else none
  | .rngc lo c n => if i < n then some (.int (lo + (i : Nat) * c)) else none
  | .str x => (x.cps[i]?).map fun c => .str ⟨#[c]⟩
  | .enum l => ((items S l).bind (·[i]?)).map fun u => .tup [.int (i : Nat), u]
  | .zipL l m => match (items S l).bind (·[i]?), (items S m).bind (·[i]?) with | some u, some v => some (.tup [u, v]) | _, _ => none
/-- a target takes a value -/
def setN (σ : Fr) (i : Nat) (u : U) : Fr := σ.set i (some u)
def setNs : List Nat → List U → Fr → Option Fr
  | [], [], σ => some σ
  | i :: is, u :: us, σ => setNs is us (setN σ i u)
  | _, _, _ => none
def Tg.put (g : Tg) (u : U) (σ : Fr) : Option Fr := match g with
  | .nm i => some (setN σ i u)
  | .tp is => match u with
    | .tup us => setNs is us σ
    | _ => none
def wipeU (σ : Fr) : List Nat → Fr
  | [] => σ
  | v :: vs => (wipeU σ vs).set v none

/-! ### the evaluator -/
/-- the turns of a list comprehension over D, m of them left, from turn i on; σ: the frame with own names wiped -/
def lcF (J : ItS) (g : Tg) (cond : Fr → Sto → R) (body : Fr → Sto → R) (σ : Fr) (D : Nat) : Nat → Nat → Sto → R
  | 0, i, S => if J.len S = some i then .ok (.loc D) S else .bad
  | m + 1, i, S => match J.at i S with
    | none => .bad
    | some u => match g.put u σ with
      | none => .bad
      | some σ1 => match cond σ1 S with
        | .ok c S1 => match tru S1 c with
          | some true => match body σ1 S1 with
            | .ok v S2 => match S2.f D with
              | some (.lst acc) => if acc.length < sizeLine then lcF J g cond body σ D m (i + 1) (S2.put D (.lst (acc ++ [v]))) else .bad
              | _ => .bad
            | _ => .bad
          | some false => lcF J g cond body σ D m (i + 1) S1
          | none => .bad
        | _ => .bad
/-- a slice's part -/
def partB (k : Bool) (r : R) (S : Sto) (f : Option Int → Sto → R) : R := if k = true then r.bind fun v S => match v with
    | .int i => f (some i) S
    | _ => .bad
  else f none S
def ev (G : Nat → Option U) (call : Nat → List U → Sto → R) : CE → Fr → Sto → R
  | .var i, σ, S => match σ[i]? with
    | some (some u) => .ok u S
    | _ => .bad
  | .cst u, _, S => .ok u S
  | .glob i, _, S => okO (G i) S
  | .bin o a b, σ, S => (ev G call a σ S).bind fun u S => (ev G call b σ S).bind fun v S => okP (bop o u v S)
  | .neg a, σ, S => (ev G call a σ S).bind fun u S => match u with
    | .int i => .ok (.int (-i)) S
    | _ => .bad
  | .cmp o a b, σ, S => (ev G call a σ S).bind fun u S => (ev G call b σ S).bind fun v S => okO ((cop o u v S).map .bl) S
  | .isN a, σ, S => (ev G call a σ S).bind fun u S => .ok (.bl u.isNon) S
  | .notN a, σ, S => (ev G call a σ S).bind fun u S => .ok (.bl (!u.isNon)) S
  | .chn o o' a b c, σ, S => (ev G call a σ S).bind fun u S => (ev G call b σ S).bind fun v S => match cop o u v S with
    | some true => (ev G call c σ S).bind fun w S => okO ((cop o' v w S).map .bl) S
    | some false => .ok (.bl false) S
    | none => .bad
  | .and a b, σ, S => (ev G call a σ S).bind fun u S => match tru S u with
    | some true => ev G call b σ S
    | some false => .ok u S
    | none => .bad
  | .or a b, σ, S => (ev G call a σ S).bind fun u S => match tru S u with
    | some true => .ok u S
    | some false => ev G call b σ S
    | none => .bad
  | .not a, σ, S => (ev G call a σ S).bind fun u S => okO ((tru S u).map fun k => .bl (!k)) S
  | .ife c a b, σ, S => (ev G call c σ S).bind fun u S => match tru S u with
    | some true => ev G call a σ S
    | some false => ev G call b σ S
    | none => .bad
  | .nil, _, S => .ok (.tup []) S
  | .cons a b, σ, S => (ev G call a σ S).bind fun u S => (ev G call b σ S).bind fun v S => match v with
    | .tup us => .ok (.tup (u :: us)) S
    | _ => .bad
  | .call f a, σ, S => (ev G call a σ S).bind fun v S => match v with
    | .tup us => call f us S
    | _ => .bad
  | .bi b a, σ, S => (ev G call a σ S).bind fun v S => match v with
    | .tup us => okP (biF b us S)
    | _ => .bad
  | .lrg a, σ, S => (ev G call a σ S).bind fun v S => match v with
    | .int n => if 0 ≤ n ∧ n ≤ 16777216 then .ok (.loc S.n) (S.new (.lst (rgU n.toNat 0))) else .bad
    | _ => .bad
  | .bm m o a, σ, S => (ev G call o σ S).bind fun u S => if bmTy m u S = true then (ev G call a σ S).bind fun v S => match v with
    | .tup us => okP (bmf m u us S)
    | _ => .bad
    else .bad
  | .ix a i, σ, S => (ev G call a σ S).bind fun u S => (ev G call i σ S).bind fun v S => okO (ixU u v S) S
  | .sl kl kh a lo hi, σ, S => (ev G call a σ S).bind fun u S => partB kl (ev G call lo σ S) S fun l S => partB kh (ev G call hi σ S) S fun h S => okP (slU u l h S)
  | .tupc a, σ, S => (ev G call a σ S).bind fun v S => match v with
    | .tup us => if us.length ≤ sizeLine then .ok (.tup us) S else .bad
    | _ => .bad
  | .lstc a, σ, S => (ev G call a σ S).bind fun v S => match v with
    | .tup us => if us.length ≤ sizeLine then .ok (.loc S.n) (S.new (.lst us)) else .bad
    | _ => .bad
  | .lc own k g src hc cond body, σ, S => (ev G call src σ S).bind fun v S => match v with
    | .tup us => match itNew k us S with
      | none => .bad
      | some J => match J.len S with
        | none => .bad
        | some m => lcF J g (if hc then ev G call cond else fun _ S => .ok (.bl true) S) (ev G call body) (wipeU σ own) S.n m 0 (S.new (.lst []))
    | _ => .bad
  | .isi a ts, σ, S => (ev G call a σ S).bind fun u S => okO ((isiU S u ts).map .bl) S

def whileF (c : Fr → Sto → R) (b : Fr → Sto → SR) : Nat → Fr → Sto → SR
  | 0, _, _ => .bad
  | n + 1, σ, S => (c σ S).bindS σ fun u S => match tru S u with
    | some true => match b σ S with
      | .ok (.nx σ1) S1 => whileF c b n σ1 S1
      | .ok (.ct σ1) S1 => whileF c b n σ1 S1
      | .ok (.bk σ1) S1 => .ok (.nx σ1) S1
      | r => r
    | some false => .ok (.nx σ) S
    | none => .bad
def forF (J : ItS) (g : Tg) (b : Fr → Sto → SR) : Nat → Nat → Fr → Sto → SR
  | 0, i, σ, S => if J.len S = some i then .ok (.nx σ) S else .bad
  | m + 1, i, σ, S => match J.at i S with
    | none => .bad
    | some u => match g.put u σ with
      | none => .bad
      | some σ1 => match b σ1 S with
        | .ok (.nx σ2) S2 => forF J g b m (i + 1) σ2 S2
        | .ok (.ct σ2) S2 => forF J g b m (i + 1) σ2 S2
        | .ok (.bk σ2) S2 => .ok (.nx σ2) S2
        | r => r
def subU (u v w : U) (S : Sto) : Option Sto := match u, v with
  | .loc l, .int k => match S.f l with
    | some (.lst xs) => (putU xs k w).map fun ys => S.put l (.lst ys)
    | _ => none
  | _, _ => none
def ex (G : Nat → Option U) (call : Nat → List U → Sto → R) (fu : Nat) : CS → Fr → Sto → SR
  | .skip, σ, S => .ok (.nx σ) S
  | .pass, σ, S => .ok (.nx σ) S
  | .brk, σ, S => .ok (.bk σ) S
  | .cont, σ, S => .ok (.ct σ) S
  | .seq a b, σ, S => (ex G call fu a σ S).bind fun σ S => ex G call fu b σ S
  | .set i e, σ, S => (ev G call e σ S).bindS σ fun u S => .ok (.nx (setN σ i u)) S
  | .setT is e, σ, S => (ev G call e σ S).bindS σ fun u S => match (Tg.tp is).put u σ with
    | some σ1 => .ok (.nx σ1) S
    | none => .bad
  | .par i j a b, σ, S => (ev G call a σ S).bindS σ fun u S => (ev G call b σ S).bindS σ fun v S => .ok (.nx (setN (setN σ i u) j v)) S
  | .par3 i j k a b c, σ, S => (ev G call a σ S).bindS σ fun u S => (ev G call b σ S).bindS σ fun v S => (ev G call c σ S).bindS σ fun w S => .ok (.nx (setN (setN (setN σ i u) j v) k w)) S
  | .sub o i e, σ, S => (ev G call e σ S).bindS σ fun w S => (ev G call o σ S).bindS σ fun u S => (ev G call i σ S).bindS σ fun v S => match subU u v w S with
    | some S1 => .ok (.nx σ) S1
    | none => .bad
  | .exp e, σ, S => (ev G call e σ S).bindS σ fun _ S => .ok (.nx σ) S
  | .ret e, σ, S => (ev G call e σ S).bindS σ fun u S => .ok (.rt u) S
  | .retN, _, S => .ok (.rt .non) S
  | .ife c a b, σ, S => (ev G call c σ S).bindS σ fun u S => match tru S u with
    | some true => ex G call fu a σ S
    | some false => ex G call fu b σ S
    | none => .bad
  | .whl c b, σ, S => whileF (ev G call c) (ex G call fu b) fu σ S
  | .forr k g src b, σ, S => (ev G call src σ S).bindS σ fun v S => match v with
    | .tup us => match itNew k us S with
      | none => .bad
      | some J => match J.len S with
        | none => .bad
        | some m => forF J g (ex G call fu b) m 0 σ S
    | _ => .bad
end IP
/-! IPRep: the store against the abstract heap. -/
namespace IP
open PySem L2

/-- a list that nobody writes -/
def SqF (K : PySem.W.Frag) (H : Hp) (a : Addr) (xs : List V) : Prop := (∃ o, H a = some (.frz o (.lst xs))) ∨
    ∃ (o : Obj) (its : Array Value) (n : Nat), K.lookup a = some o ∧ o.cls = .type "list" ∧ o.dict = none ∧ o.data = .seq its n ∧ its.size ≤ sizeLine ∧ Vals xs its.toList
theorem SqF.sq {K : PySem.W.Frag} {H : Hp} {a : Addr} {xs : List V} (h : SqF K H a xs) : SqL K H a xs := by
  rcases h with h | h
  · exact .inl (.inr h)
  · exact .inr h
mutual
inductive RU (K : PySem.W.Frag) (n : Nat) (ρ : Nat → Addr) (H : Hp) : U → V → Prop
  | non : RU K n ρ H .non .non
  | bl (b : Bool) : RU K n ρ H (.bl b) (.bl b)
  | int (i : Int) : RU K n ρ H (.int i) (.int i)
  | str (x : Str) : RU K n ρ H (.str x) (.str x)
  | loc (l : Nat) : l < n → RU K n ρ H (.loc l) (.ref (ρ l))
  | tup {a : Addr} {us : List U} {vs : List V} : SqT K H a vs → RUs K n ρ H us vs → RU K n ρ H (.tup us) (.ref a)
  | scr {a : Addr} {us : List U} {vs : List V} : SqF K H a vs → RUs K n ρ H us vs → RU K n ρ H (.scr us) (.ref a)
inductive RUs (K : PySem.W.Frag) (n : Nat) (ρ : Nat → Addr) (H : Hp) : List U → List V → Prop
  | nil : RUs K n ρ H [] []
  | cons {u : U} {v : V} {us : List U} {vs : List V} : RU K n ρ H u v → RUs K n ρ H us vs → RUs K n ρ H (u :: us) (v :: vs)
end
/-- what has come about: places stay, tuples stay -/
structure Nxt (K : PySem.W.Frag) (n : Nat) (ρ : Nat → Addr) (H : Hp) (n' : Nat) (ρ' : Nat → Addr) (H' : Hp) : Prop where
  le : n ≤ n'
  eq : ∀ l, l < n → ρ' l = ρ l
  tup : ∀ a xs, SqT K H a xs → SqT K H' a xs
  scr : ∀ a xs, SqF K H a xs → SqF K H' a xs
theorem Nxt.refl {K : PySem.W.Frag} {n : Nat} {ρ : Nat → Addr} {H : Hp} : Nxt K n ρ H n ρ H := ⟨Nat.le_refl _, fun _ _ => rfl, fun _ _ h => h, fun _ _ h => h⟩
theorem Nxt.trans {K : PySem.W.Frag} {n n1 n2 : Nat} {ρ ρ1 ρ2 : Nat → Addr} {H H1 H2 : Hp} (a : Nxt K n ρ H n1 ρ1 H1) (b : Nxt K n1 ρ1 H1 n2 ρ2 H2) : Nxt K n ρ H n2 ρ2 H2 :=
  ⟨Nat.le_trans a.le b.le, fun l h => (b.eq l (Nat.lt_of_lt_of_le h a.le)).trans (a.eq l h), fun c xs h => b.tup c xs (a.tup c xs h), fun c xs h => b.scr c xs (a.scr c xs h)⟩
section
variable {K : PySem.W.Frag} {n n' : Nat} {ρ ρ' : Nat → Addr} {H H' : Hp}
mutual
theorem RU.mono (x : Nxt K n ρ H n' ρ' H') : ∀ {u : U} {v : V}, RU K n ρ H u v → RU K n' ρ' H' u v
  | _, _, .non => .non
  | _, _, .bl b => .bl b
  | _, _, .int i => .int i
  | _, _, .str s => .str s
  | _, _, .loc l h => by
    have e := x.eq l h
    rw [← e]
    exact .loc l (Nat.lt_of_lt_of_le h x.le)
  | _, _, .tup h t => .tup (x.tup _ _ h) (RUs.mono x t)
  | _, _, .scr h t => .scr (x.scr _ _ h) (RUs.mono x t)
theorem RUs.mono (x : Nxt K n ρ H n' ρ' H') : ∀ {us : List U} {vs : List V}, RUs K n ρ H us vs → RUs K n' ρ' H' us vs
  | _, _, .nil => .nil
  | _, _, .cons h t => .cons (RU.mono x h) (RUs.mono x t)
end
theorem RUs.length : ∀ {us : List U} {vs : List V}, RUs K n ρ H us vs → us.length = vs.length
  | _, _, .nil => rfl
  | _, _, .cons _ t => by simp [RUs.length t]
theorem RUs.append : ∀ {us us' : List U} {vs vs' : List V}, RUs K n ρ H us vs → RUs K n ρ H us' vs' → RUs K n ρ H (us ++ us') (vs ++ vs')
  | _, _, _, _, .nil, s => s
  | _, _, _, _, .cons r t, s => .cons r (RUs.append t s)
theorem RUs.get : ∀ {us : List U} {vs : List V} {i : Nat} {u : U}, RUs K n ρ H us vs → us[i]? = some u → ∃ v, vs[i]? = some v ∧ RU K n ρ H u v
  | _, _, _, _, .nil, e => by simp at e
  | _, _, 0, _, .cons r _, e => by simp at e; subst e; exact ⟨_, rfl, r⟩
  | _, _, i + 1, u, .cons _ t, e => by
    obtain ⟨v, h1, h2⟩ := RUs.get (i := i) (u := u) t (by simpa using e)
    exact ⟨v, by simpa using h1, h2⟩
theorem RUs.set {u : U} {v : V} (r : RU K n ρ H u v) : ∀ {us : List U} {vs : List V} (i : Nat), RUs K n ρ H us vs → RUs K n ρ H (us.set i u) (vs.set i v)
  | _, _, _, .nil => .nil
  | _, _, 0, .cons _ t => .cons r t
  | _, _, i + 1, .cons q t => .cons q (RUs.set r i t)
theorem RUs.take : ∀ {us : List U} {vs : List V} (k : Nat), RUs K n ρ H us vs → RUs K n ρ H (us.take k) (vs.take k)
  | _, _, 0, _ => .nil
  | _, _, _ + 1, .nil => .nil
  | _, _, k + 1, .cons r t => .cons r (RUs.take k t)
theorem RUs.drop : ∀ {us : List U} {vs : List V} (k : Nat), RUs K n ρ H us vs → RUs K n ρ H (us.drop k) (vs.drop k)
  | _, _, 0, r => r
  | _, _, _ + 1, .nil => .nil
  | _, _, k + 1, .cons _ t => RUs.drop k t
theorem RUs.cut {us : List U} {vs : List V} (r : RUs K n ρ H us vs) (lo hi : Option Int) : RUs K n ρ H (cutU us lo hi) (cutV vs lo hi) := by
  unfold cutU cutV
  rw [r.length]
  exact (r.drop _).take _
theorem RUs.atI {us : List U} {vs : List V} {i : Int} {u : U} (r : RUs K n ρ H us vs) (h : L2.atI us i = some u) : ∃ v, L2.atI vs i = some v ∧ RU K n ρ H u v := by
  unfold L2.atI at h ⊢
  rw [← r.length]
  cases e : ixN us.length i with
  | none => rw [e] at h; cases h
  | some j =>
    rw [e] at h
    exact r.get h
theorem RUs.of_ints : ∀ {us : List U} {vs : List V} {ns : List Int}, RUs K n ρ H us vs → intsU us = some ns → vs = ns.map V.int
  | _, _, _, .nil, e => by simp [intsU] at e; subst e; rfl
  | _, _, _, .cons r t, e => by
    cases r <;> simp [intsU] at e
    obtain ⟨ms, h1, rfl⟩ := e
    rw [RUs.of_ints t h1]; rfl
theorem RUs.of_bools : ∀ {us : List U} {vs : List V} {ns : List Bool}, RUs K n ρ H us vs → boolsU us = some ns → vs = ns.map V.bl
  | _, _, _, .nil, e => by simp [boolsU] at e; subst e; rfl
  | _, _, _, .cons r t, e => by
    cases r <;> simp [boolsU] at e
    obtain ⟨ms, h1, rfl⟩ := e
    rw [RUs.of_bools t h1]; rfl
theorem RUs.of_rg : ∀ (m : Nat) (a : Int), RUs K n ρ H (rgU m a) ((List.range m).map fun i => V.int (a + (i : Nat)))
  | m, a => by
    unfold rgU
    induction List.range m with
    | nil => exact .nil
    | cons i l ih => exact .cons (.int _) ih
/-! ### what stands at a place -/
inductive RKs (K : PySem.W.Frag) (n : Nat) (ρ : Nat → Addr) (H : Hp) {κ : Type} : List (κ × U) → List (κ × V) → Prop
  | nil : RKs K n ρ H [] []
  | cons {k : κ} {u : U} {v : V} {us : List (κ × U)} {vs : List (κ × V)} : RU K n ρ H u v → RKs K n ρ H us vs → RKs K n ρ H ((k, u) :: us) ((k, v) :: vs)
theorem RKs.mono {κ : Type} (x : Nxt K n ρ H n' ρ' H') : ∀ {us : List (κ × U)} {vs : List (κ × V)}, RKs K n ρ H us vs → RKs K n' ρ' H' us vs
  | _, _, .nil => .nil
  | _, _, .cons h t => .cons (RU.mono x h) (RKs.mono x t)
end
/-- cad: the classes' addresses -/
def OR (K : PySem.W.Frag) (cad : Nat → Addr) (n : Nat) (ρ : Nat → Addr) (H : Hp) (a : Addr) : O → Prop
  | .lst us => ∃ vs, RUs K n ρ H us vs ∧ H a = some (.lst vs)
  | .dK us => ∃ vs, RKs K n ρ H us vs ∧ H a = some (.dK vs)
  | .dT us => ∃ vs, RKs K n ρ H us vs ∧ H a = some (.dT vs)
  | .ins c us => ∃ dx vs, RKs K n ρ H us vs ∧ H a = some (.ins (cad c) dx vs)
structure Rep (K : PySem.W.Frag) (cad : Nat → Addr) (S : Sto) (ρ : Nat → Addr) (H : Hp) : Prop where
  lt : ∀ l o, S.f l = some o → l < S.n
  full : ∀ l, l < S.n → ∃ o, S.f l = some o
  inj : ∀ l m, l < S.n → m < S.n → ρ l = ρ m → l = m
  at_ : ∀ l o, S.f l = some o → OR K cad S.n ρ H (ρ l) o
/-- what is written is no tuple, no script, no dict of an instance -/
def Wr : HO → Prop
  | .lst _ => True
  | .dK _ => True
  | .dT _ => True
  | .ins _ _ _ => True
  | _ => False
section
variable {K : PySem.W.Frag} {cad : Nat → Addr} {S : Sto} {ρ : Nat → Addr} {H : Hp}
theorem sqT_upd {p a : Addr} {o o' : HO} {xs : List V} (h : SqT K H a xs) (hp : H p = some o) (w : Wr o) : SqT K (upd H p o') a xs := by
  have key : ∀ u, H a = some u → ¬ Wr u → a ≠ p := fun u e nw z => by subst z; rw [hp] at e; cases e; exact nw w
  rcases h with (h | ⟨ob, h⟩) | h
  · exact .inl (.inl (by rw [upd_ne (key _ h fun z => z)]; exact h))
  · exact .inl (.inr ⟨ob, by rw [upd_ne (key _ h fun z => z)]; exact h⟩)
  · exact .inr h
theorem sqT_new {p a : Addr} {o' : HO} {xs : List V} (h : SqT K H a xs) (hp : H p = none) : SqT K (upd H p o') a xs := by
  rcases h with (h | ⟨ob, h⟩) | h
  · exact .inl (.inl (by rw [upd_ne (ne_of_none h hp)]; exact h))
  · exact .inl (.inr ⟨ob, by rw [upd_ne (ne_of_none h hp)]; exact h⟩)
  · exact .inr h
theorem sqF_upd {p a : Addr} {o o' : HO} {xs : List V} (h : SqF K H a xs) (hp : H p = some o) (w : Wr o) : SqF K (upd H p o') a xs := by
  rcases h with ⟨ob, h⟩ | h
  · refine .inl ⟨ob, ?_⟩
    rw [upd_ne]
    · exact h
    · intro z; subst z; rw [hp] at h; cases h; exact w
  · exact .inr h
theorem sqF_new {p a : Addr} {o' : HO} {xs : List V} (h : SqF K H a xs) (hp : H p = none) : SqF K (upd H p o') a xs := by
  rcases h with ⟨ob, h⟩ | h
  · exact .inl ⟨ob, by rw [upd_ne (ne_of_none h hp)]; exact h⟩
  · exact .inr h
theorem nxt_upd {n : Nat} {p : Addr} {o o' : HO} (hp : H p = some o) (w : Wr o) : Nxt K n ρ H n ρ (upd H p o') := ⟨Nat.le_refl _, fun _ _ => rfl, fun _ _ h => sqT_upd h hp w, fun _ _ h => sqF_upd h hp w⟩
theorem nxt_laid {n : Nat} {p : Addr} {o' : HO} (hp : H p = none) : Nxt K n ρ H n ρ (upd H p o') := ⟨Nat.le_refl _, fun _ _ => rfl, fun _ _ h => sqT_new h hp, fun _ _ h => sqF_new h hp⟩
/-- the places, one more -/
def ext (ρ : Nat → Addr) (n : Nat) (p : Addr) : Nat → Addr := fun l => if l = n then p else ρ l
theorem ext_same {n : Nat} {p : Addr} : ext ρ n p n = p := if_pos rfl
theorem ext_lt {n l : Nat} {p : Addr} (h : l < n) : ext ρ n p l = ρ l := if_neg (Nat.ne_of_lt h)
theorem nxt_new {n : Nat} {p : Addr} {o' : HO} (hp : H p = none) : Nxt K n ρ H (n + 1) (ext ρ n p) (upd H p o') := ⟨Nat.le_succ _, fun _ h => ext_lt h, fun _ _ h => sqT_new h hp, fun _ _ h => sqF_new h hp⟩
theorem OR.mono {n n' : Nat} {ρ' : Nat → Addr} {H' : Hp} {a : Addr} {o : O} (x : Nxt K n ρ H n' ρ' H') (e : H' a = H a) (h : OR K cad n ρ H a o) : OR K cad n' ρ' H' a o := by
  cases o with
  | lst us => obtain ⟨vs, r, q⟩ := h; exact ⟨vs, r.mono x, e.trans q⟩
  | dK us => obtain ⟨vs, r, q⟩ := h; exact ⟨vs, r.mono x, e.trans q⟩
  | dT us => obtain ⟨vs, r, q⟩ := h; exact ⟨vs, r.mono x, e.trans q⟩
  | ins c us => obtain ⟨dx, vs, r, q⟩ := h; exact ⟨dx, vs, r.mono x, e.trans q⟩
theorem OR.some {n : Nat} {a : Addr} {o : O} (h : OR K cad n ρ H a o) : ∃ u, H a = some u ∧ Wr u := by
  cases o with
  | lst us => obtain ⟨vs, r, q⟩ := h; exact ⟨_, q, trivial⟩
  | dK us => obtain ⟨vs, r, q⟩ := h; exact ⟨_, q, trivial⟩
  | dT us => obtain ⟨vs, r, q⟩ := h; exact ⟨_, q, trivial⟩
  | ins c us => obtain ⟨dx, vs, r, q⟩ := h; exact ⟨_, q, trivial⟩
theorem Rep.there {l : Nat} (R : Rep K cad S ρ H) (h : l < S.n) : ∃ u, H (ρ l) = some u ∧ Wr u := by
  obtain ⟨o, e⟩ := R.full l h
  exact (R.at_ l o e).some
theorem Rep.ne {l : Nat} {p : Addr} (R : Rep K cad S ρ H) (h : l < S.n) (hp : H p = none) : ρ l ≠ p := by
  obtain ⟨u, e, _⟩ := R.there h
  exact ne_of_none e hp
/-- an object is written -/
theorem Rep.put {l : Nat} {o : O} {h' : HO} (R : Rep K cad S ρ H) (hl : l < S.n) (new : OR K cad S.n ρ (upd H (ρ l) h') (ρ l) o) : Rep K cad (S.put l o) ρ (upd H (ρ l) h') := by
  obtain ⟨o0, e0⟩ := R.full l hl
  obtain ⟨h, hp, w⟩ := R.there hl
  refine ⟨fun m u e => ?_, fun m hm => ?_, R.inj, fun m u e => ?_⟩
  · rw [Sto.f_put e0] at e
    split at e
    · rename_i z; rw [z]; exact hl
    · exact R.lt m u e
  · rw [Sto.f_put e0]
    split
    · exact ⟨_, rfl⟩
    · exact R.full m hm
  · rw [Sto.f_put e0] at e
    split at e
    · rename_i z; cases e; rw [z]; exact new
    · rename_i z
      exact (R.at_ m u e).mono (nxt_upd hp w) (upd_ne fun q => z (R.inj m l (R.lt m u e) hl q))
/-- a tuple (or anything that is not in the store) is laid -/
theorem Rep.laid {p : Addr} {h' : HO} (R : Rep K cad S ρ H) (hp : H p = none) : Rep K cad S ρ (upd H p h') where
  lt := R.lt
  full := R.full
  inj := R.inj
  at_ := fun m u e => (R.at_ m u e).mono (nxt_laid hp) (upd_ne (R.ne (R.lt m u e) hp))
/-- a new place -/
theorem Rep.new {p : Addr} {o : O} {h' : HO} (R : Rep K cad S ρ H) (hp : H p = none) (new : OR K cad (S.n + 1) (ext ρ S.n p) (upd H p h') p o) : Rep K cad (S.new o) (ext ρ S.n p) (upd H p h') := by
  refine ⟨fun m u e => ?_, fun m hm => ?_, fun l m hl hm e => ?_, fun m u e => ?_⟩
  · rw [Sto.f_new] at e
    show m < S.n + 1
    split at e
    · omega
    · exact Nat.lt_succ_of_lt (R.lt m u e)
  · rw [Sto.f_new]
    have hm : m < S.n + 1 := hm
    split
    · exact ⟨_, rfl⟩
    · exact R.full m (by omega)
  · have hl : l < S.n + 1 := hl
    have hm : m < S.n + 1 := hm
    by_cases z : l = S.n
    · subst z
      by_cases z' : m = S.n
      · exact z'.symm
      · rw [ext_same, ext_lt (by omega)] at e
        exact absurd e.symm (R.ne (by omega) hp)
    · by_cases z' : m = S.n
      · subst z'
        rw [ext_same, ext_lt (by omega)] at e
        exact absurd e (R.ne (by omega) hp)
      · rw [ext_lt (by omega), ext_lt (by omega)] at e
        exact R.inj l m (by omega) (by omega) e
  · rw [Sto.f_new] at e
    show OR K cad (S.n + 1) _ _ _ _
    split at e
    · rename_i z; cases e; subst z; rw [ext_same]; exact new
    · rename_i z
      have hm := R.lt m u e
      rw [ext_lt hm]
      exact (R.at_ m u e).mono (nxt_new hp) (upd_ne (R.ne hm hp))
/-! ### the slots -/
structure Sl (K : PySem.W.Frag) (n : Nat) (ρ : Nat → Addr) (H : Hp) (σ : L2.St) (σU : Fr) : Prop where
  len : σ.length = σU.length
  get : ∀ (i : Nat) (u : U), σU[i]? = some (some u) → ∃ v, σ[i]? = some (some v) ∧ RU K n ρ H u v
theorem Sl.mono {n n' : Nat} {ρ' : Nat → Addr} {H' : Hp} {σ : L2.St} {σU : Fr} (x : Nxt K n ρ H n' ρ' H') (s : Sl K n ρ H σ σU) : Sl K n' ρ' H' σ σU :=
  ⟨s.len, fun i u e => let ⟨v, h1, h2⟩ := s.get i u e; ⟨v, h1, h2.mono x⟩⟩
theorem Sl.set {n : Nat} {σ : L2.St} {σU : Fr} {u : U} {v : V} (s : Sl K n ρ H σ σU) (r : RU K n ρ H u v) (i : Nat) : Sl K n ρ H (σ.set i (some v)) (setN σU i u) := by
  refine ⟨by simp [setN, s.len], fun j w e => ?_⟩
  unfold setN at e
  by_cases z : i = j
  · subst z
    by_cases hi : i < σU.length
    · rw [List.getElem?_set_self hi] at e
      cases e
      exact ⟨v, List.getElem?_set_self (by rw [s.len]; exact hi), r⟩
    · rw [List.getElem?_eq_none (by simp; omega)] at e
      cases e
  · rw [List.getElem?_set_ne z] at e ⊢
    exact s.get j w e
theorem wipeU_len (σ : Fr) : ∀ vs : List Nat, (wipeU σ vs).length = σ.length
  | [] => rfl
  | v :: vs => by unfold wipeU; rw [List.length_set, wipeU_len σ vs]
theorem Sl.wipe {n : Nat} {σ : L2.St} {σU : Fr} (s : Sl K n ρ H σ σU) : ∀ vs : List Nat, Sl K n ρ H (L2.wipe σ vs) (wipeU σU vs)
  | [] => s
  | v :: vs => by
    have ih := s.wipe vs
    unfold L2.wipe wipeU
    refine ⟨by simp [ih.len], fun j w e => ?_⟩
    by_cases z : v = j
    · subst z
      by_cases hi : v < (wipeU σU vs).length
      · rw [List.getElem?_set_self hi] at e
        cases e
      · rw [List.getElem?_eq_none (by simp; omega)] at e
        cases e
    · rw [List.getElem?_set_ne z] at e ⊢
      exact ih.get j w e
end
end IP
/-! IPOps: what the operators give is what the program's do. -/
namespace IP
open PySem L2 PySem.Spec PyProof.Rows

def PostP (K : PySem.W.Frag) (cad : Nat → Addr) (n : Nat) (ρ : Nat → Addr) (H : Hp) (Q : VK) : Option (U × Sto) → Prop
  | some (u, S') => ∀ ρ' H' v, Nxt K n ρ H S'.n ρ' H' → Rep K cad S' ρ' H' → RU K S'.n ρ' H' u v → Q v H'
  | none => False
section
variable {K : PySem.W.Frag} {cad : Nat → Addr} {S : Sto} {ρ : Nat → Addr} {H : Hp} {Q : VK}
/-- the heap as it is -/
theorem PostP.same {u : U} {v : V} (h : PostP K cad S.n ρ H Q (some (u, S))) (R : Rep K cad S ρ H) (r : RU K S.n ρ H u v) : Q v H := h _ _ _ .refl R r
/-- a new list -/
theorem PostP.newL {us : List U} {vs : List V} {p : Addr} (h : PostP K cad S.n ρ H Q (some (.loc S.n, S.new (.lst us)))) (R : Rep K cad S ρ H) (r : RUs K S.n ρ H us vs) (hp : H p = none) : Q (.ref p) (upd H p (.lst vs)) := by
  have nx : Nxt K S.n ρ H (S.n + 1) (ext ρ S.n p) (upd H p (.lst vs)) := nxt_new hp
  refine h (ext ρ S.n p) _ _ nx (R.new hp ⟨_, r.mono nx, upd_same⟩) ?_
  have q : RU K (S.n + 1) (ext ρ S.n p) (upd H p (.lst vs)) (.loc S.n) (.ref (ext ρ S.n p S.n)) := .loc _ (Nat.lt_succ_self _)
  rw [ext_same] at q
  exact q
/-- a new tuple -/
theorem PostP.newT {us : List U} {vs : List V} {p : Addr} (h : PostP K cad S.n ρ H Q (some (.tup us, S))) (R : Rep K cad S ρ H) (r : RUs K S.n ρ H us vs) (hp : H p = none) : Q (.ref p) (upd H p (.tup vs)) := by
  have nx : Nxt K S.n ρ H S.n ρ (upd H p (.tup vs)) := nxt_laid hp
  exact h ρ _ _ nx (R.laid hp) (.tup (SqT.of upd_same) (r.mono nx))
/-- a list is written -/
theorem PostP.putL {l : Nat} {u : U} {v : V} {us : List U} {vs : List V} (h : PostP K cad S.n ρ H Q (some (u, S.put l (.lst us)))) (R : Rep K cad S ρ H) (hl : l < S.n) (r : RUs K S.n ρ H us vs) (rv : RU K S.n ρ H u v) : Q v (upd H (ρ l) (.lst vs)) := by
  obtain ⟨o, e, w⟩ := R.there hl
  have nx : Nxt K S.n ρ H S.n ρ (upd H (ρ l) (.lst vs)) := nxt_upd e w
  exact h ρ _ _ nx (R.put hl ⟨_, r.mono nx, upd_same⟩) (rv.mono nx)
/-- a list of the store -/
theorem Rep.lst {l : Nat} {us : List U} (R : Rep K cad S ρ H) (e : S.f l = some (.lst us)) : ∃ vs, RUs K S.n ρ H us vs ∧ H (ρ l) = some (.lst vs) := R.at_ l _ e
/-- what is read as a list -/
theorem Rep.items {u : U} {v : V} {us : List U} (R : Rep K cad S ρ H) (r : RU K S.n ρ H u v) (e : items S u = some us) : ∃ a vs, v = .ref a ∧ SqL K H a vs ∧ RUs K S.n ρ H us vs := by
  cases r <;> simp [IP.items] at e
  · rename_i l hl
    split at e
    · rename_i ws hw
      cases e
      obtain ⟨vs, r, q⟩ := R.lst hw
      exact ⟨_, vs, rfl, SqL.of q, r⟩
    · cases e
  · rename_i a ws vs h t
    subst e
    exact ⟨_, vs, rfl, h.sq, t⟩
/-! ### data -/
mutual
theorem datL_ok (R : Rep K cad S ρ H) : ∀ (n : Nat) {us : List U} {vs : List V} {ds : List PyData}, RUs K S.n ρ H us vs → datL (dat S n) us = some ds → DpAll K H vs ds
  | n, [], _, _, .nil, e => by
    simp [datL] at e; subst e; exact .nil
  | n, u :: us, _, _, .cons r t, e => by
    unfold datL at e
    split at e
    · rename_i d ds e1 e2
      cases e
      exact .cons (dat_ok R n r e1) (datL_ok R n t e2)
    · cases e
termination_by n us => (n, us.length + 1)
theorem dat_ok (R : Rep K cad S ρ H) : ∀ (n : Nat) {u : U} {v : V} {d : PyData}, RU K S.n ρ H u v → dat S n u = some d → Dp K H v d
  | 0, _, _, _, _, e => by simp [dat] at e
  | n + 1, u, v, d, r, e => by
    unfold dat at e
    cases r with
    | non => cases e; exact .non
    | bl b => cases e; exact .bl b
    | int i => cases e; exact .int i
    | str x => cases e; exact .str x
    | tup h t =>
      simp only [Option.map_eq_some_iff] at e
      obtain ⟨ds, e1, rfl⟩ := e
      exact .tup h (datL_ok R n t e1)
    | scr h t =>
      simp only [Option.map_eq_some_iff] at e
      obtain ⟨ds, e1, rfl⟩ := e
      exact .lst h.sq (datL_ok R n t e1)
    | loc l hl =>
      simp only at e
      split at e
      · rename_i ws hw
        simp only [Option.map_eq_some_iff] at e
        obtain ⟨ds, e1, rfl⟩ := e
        obtain ⟨vs, r, q⟩ := R.lst hw
        exact .lst (SqL.of q) (datL_ok R n r e1)
      · cases e
termination_by n => (n, 0)
end
theorem tru_V {u : U} {v : V} {k : Bool} (R : Rep K cad S ρ H) (r : RU K S.n ρ H u v) (e : tru S u = some k) : TruV K v H k := by
  have em : ∀ {us : List U} {vs : List V}, RUs K S.n ρ H us vs → (!us.isEmpty) = (!vs.isEmpty) := fun r => by cases r <;> rfl
  have ek : ∀ {κ : Type} {us : List (κ × U)} {vs : List (κ × V)}, RKs K S.n ρ H us vs → (!us.isEmpty) = (!vs.isEmpty) := fun r => by cases r <;> rfl
  cases r with
  | non => simp [tru] at e; exact e
  | bl b => simp [tru] at e; exact e.symm
  | int i => simp only [tru, Option.some.injEq] at e; exact e.symm
  | str x =>
    simp only [tru] at e
    split at e
    · cases e; exact ⟨by assumption, rfl⟩
    · cases e
  | tup h t => simp only [tru, Option.some.injEq] at e; exact .inr (.inl ⟨_, h, by rw [← e]; exact em t⟩)
  | scr h t => simp only [tru, Option.some.injEq] at e; exact .inl ⟨_, h.sq, by rw [← e]; exact em t⟩
  | loc l hl =>
    simp only [tru] at e
    split at e
    · rename_i ws hw
      cases e
      obtain ⟨vs, r, q⟩ := R.lst hw
      exact .inl ⟨_, SqL.of q, em r⟩
    · rename_i ws hw
      cases e
      obtain ⟨vs, r, q⟩ := R.at_ l _ hw
      exact .inr (.inr ⟨_, q, ek r⟩)
    · cases e
theorem len_V {u : U} {v : V} {k : Nat} (R : Rep K cad S ρ H) (r : RU K S.n ρ H u v) (e : lenU S u = some k) : LenV K v H k := by
  cases r with
  | non => simp [lenU] at e
  | bl b => simp [lenU] at e
  | int i => simp [lenU] at e
  | str x =>
    simp only [lenU] at e
    split at e
    · cases e; exact ⟨by assumption, rfl⟩
    · cases e
  | tup h t => simp only [lenU, Option.some.injEq] at e; exact .inr ⟨_, h, by rw [← e]; exact t.length⟩
  | scr h t => simp only [lenU, Option.some.injEq] at e; exact .inl ⟨_, h.sq, by rw [← e]; exact t.length⟩
  | loc l hl =>
    simp only [lenU] at e
    split at e
    · rename_i ws hw
      cases e
      obtain ⟨vs, r, q⟩ := R.lst hw
      exact .inl ⟨_, SqL.of q, r.length⟩
    · cases e
end

/-! ### binary operators -/
def Bop.op : Bop → Operator
  | .add => .Add | .sub => .Sub | .mul => .Mult | .fdiv => .FloorDiv | .mod => .Mod | .pow => .Pow
section
variable {X : Cx} {cad : Nat → Addr}
def rBop (K : PySem.W.Frag) (cad : Nat → Addr) (o : Bop) : R2 := fun x y H Q => ∃ S ρ u v, Rep K cad S ρ H ∧ RU K S.n ρ H u x ∧ RU K S.n ρ H v y ∧ PostP K cad S.n ρ H Q (bop o u v S)
theorem bop_ok (o : Bop) : OpR X (binaryOp o.op) (rBop X.K cad o) := by
  intro pins s σ H x y v u Q I rx ry ⟨S, ρ, a, b, R, ra, rb, h⟩
  unfold bop at h
  split at h
  · cases ra; cases rb
    exact op_add pins s σ H _ _ _ _ Q I rx ry ⟨_, _, rfl, rfl, h.same R (.int _)⟩
  · cases ra; cases rb
    exact op_sub pins s σ H _ _ _ _ Q I rx ry ⟨_, _, rfl, rfl, h.same R (.int _)⟩
  · cases ra; cases rb
    split at h
    · rename_i hm
      exact opI (C := fun i j => IntMulOk i j) (g := fun i j => i * j) (fun _ _ _ _ _ _ _ hc q => mul_int q hc) pins s σ H _ _ _ _ Q I rx ry ⟨_, _, rfl, rfl, mulOk_ok hm, h.same R (.int _)⟩
    · exact h.elim
  · cases ra; cases rb
    split at h
    · rename_i hm
      exact opI (C := fun i j => j ≠ 0 ∧ Builtin.divisionGoesByPylong i j = false) (g := fun i j => i.fdiv j) (fun _ _ _ _ _ _ _ hc q => floordiv_int hc.1 q (.inl hc.2)) pins s σ H _ _ _ _ Q I rx ry ⟨_, _, rfl, rfl, hm, h.same R (.int _)⟩
    · exact h.elim
  · cases ra; cases rb
    split at h
    · rename_i hm
      exact op_modN pins s σ H _ _ _ _ Q I rx ry ⟨_, _, rfl, rfl, hm, h.same R (.int _)⟩
    · exact h.elim
  · cases ra; cases rb
    split at h
    · rename_i hm
      exact op_pow pins s σ H _ _ _ _ Q I rx ry ⟨_, _, rfl, rfl, hm, h.same R (.int _)⟩
    · exact h.elim
  · cases ra; cases rb
    split at h
    · rename_i hm
      exact op_add_str pins s σ H _ _ _ _ Q I rx ry ⟨_, _, rfl, rfl, hm, h.same R (.str _)⟩
    · exact h.elim
  · cases ra with
    | tup h1 t1 =>
      cases rb with
      | tup h2 t2 =>
        split at h
        · rename_i hm
          refine op_catA pins s σ H _ _ _ _ Q I rx ry ⟨_, _, _, _, rfl, rfl, h1, h2, by rw [← t1.length, ← t2.length]; exact hm, fun e => ?_, fun _ e => ?_, fun _ _ p hp => h.newT R (t1.append t2) hp⟩
          · subst e; cases t1
            exact h.same R (.tup h2 t2)
          · subst e; cases t2
            rw [List.append_nil] at h
            exact h.same R (.tup h1 t1)
        · exact h.elim
  · rename_i l m
    cases ra; cases rb
    split at h
    · rename_i xs ys hx hy
      obtain ⟨vs, r1, q1⟩ := R.lst hx
      obtain ⟨ws, r2, q2⟩ := R.lst hy
      split at h
      · rename_i hm
        exact op_cat pins s σ H _ _ _ _ Q I rx ry ⟨_, _, _, _, rfl, rfl, q1, q2, by rw [← r1.length, ← r2.length]; exact hm, fun p hp => h.newL R (r1.append r2) hp⟩
      · exact h.elim
    · exact h.elim
  · exact h.elim

/-! ### comparisons -/
def Cop.op : Cop → CmpOp
  | .lt => .Lt | .le => .LtE | .gt => .Gt | .ge => .GtE | .eq => .Eq | .ne => .NotEq | .inn => .In | .nin => .NotIn
def rCop (K : PySem.W.Frag) (cad : Nat → Addr) (o : Cop) : R2 := fun x y H Q => ∃ S ρ u v k, Rep K cad S ρ H ∧ RU K S.n ρ H u x ∧ RU K S.n ρ H v y ∧ cop o u v S = some k ∧ Q (.bl k) H
theorem cop_ok (hu : X.A.units + 65 < cLine) (o : Cop) : OpR X (compareOp o.op) (rCop X.K cad o) := by
  intro pins s σ H x y v u Q I rx ry ⟨S, ρ, a, b, k, R, ra, rb, e, q⟩
  have hu' : X.A.units + 64 < cLine := by omega
  have eqs : ∀ {k : Bool}, eqU S a b = some k → ∃ d e, Dp X.K H x d ∧ Dp X.K H y e ∧ SeqAt.shaped d = true ∧ SeqAt.shaped e = true ∧ PyData.eqv d e = k := fun {k} e => by
    unfold eqU at e
    split at e
    · rename_i d d' e1 e2
      split at e
      · rename_i hs
        cases e
        exact ⟨d, d', dat_ok R _ ra e1, dat_ok R _ rb e2, hs.1, hs.2, rfl⟩
      · cases e
    · cases e
  have ins : ∀ {k : Bool}, inU S a b = some k → ∃ d ds, Dp X.K H x d ∧ Dp X.K H y (.list ds) ∧ SeqAt.shaped d = true ∧ SeqAt.shaped (.list ds) = true ∧ (ds.any fun z => PyData.eqv z d) = k := fun {k} e => by
    unfold inU at e
    split at e
    · rename_i us hus
      obtain ⟨c, vs, rfl, hc, r⟩ := R.items rb hus
      split at e
      · rename_i d ds e1 e2
        split at e
        · rename_i hs
          cases e
          exact ⟨d, ds, dat_ok R _ ra e1, .lst hc (datL_ok R _ r e2), hs.1, hs.2, rfl⟩
        · cases e
      · cases e
    · cases e
  unfold cop at e
  split at e
  · cases ra; cases rb; cases e
    exact op_lt pins s σ H _ _ _ _ Q I rx ry ⟨_, _, rfl, rfl, q⟩
  · cases ra; cases rb; cases e
    exact op_le pins s σ H _ _ _ _ Q I rx ry ⟨_, _, rfl, rfl, q⟩
  · cases ra; cases rb; cases e
    exact op_gt pins s σ H _ _ _ _ Q I rx ry ⟨_, _, rfl, rfl, q⟩
  · cases ra; cases rb; cases e
    exact op_ge pins s σ H _ _ _ _ Q I rx ry ⟨_, _, rfl, rfl, q⟩
  · obtain ⟨d, d', h1, h2, h3, h4, rfl⟩ := eqs e
    exact op_eqD hu' pins s σ H _ _ _ _ Q I rx ry ⟨d, d', h1, h2, h3, h4, q⟩
  · simp only [Option.map_eq_some_iff] at e
    obtain ⟨k', e, rfl⟩ := e
    obtain ⟨d, d', h1, h2, h3, h4, rfl⟩ := eqs e
    exact op_neD hu' pins s σ H _ _ _ _ Q I rx ry ⟨d, d', h1, h2, h3, h4, q⟩
  · obtain ⟨d, d', h1, h2, h3, h4, rfl⟩ := ins e
    exact op_inD hu pins s σ H _ _ _ _ Q I rx ry ⟨d, d', h1, h2, h3, h4, q⟩
  · simp only [Option.map_eq_some_iff] at e
    obtain ⟨k', e, rfl⟩ := e
    obtain ⟨d, d', h1, h2, h3, h4, rfl⟩ := ins e
    exact op_notInD hu pins s σ H _ _ _ _ Q I rx ry ⟨d, d', h1, h2, h3, h4, q⟩
  · cases e
end
end IP
/-! IPBi: the built-ins. -/
namespace IP
open PySem L2 PySem.Spec PyProof.Rows

def Bi.name : Bi → Str
  | .len => "len" | .abs => "abs" | .int => "int" | .str => "str" | .tuple => "tuple" | .list => "list" | .max2 => "max" | .min2 => "min" | .sum => "sum" | .any => "any" | .bool => "bool"
def Bi.val : Bi → Value
  | .len => .builtin "len" | .abs => .builtin "abs" | .int => .type "int" | .str => .type "str" | .tuple => .type "tuple" | .list => .type "list" | .max2 => .builtin "max" | .min2 => .builtin "min" | .sum => .builtin "sum" | .any => .builtin "any" | .bool => .type "bool"
theorem Bi.boot (b : Bi) : bootBuiltins b.name = some b.val := by cases b <;> decide +kernel
theorem Bi.nm (b : Bi) : b.name ≠ "__name__" ∧ (b.name == ("__debug__" : Str)) = false := by cases b <;> decide +kernel
section
variable {X : Cx} {cad : Nat → Addr}
def rBi (K : PySem.W.Frag) (cad : Nat → Addr) (b : Bi) : List V → Hp → VK → Prop := fun vs H Q => ∃ S ρ us, Rep K cad S ρ H ∧ RUs K S.n ρ H us vs ∧ PostP K cad S.n ρ H Q (biF b us S)
theorem bi_ok (hc : X.calm = true) (b : Bi) : CallR X b.val (rBi X.K cad b) := by
  intro pins s σ H vs ws Q I rv ⟨S, ρ, us, R, ru, h⟩
  unfold biF at h
  split at h
  · -- len
    cases ru with
    | cons r t =>
      cases t
      cases e : lenU S _ with
      | none => rw [e] at h; exact h.elim
      | some k =>
        rw [e] at h
        exact call_len pins s σ H _ _ Q I rv ⟨_, _, rfl, len_V R r e, h.same R (.int _)⟩
  · cases ru with
    | cons r t => cases t; cases r; exact call_abs pins s σ H _ _ Q I rv ⟨_, rfl, h.same R (.int _)⟩
  · cases ru with
    | cons r t => cases t; cases r; exact call_int1 pins s σ H _ _ Q I rv (.inl ⟨_, rfl, h.same R (.int _)⟩)
  · cases ru with
    | cons r t => cases t; cases r; exact call_int1 pins s σ H _ _ Q I rv (.inr ⟨_, rfl, h.same R (.int _)⟩)
  · cases ru with
    | cons r t => cases t; cases r; exact call_bool1 pins s σ H _ _ Q I rv (.inl ⟨_, rfl, h.same R (.bl _)⟩)
  · cases ru with
    | cons r t => cases t; cases r; exact call_bool1 pins s σ H _ _ Q I rv (.inr ⟨_, rfl, h.same R (.bl _)⟩)
  · cases ru with
    | cons r t =>
      cases t; cases r
      split at h
      · rename_i hm
        exact call_str_int pins s σ H _ _ Q I rv ⟨_, rfl, hm, h.same R (.str _)⟩
      · exact h.elim
  · -- tuple(t)
    cases ru with
    | cons r t =>
      cases t
      cases r with
      | tup h1 t1 => exact call_tuple_of pins s σ H _ _ Q I rv ⟨_, _, rfl, .inr ⟨h1, h.same R (.tup h1 t1)⟩⟩
  · cases ru with
    | cons r t =>
      cases t
      split at h
      · rename_i us hus
        obtain ⟨a, vs, rfl, ha, r2⟩ := R.items r hus
        exact call_tuple_of pins s σ H _ _ Q I rv ⟨_, _, rfl, .inl ⟨ha, fun p hp => h.newT R r2 hp⟩⟩
      · exact h.elim
  · cases ru with
    | cons r t =>
      cases t
      cases r with
      | tup h1 t1 => exact call_list_of pins s σ H _ _ Q I rv ⟨_, _, rfl, .inr h1, fun p hp => h.newL R t1 hp⟩
  · cases ru with
    | cons r t =>
      cases t
      split at h
      · rename_i us hus
        obtain ⟨a, vs, rfl, ha, r2⟩ := R.items r hus
        exact call_list_of pins s σ H _ _ Q I rv ⟨_, _, rfl, .inl ha, fun p hp => h.newL R r2 hp⟩
      · exact h.elim
  · cases ru with
    | cons r t =>
      cases t with
      | cons r2 t => cases t; cases r; cases r2; exact call_max2 hc pins s σ H _ _ Q I rv ⟨_, _, rfl, h.same R (.int _)⟩
  · cases ru with
    | cons r t =>
      cases t with
      | cons r2 t => cases t; cases r; cases r2; exact call_min2 hc pins s σ H _ _ Q I rv ⟨_, _, rfl, h.same R (.int _)⟩
  · cases ru with
    | cons r t =>
      cases t
      split at h
      · rename_i ns hns
        simp only [Option.bind_eq_some_iff] at hns
        obtain ⟨us, hus, e⟩ := hns
        obtain ⟨a, vs, rfl, ha, r2⟩ := R.items r hus
        have e2 := r2.of_ints e
        subst e2
        exact cr_sum hc pins s σ H _ _ Q I rv ⟨_, _, rfl, ha, h.same R (.int _)⟩
      · exact h.elim
  · cases ru with
    | cons r t =>
      cases t
      split at h
      · rename_i ns hns
        simp only [Option.bind_eq_some_iff] at hns
        obtain ⟨us, hus, e⟩ := hns
        obtain ⟨a, vs, rfl, ha, r2⟩ := R.items r hus
        have e2 := r2.of_bools e
        subst e2
        exact cr_any hc pins s σ H _ _ Q I rv ⟨_, _, rfl, ha, h.same R (.bl _)⟩
      · exact h.elim
  · exact h.elim
/-- a built-in, called by its name -/
theorem pe_bi {x : Str} {v : Value} {p pos : Pos} {e : Expr} {es : List Expr} {t : TA} {r : List V → Hp → VK → Prop} (hv : (∃ id, v = .builtin id) ∨ ∃ T, v = .type T) (hc : CallR X v r) (hg : Gl X x) (hm : X.mg x = none) (hb : bootBuiltins x = some v) (ha : PA X (e :: es) t) (hn : x ≠ "__name__") (hdb : (x == ("__debug__" : Str)) = false)
    (he : starEach (e :: es) X.env = (false, eval e X.env) :: starEach es X.env) (hpl : (backTo pos (starEach es X.env)).any (·.1) = false) : PE X (.Call (.Name x p) (e :: es) [] pos) (tCB r t) := by
  rcases hv with ⟨id, rfl⟩ | ⟨T, rfl⟩
  · exact pe_callB hc hg hm hb ha hn hdb he hpl
  · exact pe_callTy hc hg hm hb ha hn hdb he hpl
theorem Bi.valOk (b : Bi) : (∃ id, b.val = .builtin id) ∨ ∃ T, b.val = .type T := by cases b <;> first | exact .inl ⟨_, rfl⟩ | exact .inr ⟨_, rfl⟩

/-! ### methods -/
def Bm.id : Bm → String
  | .append => "list.append"
def Bm.nm : Bm → Str
  | .append => "append"
def Bm.ty : Bm → String
  | .append => "list"
def rBm (K : PySem.W.Frag) (cad : Nat → Addr) (m : Bm) : V → List V → Hp → VK → Prop := fun v vs H Q => ∃ S ρ u us, Rep K cad S ρ H ∧ RU K S.n ρ H u v ∧ RUs K S.n ρ H us vs ∧ PostP K cad S.n ρ H Q (bmf m u us S)
theorem bm_ok (m : Bm) : MtR X m.id (rBm X.K cad m) := by
  intro pins s σ H x xs v us Q I rx rs ⟨S, ρ, u, us', R, ru, rus, h⟩
  unfold bmf at h
  split at h
  · cases ru with
    | loc l hl =>
      cases rus with
      | cons r t =>
        cases t
        split at h
        · rename_i ys hys
          obtain ⟨vs, r1, q1⟩ := R.lst hys
          split at h
          · rename_i hm
            refine mt_append pins s σ H _ _ _ _ Q I rx rs ⟨_, _, _, rfl, rfl, q1, by rw [← r1.length]; exact hm, ?_⟩
            exact h.putL R hl (r1.append (.cons r .nil)) .non
          · exact h.elim
        · exact h.elim
  · exact h.elim
theorem bm_ty {K : PySem.W.Frag} {S : Sto} {ρ : Nat → Addr} {H : Hp} {m : Bm} {u : U} {v : V} (R : Rep K cad S ρ H) (r : RU K S.n ρ H u v) (h : bmTy m u S = true) : tyV K m.ty v H := by
  unfold bmTy at h
  split at h
  · cases r
    split at h
    · rename_i ys hys
      obtain ⟨vs, r1, q1⟩ := R.lst hys
      exact .inl ⟨rfl, _, SqL.of q1⟩
    · cases h
  · cases h
/-! ### subscripts -/
def rIxU (K : PySem.W.Frag) (cad : Nat → Addr) : R2 := fun x y H Q => ∃ S ρ u v w, Rep K cad S ρ H ∧ RU K S.n ρ H u x ∧ RU K S.n ρ H v y ∧ ixU u v S = some w ∧ ∀ z, RU K S.n ρ H w z → Q z H
theorem ix_ok : IxR X (rIxU X.K cad) := by
  intro value slice pins s σ H x y v u Q I rx ry ⟨S, ρ, a, b, w, R, ra, rb, e, q⟩ hs
  unfold ixU at e
  split at e
  · cases ra with
    | tup h t =>
      cases rb
      rw [atU_eq] at e
      obtain ⟨z, h1, h2⟩ := t.atI e
      exact ix_tup value slice pins s σ H _ _ _ _ Q I rx ry ⟨_, _, _, _, rfl, rfl, h, h1, q _ h2⟩ hs
  · cases ra; cases rb
    split at e
    · rename_i hm
      simp only [Option.map_eq_some_iff] at e
      obtain ⟨c, h1, rfl⟩ := e
      exact ix_str value slice pins s σ H _ _ _ _ Q I rx ry ⟨_, _, _, rfl, rfl, hm, h1, q _ (.str _)⟩ hs
    · cases e
  · cases rb
    simp only [Option.bind_eq_some_iff] at e
    obtain ⟨us, hus, e⟩ := e
    obtain ⟨p, vs, rfl, ha, r2⟩ := R.items ra hus
    rw [atU_eq] at e
    obtain ⟨z, h1, h2⟩ := r2.atI e
    exact ix_list value slice pins s σ H _ _ _ _ Q I rx ry ⟨_, _, _, _, rfl, rfl, ha, h1, q _ h2⟩ hs
  · cases e
def rSlU (K : PySem.W.Frag) (cad : Nat → Addr) : V → Option Int → Option Int → Hp → VK → Prop := fun x lo hi H Q => ∃ S ρ u, Rep K cad S ρ H ∧ RU K S.n ρ H u x ∧ PostP K cad S.n ρ H Q (slU u lo hi S)
theorem cut_whole {us : List U} {lo hi : Option Int} (h : HT.sIx us.length 0 lo = 0 ∧ HT.sIx us.length us.length hi = us.length) : cutU us lo hi = us := by
  unfold cutU
  rw [h.1, h.2]
  simp
theorem sl_ok : SlR X (rSlU X.K cad) := by
  intro pins s σ H x v vl vu lo hi sl Q I rx hsl pl pu ⟨S, ρ, u, R, ru, h⟩
  unfold slU at h
  split at h
  · cases ru with
    | tup h1 t1 =>
      refine sl_tupA pins s σ H _ _ _ _ _ _ _ Q I rx hsl pl pu ⟨_, _, rfl, h1, fun z => ?_, fun _ p hp => h.newT R (t1.cut lo hi) hp⟩
      rw [← t1.length] at z
      rw [cut_whole z] at h
      exact h.same R (.tup h1 t1)
  · split at h
    · rename_i us hus
      obtain ⟨p, vs, rfl, ha, r2⟩ := R.items ru hus
      exact sl_list pins s σ H _ _ _ _ _ _ _ Q I rx hsl pl pu ⟨_, _, rfl, ha, fun p hp => h.newL R (r2.cut lo hi) hp⟩
    · exact h.elim
/-! ### o[i] = v -/
def rSubU (K : PySem.W.Frag) (cad : Nat → Addr) : TSet := fun o i v H Q => ∃ S ρ u w z S1, Rep K cad S ρ H ∧ RU K S.n ρ H u o ∧ RU K S.n ρ H w i ∧ RU K S.n ρ H z v ∧ subU u w z S = some S1 ∧ ∀ ρ' H', Nxt K S.n ρ H S1.n ρ' H' → Rep K cad S1 ρ' H' → Q H'
theorem sub_ok : PSet X (rSubU X.K cad) := by
  intro pins s σ H o i v ov iv uv Q I ro ri rv ⟨S, ρ, u, w, z, S1, R, ru, rw_, rz, e, q⟩
  unfold subU at e
  split at e
  · rename_i l k
    split at e
    · rename_i ys hys
      simp only [Option.map_eq_some_iff] at e
      obtain ⟨ys', hj, rfl⟩ := e
      rw [putU_eq, Option.map_eq_some_iff] at hj
      obtain ⟨j, hj, rfl⟩ := hj
      obtain ⟨vs, r1, q1⟩ := R.lst hys
      cases ru with
      | loc l hl =>
        cases rw_
        refine set_list pins s σ H _ _ _ _ _ _ Q I ro ri rv ⟨_, _, _, _, rfl, rfl, q1, by rw [← r1.length]; exact hj, ?_⟩
        have nx : Nxt X.K S.n ρ H S.n ρ (upd H (ρ l) (.lst (vs.set j v))) := nxt_upd q1 trivial
        exact q ρ _ nx (R.put hl ⟨_, (r1.set rz j).mono nx, upd_same⟩)
    · cases e
  · cases e
end
end IP
/-! IPChk: is an evaluator's term the program's text? -/
namespace IP
open PySem L2 PySem.Spec PyProof.Rows

/-- where one stands: the names by slot, the scope, is no exception handled -/
structure LC where
  N : List Str
  sc : Scope
  fnx : Str → Bool
  calm : Bool
structure FnI where
  name : Str
  qual : Str
  st : Stmt
  ps : List Str
  N : List Str
  body : CS
  dfl : List U
structure Gam where
  fns : List FnI
  glv : List (Str × U)
  blt : List Str
def Gam.G (Γ : Gam) (i : Nat) : Option U := (Γ.glv[i]?).map (·.2)
def dbg (x : Str) : Bool := x == ("__debug__" : Str) || x == ("__classdict__" : Str)
def visB (sc : Scope) (x : Str) : Bool := match sc.names.lookup x with
  | some .local => true | some .cell => true | some .free => true | _ => false
def glB (sc : Scope) (x : Str) : Bool := match sc.names.lookup x with
  | some .globalImplicit => !(x == ("__debug__" : Str)) | _ => false
def stB (L : LC) (x : Str) : Bool := match L.sc.names.lookup x with
  | some .local => true | some .cell => L.fnx x | _ => false
def cstB (u : U) (c : Const) : Bool := match u, c with
  | .non, .none => true
  | .bl b, .bool d => b == d
  | .int i, .int j => decide (i = j)
  | .str x, .str y => x == y
  | _, _ => false
def notStar : Expr → Bool
  | .Starred _ _ => false
  | _ => true
def notSlice : Expr → Bool
  | .Slice _ _ _ _ => false
  | _ => true
def notSet : Expr → Bool
  | .Set _ _ _ => false
  | _ => true
def notComp : Expr → Bool
  | .ListComp _ _ _ _ => false
  | .SetComp _ _ _ _ => false
  | .DictComp _ _ _ _ _ => false
  | _ => true
def plainBase : Expr → Bool
  | .Call _ [] [] _ => false
  | _ => true
def opEq (a b : Operator) : Bool := match a, b with
  | .Add, .Add => true | .Sub, .Sub => true | .Mult, .Mult => true | .FloorDiv, .FloorDiv => true | .Mod, .Mod => true | .Pow, .Pow => true | _, _ => false
def cmpEq (a b : CmpOp) : Bool := match a, b with
  | .Lt, .Lt => true | .LtE, .LtE => true | .Gt, .Gt => true | .GtE, .GtE => true | .Eq, .Eq => true | .NotEq, .NotEq => true | .In, .In => true | .NotIn, .NotIn => true | _, _ => false
theorem opEq_ok {a b : Operator} (h : opEq a b = true) : a = b := by cases a <;> cases b <;> first | rfl | cases h
theorem cmpEq_ok {a b : CmpOp} (h : cmpEq a b = true) : a = b := by cases a <;> cases b <;> first | rfl | cases h
/-- what a for walks: the arguments -/
def iterArgs (k : IK) (e : Expr) : Option (List Expr) := match k, e with
  | .rng1, .Call (.Name x _) [a] [] _ => if x = "range" then some [a] else none
  | .rng2, .Call (.Name x _) [a, b] [] _ => if x = "range" then some [a, b] else none
  | .rng3, .Call (.Name x _) [a, b, c] [] _ => if x = "range" then some [a, b, c] else none
  | .enum, .Call (.Name x _) [a] [] _ => if x = "enumerate" then some [a] else none
  | .zip, .Call (.Name x _) [a, b] [] _ => if x = "zip" then some [a, b] else none
  | .seq, e => some [e]
  | _, _ => none
def iterName : IK → Option Str
  | .rng1 => some "range" | .rng2 => some "range" | .rng3 => some "range" | .enum => some "enumerate" | .zip => some "zip" | .seq => none
def iterTup (k : IK) (tg : Expr) : Bool := match k with
  | .enum => (match tg with | .Tuple _ _ _ => true | _ => false)
  | .zip => (match tg with | .Tuple _ _ _ => true | _ => false)
  | _ => true
def nameAt (L : LC) (i : Nat) (e : Expr) : Bool := match e with
  | .Name x _ => decide (L.N[i]? = some x) && stB L x
  | _ => false
def namesAt (L : LC) : List Nat → List Expr → Bool
  | [], [] => true
  | i :: is, e :: es => nameAt L i e && namesAt L is es
  | _, _ => false
def tgB (L : LC) (g : Tg) (e : Expr) : Bool := match g, e with
  | .nm i, e => nameAt L i e
  | .tp is, .Tuple es _ _ => L.calm && namesAt L is es
  | _, _ => false
def Tg.ids : Tg → List Nat
  | .nm i => [i]
  | .tp is => is
def tyB (t : Ty) (x : Str) : Bool := match t with
  | .int => x == ("int" : Str) | .bool => x == ("bool" : Str) | .str => x == ("str" : Str) | .list => x == ("list" : Str) | .tuple => x == ("tuple" : Str) | .dict => x == ("dict" : Str)
  | .cls _ => false
def tysB (Γ : Gam) (L : LC) : List Ty → List Expr → Bool
  | [], [] => true
  | t :: ts, .Name x _ :: es => tyB t x && glB L.sc x && Γ.blt.contains x && tysB Γ L ts es
  | _, _ => false
def ownP (L : LC) (own : List Nat) : List (Str × Nat) := own.map fun i => (L.N.getD i "", i)
def blkLC (L : LC) (scope : Scope) : LC := { N := L.N, sc := relS scope L.sc, fnx := fun x => scope.names.lookup x == some .cell, calm := L.calm }
mutual
def chkE (Γ : Gam) (L : LC) : CE → Expr → Bool
  | .var i, .Name x _ => decide (L.N[i]? = some x) && visB L.sc x && !dbg x
  | .cst u, .Constant c _ _ => cstB u c
  | .glob i, .Name x _ => glB L.sc x && (match Γ.glv[i]? with | some (y, _) => y == x | none => false)
  | .bin o a b, .BinOp ea op eb _ => opEq o.op op && chkE Γ L a ea && chkE Γ L b eb
  | .neg a, .UnaryOp .USub e _ => chkE Γ L a e
  | .cmp o a b, .Compare ea [op] [eb] _ => cmpEq o.op op && chkE Γ L a ea && chkE Γ L b eb && !behindInMarks op eb
  | .isN a, .Compare ea [.Is] [.Constant .none _ _] _ => chkE Γ L a ea
  | .notN a, .Compare ea [.IsNot] [.Constant .none _ _] _ => chkE Γ L a ea
  | .chn o o' a b c, .Compare ea [op, op'] [eb, ec] _ => cmpEq o.op op && cmpEq o'.op op' && chkE Γ L a ea && chkE Γ L b eb && chkE Γ L c ec && !behindInMarks op eb && !behindInMarks op' ec
  | .and a b, .BoolOp .And (ea :: eb :: rest) pos => chkE Γ L a ea && (match rest with | [] => chkE Γ L b eb | r :: rs => chkE Γ L b (.BoolOp .And (eb :: r :: rs) pos))
  | .or a b, .BoolOp .Or (ea :: eb :: rest) pos => chkE Γ L a ea && (match rest with | [] => chkE Γ L b eb | r :: rs => chkE Γ L b (.BoolOp .Or (eb :: r :: rs) pos))
  | .not a, .UnaryOp .Not e _ => chkE Γ L a e
  | .ife c a b, .IfExp ec ea eb _ => chkE Γ L c ec && chkE Γ L a ea && chkE Γ L b eb
  | .call f a, .Call (.Name x _) (e :: es) [] _ => glB L.sc x && (match Γ.fns[f]? with | some I => I.name == x && decide (I.ps.length = (e :: es).length) | none => false) && chkA Γ L a (e :: es)
  | .bi b a, .Call (.Name x _) (e :: es) [] _ => x == b.name && glB L.sc x && Γ.blt.contains x && L.calm && chkA Γ L a (e :: es)
  | .lrg a, .Call (.Name x _) [.Call (.Name y _) [e] [] _] [] _ => x == ("list" : Str) && y == ("range" : Str) && glB L.sc x && glB L.sc y && Γ.blt.contains x && Γ.blt.contains y && L.calm && notStar e && chkE Γ L a e
  | .bm m o a, .Call (.Attribute eo nm apos) (e :: es) [] cpos => nm == m.nm && plainBase eo && decide ((e :: es).length < 30) && apos.endLine == cpos.line && chkE Γ L o eo && chkA Γ L a (e :: es)
  | .ix a i, .Subscript ea ei _ => notSlice ei && chkE Γ L a ea && chkE Γ L i ei
  | .sl kl kh a lo hi, .Subscript ea (.Slice l h none _) _ => chkE Γ L a ea && (match kl, l with | true, some e => chkE Γ L lo e | false, none => (match lo with | .nil => true | _ => false) | _, _ => false) && (match kh, h with | true, some e => chkE Γ L hi e | false, none => (match hi with | .nil => true | _ => false) | _, _ => false)
  | .tupc a, .Tuple es _ _ => chkA Γ L a es
  | .lstc a, .List es _ => chkA Γ L a es
  | .lc own k g src hc cond body, .ListComp elt [⟨tg, iter, ifs, as⟩] scope _ => decide (as = 0) && L.calm && blkC L.N L.sc scope (ownP L own) && notSet iter && iterTup k tg && g.ids.all (own.contains ·) &&
      (match iterName k with | some x => glB L.sc x && Γ.blt.contains x | none => true) && (match iterArgs k iter with | some es => chkA Γ L src es | none => false) && tgB (blkLC L scope) g tg &&
      (match hc, ifs with | true, [c] => chkE Γ (blkLC L scope) cond c | false, [] => true | _, _ => false) && chkE Γ (blkLC L scope) body elt
  | .isi a ts, .Call (.Name x _) [e, et] [] _ => x == ("isinstance" : Str) && glB L.sc x && Γ.blt.contains x && notStar e && chkE Γ L a e && !ts.isEmpty && decide (ts.length < 30) &&
      (match et with
      | .Name y p => tysB Γ L ts [.Name y p]
      | .Tuple es _ _ => tysB Γ L ts es
      | _ => false)
  | _, _ => false
def chkA (Γ : Gam) (L : LC) : CE → List Expr → Bool
  | .nil, [] => true
  | .cons a b, e :: es => notStar e && chkE Γ L a e && chkA Γ L b es
  | _, _ => false
end
def CE.isLc : CE → Bool
  | .lc _ _ _ _ _ _ _ => true
  | _ => false
/-- does the store of a comprehension into a name take the swapped way? -/
def swB (L : LC) (x : Str) (p : Pos) (e : Expr) : Bool := match e with
  | .ListComp _ _ scope pos => L.sc.names.lookup x == some .local && p.line == pos.line && !(scope.names.any fun (n, k) => n == x && (k == .local || k == .cell))
  | _ => false
def locB (L : LC) (x : Str) : Bool := match L.sc.names.lookup x with
  | some .local => true | _ => false
def notFold (es : List Expr) : Bool := !es.all (constantsAlone 8) && !es.all (foldedForSure 8)
def tgt1 : List Expr → Option Expr
  | [t] => some t
  | _ => none
theorem tgt1_ok {ts : List Expr} {t : Expr} (h : tgt1 ts = some t) : ts = [t] := by
  match ts, h with
  | [t], h => cases h; rfl
def tupFold : Expr → Bool
  | .Tuple vs _ _ => vs.all (foldedForSure 8)
  | _ => true
def sub1 : Expr → Option (Expr × Expr)
  | .Subscript o i _ => some (o, i)
  | _ => none
theorem sub1_ok {t o i : Expr} (h : sub1 t = some (o, i)) : ∃ p, t = .Subscript o i p := by
  cases t <;> simp only [sub1, reduceCtorEq] at h
  cases h
  exact ⟨_, rfl⟩
def tupOf : Expr → Option (List Expr)
  | .Tuple es _ _ => some es
  | _ => none
theorem tupOf_ok {t : Expr} {es : List Expr} (h : tupOf t = some es) : ∃ k p, t = .Tuple es k p := by
  cases t <;> simp only [tupOf, reduceCtorEq] at h
  cases h
  exact ⟨_, _, rfl⟩
def nameOf1 : Expr → Option (Str × Pos)
  | .Name x p => some (x, p)
  | _ => none
theorem nameOf1_ok {t : Expr} {x : Str} {p : Pos} (h : nameOf1 t = some (x, p)) : t = .Name x p := by
  cases t <;> simp only [nameOf1, reduceCtorEq] at h
  cases h
  rfl
/-- a, b = x, y by the swapped stores -/
def parB (L : LC) (i j : Nat) (t v : Expr) : Option (Expr × Expr) := match tupOf t, tupOf v with
  | some [t1, t2], some [ea, eb] => match nameOf1 t1, nameOf1 t2 with
    | some (x, px), some (y, py) => if (L.calm && decide (i ≠ j) && decide (L.N[i]? = some x) && decide (L.N[j]? = some y) && locB L x && locB L y && px.line == py.line && notStar ea && notStar eb && notFold [ea, eb] && !(x == y)) = true then some (ea, eb) else none
    | _, _ => none
  | _, _ => none
def parB3 (L : LC) (i j k : Nat) (t v : Expr) : Option (Expr × Expr × Expr) := match tupOf t, tupOf v with
  | some [t1, t2, t3], some [ea, eb, ec] => match nameOf1 t1, nameOf1 t2, nameOf1 t3 with
    | some (x, px), some (y, py), some (z, pz) => if (L.calm && decide (i ≠ j) && decide (i ≠ k) && decide (j ≠ k) && decide (L.N[i]? = some x) && decide (L.N[j]? = some y) && decide (L.N[k]? = some z) && locB L x && locB L y && locB L z && px.line == py.line && px.line == pz.line &&
      notStar ea && notStar eb && notStar ec && notFold [ea, eb, ec] && !(x == y) && !(x == z) && !(y == z)) = true then some (ea, eb, ec) else none
    | _, _, _ => none
  | _, _ => none
mutual
def chkS (Γ : Gam) (L : LC) : CS → Stmt → Bool
  | .set i e, .Assign ts v _ => (match tgt1 ts with | some t => nameAt L i t && chkE Γ L e v | none => false)
  | .setT is e, .Assign ts v _ => (match tgt1 ts with | some t => tupFold v && notComp v && tgB L (.tp is) t && chkE Γ L e v | none => false)
  | .par i j a b, .Assign ts v _ => (match tgt1 ts with | some t => (match parB L i j t v with | some (ea, eb) => chkE Γ L a ea && chkE Γ L b eb | none => false) | none => false)
  | .par3 i j k a b c, .Assign ts v _ => (match tgt1 ts with | some t => (match parB3 L i j k t v with | some (ea, eb, ec) => chkE Γ L a ea && chkE Γ L b eb && chkE Γ L c ec | none => false) | none => false)
  | .sub o i e, .Assign ts v _ => (match tgt1 ts with | some t => (match sub1 t with | some (eo, ei) => notSlice ei && notComp v && chkE Γ L e v && chkE Γ L o eo && chkE Γ L i ei | none => false) | none => false)
  | .exp e, .Expr v _ => notComp v && chkE Γ L e v
  | .ret e, .Return (some v) _ => chkE Γ L e v
  | .retN, .Return none _ => true
  | .ife c a b, .If ec sa sb _ => chkE Γ L c ec && chkSs Γ L a sa && chkSs Γ L b sb
  | .whl c b, .While ec sb se _ => se.isEmpty && chkE Γ L c ec && chkSs Γ L b sb
  | .forr k g src b, .For tg iter sb se _ => se.isEmpty && L.calm && notSet iter && iterTup k tg && (match iterName k with | some x => glB L.sc x && Γ.blt.contains x | none => true) && (match iterArgs k iter with | some es => chkA Γ L src es | none => false) && tgB L g tg && chkSs Γ L b sb
  | .pass, .Pass _ => true
  | .brk, .Break _ => true
  | .cont, .Continue _ => true
  | _, _ => false
def chkSs (Γ : Gam) (L : LC) : CS → List Stmt → Bool
  | .skip, [] => true
  | .seq a b, s :: ss => chkS Γ L a s && chkSs Γ L b ss
  | _, _ => false
end
end IP
/-! IPSnd: what the check passes does what the evaluator says: expressions. -/
namespace IP
open PySem L2 PySem.Spec PyProof.Rows

/-- what an exception is -/
def ExR (K : PySem.W.Frag) (cad : Nat → Addr) (n : Nat) (ρ : Nat → Addr) (H : Hp) (x : Ex) (cls : Value) (d : Option Addr) : Prop :=
  cls = .ref (cad x.c) ∧ (x.fs = [] ∨ ∃ dd vs, d = some dd ∧ RKs K n ρ H x.fs vs ∧ H dd = some (.xd vs))
def PostR (K : PySem.W.Frag) (cad : Nat → Addr) (n : Nat) (ρ : Nat → Addr) (H : Hp) (Q : VK) (E : XK) : R → Prop
  | .ok u S' => ∀ ρ' H' v, Nxt K n ρ H S'.n ρ' H' → Rep K cad S' ρ' H' → RU K S'.n ρ' H' u v → Q v H'
  | .exc x S' => ∀ ρ' H' cls d, Nxt K n ρ H S'.n ρ' H' → Rep K cad S' ρ' H' → ExR K cad S'.n ρ' H' x cls d → E cls d H'
  | .bad => False
def PostT (K : PySem.W.Frag) (cad : Nat → Addr) (n : Nat) (ρ : Nat → Addr) (H : Hp) (Q : Bool → Hp → Prop) (E : XK) : R → Prop
  | .ok u S' => ∃ k, tru S' u = some k ∧ ∀ ρ' H', Nxt K n ρ H S'.n ρ' H' → Rep K cad S' ρ' H' → Q k H'
  | .exc x S' => ∀ ρ' H' cls d, Nxt K n ρ H S'.n ρ' H' → Rep K cad S' ρ' H' → ExR K cad S'.n ρ' H' x cls d → E cls d H'
  | .bad => False
section
variable {K : PySem.W.Frag} {cad : Nat → Addr} {n n1 : Nat} {ρ ρ1 : Nat → Addr} {H H1 : Hp} {Q : VK} {QT : Bool → Hp → Prop} {E : XK}
theorem PostR.mono {r : R} (x : Nxt K n ρ H n1 ρ1 H1) (h : PostR K cad n ρ H Q E r) : PostR K cad n1 ρ1 H1 Q E r := by
  cases r with
  | ok u S' => exact fun ρ' H' v nx => h ρ' H' v (x.trans nx)
  | exc e S' => exact fun ρ' H' c d nx => h ρ' H' c d (x.trans nx)
  | bad => exact h
theorem PostT.mono {r : R} (x : Nxt K n ρ H n1 ρ1 H1) (h : PostT K cad n ρ H QT E r) : PostT K cad n1 ρ1 H1 QT E r := by
  cases r with
  | ok u S' => obtain ⟨k, e, h⟩ := h; exact ⟨k, e, fun ρ' H' nx => h ρ' H' (x.trans nx)⟩
  | exc e S' => exact fun ρ' H' c d nx => h ρ' H' c d (x.trans nx)
  | bad => exact h
theorem PostR.bind {r : R} {f : U → Sto → R} {Q' : VK} (h : PostR K cad n ρ H Q E (r.bind f))
    (k : ∀ u S1 ρ1 H1 v, r = .ok u S1 → Nxt K n ρ H S1.n ρ1 H1 → Rep K cad S1 ρ1 H1 → RU K S1.n ρ1 H1 u v → PostR K cad S1.n ρ1 H1 Q E (f u S1) → Q' v H1) : PostR K cad n ρ H Q' E r := by
  cases r with
  | ok u S' => exact fun ρ' H' v nx rp ru => k u S' ρ' H' v rfl nx rp ru (PostR.mono nx h)
  | exc e S' => exact h
  | bad => exact h
theorem PostT.bind {r : R} {f : U → Sto → R} {Q' : VK} (h : PostT K cad n ρ H QT E (r.bind f))
    (k : ∀ u S1 ρ1 H1 v, r = .ok u S1 → Nxt K n ρ H S1.n ρ1 H1 → Rep K cad S1 ρ1 H1 → RU K S1.n ρ1 H1 u v → PostT K cad S1.n ρ1 H1 QT E (f u S1) → Q' v H1) : PostR K cad n ρ H Q' E r := by
  cases r with
  | ok u S' => exact fun ρ' H' v nx rp ru => k u S' ρ' H' v rfl nx rp ru (PostT.mono nx h)
  | exc e S' => exact h
  | bad => exact h
/-- a test ahead -/
theorem PostR.bindT {r : R} {f : U → Sto → R} {Q' : Bool → Hp → Prop} (h : PostR K cad n ρ H Q E (r.bind f)) (ht : ∀ u S1, tru S1 u = none → f u S1 = .bad)
    (k : ∀ u S1 ρ1 H1 b, Nxt K n ρ H S1.n ρ1 H1 → Rep K cad S1 ρ1 H1 → tru S1 u = some b → PostR K cad S1.n ρ1 H1 Q E (f u S1) → Q' b H1) : PostT K cad n ρ H Q' E r := by
  cases r with
  | ok u S' =>
    cases e : tru S' u with
    | none =>
      have z : PostR K cad n ρ H Q E (f u S') := h
      rw [ht u S' e] at z
      exact z.elim
    | some b => exact ⟨b, e, fun ρ' H' nx rp => k u S' ρ' H' b nx rp e (PostR.mono nx h)⟩
  | exc e S' => exact h
  | bad => exact h
theorem PostT.bindT {r : R} {f : U → Sto → R} {Q' : Bool → Hp → Prop} (h : PostT K cad n ρ H QT E (r.bind f)) (ht : ∀ u S1, tru S1 u = none → f u S1 = .bad)
    (k : ∀ u S1 ρ1 H1 b, Nxt K n ρ H S1.n ρ1 H1 → Rep K cad S1 ρ1 H1 → tru S1 u = some b → PostT K cad S1.n ρ1 H1 QT E (f u S1) → Q' b H1) : PostT K cad n ρ H Q' E r := by
  cases r with
  | ok u S' =>
    cases e : tru S' u with
    | none =>
      have z : PostT K cad n ρ H QT E (f u S') := h
      rw [ht u S' e] at z
      exact z.elim
    | some b => exact ⟨b, e, fun ρ' H' nx rp => k u S' ρ' H' b nx rp e (PostT.mono nx h)⟩
  | exc e S' => exact h
  | bad => exact h
theorem PostR.toP {o : Option (U × Sto)} (h : PostR K cad n ρ H Q E (okP o)) : PostP K cad n ρ H Q o := by
  cases o with
  | none => exact h
  | some p => exact h
theorem PostR.toO {S : Sto} {o : Option U} (h : PostR K cad n ρ H Q E (okO o S)) : ∃ u, o = some u ∧ PostR K cad n ρ H Q E (.ok u S) := by
  cases o with
  | none => exact h.elim
  | some u => exact ⟨u, rfl, h⟩
end

/-- the program's text as it stands, and the called defs' promises -/
structure Prm where
  Γ : Gam
  K : PySem.W.Frag
  mg : Str → Option Value
  cad : Nat → Addr
  fa : Nat → Addr
  fd : Nat → FuncData
  call : Nat → List U → Sto → R
  lv : Nat
/-- a def's promise by the evaluator -/
def spF (K : PySem.W.Frag) (cad : Nat → Addr) (call : Nat → List U → Sto → R) (i np : Nat) : Sp := fun vs H Q E => ∃ S ρ us, Rep K cad S ρ H ∧ RUs K S.n ρ H us vs ∧ us.length = np ∧ PostR K cad S.n ρ H Q E (call i us S)
structure Txt (P : Prm) : Prop where
  blt : ∀ x, P.Γ.blt.contains x = true → P.mg x = none
  gfn : ∀ (i : Nat) (I : FnI), P.Γ.fns[i]? = some I → P.mg I.name = some (.ref (P.fa i)) ∧ PySem.W.keepIn P.K (.ref (P.fa i)) = true ∧ Binds P.K (P.fd i) I.ps []
  len : ∀ (i : Nat) (I : FnI) (us : List U) (S : Sto), P.Γ.fns[i]? = some I → P.call i us S ≠ .bad → us.length = I.ps.length
  glv : ∀ (i : Nat) (y : Str) (u : U), P.Γ.glv[i]? = some (y, u) → ∃ v w, P.mg y = some w ∧ RelV v w ∧ ∀ n ρ H, RU P.K n ρ H u v
theorem Txt.lenOk {P : Prm} (T : Txt P) {n : Nat} {ρ : Nat → Addr} {H : Hp} {Q : VK} {E : XK} {i : Nat} {I : FnI} {us : List U} {S : Sto} (hI : P.Γ.fns[i]? = some I) (h : PostR P.K P.cad n ρ H Q E (P.call i us S)) : us.length = I.ps.length := by
  refine T.len i I us S hI fun z => ?_
  rw [z] at h
  exact h
structure CtxOk (P : Prm) (L : LC) (X : Cx) (W : WX) : Prop where
  N : X.N = L.N
  sc : X.env.scope = L.sc
  kd : L.sc.kind = .function
  nd : X.N.Nodup
  fnx : ∀ x, L.fnx x = true → X.fn x = true
  calm : L.calm = true → X.calm = true
  room : Room P.lv X.A
  pass : PassesOwn (model X.prog X.w) X.A X.env X.xe
  takes : Takes X W
  K : X.K = P.K
  mg : X.mg = P.mg
  txt : Txt P
  fns : ∀ (i : Nat) (I : FnI), P.Γ.fns[i]? = some I → FnOk X.prog X.w X.K X.mg X.base (L2.CX X.prog X.w) P.lv (P.fa i) (P.fd i) I.ps (spF P.K P.cad P.call i I.ps.length)

def tE (P : Prm) (W : WX) (c : CE) : TE := fun σ H Q => ∃ S ρ σU, Rep P.K P.cad S ρ H ∧ Sl P.K S.n ρ H σ σU ∧ PostR P.K P.cad S.n ρ H Q (fun cls d H' => W cls d σ H') (ev P.Γ.G P.call c σU S)
def tT (P : Prm) (W : WX) (c : CE) : TT := fun σ H Q => ∃ S ρ σU, Rep P.K P.cad S ρ H ∧ Sl P.K S.n ρ H σ σU ∧ PostT P.K P.cad S.n ρ H Q (fun cls d H' => W cls d σ H') (ev P.Γ.G P.call c σU S)
/-- arguments: the tuple of their values is taken apart -/
def PostA (K : PySem.W.Frag) (cad : Nat → Addr) (n : Nat) (ρ : Nat → Addr) (H : Hp) (Q : List V → Hp → Prop) (E : XK) : R → Prop
  | .ok (.tup us) S' => ∀ ρ' H' vs, Nxt K n ρ H S'.n ρ' H' → Rep K cad S' ρ' H' → RUs K S'.n ρ' H' us vs → Q vs H'
  | .ok _ _ => False
  | .exc x S' => ∀ ρ' H' cls d, Nxt K n ρ H S'.n ρ' H' → Rep K cad S' ρ' H' → ExR K cad S'.n ρ' H' x cls d → E cls d H'
  | .bad => False
theorem PostA.mono {K : PySem.W.Frag} {cad : Nat → Addr} {n n1 : Nat} {ρ ρ1 : Nat → Addr} {H H1 : Hp} {Q : List V → Hp → Prop} {E : XK} {r : R} (x : Nxt K n ρ H n1 ρ1 H1) (h : PostA K cad n ρ H Q E r) : PostA K cad n1 ρ1 H1 Q E r := by
  cases r with
  | ok u S' =>
    cases u <;> first | exact h | exact fun ρ' H' v nx => h ρ' H' v (x.trans nx)
  | exc e S' => exact fun ρ' H' c d nx => h ρ' H' c d (x.trans nx)
  | bad => exact h
def tA (P : Prm) (W : WX) (c : CE) : TA := fun σ H Q => ∃ S ρ σU, Rep P.K P.cad S ρ H ∧ Sl P.K S.n ρ H σ σU ∧ PostA P.K P.cad S.n ρ H Q (fun cls d H' => W cls d σ H') (ev P.Γ.G P.call c σU S)

/-! ### readings weakened -/
section
variable {X : Cx} {e : Expr} {es : List Expr}
theorem _root_.L2.PE.imp {t t' : TE} (h : PE X e t) (i : ∀ σ H Q, t' σ H Q → t σ H Q) : PE X e t' := ⟨fun pins s σ H Q I q => h.run pins s σ H Q I (i σ H Q q)⟩
theorem _root_.L2.PT.imp {t t' : TT} (h : PT X e t) (i : ∀ σ H Q, t' σ H Q → t σ H Q) : PT X e t' := ⟨fun pins s σ H Q I q => h.run pins s σ H Q I (i σ H Q q)⟩
theorem _root_.L2.PW.imp {t t' : TT} (h : PW X e t) (i : ∀ σ H Q, t' σ H Q → t σ H Q) : PW X e t' := ⟨fun whole pins s σ H Q I q => h.run whole pins s σ H Q I (i σ H Q q)⟩
theorem _root_.L2.PA.imp {t t' : TA} (h : PA X es t) (i : ∀ σ H Q, t' σ H Q → t σ H Q) : PA X es t' := ⟨fun pos pins s σ H Q I q => h.run pos pins s σ H Q I (i σ H Q q)⟩
end
/-! ### the text's own side conditions -/
def noStar (es : List Expr) : Bool := es.all notStar
theorem star_cons {e : Expr} {es : List Expr} {env : Env} (h : notStar e = true) : starEach (e :: es) env = (false, eval e env) :: starEach es env := by
  cases e <;> first | rfl | cases h
theorem star_none {env : Env} {pos : Pos} : ∀ {es : List Expr}, noStar es = true → (backTo pos (starEach es env)).any (·.1) = false
  | [], _ => rfl
  | e :: es, h => by
    simp only [noStar, List.all_cons, Bool.and_eq_true] at h
    rw [star_cons h.1]
    simp only [backTo, List.map_cons, List.any_cons, Bool.false_or]
    exact star_none (es := es) h.2
theorem star_all {env : Env} {pos : Pos} : ∀ {es : List Expr}, noStar es = true → (backTo pos (starEach es env)).all (fun x => !x.1) = true
  | [], _ => rfl
  | e :: es, h => by
    simp only [noStar, List.all_cons, Bool.and_eq_true] at h
    rw [star_cons h.1]
    simp only [backTo, List.map_cons, List.all_cons, Bool.not_false, Bool.true_and]
    exact star_all (es := es) h.2
theorem chkA_star {Γ : Gam} {L : LC} : ∀ {c : CE} {es : List Expr}, chkA Γ L c es = true → noStar es = true
  | .nil, [], _ => rfl
  | .cons a b, e :: es, h => by
    simp only [chkA, Bool.and_eq_true] at h
    simp only [noStar, List.all_cons, Bool.and_eq_true]
    exact ⟨h.1.1, chkA_star h.2⟩
  | .nil, _ :: _, h => by simp [chkA] at h
  | .cons _ _, [], h => by simp [chkA] at h
  | .var _, _, h | .cst _, _, h | .glob _, _, h | .bin _ _ _, _, h | .neg _, _, h | .cmp _ _ _, _, h | .isN _, _, h | .notN _, _, h | .chn _ _ _ _ _, _, h | .and _ _, _, h | .or _ _, _, h | .not _, _, h | .ife _ _ _, _, h
  | .call _ _, _, h | .bi _ _, _, h | .lrg _, _, h | .bm _ _ _, _, h | .ix _ _, _, h | .sl _ _ _ _ _, _, h | .tupc _, _, h | .lstc _, _, h | .lc _ _ _ _ _ _ _, _, h | .isi _ _, _, h => by simp [chkA] at h
theorem base_plain {e : Expr} {nm : Str} {env : Env} (h : plainBase e = true) : attributeBase e nm env (eval e env) = eval e env := by
  unfold attributeBase
  split
  · cases h
  · rfl
theorem ix_plain {e : Expr} (h : notSlice e = true) : PlainIx e := by
  intro o i
  cases e <;> first | rfl | cases h
theorem swaps_plain {e : Expr} {t : Option Expr} {l : Nat} {env : Env} (h : notComp e = true) : swapsWith e t l env = pure false := by
  cases e <;> first | rfl | cases h
theorem fold_plain {e : Expr} {env : Env} (h : notSet e = true) (x : Value) : foldedSetIterable e env x = pure x := by
  cases e <;> first | rfl | cases h
section
variable {P : Prm} {L : LC} {X : Cx} {W : WX}
theorem CtxOk.vis (C : CtxOk P L X W) {x : Str} (h : visB L.sc x = true) : Vis X.env.scope x := by
  rw [C.sc]
  unfold visB at h
  split at h
  · exact .inl (by assumption)
  · exact .inr (.inl (by assumption))
  · exact .inr (.inr (by assumption))
  · cases h
theorem CtxOk.gl (C : CtxOk P L X W) {x : Str} (h : glB L.sc x = true) : Gl X x ∧ (x == ("__debug__" : Str)) = false := by
  unfold glB at h
  split at h
  · refine ⟨?_, by simpa using h⟩
    show X.env.scope.names.lookup x = _
    rw [C.sc]
    assumption
  · cases h
theorem CtxOk.blt (C : CtxOk P L X W) {x : Str} (h : P.Γ.blt.contains x = true) : X.mg x = none := by
  rw [C.mg]; exact C.txt.blt x h
theorem CtxOk.hu (C : CtxOk P L X W) : X.A.units + 65 < cLine := by
  have := C.room.un
  omega
/-- the truth of an expression that is no not, and, or, comparison, choice -/
theorem pt_of {e : Expr} {c : CE} (C : CtxOk P L X W) (h : PE X e (tE P W c)) (he : ∀ whole, isTrue e X.env whole = (do let v ← whole; standAt e.pos; holding [v] (truthy v))) : PT X e (tT P W c) := by
  refine (pt_truth h he).imp fun σ H Q ⟨S, ρ, σU, rp, sl, h⟩ => ?_
  refine ⟨S, ρ, σU, rp, sl, ?_⟩
  cases hr : ev P.Γ.G P.call c σU S with
  | ok u S' =>
    rw [hr] at h
    obtain ⟨k, e, h⟩ := h
    exact fun ρ' H' v nx rp ru => ⟨k, by rw [C.K]; exact tru_V rp ru e, h ρ' H' nx rp⟩
  | exc x S' => rw [hr] at h; exact h
  | bad => rw [hr] at h; exact h
end
end IP
/-! IPSndE: the soundness of each expression. -/
namespace IP
open PySem L2 PySem.Spec PyProof.Rows

structure Snd (P : Prm) (c : CE) : Prop where
  pe : ∀ L X W, CtxOk P L X W → ∀ e, chkE P.Γ L c e = true → PE X e (tE P W c)
  pt : ∀ L X W, CtxOk P L X W → ∀ e, chkE P.Γ L c e = true → PT X e (tT P W c)
  pw : ∀ L X W, CtxOk P L X W → ∀ op es pos, chkE P.Γ L c (.BoolOp op es pos) = true → PW X (.BoolOp op es pos) (tT P W c)
  pa : ∀ L X W, CtxOk P L X W → ∀ es, chkA P.Γ L c es = true → PA X es (tA P W c)
  hd : ∀ a b, c = .cons a b → ∀ L X W, CtxOk P L X W → ∀ e, chkE P.Γ L a e = true → PE X e (tE P W a)
def plainTest : Expr → Bool
  | .UnaryOp .Not _ _ => false
  | .BoolOp _ _ _ => false
  | .IfExp _ _ _ _ => false
  | .Compare _ _ _ _ => false
  | _ => true
theorem test_plain {e : Expr} {env : Env} (h : plainTest e = true) : ∀ whole, isTrue e env whole = (do let v ← whole; standAt e.pos; holding [v] (truthy v)) := by
  intro whole
  cases e <;> first | rfl | cases h | skip
  rename_i op x pos
  cases op <;> first | rfl | cases h
theorem Snd.of {P : Prm} {c : CE} (pe : ∀ L X W, CtxOk P L X W → ∀ e, chkE P.Γ L c e = true → PE X e (tE P W c)) (pl : ∀ L e, chkE P.Γ L c e = true → plainTest e = true) (na : ∀ L es, chkA P.Γ L c es = false) (nc : ∀ a b, c ≠ .cons a b) : Snd P c where
  pe := pe
  pt := fun L X W C e h => pt_of C (pe L X W C e h) (test_plain (pl L e h))
  pw := fun L X W C op es pos h => by cases pl L _ h
  pa := fun L X W C es h => by rw [na] at h; cases h
  hd := fun a b h => absurd h (nc a b)

variable {P : Prm}
theorem snd_var (i : Nat) : Snd P (.var i) := by
  refine .of (fun L X W C e h => ?_) (fun L e h => ?_) (fun L es => by cases es <;> rfl) (fun _ _ h => by cases h)
  · cases e <;> try (simp only [chkE, Bool.false_eq_true] at h; done)
    simp only [chkE, Bool.and_eq_true] at h
    rename_i x pos
    obtain ⟨⟨h1, h2⟩, h3⟩ := h
    have hd : (x == ("__debug__" : Str)) = false ∧ (x == ("__classdict__" : Str)) = false := by
      simpa [dbg] using h3
    refine (pe_var (by rw [C.N]; exact of_decide_eq_true h1) (C.vis h2) hd.1 hd.2).imp fun σ H Q ⟨S, ρ, σU, rp, sl, h⟩ => ?_
    simp only [ev] at h
    split at h
    · rename_i u e
      obtain ⟨v, e1, r⟩ := sl.get _ _ e
      exact ⟨v, e1, h _ _ _ .refl rp r⟩
    · exact h.elim
  · cases e <;> first | rfl | (simp only [chkE, Bool.false_eq_true] at h; done)
theorem snd_cst (u : U) : Snd P (.cst u) := by
  refine .of (fun L X W C e h => ?_) (fun L e h => ?_) (fun L es => by cases es <;> rfl) (fun _ _ h => by cases h)
  · cases e <;> try (simp only [chkE, Bool.false_eq_true] at h; done)
    simp only [chkE] at h
    rename_i c k pos
    cases u <;> cases c <;> simp only [cstB] at h <;> try cases h
    · exact pe_non.imp fun σ H Q ⟨S, ρ, σU, rp, sl, h⟩ => h _ _ _ .refl rp .non
    · simp at h; subst h; exact pe_bl.imp fun σ H Q ⟨S, ρ, σU, rp, sl, h⟩ => h _ _ _ .refl rp (.bl _)
    · simp at h; subst h; exact pe_int.imp fun σ H Q ⟨S, ρ, σU, rp, sl, h⟩ => h _ _ _ .refl rp (.int _)
    · simp at h; subst h; exact pe_str.imp fun σ H Q ⟨S, ρ, σU, rp, sl, h⟩ => h _ _ _ .refl rp (.str _)
  · cases e <;> first | rfl | (simp only [chkE, Bool.false_eq_true] at h; done)
theorem snd_glob (i : Nat) : Snd P (.glob i) := by
  refine .of (fun L X W C e h => ?_) (fun L e h => ?_) (fun L es => by cases es <;> rfl) (fun _ _ h => by cases h)
  · cases e <;> try (simp only [chkE, Bool.false_eq_true] at h; done)
    simp only [chkE, Bool.and_eq_true] at h
    rename_i x pos
    obtain ⟨h1, h2⟩ := h
    split at h2
    · rename_i y u hy
      have e : y = x := by simpa using h2
      subst e
      obtain ⟨v, w, hm, r, ru⟩ := C.txt.glv i y u hy
      obtain ⟨g1, g2⟩ := C.gl h1
      refine (pe_glob g1 (by rw [C.mg]; exact hm) r g2).imp fun σ H Q ⟨S, ρ, σU, rp, sl, h⟩ => ?_
      simp only [ev, Gam.G, hy, Option.map_some, okO] at h
      exact h _ _ _ .refl rp (ru _ _ _)
    · cases h2
  · cases e <;> first | rfl | (simp only [chkE, Bool.false_eq_true] at h; done)
theorem snd_bin (o : Bop) {a b : CE} (A : Snd P a) (B : Snd P b) : Snd P (.bin o a b) := by
  refine .of (fun L X W C e h => ?_) (fun L e h => ?_) (fun L es => by cases es <;> rfl) (fun _ _ h => by cases h)
  · cases e <;> try (simp only [chkE, Bool.false_eq_true] at h; done)
    simp only [chkE, Bool.and_eq_true] at h
    rename_i ea op eb pos
    obtain ⟨⟨h1, h2⟩, h3⟩ := h
    have e := opEq_ok h1
    subst e
    have ok := bop_ok (X := X) (cad := P.cad) o
    rw [C.K] at ok
    refine (pe_op ok (A.pe L X W C ea h2) (B.pe L X W C eb h3)).imp fun σ H Q ⟨S, ρ, σU, rp, sl, h⟩ => ?_
    refine ⟨S, ρ, σU, rp, sl, PostR.bind h fun u S1 ρ1 H1 v _ nx rp1 ru h1 => ⟨S1, ρ1, σU, rp1, sl.mono nx, PostR.bind h1 fun w S2 ρ2 H2 z _ nx2 rp2 rw_ h2 => ?_⟩⟩
    exact ⟨S2, ρ2, u, w, rp2, ru.mono nx2, rw_, h2.toP⟩
  · cases e <;> first | rfl | (simp only [chkE, Bool.false_eq_true] at h; done)
theorem snd_neg {a : CE} (A : Snd P a) : Snd P (.neg a) := by
  refine .of (fun L X W C e h => ?_) (fun L e h => ?_) (fun L es => by cases es <;> rfl) (fun _ _ h => by cases h)
  · cases e <;> try (simp only [chkE, Bool.false_eq_true] at h; done)
    rename_i op x pos
    cases op <;> try (simp only [chkE, Bool.false_eq_true] at h; done)
    simp only [chkE] at h
    refine (pe_un un_neg (A.pe L X W C x h)).imp fun σ H Q ⟨S, ρ, σU, rp, sl, h⟩ => ?_
    refine ⟨S, ρ, σU, rp, sl, PostR.bind h fun u S1 ρ1 H1 v _ nx rp1 ru h1 => ?_⟩
    cases ru <;> try exact h1.elim
    exact ⟨_, rfl, h1 _ _ _ .refl rp1 (.int _)⟩
  · cases e <;> first | rfl | (simp only [chkE, Bool.false_eq_true] at h; done) | skip
    rename_i op x pos
    cases op <;> first | rfl | (simp only [chkE, Bool.false_eq_true] at h; done)
theorem cmp_read {o : Cop} {a b : CE} {W : WX} {σ : L2.St} {H : Hp} {Q : VK} (h : tE P W (.cmp o a b) σ H Q) : tOp (rCop P.K P.cad o) (tE P W a) (tE P W b) σ H Q := by
  obtain ⟨S, ρ, σU, rp, sl, h⟩ := h
  refine ⟨S, ρ, σU, rp, sl, PostR.bind h fun u S1 ρ1 H1 v _ nx rp1 ru h1 => ⟨S1, ρ1, σU, rp1, sl.mono nx, PostR.bind h1 fun w S2 ρ2 H2 z _ nx2 rp2 rw_ h2 => ?_⟩⟩
  obtain ⟨u', e, h3⟩ := h2.toO
  simp only [Option.map_eq_some_iff] at e
  obtain ⟨k, e, rfl⟩ := e
  exact ⟨S2, ρ2, u, w, k, rp2, ru.mono nx2, rw_, e, h3 _ _ _ .refl rp2 (.bl _)⟩
/-- a test that gives a bool -/
theorem tT_bool {c : CE} {W : WX} {σ : L2.St} {H : Hp} {Q : Bool → Hp → Prop} (hb : ∀ σU S u S', ev P.Γ.G P.call c σU S = .ok u S' → ∃ k, u = .bl k) (h : tT P W c σ H Q) : tE P W c σ H fun x H' => ∃ k, x = .bl k ∧ Q k H' := by
  obtain ⟨S, ρ, σU, rp, sl, h⟩ := h
  refine ⟨S, ρ, σU, rp, sl, ?_⟩
  cases e : ev P.Γ.G P.call c σU S with
  | ok u S' =>
    obtain ⟨k, rfl⟩ := hb _ _ _ _ e
    rw [e] at h
    obtain ⟨k', e', h⟩ := h
    simp only [tru, Option.some.injEq] at e'
    subst e'
    intro ρ' H' v nx rp' ru
    cases ru
    exact ⟨k, rfl, h _ _ nx rp'⟩
  | exc x S' => rw [e] at h; exact h
  | bad => rw [e] at h; exact h
theorem bind_ok {r : R} {f : U → Sto → R} {u : U} {S' : Sto} (h : r.bind f = .ok u S') : ∃ v S1, r = .ok v S1 ∧ f v S1 = .ok u S' := by
  cases r with
  | ok v S1 => exact ⟨v, S1, rfl, h⟩
  | exc x S1 => cases h
  | bad => cases h
theorem okO_ok {o : Option U} {S S' : Sto} {u : U} (h : okO o S = .ok u S') : o = some u := by
  cases o with
  | none => cases h
  | some v => simp only [okO, R.ok.injEq] at h; rw [h.1]
theorem snd_cmp (o : Cop) {a b : CE} (A : Snd P a) (B : Snd P b) : Snd P (.cmp o a b) where
  pe := fun L X W C e h => by
    cases e <;> try (simp only [chkE, Bool.false_eq_true] at h; done)
    rename_i ea ops cs pos
    match ops, cs, h with
    | [op], [eb], h =>
      simp only [chkE, Bool.and_eq_true] at h
      obtain ⟨⟨⟨h1, h2⟩, h3⟩, h4⟩ := h
      have e := cmpEq_ok h1
      subst e
      have ok := cop_ok (X := X) (cad := P.cad) C.hu o
      rw [C.K] at ok
      exact (pe_cmpR ok (A.pe L X W C ea h2) (B.pe L X W C eb h3) (by simpa using h4)).imp fun σ H Q h => cmp_read h
    | [], _, h => simp [chkE] at h
    | _ :: _ :: _, _, h => simp [chkE] at h
    | [_], [], h => simp [chkE] at h
    | [_], _ :: _ :: _, h => simp [chkE] at h
  pt := fun L X W C e h => by
    cases e <;> try (simp only [chkE, Bool.false_eq_true] at h; done)
    rename_i ea ops cs pos
    match ops, cs, h with
    | [op], [eb], h =>
      simp only [chkE, Bool.and_eq_true] at h
      obtain ⟨⟨⟨h1, h2⟩, h3⟩, h4⟩ := h
      have e := cmpEq_ok h1
      subst e
      have ok := cop_ok (X := X) (cad := P.cad) C.hu o
      rw [C.K] at ok
      refine (pt_cmpR ok (A.pe L X W C ea h2) (B.pe L X W C eb h3) (by simpa using h4)).imp fun σ H Q h => ?_
      refine cmp_read (tT_bool (fun σU S u S' e => ?_) h)
      simp only [ev] at e
      obtain ⟨_, _, _, e⟩ := bind_ok e
      obtain ⟨_, _, _, e⟩ := bind_ok e
      have e := okO_ok e
      simp only [Option.map_eq_some_iff] at e
      obtain ⟨k, _, rfl⟩ := e
      exact ⟨k, rfl⟩
    | [], _, h => simp [chkE] at h
    | _ :: _ :: _, _, h => simp [chkE] at h
    | [_], [], h => simp [chkE] at h
    | [_], _ :: _ :: _, h => simp [chkE] at h
  pw := fun L X W C op es pos h => by simp [chkE] at h
  pa := fun L X W C es h => by cases es <;> simp [chkA] at h
  hd := fun a b h => by cases h
theorem non_iff {n : Nat} {ρ : Nat → Addr} {K : PySem.W.Frag} {H : Hp} {u : U} {v : V} (r : RU K n ρ H u v) : decide (v = .non) = u.isNon := by
  cases r <;> simp [U.isNon]
theorem chk_is {Γ : Gam} {L : LC} {a : CE} {e : Expr} (neg : Bool) (h : chkE Γ L (if neg then .notN a else .isN a) e = true) : ∃ ea j p2 pos, e = .Compare ea [if neg then .IsNot else .Is] [.Constant .none j p2] pos ∧ chkE Γ L a ea = true := by
  cases neg <;> simp only [Bool.false_eq_true, if_true, if_false] at h ⊢
  all_goals
    cases e <;> try (simp only [chkE, Bool.false_eq_true] at h; done)
    rename_i ea ops cs pos
    match ops, cs, h with
    | [], _, h => simp [chkE] at h
    | _ :: _ :: _, _, h => simp [chkE] at h
    | [_], [], h => simp [chkE] at h
    | [_], _ :: _ :: _, h => simp [chkE] at h
    | [op], [eb], h =>
      cases op <;> try (simp only [chkE, Bool.false_eq_true] at h; done)
      cases eb <;> try (simp only [chkE, Bool.false_eq_true] at h; done)
      rename_i c j p2
      cases c <;> try (simp only [chkE, Bool.false_eq_true] at h; done)
      simp only [chkE] at h
      exact ⟨ea, j, p2, pos, rfl, h⟩
theorem non_iff2 {n : Nat} {ρ : Nat → Addr} {K : PySem.W.Frag} {H : Hp} {u : U} {v : V} (r : RU K n ρ H u v) : (!decide (v = .non)) = (!u.isNon) := by
  rw [non_iff r]
theorem snd_isN {a : CE} (A : Snd P a) : Snd P (.isN a) := by
  have key : ∀ L X W, CtxOk P L X W → ∀ e, chkE P.Γ L (.isN a) e = true → PE X e (tE P W (.isN a)) ∧ PT X e (tT P W (.isN a)) := fun L X W C e h => by
    obtain ⟨ea, j, p2, pos, rfl, h⟩ := chk_is false h
    refine ⟨(pe_cmp (pc_isN (A.pe L X W C ea h))).imp fun σ H Q ⟨S, ρ, σU, rp, sl, h⟩ => ?_, (pt_cmp (pc_isN (A.pe L X W C ea h))).imp fun σ H Q h => ?_⟩
    · refine ⟨S, ρ, σU, rp, sl, PostR.bind h fun u S1 ρ1 H1 v _ nx rp1 ru h1 => ?_⟩
      rw [non_iff ru]
      exact h1 _ _ _ .refl rp1 (.bl _)
    · obtain ⟨S, ρ, σU, rp, sl, h⟩ := tT_bool (fun σU S u S' e => by
        simp only [ev] at e
        obtain ⟨_, _, _, e⟩ := bind_ok e
        simp only [R.ok.injEq] at e
        exact ⟨_, e.1.symm⟩) h
      refine ⟨S, ρ, σU, rp, sl, PostR.bind h fun u S1 ρ1 H1 v _ nx rp1 ru h1 => ?_⟩
      rw [non_iff ru]
      exact h1 _ _ _ .refl rp1 (.bl _)
  exact ⟨fun L X W C e h => (key L X W C e h).1, fun L X W C e h => (key L X W C e h).2, fun L X W C op es pos h => by simp [chkE] at h, fun L X W C es h => by cases es <;> simp [chkA] at h, fun a b h => by cases h⟩
theorem snd_notN {a : CE} (A : Snd P a) : Snd P (.notN a) := by
  have key : ∀ L X W, CtxOk P L X W → ∀ e, chkE P.Γ L (.notN a) e = true → PE X e (tE P W (.notN a)) ∧ PT X e (tT P W (.notN a)) := fun L X W C e h => by
    obtain ⟨ea, j, p2, pos, rfl, h⟩ := chk_is true h
    refine ⟨(pe_cmp (pc_notN (A.pe L X W C ea h))).imp fun σ H Q ⟨S, ρ, σU, rp, sl, h⟩ => ?_, (pt_cmp (pc_notN (A.pe L X W C ea h))).imp fun σ H Q h => ?_⟩
    · refine ⟨S, ρ, σU, rp, sl, PostR.bind h fun u S1 ρ1 H1 v _ nx rp1 ru h1 => ?_⟩
      rw [non_iff2 ru]
      exact h1 _ _ _ .refl rp1 (.bl _)
    · obtain ⟨S, ρ, σU, rp, sl, h⟩ := tT_bool (fun σU S u S' e => by
        simp only [ev] at e
        obtain ⟨_, _, _, e⟩ := bind_ok e
        simp only [R.ok.injEq] at e
        exact ⟨_, e.1.symm⟩) h
      refine ⟨S, ρ, σU, rp, sl, PostR.bind h fun u S1 ρ1 H1 v _ nx rp1 ru h1 => ?_⟩
      rw [non_iff2 ru]
      exact h1 _ _ _ .refl rp1 (.bl _)
  exact ⟨fun L X W C e h => (key L X W C e h).1, fun L X W C e h => (key L X W C e h).2, fun L X W C op es pos h => by simp [chkE] at h, fun L X W C es h => by cases es <;> simp [chkA] at h, fun a b h => by cases h⟩
/-- a comparison's answer -/
theorem snd_chn (o o' : Cop) {a b c : CE} (A : Snd P a) (B : Snd P b) (D : Snd P c) : Snd P (.chn o o' a b c) := by
  have key : ∀ L X W, CtxOk P L X W → ∀ e, chkE P.Γ L (.chn o o' a b c) e = true → PE X e (tE P W (.chn o o' a b c)) ∧ PT X e (tT P W (.chn o o' a b c)) := fun L X W C e h => by
    cases e <;> try (simp only [chkE, Bool.false_eq_true] at h; done)
    rename_i ea ops cs pos
    match ops, cs, h with
    | [], _, h => simp [chkE] at h
    | [_], _, h => simp [chkE] at h
    | _ :: _ :: _ :: _, _, h => simp [chkE] at h
    | [_, _], [], h => simp [chkE] at h
    | [_, _], [_], h => simp [chkE] at h
    | [_, _], _ :: _ :: _ :: _, h => simp [chkE] at h
    | [op, op'], [eb, ec], h =>
      simp only [chkE, Bool.and_eq_true] at h
      obtain ⟨⟨⟨⟨⟨⟨h1, h1'⟩, h2⟩, h3⟩, h4⟩, h5⟩, h6⟩ := h
      have e := cmpEq_ok h1
      have e' := cmpEq_ok h1'
      subst e
      subst e'
      have ok := cop_ok (X := X) (cad := P.cad) C.hu o
      have ok' := cop_ok (X := X) (cad := P.cad) C.hu o'
      rw [C.K] at ok ok'
      have read : ∀ {σ : L2.St} {H : Hp} {Q : VK}, tE P W (.chn o o' a b c) σ H Q → tChain (rCop P.K P.cad o) (rCop P.K P.cad o') (tE P W a) (tE P W b) (tE P W c) σ H Q := fun {σ H Q} ⟨S, ρ, σU, rp, sl, h⟩ => by
        refine ⟨S, ρ, σU, rp, sl, PostR.bind h fun u S1 ρ1 H1 v _ nx rp1 ru h1 => ⟨S1, ρ1, σU, rp1, sl.mono nx, PostR.bind h1 fun w S2 ρ2 H2 z _ nx2 rp2 rw_ h2 => ?_⟩⟩
        split at h2
        · rename_i hk
          refine ⟨S2, ρ2, u, w, true, rp2, ru.mono nx2, rw_, hk, true, rfl, ?_⟩
          rw [if_pos rfl]
          refine ⟨S2, ρ2, σU, rp2, (sl.mono nx).mono nx2, PostR.bind h2 fun u3 S3 ρ3 H3 v3 _ nx3 rp3 ru3 h3 => ?_⟩
          obtain ⟨u', e, h4⟩ := h3.toO
          simp only [Option.map_eq_some_iff] at e
          obtain ⟨k, e, rfl⟩ := e
          exact ⟨S3, ρ3, w, u3, k, rp3, rw_.mono nx3, ru3, e, h4 _ _ _ .refl rp3 (.bl _)⟩
        · rename_i hk
          refine ⟨S2, ρ2, u, w, false, rp2, ru.mono nx2, rw_, hk, false, rfl, ?_⟩
          rw [if_neg Bool.false_ne_true]
          exact h2 _ _ _ .refl rp2 (.bl _)
        · exact h2.elim
      refine ⟨(pe_chain ok ok' (A.pe L X W C ea h2) (B.pe L X W C eb h3) (D.pe L X W C ec h4) (by show behindInMarks o'.op ec = false; simpa using h6)).imp fun σ H Q h => read h, (pt_chain ok ok' (A.pe L X W C ea h2) (B.pe L X W C eb h3) (D.pe L X W C ec h4) (by show behindInMarks o'.op ec = false; simpa using h6)).imp fun σ H Q h => ?_⟩
      refine read (tT_bool (fun σU S u S' e => ?_) h)
      simp only [ev] at e
      obtain ⟨_, _, _, e⟩ := bind_ok e
      obtain ⟨_, _, _, e⟩ := bind_ok e
      split at e
      · obtain ⟨_, _, _, e⟩ := bind_ok e
        have e := okO_ok e
        simp only [Option.map_eq_some_iff] at e
        obtain ⟨k, _, rfl⟩ := e
        exact ⟨k, rfl⟩
      · simp only [R.ok.injEq] at e
        exact ⟨_, e.1.symm⟩
      · cases e
  exact ⟨fun L X W C e h => (key L X W C e h).1, fun L X W C e h => (key L X W C e h).2, fun L X W C op es pos h => by simp [chkE] at h, fun L X W C es h => by cases es <;> simp [chkA] at h, fun a b h => by cases h⟩
end IP
/-! IPSndF: the soundness of each expression, on. -/
namespace IP
open PySem L2 PySem.Spec PyProof.Rows
variable {P : Prm}
theorem chk_bool {Γ : Gam} {L : LC} {a b : CE} {e : Expr} (isOr : Bool) (h : chkE Γ L (if isOr then .or a b else .and a b) e = true) : ∃ ea eb rest pos, e = .BoolOp (if isOr then .Or else .And) (ea :: eb :: rest) pos ∧ chkE Γ L a ea = true ∧
    (rest = [] ∧ chkE Γ L b eb = true ∨ (∃ r rs, rest = r :: rs) ∧ chkE Γ L b (.BoolOp (if isOr then .Or else .And) (eb :: rest) pos) = true) := by
  cases isOr <;> simp only [Bool.false_eq_true, if_true, if_false] at h ⊢
  all_goals
    cases e <;> try (simp only [chkE, Bool.false_eq_true] at h; done)
    rename_i op es pos
    cases op <;> try (simp only [chkE, Bool.false_eq_true] at h; done)
    match es, h with
    | [], h => simp [chkE] at h
    | [_], h => simp [chkE] at h
    | [ea, eb], h =>
      simp only [chkE, Bool.and_eq_true] at h
      exact ⟨ea, eb, [], pos, rfl, h.1, .inl ⟨rfl, h.2⟩⟩
    | ea :: eb :: r :: rs, h =>
      simp only [chkE, Bool.and_eq_true] at h
      exact ⟨ea, eb, r :: rs, pos, rfl, h.1, .inr ⟨⟨r, rs, rfl⟩, h.2⟩⟩
theorem snd_and {a b : CE} (A : Snd P a) (B : Snd P b) : Snd P (.and a b) := by
  have pw : ∀ L X W, CtxOk P L X W → ∀ op es pos, chkE P.Γ L (.and a b) (.BoolOp op es pos) = true → PW X (.BoolOp op es pos) (tT P W (.and a b)) := fun L X W C op es pos h => by
    obtain ⟨ea, eb, rest, pos, e, h1, h2⟩ := chk_bool false h
    cases e
    have hb : PW X (.BoolOp .And (eb :: rest) pos) (tT P W b) := by
      rcases h2 with ⟨rfl, h2⟩ | ⟨⟨r, rs, rfl⟩, h2⟩
      · exact pw_and1 (B.pt L X W C eb h2)
      · exact B.pw L X W C _ _ _ h2
    refine (pw_and (A.pt L X W C ea h1) hb).imp fun σ H Q ⟨S, ρ, σU, rp, sl, h⟩ => ?_
    refine ⟨S, ρ, σU, rp, sl, PostT.bindT h (fun u S1 e => by simp only [e]) fun u S1 ρ1 H1 k nx rp1 e h1 => ?_⟩
    simp only [e] at h1
    cases k with
    | true => exact iteT ⟨S1, ρ1, σU, rp1, sl.mono nx, h1⟩
    | false =>
      obtain ⟨k', e', h1⟩ := h1
      rw [e] at e'
      cases e'
      exact iteF (h1 _ _ .refl rp1)
  refine ⟨fun L X W C e h => ?_, fun L X W C e h => ?_, pw, fun L X W C es h => by cases es <;> simp [chkA] at h, fun a b h => by cases h⟩
  · obtain ⟨ea, eb, rest, pos, rfl, h1, h2⟩ := chk_bool false h
    have hb : PE X (.BoolOp .And (eb :: rest) pos) (tE P W b) := by
      rcases h2 with ⟨rfl, h2⟩ | ⟨⟨r, rs, rfl⟩, h2⟩
      · exact pe_one (B.pe L X W C eb h2)
      · exact B.pe L X W C _ h2
    refine (pe_andT (A.pe L X W C ea h1) hb).imp fun σ H Q ⟨S, ρ, σU, rp, sl, h⟩ => ?_
    refine ⟨S, ρ, σU, rp, sl, PostR.bind h fun u S1 ρ1 H1 v _ nx rp1 ru h1 => ?_⟩
    cases e : tru S1 u with
    | none => simp only [e] at h1; exact h1.elim
    | some k =>
      simp only [e] at h1
      refine ⟨k, by rw [C.K]; exact tru_V rp1 ru e, ?_⟩
      cases k with
      | true => exact iteT ⟨S1, ρ1, σU, rp1, sl.mono nx, h1⟩
      | false => exact iteF (h1 _ _ _ .refl rp1 ru)
  · obtain ⟨ea, eb, rest, pos, rfl, h1, h2⟩ := chk_bool false h
    exact (pw L X W C _ _ _ h).pt
theorem snd_or {a b : CE} (A : Snd P a) (B : Snd P b) : Snd P (.or a b) := by
  have pw : ∀ L X W, CtxOk P L X W → ∀ op es pos, chkE P.Γ L (.or a b) (.BoolOp op es pos) = true → PW X (.BoolOp op es pos) (tT P W (.or a b)) := fun L X W C op es pos h => by
    obtain ⟨ea, eb, rest, pos, e, h1, h2⟩ := chk_bool true h
    cases e
    have hb : PW X (.BoolOp .Or (eb :: rest) pos) (tT P W b) := by
      rcases h2 with ⟨rfl, h2⟩ | ⟨⟨r, rs, rfl⟩, h2⟩
      · exact pw_or1 (B.pt L X W C eb h2)
      · exact B.pw L X W C _ _ _ h2
    refine (pw_or (A.pt L X W C ea h1) hb).imp fun σ H Q ⟨S, ρ, σU, rp, sl, h⟩ => ?_
    refine ⟨S, ρ, σU, rp, sl, PostT.bindT h (fun u S1 e => by simp only [e]) fun u S1 ρ1 H1 k nx rp1 e h1 => ?_⟩
    simp only [e] at h1
    cases k with
    | false => exact iteF ⟨S1, ρ1, σU, rp1, sl.mono nx, h1⟩
    | true =>
      obtain ⟨k', e', h1⟩ := h1
      rw [e] at e'
      cases e'
      exact iteT (h1 _ _ .refl rp1)
  refine ⟨fun L X W C e h => ?_, fun L X W C e h => ?_, pw, fun L X W C es h => by cases es <;> simp [chkA] at h, fun a b h => by cases h⟩
  · obtain ⟨ea, eb, rest, pos, rfl, h1, h2⟩ := chk_bool true h
    have hb : PE X (.BoolOp .Or (eb :: rest) pos) (tE P W b) := by
      rcases h2 with ⟨rfl, h2⟩ | ⟨⟨r, rs, rfl⟩, h2⟩
      · exact pe_one (B.pe L X W C eb h2)
      · exact B.pe L X W C _ h2
    refine (pe_orT (A.pe L X W C ea h1) hb).imp fun σ H Q ⟨S, ρ, σU, rp, sl, h⟩ => ?_
    refine ⟨S, ρ, σU, rp, sl, PostR.bind h fun u S1 ρ1 H1 v _ nx rp1 ru h1 => ?_⟩
    cases e : tru S1 u with
    | none => simp only [e] at h1; exact h1.elim
    | some k =>
      simp only [e] at h1
      refine ⟨k, by rw [C.K]; exact tru_V rp1 ru e, ?_⟩
      cases k with
      | false => exact iteF ⟨S1, ρ1, σU, rp1, sl.mono nx, h1⟩
      | true => exact iteT (h1 _ _ _ .refl rp1 ru)
  · obtain ⟨ea, eb, rest, pos, rfl, h1, h2⟩ := chk_bool true h
    exact (pw L X W C _ _ _ h).pt
theorem snd_not {a : CE} (A : Snd P a) : Snd P (.not a) := by
  have sh : ∀ {L : LC} {e : Expr}, chkE P.Γ L (.not a) e = true → ∃ x pos, e = .UnaryOp .Not x pos ∧ chkE P.Γ L a x = true := fun {L e} h => by
    cases e <;> try (simp only [chkE, Bool.false_eq_true] at h; done)
    rename_i op x pos
    cases op <;> try (simp only [chkE, Bool.false_eq_true] at h; done)
    simp only [chkE] at h
    exact ⟨x, pos, rfl, h⟩
  refine ⟨fun L X W C e h => ?_, fun L X W C e h => ?_, fun L X W C op es pos h => by simp [chkE] at h, fun L X W C es h => by cases es <;> simp [chkA] at h, fun a b h => by cases h⟩
  · obtain ⟨x, pos, rfl, h⟩ := sh h
    refine (pe_notT (A.pe L X W C x h)).imp fun σ H Q ⟨S, ρ, σU, rp, sl, h⟩ => ?_
    refine ⟨S, ρ, σU, rp, sl, PostR.bind h fun u S1 ρ1 H1 v _ nx rp1 ru h1 => ?_⟩
    obtain ⟨u', e, h1⟩ := h1.toO
    simp only [Option.map_eq_some_iff] at e
    obtain ⟨k, e, rfl⟩ := e
    exact ⟨k, by rw [C.K]; exact tru_V rp1 ru e, h1 _ _ _ .refl rp1 (.bl _)⟩
  · obtain ⟨x, pos, rfl, h⟩ := sh h
    refine (pt_not (A.pt L X W C x h)).imp fun σ H Q ⟨S, ρ, σU, rp, sl, h⟩ => ?_
    refine ⟨S, ρ, σU, rp, sl, PostT.bindT h (fun u S1 e => by simp only [e]; rfl) fun u S1 ρ1 H1 k nx rp1 e h1 => ?_⟩
    simp only [e, Option.map_some, okO] at h1
    obtain ⟨k', e', h1⟩ := h1
    simp only [tru, Option.some.injEq] at e'
    subst e'
    exact h1 _ _ .refl rp1
/-- a choice as a test -/
theorem pt_ifExp {X : Cx} {c a b : Expr} {pos : Pos} {tc ta tb : TT} (hc : PT X c tc) (ha : PT X a ta) (hb : PT X b tb) : PT X (.IfExp c a b pos) (fun σ H Q => tc σ H fun k H1 => if k = true then ta σ H1 Q else tb σ H1 Q) := by
  refine ⟨fun pins s σ H Q I h => ?_⟩
  show wpAny _ _ (do if ← isTrue c X.env (eval c X.env) then isTrue a X.env (eval a X.env) else isTrue b X.env (eval b X.env)) _ _ _
  refine wpAny_bind (thn (hc.run pins s σ H _ I h) fun k s1 ⟨H1, I1, q1⟩ => ?_)
  cases k with
  | true => exact ha.run pins s1 σ H1 Q I1 (by simpa using q1)
  | false => exact hb.run pins s1 σ H1 Q I1 (by simpa using q1)
theorem snd_ife {c a b : CE} (D : Snd P c) (A : Snd P a) (B : Snd P b) : Snd P (.ife c a b) := by
  have sh : ∀ {L : LC} {e : Expr}, chkE P.Γ L (.ife c a b) e = true → ∃ ec ea eb pos, e = .IfExp ec ea eb pos ∧ chkE P.Γ L c ec = true ∧ chkE P.Γ L a ea = true ∧ chkE P.Γ L b eb = true := fun {L e} h => by
    cases e <;> try (simp only [chkE, Bool.false_eq_true] at h; done)
    simp only [chkE, Bool.and_eq_true] at h
    exact ⟨_, _, _, _, rfl, h.1.1, h.1.2, h.2⟩
  refine ⟨fun L X W C e h => ?_, fun L X W C e h => ?_, fun L X W C op es pos h => by simp [chkE] at h, fun L X W C es h => by cases es <;> simp [chkA] at h, fun a b h => by cases h⟩
  · obtain ⟨ec, ea, eb, pos, rfl, h1, h2, h3⟩ := sh h
    refine (pe_ifExp (D.pt L X W C ec h1) (A.pe L X W C ea h2) (B.pe L X W C eb h3)).imp fun σ H Q ⟨S, ρ, σU, rp, sl, h⟩ => ?_
    refine ⟨S, ρ, σU, rp, sl, PostR.bindT h (fun u S1 e => by simp only [e]) fun u S1 ρ1 H1 k nx rp1 e h1 => ?_⟩
    simp only [e] at h1
    cases k with
    | true => exact iteT ⟨S1, ρ1, σU, rp1, sl.mono nx, h1⟩
    | false => exact iteF ⟨S1, ρ1, σU, rp1, sl.mono nx, h1⟩
  · obtain ⟨ec, ea, eb, pos, rfl, h1, h2, h3⟩ := sh h
    refine (pt_ifExp (D.pt L X W C ec h1) (A.pt L X W C ea h2) (B.pt L X W C eb h3)).imp fun σ H Q ⟨S, ρ, σU, rp, sl, h⟩ => ?_
    refine ⟨S, ρ, σU, rp, sl, PostT.bindT h (fun u S1 e => by simp only [e]) fun u S1 ρ1 H1 k nx rp1 e h1 => ?_⟩
    simp only [e] at h1
    cases k with
    | true => exact iteT ⟨S1, ρ1, σU, rp1, sl.mono nx, h1⟩
    | false => exact iteF ⟨S1, ρ1, σU, rp1, sl.mono nx, h1⟩
/-! ### arguments -/
theorem snd_nil : Snd P .nil := by
  have no : ∀ {L : LC} {e : Expr}, chkE P.Γ L .nil e = true → False := fun {L e} h => by cases e <;> simp [chkE] at h
  refine ⟨fun L X W C e h => (no h).elim, fun L X W C e h => (no h).elim, fun L X W C op es pos h => (no h).elim, fun L X W C es h => ?_, fun a b h => by cases h⟩
  cases es with
  | cons _ _ => simp [chkA] at h
  | nil => exact pa_nil.imp fun σ H Q ⟨S, ρ, σU, rp, sl, h⟩ => h _ _ _ .refl rp .nil
theorem snd_cons {a b : CE} (A : Snd P a) (B : Snd P b) : Snd P (.cons a b) := by
  have no : ∀ {L : LC} {e : Expr}, chkE P.Γ L (.cons a b) e = true → False := fun {L e} h => by cases e <;> simp [chkE] at h
  refine ⟨fun L X W C e h => (no h).elim, fun L X W C e h => (no h).elim, fun L X W C op es pos h => (no h).elim, fun L X W C es h => ?_, fun a' b' h => by cases h; exact A.pe⟩
  cases es with
  | nil => simp [chkA] at h
  | cons e es =>
    simp only [chkA, Bool.and_eq_true] at h
    obtain ⟨⟨h1, h2⟩, h3⟩ := h
    refine (pa_cons (A.pe L X W C e h2) (B.pa L X W C es h3) (star_cons h1)).imp fun σ H Q ⟨S, ρ, σU, rp, sl, h⟩ => ?_
    refine ⟨S, ρ, σU, rp, sl, ?_⟩
    simp only [ev] at h
    cases e1 : ev P.Γ.G P.call a σU S with
    | bad => rw [e1] at h; exact h
    | exc x S1 => rw [e1] at h; exact h
    | ok u S1 =>
      rw [e1] at h
      intro ρ1 H1 v nx rp1 ru
      refine ⟨S1, ρ1, σU, rp1, sl.mono nx, ?_⟩
      have h := h.mono nx
      simp only [R.bind] at h
      cases e2 : ev P.Γ.G P.call b σU S1 with
      | bad => rw [e2] at h; exact h
      | exc x S2 => rw [e2] at h; exact h
      | ok w S2 =>
        rw [e2] at h
        cases w <;> try exact h.elim
        intro ρ2 H2 vs nx2 rp2 rus
        exact h _ _ _ nx2 rp2 (.cons (ru.mono nx2) rus)
/-- a call's arguments are taken, then the call's end -/
theorem args_then {W : WX} {a : CE} {f : List U → Sto → R} {σ : L2.St} {H : Hp} {Q : VK} {Q' : List V → Hp → Prop} {S : Sto} {ρ : Nat → Addr} {σU : Fr} (rp : Rep P.K P.cad S ρ H) (sl : Sl P.K S.n ρ H σ σU)
    (h : PostR P.K P.cad S.n ρ H Q (fun cls d H' => W cls d σ H') ((ev P.Γ.G P.call a σU S).bind fun v S => match v with | .tup us => f us S | _ => .bad))
    (k : ∀ us S1 ρ1 H1 vs, Nxt P.K S.n ρ H S1.n ρ1 H1 → Rep P.K P.cad S1 ρ1 H1 → RUs P.K S1.n ρ1 H1 us vs → PostR P.K P.cad S1.n ρ1 H1 Q (fun cls d H' => W cls d σ H') (f us S1) → Q' vs H1) : tA P W a σ H Q' := by
  refine ⟨S, ρ, σU, rp, sl, ?_⟩
  cases e1 : ev P.Γ.G P.call a σU S with
  | bad => rw [e1] at h; exact h
  | exc x S1 => rw [e1] at h; exact h
  | ok u S1 =>
    rw [e1] at h
    simp only [R.bind] at h
    cases u <;> try exact h.elim
    intro ρ1 H1 vs nx rp1 ru
    exact k _ _ _ _ _ nx rp1 ru (h.mono nx)
theorem snd_call (f : Nat) {a : CE} (A : Snd P a) : Snd P (.call f a) := by
  have sh : ∀ {L : LC} {e : Expr}, chkE P.Γ L (.call f a) e = true → ∃ x p e1 es pos I, e = .Call (.Name x p) (e1 :: es) [] pos ∧ glB L.sc x = true ∧ P.Γ.fns[f]? = some I ∧ I.name = x ∧ I.ps.length = (e1 :: es).length ∧ chkA P.Γ L a (e1 :: es) = true := fun {L e} h => by
    cases e <;> try (simp only [chkE, Bool.false_eq_true] at h; done)
    rename_i fn es ks pos
    cases fn <;> try (simp only [chkE, Bool.false_eq_true] at h; done)
    cases es <;> try (simp only [chkE, Bool.false_eq_true] at h; done)
    cases ks <;> try (simp only [chkE, Bool.false_eq_true] at h; done)
    simp only [chkE, Bool.and_eq_true] at h
    obtain ⟨⟨h1, h2⟩, h3⟩ := h
    split at h2
    · rename_i I hI
      simp only [Bool.and_eq_true, beq_iff_eq, decide_eq_true_eq] at h2
      exact ⟨_, _, _, _, _, I, rfl, h1, hI, h2.1, h2.2, h3⟩
    · cases h2
  refine .of (fun L X W C e h => ?_) (fun L e h => ?_) (fun L es => by cases es <;> rfl) (fun _ _ h => by cases h)
  · obtain ⟨x, p, e1, es, pos, I, rfl, hg, hI, rfl, hl, ha⟩ := sh h
    obtain ⟨hm, hk, hb⟩ := C.txt.gfn f I hI
    obtain ⟨g1, g2⟩ := C.gl hg
    have st := chkA_star ha
    simp only [noStar, List.all_cons, Bool.and_eq_true] at st
    refine (pe_callSD (C.fns f I hI) C.room g1 (by rw [C.mg]; exact hm) (by rw [C.K]; exact hk) (by rw [C.K]; exact hb) .nil (fun σ => passAt C.takes σ) (A.pa L X W C _ ha) g2 (star_cons st.1) (star_none st.2)).imp fun σ H Q ⟨S, ρ, σU, rp, sl, h⟩ => ?_
    refine args_then rp sl h fun us S1 ρ1 H1 vs nx rp1 ru h1 => ?_
    exact ⟨S1, ρ1, us, rp1, by rw [List.append_nil]; exact ru, C.txt.lenOk hI h1, h1⟩
  · obtain ⟨x, p, e1, es, pos, I, rfl, _⟩ := sh h
    rfl
theorem snd_bi (b : Bi) {a : CE} (A : Snd P a) : Snd P (.bi b a) := by
  have sh : ∀ {L : LC} {e : Expr}, chkE P.Γ L (.bi b a) e = true → ∃ x p e1 es pos, e = .Call (.Name x p) (e1 :: es) [] pos ∧ glB L.sc x = true ∧ x = b.name ∧ P.Γ.blt.contains x = true ∧ L.calm = true ∧ chkA P.Γ L a (e1 :: es) = true := fun {L e} h => by
    cases e <;> try (simp only [chkE, Bool.false_eq_true] at h; done)
    rename_i fn es ks pos
    cases fn <;> try (simp only [chkE, Bool.false_eq_true] at h; done)
    cases es <;> try (simp only [chkE, Bool.false_eq_true] at h; done)
    cases ks <;> try (simp only [chkE, Bool.false_eq_true] at h; done)
    simp only [chkE, Bool.and_eq_true, beq_iff_eq] at h
    obtain ⟨⟨⟨⟨h1, h2⟩, h3⟩, h4⟩, h5⟩ := h
    exact ⟨_, _, _, _, _, rfl, h2, h1, h3, h4, h5⟩
  refine .of (fun L X W C e h => ?_) (fun L e h => ?_) (fun L es => by cases es <;> rfl) (fun _ _ h => by cases h)
  · obtain ⟨x, p, e1, es, pos, rfl, hg, hx, hb, hc, ha⟩ := sh h
    obtain ⟨g1, g2⟩ := C.gl hg
    have st := chkA_star ha
    simp only [noStar, List.all_cons, Bool.and_eq_true] at st
    have ok := bi_ok (X := X) (cad := P.cad) (C.calm hc) b
    rw [C.K] at ok
    have bo := b.boot
    have bn := b.nm
    rw [← hx] at bo bn
    refine (pe_bi b.valOk ok g1 (C.blt hb) bo (A.pa L X W C _ ha) bn.1 bn.2 (star_cons st.1) (star_none st.2)).imp fun σ H Q ⟨S, ρ, σU, rp, sl, h⟩ => ?_
    refine args_then rp sl h fun us S1 ρ1 H1 vs nx rp1 ru h1 => ?_
    exact ⟨S1, ρ1, us, rp1, ru, h1.toP⟩
  · obtain ⟨x, p, e1, es, pos, rfl, _⟩ := sh h
    rfl
theorem rgV_rg {n : Int} (h : 0 ≤ n) : rgV 0 n = (List.range n.toNat).map fun i => V.int (0 + (i : Nat)) := by
  unfold rgV
  rw [show n - 0 = n by omega]
theorem snd_lrg {a : CE} (A : Snd P a) : Snd P (.lrg a) := by
  have sh : ∀ {L : LC} {e : Expr}, chkE P.Γ L (.lrg a) e = true → ∃ x p y p2 e1 pos2 pos, e = .Call (.Name x p) [.Call (.Name y p2) [e1] [] pos2] [] pos ∧ x = "list" ∧ y = "range" ∧ glB L.sc x = true ∧ glB L.sc y = true ∧ P.Γ.blt.contains x = true ∧ P.Γ.blt.contains y = true ∧ L.calm = true ∧ notStar e1 = true ∧ chkE P.Γ L a e1 = true := fun {L e} h => by
    cases e <;> try (simp only [chkE, Bool.false_eq_true] at h; done)
    rename_i fn es ks pos
    cases fn <;> try (simp only [chkE, Bool.false_eq_true] at h; done)
    cases es <;> try (simp only [chkE, Bool.false_eq_true] at h; done)
    rename_i x p a1 es
    cases a1 <;> try (simp only [chkE, Bool.false_eq_true] at h; done)
    rename_i fn2 es2 ks2 pos2
    cases fn2 <;> try (simp only [chkE, Bool.false_eq_true] at h; done)
    cases es2 <;> try (simp only [chkE, Bool.false_eq_true] at h; done)
    rename_i e1 es2
    cases es2 <;> try (simp only [chkE, Bool.false_eq_true] at h; done)
    cases ks2 <;> try (simp only [chkE, Bool.false_eq_true] at h; done)
    cases es <;> try (simp only [chkE, Bool.false_eq_true] at h; done)
    cases ks <;> try (simp only [chkE, Bool.false_eq_true] at h; done)
    simp only [chkE, Bool.and_eq_true, beq_iff_eq] at h
    obtain ⟨⟨⟨⟨⟨⟨⟨⟨h1, h2⟩, h3⟩, h4⟩, h5⟩, h6⟩, h7⟩, h8⟩, h9⟩ := h
    exact ⟨_, _, _, _, _, _, _, rfl, h1, h2, h3, h4, h5, h6, h7, h8, h9⟩
  refine .of (fun L X W C e h => ?_) (fun L e h => ?_) (fun L es => by cases es <;> rfl) (fun _ _ h => by cases h)
  · obtain ⟨x, p, y, p2, e1, pos2, pos, rfl, rfl, rfl, gx, gy, bx, by_, hc, hs, ha⟩ := sh h
    obtain ⟨g1, g2⟩ := C.gl gx
    obtain ⟨g3, g4⟩ := C.gl gy
    refine (pe_listRg (C.calm hc) g1 (C.blt bx) (prg_1 g3 (C.blt by_) (A.pe L X W C e1 ha) (star_cons hs)) (star_cons rfl)).imp fun σ H Q ⟨S, ρ, σU, rp, sl, h⟩ => ?_
    refine ⟨S, ρ, σU, rp, sl, PostR.bind h fun u S1 ρ1 H1 v he nx rp1 ru h1 => ?_⟩
    clear he
    cases ru <;> try exact h1.elim
    rename_i n
    refine ⟨n, rfl, ?_⟩
    simp only at h1
    split at h1
    · rename_i hn
      refine ⟨RgOk.of_le (by omega) (by omega) (by omega) (by omega), fun q hq => ?_⟩
      rw [rgV_rg hn.1]
      exact PostP.newL (Q := Q) (K := P.K) (cad := P.cad) (us := rgU n.toNat 0) h1 rp1 (RUs.of_rg _ _) hq
    · exact h1.elim
  · obtain ⟨x, p, y, p2, e1, pos2, pos, rfl, _⟩ := sh h
    rfl
theorem Bm.slot (m : Bm) : PlainAttrs m.ty ∧ Slot m.ty m.nm m.id ∧ typeOf (.builtin m.id) = pure (.type "method_descriptor") := by
  cases m
  · exact ⟨PySem.F.plainAttrs_list, PySem.F.slot_list_append, PySem.F.type_list_append⟩
theorem snd_bm (m : Bm) {o a : CE} (O : Snd P o) (A : Snd P a) : Snd P (.bm m o a) := by
  have sh : ∀ {L : LC} {e : Expr}, chkE P.Γ L (.bm m o a) e = true → ∃ eo nm apos e1 es cpos, e = .Call (.Attribute eo nm apos) (e1 :: es) [] cpos ∧ nm = m.nm ∧ plainBase eo = true ∧ (e1 :: es).length < 30 ∧ (apos.endLine == cpos.line) = true ∧ chkE P.Γ L o eo = true ∧ chkA P.Γ L a (e1 :: es) = true := fun {L e} h => by
    cases e <;> try (simp only [chkE, Bool.false_eq_true] at h; done)
    rename_i fn es ks pos
    cases fn <;> try (simp only [chkE, Bool.false_eq_true] at h; done)
    cases es <;> try (simp only [chkE, Bool.false_eq_true] at h; done)
    cases ks <;> try (simp only [chkE, Bool.false_eq_true] at h; done)
    simp only [chkE, Bool.and_eq_true, decide_eq_true_eq] at h
    obtain ⟨⟨⟨⟨⟨h1, h2⟩, h3⟩, h4⟩, h5⟩, h6⟩ := h
    exact ⟨_, _, _, _, _, _, rfl, by simpa using h1, h2, h3, h4, h5, h6⟩
  refine .of (fun L X W C e h => ?_) (fun L e h => ?_) (fun L es => by cases es <;> rfl) (fun _ _ h => by cases h)
  · obtain ⟨eo, nm, apos, e1, es, cpos, rfl, rfl, hp, hl, hli, ho, ha⟩ := sh h
    have st := chkA_star ha
    have st' := st
    simp only [noStar, List.all_cons, Bool.and_eq_true] at st
    have ok := bm_ok (X := X) (cad := P.cad) m
    rw [C.K] at ok
    obtain ⟨s1, s2, s3⟩ := m.slot
    refine (pe_bm s1 s2 s3 ok (O.pe L X W C eo ho) (A.pa L X W C _ ha) (base_plain hp) ?_ hli (star_cons st.1) (star_none st.2)).imp fun σ H Q ⟨S, ρ, σU, rp, sl, h⟩ => ?_
    · rw [star_all st']
      simp only [Bool.true_and, Bool.and_eq_true, decide_eq_true_eq]
      refine ⟨rfl, ?_⟩
      simpa using hl
    · refine ⟨S, ρ, σU, rp, sl, PostR.bind h fun u S1 ρ1 H1 v _ nx rp1 ru h1 => ?_⟩
      split at h1
      · rename_i ht
        have ty := bm_ty rp1 ru ht
        rw [C.K]
        exact ⟨ty, args_then rp1 (sl.mono nx) h1 fun us S2 ρ2 H2 vs nx2 rp2 rus h2 => ⟨S2, ρ2, u, us, rp2, ru.mono nx2, rus, h2.toP⟩⟩
      · exact h1.elim
  · obtain ⟨eo, nm, apos, e1, es, cpos, rfl, _⟩ := sh h
    rfl
theorem snd_ix {a i : CE} (A : Snd P a) (B : Snd P i) : Snd P (.ix a i) := by
  have sh : ∀ {L : LC} {e : Expr}, chkE P.Γ L (.ix a i) e = true → ∃ ea ei pos, e = .Subscript ea ei pos ∧ notSlice ei = true ∧ chkE P.Γ L a ea = true ∧ chkE P.Γ L i ei = true := fun {L e} h => by
    cases e <;> try (simp only [chkE, Bool.false_eq_true] at h; done)
    simp only [chkE, Bool.and_eq_true] at h
    exact ⟨_, _, _, rfl, h.1.1, h.1.2, h.2⟩
  refine .of (fun L X W C e h => ?_) (fun L e h => ?_) (fun L es => by cases es <;> rfl) (fun _ _ h => by cases h)
  · obtain ⟨ea, ei, pos, rfl, h1, h2, h3⟩ := sh h
    have ok := ix_ok (X := X) (cad := P.cad)
    rw [C.K] at ok
    refine (pe_ix ok (A.pe L X W C ea h2) (B.pe L X W C ei h3) (ix_plain h1)).imp fun σ H Q ⟨S, ρ, σU, rp, sl, h⟩ => ?_
    refine ⟨S, ρ, σU, rp, sl, PostR.bind h fun u S1 ρ1 H1 v _ nx rp1 ru h1 => ⟨S1, ρ1, σU, rp1, sl.mono nx, PostR.bind h1 fun w S2 ρ2 H2 z _ nx2 rp2 rw_ h2 => ?_⟩⟩
    obtain ⟨u', e, h3⟩ := h2.toO
    exact ⟨S2, ρ2, u, w, u', rp2, ru.mono nx2, rw_, e, fun z rz => h3 _ _ _ .refl rp2 rz⟩
  · obtain ⟨ea, ei, pos, rfl, _⟩ := sh h
    rfl
theorem snd_tupc {a : CE} (A : Snd P a) : Snd P (.tupc a) := by
  have sh : ∀ {L : LC} {e : Expr}, chkE P.Γ L (.tupc a) e = true → ∃ es k pos, e = .Tuple es k pos ∧ chkA P.Γ L a es = true := fun {L e} h => by
    cases e <;> try (simp only [chkE, Bool.false_eq_true] at h; done)
    simp only [chkE] at h
    exact ⟨_, _, _, rfl, h⟩
  refine .of (fun L X W C e h => ?_) (fun L e h => ?_) (fun L es => by cases es <;> rfl) (fun _ _ h => by cases h)
  · obtain ⟨es, k, pos, rfl, h⟩ := sh h
    refine (pe_tup (A.pa L X W C es h)).imp fun σ H Q ⟨S, ρ, σU, rp, sl, h⟩ => ?_
    refine args_then rp sl h fun us S1 ρ1 H1 vs nx rp1 ru h1 => ?_
    split at h1
    · rename_i hl
      exact ⟨by rw [← ru.length]; exact hl, fun p hp => PostP.newT (Q := Q) (K := P.K) (cad := P.cad) (us := us) h1 rp1 ru hp⟩
    · exact h1.elim
  · obtain ⟨es, k, pos, rfl, h⟩ := sh h
    rfl
theorem snd_lstc {a : CE} (A : Snd P a) : Snd P (.lstc a) := by
  have sh : ∀ {L : LC} {e : Expr}, chkE P.Γ L (.lstc a) e = true → ∃ es pos, e = .List es pos ∧ chkA P.Γ L a es = true := fun {L e} h => by
    cases e <;> try (simp only [chkE, Bool.false_eq_true] at h; done)
    simp only [chkE] at h
    exact ⟨_, _, rfl, h⟩
  refine .of (fun L X W C e h => ?_) (fun L e h => ?_) (fun L es => by cases es <;> rfl) (fun _ _ h => by cases h)
  · obtain ⟨es, pos, rfl, h⟩ := sh h
    refine (pe_lst (A.pa L X W C es h)).imp fun σ H Q ⟨S, ρ, σU, rp, sl, h⟩ => ?_
    refine args_then rp sl h fun us S1 ρ1 H1 vs nx rp1 ru h1 => ?_
    split at h1
    · rename_i hl
      exact ⟨by rw [← ru.length]; exact hl, fun p hp => PostP.newL (Q := Q) (K := P.K) (cad := P.cad) (us := us) h1 rp1 ru hp⟩
    · exact h1.elim
  · obtain ⟨es, pos, rfl, h⟩ := sh h
    rfl
end IP
/-! IPSndG: slices, isinstance, what a for walks, comprehensions. -/
namespace IP
open PySem L2 PySem.Spec PyProof.Rows
variable {P : Prm}
/-- a part of a slice -/
def tO (P : Prm) (W : WX) (k : Bool) (c : CE) : TO := fun σ H Q => if k = true then tE P W c σ H (fun x H1 => ∃ i, x = .int i ∧ Q (some i) H1) else Q none H
theorem part_then {W : WX} {k : Bool} {c : CE} {f : Option Int → Sto → R} {σ : L2.St} {H : Hp} {Q : VK} {Q' : Option Int → Hp → Prop} {S : Sto} {ρ : Nat → Addr} {σU : Fr} (rp : Rep P.K P.cad S ρ H) (sl : Sl P.K S.n ρ H σ σU)
    (h : PostR P.K P.cad S.n ρ H Q (fun cls d H' => W cls d σ H') (partB k (ev P.Γ.G P.call c σU S) S f))
    (q : ∀ o S1 ρ1 H1, Nxt P.K S.n ρ H S1.n ρ1 H1 → Rep P.K P.cad S1 ρ1 H1 → PostR P.K P.cad S1.n ρ1 H1 Q (fun cls d H' => W cls d σ H') (f o S1) → Q' o H1) : tO P W k c σ H Q' := by
  cases k with
  | false => exact q none S ρ H .refl rp h
  | true =>
    show tE P W c σ H _
    refine ⟨S, ρ, σU, rp, sl, PostR.bind h fun u S1 ρ1 H1 v he nx rp1 ru h1 => ?_⟩
    clear he
    cases ru <;> try exact h1.elim
    exact ⟨_, rfl, q _ _ _ _ nx rp1 h1⟩
theorem snd_sl (kl kh : Bool) {a lo hi : CE} (A : Snd P a) (B : Snd P lo) (D : Snd P hi) : Snd P (.sl kl kh a lo hi) := by
  have sh : ∀ {L : LC} {e : Expr}, chkE P.Γ L (.sl kl kh a lo hi) e = true → ∃ ea l h' p2 pos, e = .Subscript ea (.Slice l h' none p2) pos ∧ chkE P.Γ L a ea = true ∧
      ((kl = true ∧ ∃ x, l = some x ∧ chkE P.Γ L lo x = true) ∨ (kl = false ∧ l = none ∧ lo = .nil)) ∧ ((kh = true ∧ ∃ x, h' = some x ∧ chkE P.Γ L hi x = true) ∨ (kh = false ∧ h' = none ∧ hi = .nil)) := fun {L e} h => by
    cases e <;> try (simp only [chkE, Bool.false_eq_true] at h; done)
    rename_i ea sl pos
    cases sl <;> try (simp only [chkE, Bool.false_eq_true] at h; done)
    rename_i l h' st p2
    cases st <;> try (simp only [chkE, Bool.false_eq_true] at h; done)
    simp only [chkE, Bool.and_eq_true] at h
    obtain ⟨⟨h1, h2⟩, h3⟩ := h
    refine ⟨ea, l, h', p2, pos, rfl, h1, ?_, ?_⟩
    · cases kl <;> cases l <;> simp only [Bool.false_eq_true] at h2
      · cases lo <;> simp only [Bool.false_eq_true] at h2
        exact .inr ⟨rfl, rfl, rfl⟩
      · exact .inl ⟨rfl, _, rfl, h2⟩
    · cases kh <;> cases h' <;> simp only [Bool.false_eq_true] at h3
      · cases hi <;> simp only [Bool.false_eq_true] at h3
        exact .inr ⟨rfl, rfl, rfl⟩
      · exact .inl ⟨rfl, _, rfl, h3⟩
  refine .of (fun L X W C e h => ?_) (fun L e h => ?_) (fun L es => by cases es <;> rfl) (fun _ _ h => by cases h)
  · obtain ⟨ea, l, h', p2, pos, rfl, h1, h2, h3⟩ := sh h
    have ok := sl_ok (X := X) (cad := P.cad)
    rw [C.K] at ok
    have po : ∀ {k : Bool} {c : CE} {x : Option Expr} (S : Snd P c), ((k = true ∧ ∃ y, x = some y ∧ chkE P.Γ L c y = true) ∨ (k = false ∧ x = none ∧ c = .nil)) → ∃ t, PO X x t ∧ ∀ σ H Q, tO P W k c σ H Q → t σ H Q := fun {k c x} S h => by
      rcases h with ⟨rfl, y, rfl, h⟩ | ⟨rfl, rfl, rfl⟩
      · exact ⟨_, po_some (S.pe L X W C y h), fun σ H Q h => h⟩
      · exact ⟨_, po_none, fun σ H Q h => h⟩
    obtain ⟨tl, pl, il⟩ := po B h2
    obtain ⟨th, ph, ih⟩ := po D h3
    refine (pe_slice ok (A.pe L X W C ea h1) pl ph).imp fun σ H Q ⟨S, ρ, σU, rp, sl, h⟩ => ?_
    refine ⟨S, ρ, σU, rp, sl, PostR.bind h fun u S1 ρ1 H1 v _ nx rp1 ru h1 => il _ _ _ ?_⟩
    refine part_then rp1 (sl.mono nx) h1 fun lv S2 ρ2 H2 nx2 rp2 h2 => ih _ _ _ (part_then rp2 ((sl.mono nx).mono nx2) h2 fun hv S3 ρ3 H3 nx3 rp3 h3 => ?_)
    exact ⟨S3, ρ3, u, rp3, (ru.mono nx2).mono nx3, h3.toP⟩
  · obtain ⟨ea, l, h', p2, pos, rfl, _⟩ := sh h
    rfl

/-! ### isinstance -/
def TN.nm : TN → String
  | .non => "NoneType" | .bool => "bool" | .int => "int" | .str => "str" | .list => "list" | .tuple => "tuple" | .dict => "dict"
def Ty.nm : Ty → String
  | .bool => "bool" | .int => "int" | .str => "str" | .list => "list" | .tuple => "tuple" | .dict => "dict" | .cls _ => ""
theorem kit_tn {a : TN} {t : Ty} {b : Bool} (h : tnTy a t = some b) : kitB a.nm t.nm = some b := by
  cases t <;> cases a <;> simp only [tnTy, Option.some.injEq, reduceCtorEq] at h <;> subst h <;> decide +kernel
theorem tyx_of {K : PySem.W.Frag} {cad : Nat → Addr} {S : Sto} {ρ : Nat → Addr} {H : Hp} {u : U} {v : V} {a : TN} (R : Rep K cad S ρ H) (r : RU K S.n ρ H u v) (h : tnU S u = some a) : TyX K H v (.type a.nm) := by
  cases r with
  | non => cases h; exact .base .non
  | bl b => cases h; exact .base (.bl b)
  | int i => cases h; exact .base (.int i)
  | str x => cases h; exact .base (.str x)
  | tup q t =>
    cases h
    rcases q with (q | ⟨ob, q⟩) | ⟨o, its, n, q, c, _⟩
    · exact .base (.tup q)
    · exact .fTuple q
    · exact .kTuple q c
  | scr q t =>
    cases h
    rcases q with ⟨ob, q⟩ | ⟨o, its, n, q, c, _⟩
    · exact .base (.frz q)
    · exact .kList q c
  | loc l hl =>
    simp only [tnU] at h
    split at h
    · rename_i us e; cases h
      obtain ⟨vs, _, q⟩ := R.at_ l _ e
      exact .base (.lst q)
    · rename_i us e; cases h
      obtain ⟨vs, _, q⟩ := R.at_ l _ e
      exact .base (.dK q)
    · rename_i us e; cases h
      obtain ⟨vs, _, q⟩ := R.at_ l _ e
      exact .base (.dT q)
    · cases h
def tTys : List Ty → TA := fun ts _ H Q => Q (ts.map fun t => V.ty t.nm) H
theorem ty_boot {t : Ty} {x : Str} (h : tyB t x = true) : bootBuiltins x = some (.type t.nm) ∧ x ≠ "__name__" := by
  cases t <;> simp only [tyB, beq_iff_eq, Bool.false_eq_true] at h <;> subst h <;> decide +kernel
theorem pe_ty {L : LC} {X : Cx} {W : WX} (C : CtxOk P L X W) {t : Ty} {x : Str} {p : Pos} (h : tyB t x = true) (hg : glB L.sc x = true) (hb : P.Γ.blt.contains x = true) : PE X (.Name x p) (tC (.ty t.nm)) := by
  obtain ⟨g1, g2⟩ := C.gl hg
  obtain ⟨b1, b2⟩ := ty_boot h
  exact pe_bltn g1 (C.blt hb) b1 rfl b2 g2
theorem pa_tys {L : LC} {X : Cx} {W : WX} (C : CtxOk P L X W) : ∀ {ts : List Ty} {es : List Expr}, tysB P.Γ L ts es = true → PA X es (tTys ts)
  | [], [], _ => pa_nil
  | t :: ts, .Name x p :: es, h => by
    simp only [tysB, Bool.and_eq_true] at h
    exact pa_cons (pe_ty C h.1.1.1 h.1.1.2 h.1.2) (pa_tys C h.2) rfl
  | [], _ :: _, h => by simp [tysB] at h
  | _ :: _, [], h => by simp [tysB] at h
  | _ :: _, .BoolOp .. :: _, h | _ :: _, .NamedExpr .. :: _, h | _ :: _, .BinOp .. :: _, h | _ :: _, .UnaryOp .. :: _, h | _ :: _, .Lambda .. :: _, h | _ :: _, .IfExp .. :: _, h | _ :: _, .Dict .. :: _, h | _ :: _, .Set .. :: _, h
  | _ :: _, .ListComp .. :: _, h | _ :: _, .SetComp .. :: _, h | _ :: _, .DictComp .. :: _, h | _ :: _, .GeneratorExp .. :: _, h | _ :: _, .Await .. :: _, h | _ :: _, .Yield .. :: _, h | _ :: _, .YieldFrom .. :: _, h
  | _ :: _, .Compare .. :: _, h | _ :: _, .Call .. :: _, h | _ :: _, .FormattedValue .. :: _, h | _ :: _, .JoinedStr .. :: _, h | _ :: _, .Constant .. :: _, h | _ :: _, .Attribute .. :: _, h | _ :: _, .Subscript .. :: _, h
  | _ :: _, .Starred .. :: _, h | _ :: _, .List .. :: _, h | _ :: _, .Tuple .. :: _, h | _ :: _, .Slice .. :: _, h => by simp [tysB] at h
theorem cls_tys : ∀ ts : List Ty, Paired ClsV (ts.map fun t => V.ty t.nm) (ts.map fun t => Value.type t.nm)
  | [] => .nil
  | t :: ts => .cons (.ty _) (cls_tys ts)
theorem kit_tys {K : PySem.W.Frag} {S : Sto} {u : U} {a : TN} (ha : tnU S u = some a) : ∀ {ts : List Ty} {b : Bool}, isiU S u ts = some b → PySem.W.kitAny K (.type a.nm) (ts.map fun t => Value.type t.nm) = some b
  | [], b, h => by cases h; rfl
  | t :: ts, b, h => by
    simp only [isiU, tyU, ha] at h
    cases e : tnTy a t with
    | none => rw [e] at h; cases h
    | some k =>
      rw [e] at h
      have k1 := kit_ty (K := K) (kit_tn e)
      cases k with
      | true => cases h; exact kitAny_cons k1 (fun z => by cases z) fun _ => rfl
      | false => exact kitAny_cons k1 (fun _ => kit_tys ha h) fun z => by cases z
theorem isi_tn {S : Sto} {u : U} : ∀ {ts : List Ty} {b : Bool}, isiU S u ts = some b → ts ≠ [] → ∃ a, tnU S u = some a
  | [], _, _, h => absurd rfl h
  | t :: ts, b, h, _ => by
    simp only [isiU, tyU] at h
    cases e : tnU S u with
    | some a => exact ⟨a, rfl⟩
    | none => rw [e] at h; cases h
theorem tys_len {Γ : Gam} {L : LC} : ∀ {ts : List Ty} {es : List Expr}, tysB Γ L ts es = true → ts.length = es.length
  | [], [], _ => rfl
  | t :: ts, e :: es, h => by
    cases e <;> simp only [tysB, Bool.and_eq_true, Bool.false_eq_true] at h
    simp [tys_len h.2]
  | [], _ :: _, h => by simp [tysB] at h
  | _ :: _, [], h => by simp [tysB] at h
theorem snd_isi {a : CE} (ts : List Ty) (A : Snd P a) : Snd P (.isi a ts) := by
  have sh : ∀ {L : LC} {e : Expr}, chkE P.Γ L (.isi a ts) e = true → ∃ x p e1 et pos, e = .Call (.Name x p) [e1, et] [] pos ∧ x = "isinstance" ∧ glB L.sc x = true ∧ P.Γ.blt.contains x = true ∧ notStar e1 = true ∧ chkE P.Γ L a e1 = true ∧ ts ≠ [] ∧ ts.length < 30 ∧
      ((∃ y q, et = .Name y q ∧ tysB P.Γ L ts [.Name y q] = true) ∨ ∃ es k q, et = .Tuple es k q ∧ tysB P.Γ L ts es = true) := fun {L e} h => by
    cases e <;> try (simp only [chkE, Bool.false_eq_true] at h; done)
    rename_i fn es ks pos
    cases fn <;> try (simp only [chkE, Bool.false_eq_true] at h; done)
    cases es <;> try (simp only [chkE, Bool.false_eq_true] at h; done)
    rename_i e1 es
    cases es <;> try (simp only [chkE, Bool.false_eq_true] at h; done)
    rename_i et es
    cases es <;> try (simp only [chkE, Bool.false_eq_true] at h; done)
    cases ks <;> try (simp only [chkE, Bool.false_eq_true] at h; done)
    simp only [chkE, Bool.and_eq_true, beq_iff_eq] at h
    obtain ⟨⟨⟨⟨⟨⟨⟨h1, h2⟩, h3⟩, h4⟩, h5⟩, h7⟩, h8⟩, h6⟩ := h
    refine ⟨_, _, _, _, _, rfl, h1, h2, h3, h4, h5, by simpa using h7, of_decide_eq_true h8, ?_⟩
    cases et <;> simp only [Bool.false_eq_true] at h6
    · exact .inl ⟨_, _, rfl, h6⟩
    · exact .inr ⟨_, _, _, rfl, h6⟩
  refine .of (fun L X W C e h => ?_) (fun L e h => ?_) (fun L es => by cases es <;> rfl) (fun _ _ h => by cases h)
  · obtain ⟨x, p, e1, et, pos, rfl, rfl, hg, hb, hs, ha, hne, hlt, ht⟩ := sh h
    obtain ⟨g1, g2⟩ := C.gl hg
    rcases ht with ⟨y, q, rfl, ht⟩ | ⟨es, k, q, rfl, ht⟩
    · have hl := tys_len ht
      match ts, hl, ht with
      | [t], _, ht =>
        simp only [tysB, Bool.and_eq_true] at ht
        refine (pe_callB call_isi g1 (C.blt hb) (by decide +kernel) (pa_cons (A.pe L X W C e1 ha) (pa_cons (pe_ty C ht.1.1.1 ht.1.1.2 ht.1.2) pa_nil rfl) (star_cons hs)) (by decide +kernel) g2 (star_cons hs) rfl).imp fun σ H Q ⟨S, ρ, σU, rp, sl, h⟩ => ?_
        refine ⟨S, ρ, σU, rp, sl, PostR.bind h fun u S1 ρ1 H1 v _ nx rp1 ru h1 => ?_⟩
        obtain ⟨u', e, h1⟩ := h1.toO
        simp only [Option.map_eq_some_iff] at e
        obtain ⟨b, e, rfl⟩ := e
        obtain ⟨a', ea⟩ := isi_tn e (by simp)
        have q := h1 _ _ _ .refl rp1 (.bl b)
        simp only [isiU, tyU, ea] at e
        refine ⟨v, _, _, _, b, rfl, .ty _, by rw [C.K]; exact tyx_of rp1 ru ea, ?_, q⟩
        cases e4 : tnTy a' t with
        | none => rw [e4] at e; cases e
        | some k =>
          rw [e4] at e
          rw [kit_ty (kit_tn e4)]
          cases k <;> cases e <;> rfl
      | [], hl, _ => cases hl
      | _ :: _ :: _, hl, _ => cases hl
    · refine (pe_callB call_isiT g1 (C.blt hb) (by decide +kernel) (pa_cons (A.pe L X W C e1 ha) (pa_cons (pe_tup (pa_tys C ht)) pa_nil rfl) (star_cons hs)) (by decide +kernel) g2 (star_cons hs) rfl).imp fun σ H Q ⟨S, ρ, σU, rp, sl, h⟩ => ?_
      refine ⟨S, ρ, σU, rp, sl, PostR.bind h fun u S1 ρ1 H1 v _ nx rp1 ru h1 => ?_⟩
      obtain ⟨u', e, h1⟩ := h1.toO
      simp only [Option.map_eq_some_iff] at e
      obtain ⟨b, e, rfl⟩ := e
      obtain ⟨a', ea⟩ := isi_tn e hne
      refine ⟨Nat.le_of_lt (Nat.lt_trans (by rw [List.length_map]; exact hlt) (by rw [sizeLine_eq]; decide)), fun p hp => ?_⟩
      have nx1 : Nxt P.K S1.n ρ1 H1 S1.n ρ1 (upd H1 p (.tup (ts.map fun t => V.ty t.nm))) := nxt_laid hp
      exact ⟨v, p, _, _, _, b, rfl, upd_same, cls_tys ts, by rw [C.K]; exact tyx_of (rp1.laid hp) (ru.mono nx1) ea, kit_tys ea e, h1 _ _ _ nx1 (rp1.laid hp) (.bl b)⟩
  · obtain ⟨x, p, e1, et, pos, rfl, _⟩ := sh h
    rfl
end IP
/-! IPIter: what a for walks. -/
namespace IP
open PySem L2 PySem.Spec PyProof.Rows

structure Mat (K : PySem.W.Frag) (cad : Nat → Addr) (J : ItS) (JJ : It) (n0 : Nat) (ρ0 : Nat → Addr) (H0 : Hp) : Prop where
  stop : ∀ S ρ H i, Nxt K n0 ρ0 H0 S.n ρ H → Rep K cad S ρ H → J.len S = some i → JJ.stop i H
  go : ∀ S ρ H i u, Nxt K n0 ρ0 H0 S.n ρ H → Rep K cad S ρ H → J.at i S = some u → JJ.go i H
  yld : ∀ S ρ H i u x H', Nxt K n0 ρ0 H0 S.n ρ H → Rep K cad S ρ H → J.at i S = some u → JJ.yld i H x H' → Nxt K S.n ρ H S.n ρ H' ∧ Rep K cad S ρ H' ∧ RU K S.n ρ H' u x
section
variable {K : PySem.W.Frag} {cad : Nat → Addr} {n0 : Nat} {ρ0 : Nat → Addr} {H0 : Hp}
theorem mat_list {u : U} {v : V} {a : Addr} (r : RU K n0 ρ0 H0 u v) (e : v = .ref a) : Mat K cad (.lst u) (Itl K a) n0 ρ0 H0 where
  stop := fun S ρ H i nx R h => by
    simp only [ItS.len, Option.map_eq_some_iff] at h
    obtain ⟨us, h, rfl⟩ := h
    obtain ⟨b, vs, e2, hb, rs⟩ := R.items (r.mono nx) h
    rw [e] at e2; cases e2
    exact ⟨vs, hb, Nat.le_of_eq rs.length.symm⟩
  go := fun S ρ H i w nx R h => by
    simp only [ItS.at, Option.bind_eq_some_iff] at h
    obtain ⟨us, h, hi⟩ := h
    obtain ⟨b, vs, e2, hb, rs⟩ := R.items (r.mono nx) h
    rw [e] at e2; cases e2
    obtain ⟨z, h1, h2⟩ := rs.get hi
    exact ⟨vs, z, hb, h1⟩
  yld := fun S ρ H i w x H' nx R h y => by
    simp only [ItS.at, Option.bind_eq_some_iff] at h
    obtain ⟨us, h, hi⟩ := h
    obtain ⟨b, vs, e2, hb, rs⟩ := R.items (r.mono nx) h
    rw [e] at e2; cases e2
    obtain ⟨z, h1, h2⟩ := rs.get hi
    obtain ⟨rfl, y⟩ := y
    have q := y vs hb
    rw [h1] at q; cases q
    exact ⟨.refl, R, h2⟩
theorem mat_tup {us : List U} {vs : List V} {a : Addr} (ha : SqT K H0 a vs) (r : RUs K n0 ρ0 H0 us vs) : Mat K cad (.tup us) (Itt K a) n0 ρ0 H0 where
  stop := fun S ρ H i nx R h => by
    simp only [ItS.len, Option.some.injEq] at h
    subst h
    exact ⟨vs, nx.tup _ _ ha, Nat.le_of_eq r.length.symm⟩
  go := fun S ρ H i w nx R h => by
    obtain ⟨z, h1, h2⟩ := r.get (show us[i]? = some w from h)
    exact ⟨vs, z, nx.tup _ _ ha, h1⟩
  yld := fun S ρ H i w x H' nx R h y => by
    obtain ⟨z, h1, h2⟩ := r.get (show us[i]? = some w from h)
    obtain ⟨rfl, y⟩ := y
    have q := y vs (nx.tup _ _ ha)
    rw [h1] at q; cases q
    exact ⟨.refl, R, h2.mono nx⟩
theorem mat_rng (lo : Int) (n : Nat) : Mat K cad (.rng lo n) (Itr lo n) n0 ρ0 H0 where
  stop := fun S ρ H i nx R h => by
    simp only [ItS.len, Option.some.injEq] at h
    exact Nat.le_of_eq h
  go := fun S ρ H i w nx R h => by
    simp only [ItS.at] at h
    split at h
    · assumption
    · cases h
  yld := fun S ρ H i w x H' nx R h y => by
    simp only [ItS.at] at h
    obtain ⟨rfl, rfl⟩ := y
    split at h
    · cases h
      exact ⟨.refl, R, .int _⟩
    · cases h
theorem mat_rngc (lo c : Int) (n : Nat) : Mat K cad (.rngc lo c n) (Itc lo c n) n0 ρ0 H0 where
  stop := fun S ρ H i nx R h => by
    simp only [ItS.len, Option.some.injEq] at h
    exact Nat.le_of_eq h
  go := fun S ρ H i w nx R h => by
    simp only [ItS.at] at h
    split at h
    · assumption
    · cases h
  yld := fun S ρ H i w x H' nx R h y => by
    simp only [ItS.at] at h
    obtain ⟨rfl, rfl⟩ := y
    split at h
    · cases h
      exact ⟨.refl, R, .int _⟩
    · cases h
theorem mat_str (z : Str) : Mat K cad (.str z) (Its z) n0 ρ0 H0 where
  stop := fun S ρ H i nx R h => by
    simp only [ItS.len, Option.some.injEq] at h
    exact Nat.le_of_eq h
  go := fun S ρ H i w nx R h => by
    simp only [ItS.at, Option.map_eq_some_iff] at h
    obtain ⟨c, h, rfl⟩ := h
    exact (Array.getElem?_eq_some_iff.mp h).1
  yld := fun S ρ H i w x H' nx R h y => by
    simp only [ItS.at, Option.map_eq_some_iff] at h
    obtain ⟨c, h, rfl⟩ := h
    obtain ⟨rfl, d, h2, rfl⟩ := y
    rw [h] at h2; cases h2
    exact ⟨.refl, R, .str _⟩
theorem mat_enum {u : U} {v : V} {a : Addr} (r : RU K n0 ρ0 H0 u v) (e : v = .ref a) : Mat K cad (.enum u) (Ite K a) n0 ρ0 H0 where
  stop := fun S ρ H i nx R h => by
    simp only [ItS.len, Option.map_eq_some_iff] at h
    obtain ⟨us, h, rfl⟩ := h
    obtain ⟨b, vs, e2, hb, rs⟩ := R.items (r.mono nx) h
    rw [e] at e2; cases e2
    exact ⟨vs, hb, Nat.le_of_eq rs.length.symm⟩
  go := fun S ρ H i w nx R h => by
    simp only [ItS.at, Option.map_eq_some_iff, Option.bind_eq_some_iff] at h
    obtain ⟨w', ⟨us, h, hi⟩, rfl⟩ := h
    obtain ⟨b, vs, e2, hb, rs⟩ := R.items (r.mono nx) h
    rw [e] at e2; cases e2
    obtain ⟨z, h1, h2⟩ := rs.get hi
    exact ⟨vs, z, hb, h1⟩
  yld := fun S ρ H i w x H' nx R h y => by
    simp only [ItS.at, Option.map_eq_some_iff, Option.bind_eq_some_iff] at h
    obtain ⟨w', ⟨us, h, hi⟩, rfl⟩ := h
    obtain ⟨b, vs, e2, hb, rs⟩ := R.items (r.mono nx) h
    rw [e] at e2; cases e2
    obtain ⟨z, h1, h2⟩ := rs.get hi
    obtain ⟨T, z', rfl, hT, rfl, y⟩ := y
    have q := y vs hb
    rw [h1] at q; cases q
    have nx2 : Nxt K S.n ρ H S.n ρ (upd H T (.tup [.int (i : Nat), z])) := nxt_laid hT
    exact ⟨nx2, R.laid hT, .tup (SqT.of upd_same) (.cons (.int _) (.cons (h2.mono nx2) .nil))⟩
theorem mat_zip {u u2 : U} {v v2 : V} {a b : Addr} (r : RU K n0 ρ0 H0 u v) (e : v = .ref a) (r2 : RU K n0 ρ0 H0 u2 v2) (e2 : v2 = .ref b) : Mat K cad (.zipL u u2) (Itz K a b) n0 ρ0 H0 where
  stop := fun S ρ H i nx R h => by
    simp only [ItS.len] at h
    split at h
    · rename_i us ws h1 h2
      obtain ⟨c, vs, e3, hb, rs⟩ := R.items (r.mono nx) h1
      rw [e] at e3; cases e3
      obtain ⟨c, vs2, e3, hb2, rs2⟩ := R.items (r2.mono nx) h2
      rw [e2] at e3; cases e3
      split at h
      · cases h
        exact ⟨vs, vs2, hb, hb2, .inl (Nat.le_of_eq rs.length.symm)⟩
      · cases h
    · cases h
  go := fun S ρ H i w nx R h => by
    simp only [ItS.at] at h
    split at h
    · rename_i x y h1 h2
      simp only [Option.bind_eq_some_iff] at h1 h2
      obtain ⟨us, h1, hi⟩ := h1
      obtain ⟨ws, h2, hj⟩ := h2
      obtain ⟨c, vs, e3, hb, rs⟩ := R.items (r.mono nx) h1
      rw [e] at e3; cases e3
      obtain ⟨c, vs2, e3, hb2, rs2⟩ := R.items (r2.mono nx) h2
      rw [e2] at e3; cases e3
      obtain ⟨z, q1, _⟩ := rs.get hi
      obtain ⟨z2, q2, _⟩ := rs2.get hj
      exact ⟨vs, vs2, z, z2, hb, hb2, q1, q2⟩
    · cases h
  yld := fun S ρ H i w x H' nx R h yl => by
    simp only [ItS.at] at h
    split at h
    · rename_i x y h1 h2
      cases h
      simp only [Option.bind_eq_some_iff] at h1 h2
      obtain ⟨us, h1, hi⟩ := h1
      obtain ⟨ws, h2, hj⟩ := h2
      obtain ⟨c, vs, e3, hb, rs⟩ := R.items (r.mono nx) h1
      rw [e] at e3; cases e3
      obtain ⟨c, vs2, e3, hb2, rs2⟩ := R.items (r2.mono nx) h2
      rw [e2] at e3; cases e3
      obtain ⟨z, q1, p1⟩ := rs.get hi
      obtain ⟨z2, q2, p2⟩ := rs2.get hj
      obtain ⟨T, z', z2', rfl, hT, rfl, y1, y2⟩ := yl
      have e3 := y1 vs hb
      have e4 := y2 vs2 hb2
      rw [q1] at e3; cases e3
      rw [q2] at e4; cases e4
      have nx2 : Nxt K S.n ρ H S.n ρ (upd H T (.tup [z, z2])) := nxt_laid hT
      exact ⟨nx2, R.laid hT, .tup (SqT.of upd_same) (.cons (p1.mono nx2) (.cons (p2.mono nx2) .nil))⟩
    · cases h
end
variable {P : Prm}
/-- the reading of what a for walks -/
def PostI (K : PySem.W.Frag) (cad : Nat → Addr) (k : IK) (n : Nat) (ρ : Nat → Addr) (H : Hp) (RR : It → Hp → Prop) (E : XK) : R → Prop
  | .ok (.tup us) S' => ∃ J, itNew k us S' = some J ∧ ∀ ρ' H' JJ, Nxt K n ρ H S'.n ρ' H' → Rep K cad S' ρ' H' → Mat K cad J JJ S'.n ρ' H' → RR JJ H'
  | .ok _ _ => False
  | .exc x S' => ∀ ρ' H' cls d, Nxt K n ρ H S'.n ρ' H' → Rep K cad S' ρ' H' → ExR K cad S'.n ρ' H' x cls d → E cls d H'
  | .bad => False
def tI (P : Prm) (W : WX) (k : IK) (c : CE) : TI := fun σ H RR => ∃ S ρ σU, Rep P.K P.cad S ρ H ∧ Sl P.K S.n ρ H σ σU ∧ PostI P.K P.cad k S.n ρ H RR (fun cls d H' => W cls d σ H') (ev P.Γ.G P.call c σU S)
theorem _root_.L2.PI.imp {X : Cx} {tg iter : Expr} {t t' : TI} (h : PI X tg iter t) (i : ∀ σ H RR, t' σ H RR → t σ H RR) : PI X tg iter t' := ⟨fun pins s σ H RR I q => h.run pins s σ H RR I (i σ H RR q)⟩
theorem itNew_rng1 {us : List U} {S : Sto} {J : ItS} (h : itNew .rng1 us S = some J) : ∃ j, us = [.int j] ∧ small62 j = true ∧ J = .rng 0 j.toNat := by
  rcases us with _ | ⟨u, _ | ⟨v, us⟩⟩
  · simp [itNew] at h
  · cases u <;> simp [itNew] at h
    exact ⟨_, rfl, h.1, h.2.symm⟩
  · simp [itNew] at h
theorem itNew_rng2 {us : List U} {S : Sto} {J : ItS} (h : itNew .rng2 us S = some J) : ∃ i j, us = [.int i, .int j] ∧ small62 i = true ∧ small62 j = true ∧ J = .rng i (j - i).toNat := by
  rcases us with _ | ⟨u, _ | ⟨v, _ | ⟨w, us⟩⟩⟩
  · simp [itNew] at h
  · simp [itNew] at h
  · cases u <;> simp [itNew] at h
    cases v <;> simp [itNew] at h
    exact ⟨_, _, rfl, h.1.1, h.1.2, h.2.symm⟩
  · simp [itNew] at h
theorem itNew_rng3 {us : List U} {S : Sto} {J : ItS} (h : itNew .rng3 us S = some J) : ∃ i j c, us = [.int i, .int j, .int c] ∧ (c ≠ 0 ∧ c.natAbs < 1073741824 ∧ Builtin.Range.small i j c = true ∧ 0 ≤ Builtin.Range.rangeSize i j c) ∧ J = .rngc i c (Builtin.Range.rangeSize i j c).toNat := by
  rcases us with _ | ⟨u, _ | ⟨v, _ | ⟨w, _ | ⟨z, us⟩⟩⟩⟩
  · simp [itNew] at h
  · simp [itNew] at h
  · simp [itNew] at h
  · cases u <;> try (simp [itNew] at h; done)
    cases v <;> try (simp [itNew] at h; done)
    cases w <;> try (simp [itNew] at h; done)
    simp only [itNew] at h
    split at h
    · rename_i hc
      cases h
      exact ⟨_, _, _, rfl, hc, rfl⟩
    · cases h
  · simp [itNew] at h
theorem itNew_enum {us : List U} {S : Sto} {J : ItS} (h : itNew .enum us S = some J) : ∃ u ws, us = [u] ∧ items S u = some ws ∧ J = .enum u := by
  rcases us with _ | ⟨u, _ | ⟨v, us⟩⟩
  · simp [itNew] at h
  · simp only [itNew, Option.map_eq_some_iff] at h
    obtain ⟨ws, h, rfl⟩ := h
    exact ⟨u, ws, rfl, h, rfl⟩
  · simp [itNew] at h
theorem itNew_zip {us : List U} {S : Sto} {J : ItS} (h : itNew .zip us S = some J) : ∃ u v xs ys, us = [u, v] ∧ items S u = some xs ∧ items S v = some ys ∧ J = .zipL u v := by
  rcases us with _ | ⟨u, _ | ⟨v, _ | ⟨w, us⟩⟩⟩
  · simp [itNew] at h
  · simp [itNew] at h
  · simp only [itNew] at h
    split at h
    · rename_i xs ys h1 h2
      split at h
      · cases h
        exact ⟨u, v, xs, ys, rfl, h1, h2, rfl⟩
      · cases h
    · cases h
  · simp [itNew] at h
/-- from the arguments -/
theorem iter_args {W : WX} {k : IK} {c : CE} {σ : L2.St} {H : Hp} {RR : It → Hp → Prop} {Q' : List V → Hp → Prop} (h : tI P W k c σ H RR)
    (q : ∀ us J S1 ρ1 H1 vs, itNew k us S1 = some J → Rep P.K P.cad S1 ρ1 H1 → RUs P.K S1.n ρ1 H1 us vs → (∀ JJ, Mat P.K P.cad J JJ S1.n ρ1 H1 → RR JJ H1) → Q' vs H1) : tA P W c σ H Q' := by
  obtain ⟨S, ρ, σU, rp, sl, h⟩ := h
  refine ⟨S, ρ, σU, rp, sl, ?_⟩
  cases e1 : ev P.Γ.G P.call c σU S with
  | bad => rw [e1] at h; exact h
  | exc x S1 => rw [e1] at h; exact h
  | ok u S1 =>
    rw [e1] at h
    cases u <;> try exact h.elim
    obtain ⟨J, hJ, h⟩ := h
    intro ρ1 H1 vs nx rp1 ru
    exact q _ J _ _ _ _ hJ rp1 ru fun JJ m => h _ _ _ nx rp1 m
theorem snd_iter {k : IK} {src : CE} (A : Snd P src) {L : LC} {X : Cx} {W : WX} (C : CtxOk P L X W) {tg iter : Expr} {es : List Expr} (ht : iterTup k tg = true) (hn : (match iterName k with | some x => glB L.sc x && P.Γ.blt.contains x | none => true) = true)
    (ha : iterArgs k iter = some es) (hc : chkA P.Γ L src es = true) : PI X tg iter (tI P W k src) := by
  have pa := A.pa L X W C es hc
  have hK := C.K
  cases k with
  | seq =>
    simp only [iterArgs, Option.some.injEq] at ha
    subst ha
    -- the one argument
    cases src <;> simp only [chkA, Bool.false_eq_true, Bool.and_eq_true] at hc
    rename_i a b
    obtain ⟨⟨h1, h2⟩, h3⟩ := hc
    cases b <;> simp only [chkA, Bool.false_eq_true] at h3
    have pe := A.hd _ _ rfl L X W C _ h2
    refine ⟨fun pins s σ H RR I h => ?_⟩
    obtain ⟨S, ρ, σU, rp, sl, h⟩ := h
    simp only [ev, R.bind] at h
    -- the value tells the rule
    have go : ∀ {t : TI} (p : PI X tg iter t), t σ H RR → wpAny (model X.prog X.w) X.A (eval iter X.env) (fun v s1 => wpAny (model X.prog X.w) X.A (pyIter v) (PIE X pins σ tg RR) X.xe s1) X.xe s := fun p q => p.run pins s σ H RR I q
    cases e1 : ev P.Γ.G P.call a σU S with
    | bad => rw [e1] at h; exact h.elim
    | exc x S1 =>
      rw [e1] at h
      exact go (pi_list pe) ⟨S, ρ, σU, rp, sl, by rw [e1]; exact h⟩
    | ok u S1 =>
      rw [e1] at h
      simp only [R.bind] at h
      obtain ⟨J, hJ, h⟩ := h
      cases u with
      | tup us =>
        cases hJ
        refine go (pi_tup pe) ⟨S, ρ, σU, rp, sl, ?_⟩
        rw [e1]
        intro ρ1 H1 v nx rp1 ru
        cases ru with
        | tup q t => exact ⟨_, rfl, ⟨_, by rw [hK]; exact q⟩, h _ _ _ nx rp1 (by rw [hK]; exact mat_tup q t)⟩
      | str z =>
        cases hJ
        refine go (pi_str pe) ⟨S, ρ, σU, rp, sl, ?_⟩
        rw [e1]
        intro ρ1 H1 v nx rp1 ru
        cases ru
        exact ⟨_, rfl, h _ _ _ nx rp1 (mat_str z)⟩
      | non => simp [itNew, items] at hJ
      | bl b => simp [itNew, items] at hJ
      | int i => simp [itNew, items] at hJ
      | loc l =>
        simp only [itNew, Option.map_eq_some_iff] at hJ
        obtain ⟨us, hus, rfl⟩ := hJ
        refine go (pi_list pe) ⟨S, ρ, σU, rp, sl, ?_⟩
        rw [e1]
        intro ρ1 H1 v nx rp1 ru
        obtain ⟨p, vs, e2, hp, _⟩ := rp1.items ru hus
        exact ⟨p, e2, ⟨vs, by rw [hK]; exact hp⟩, h _ _ _ nx rp1 (by rw [hK]; exact mat_list ru e2)⟩
      | scr ws =>
        simp only [itNew, Option.map_eq_some_iff] at hJ
        obtain ⟨us, hus, rfl⟩ := hJ
        refine go (pi_list pe) ⟨S, ρ, σU, rp, sl, ?_⟩
        rw [e1]
        intro ρ1 H1 v nx rp1 ru
        obtain ⟨p, vs, e2, hp, _⟩ := rp1.items ru hus
        exact ⟨p, e2, ⟨vs, by rw [hK]; exact hp⟩, h _ _ _ nx rp1 (by rw [hK]; exact mat_list ru e2)⟩
  | rng1 =>
    simp only [iterName, Bool.and_eq_true] at hn
    obtain ⟨g1, g2⟩ := C.gl hn.1
    have bl := C.blt hn.2
    have st := chkA_star hc
    cases iter <;> try (simp only [iterArgs, reduceCtorEq] at ha; done)
    rename_i fn as ks pos
    cases fn <;> try (simp only [iterArgs, reduceCtorEq] at ha; done)
    rename_i x p
    cases as <;> try (simp only [iterArgs, reduceCtorEq] at ha; done)
    rename_i a as0
    cases as0 <;> try (simp only [iterArgs, reduceCtorEq] at ha; done)
    cases ks <;> try (simp only [iterArgs, reduceCtorEq] at ha; done)
    simp only [iterArgs] at ha
    split at ha <;> try (cases ha; done)
    rename_i hx
    subst hx
    cases ha
    simp only [noStar, List.all_cons, List.all_nil, Bool.and_true, Bool.and_eq_true] at st
    refine (pi_range1 g1 bl pa (by rw [star_cons st]; rfl)).imp fun σ H RR h => ?_
    refine iter_args h fun us J S1 ρ1 H1 vs hJ rp1 ru q => ?_
    obtain ⟨j, rfl, hs, rfl⟩ := itNew_rng1 hJ
    cases ru with
    | cons r t =>
      cases t; cases r
      have hs := of_decide_eq_true hs
      exact ⟨j, rfl, hs.1, hs.2, q _ (mat_rng 0 _)⟩
  | rng2 =>
    simp only [iterName, Bool.and_eq_true] at hn
    obtain ⟨g1, g2⟩ := C.gl hn.1
    have bl := C.blt hn.2
    have st := chkA_star hc
    cases iter <;> try (simp only [iterArgs, reduceCtorEq] at ha; done)
    rename_i fn as ks pos
    cases fn <;> try (simp only [iterArgs, reduceCtorEq] at ha; done)
    rename_i x p
    cases as <;> try (simp only [iterArgs, reduceCtorEq] at ha; done)
    rename_i a as0
    cases as0 <;> try (simp only [iterArgs, reduceCtorEq] at ha; done)
    rename_i b as1
    cases as1 <;> try (simp only [iterArgs, reduceCtorEq] at ha; done)
    cases ks <;> try (simp only [iterArgs, reduceCtorEq] at ha; done)
    simp only [iterArgs] at ha
    split at ha <;> try (cases ha; done)
    rename_i hx
    subst hx
    cases ha
    simp only [noStar, List.all_cons, List.all_nil, Bool.and_true, Bool.and_eq_true] at st
    refine (pi_range2 g1 bl pa (by rw [star_cons st.1, star_cons st.2]; rfl) (by rw [star_cons st.2]; rfl)).imp fun σ H RR h => ?_
    refine iter_args h fun us J S1 ρ1 H1 vs hJ rp1 ru q => ?_
    obtain ⟨i, j, rfl, h1, h2, rfl⟩ := itNew_rng2 hJ
    cases ru with
    | cons r t =>
      cases t with
      | cons r2 t =>
        cases t; cases r; cases r2
        have h1 := of_decide_eq_true h1
        have h2 := of_decide_eq_true h2
        exact ⟨i, j, rfl, ⟨h1.1, h1.2, h2.1, h2.2⟩, q _ (mat_rng i _)⟩
  | rng3 =>
    simp only [iterName, Bool.and_eq_true] at hn
    obtain ⟨g1, g2⟩ := C.gl hn.1
    have bl := C.blt hn.2
    have st := chkA_star hc
    cases iter <;> try (simp only [iterArgs, reduceCtorEq] at ha; done)
    rename_i fn as ks pos
    cases fn <;> try (simp only [iterArgs, reduceCtorEq] at ha; done)
    rename_i x p
    cases as <;> try (simp only [iterArgs, reduceCtorEq] at ha; done)
    rename_i a as0
    cases as0 <;> try (simp only [iterArgs, reduceCtorEq] at ha; done)
    rename_i b as1
    cases as1 <;> try (simp only [iterArgs, reduceCtorEq] at ha; done)
    rename_i c as2
    cases as2 <;> try (simp only [iterArgs, reduceCtorEq] at ha; done)
    cases ks <;> try (simp only [iterArgs, reduceCtorEq] at ha; done)
    simp only [iterArgs] at ha
    split at ha <;> try (cases ha; done)
    rename_i hx
    subst hx
    cases ha
    simp only [noStar, List.all_cons, List.all_nil, Bool.and_true, Bool.and_eq_true] at st
    refine (pi_range3 g1 bl pa (star_cons st.1) (star_none (by simp only [noStar, List.all_cons, List.all_nil, Bool.and_true, Bool.and_eq_true]; exact st.2))).imp fun σ H RR h => ?_
    refine iter_args h fun us J S1 ρ1 H1 vs hJ rp1 ru q => ?_
    obtain ⟨i, j, c', rfl, h1, rfl⟩ := itNew_rng3 hJ
    cases ru with
    | cons r t =>
      cases t with
      | cons r2 t =>
        cases t with
        | cons r3 t =>
          cases t; cases r; cases r2; cases r3
          exact ⟨i, j, c', (Builtin.Range.rangeSize i j c').toNat, rfl, ⟨h1.1, h1.2.1, h1.2.2.1, (Int.toNat_of_nonneg h1.2.2.2).symm⟩, q _ (mat_rngc i c' _)⟩
  | enum =>
    simp only [iterName, Bool.and_eq_true] at hn
    obtain ⟨g1, g2⟩ := C.gl hn.1
    have bl := C.blt hn.2
    have st := chkA_star hc
    cases iter <;> try (simp only [iterArgs, reduceCtorEq] at ha; done)
    rename_i fn as ks pos
    cases fn <;> try (simp only [iterArgs, reduceCtorEq] at ha; done)
    rename_i x p
    cases as <;> try (simp only [iterArgs, reduceCtorEq] at ha; done)
    rename_i a as0
    cases as0 <;> try (simp only [iterArgs, reduceCtorEq] at ha; done)
    cases ks <;> try (simp only [iterArgs, reduceCtorEq] at ha; done)
    simp only [iterArgs] at ha
    split at ha <;> try (cases ha; done)
    rename_i hx
    subst hx
    cases ha
    simp only [noStar, List.all_cons, List.all_nil, Bool.and_true, Bool.and_eq_true] at st
    cases tg <;> simp only [iterTup, Bool.false_eq_true] at ht
    refine (pi_enum g1 bl pa (by rw [star_cons st]; rfl)).imp fun σ H RR h => ?_
    refine iter_args h fun us J S1 ρ1 H1 vs hJ rp1 ru q => ?_
    obtain ⟨u, ws, rfl, hi, rfl⟩ := itNew_enum hJ
    cases ru with
    | cons r t =>
      cases t
      obtain ⟨p', vs, e2, hp, _⟩ := rp1.items r hi
      subst e2
      exact ⟨p', vs, rfl, by rw [hK]; exact hp, q _ (by rw [hK]; exact mat_enum r rfl)⟩
  | zip =>
    simp only [iterName, Bool.and_eq_true] at hn
    obtain ⟨g1, g2⟩ := C.gl hn.1
    have bl := C.blt hn.2
    have st := chkA_star hc
    cases iter <;> try (simp only [iterArgs, reduceCtorEq] at ha; done)
    rename_i fn as ks pos
    cases fn <;> try (simp only [iterArgs, reduceCtorEq] at ha; done)
    rename_i x p
    cases as <;> try (simp only [iterArgs, reduceCtorEq] at ha; done)
    rename_i a as0
    cases as0 <;> try (simp only [iterArgs, reduceCtorEq] at ha; done)
    rename_i b as1
    cases as1 <;> try (simp only [iterArgs, reduceCtorEq] at ha; done)
    cases ks <;> try (simp only [iterArgs, reduceCtorEq] at ha; done)
    simp only [iterArgs] at ha
    split at ha <;> try (cases ha; done)
    rename_i hx
    subst hx
    cases ha
    simp only [noStar, List.all_cons, List.all_nil, Bool.and_true, Bool.and_eq_true] at st
    cases tg <;> simp only [iterTup, Bool.false_eq_true] at ht
    refine (pi_zip g1 bl pa (star_cons st.1) (star_none (by simp only [noStar, List.all_cons, List.all_nil, Bool.and_true]; exact st.2))).imp fun σ H RR h => ?_
    refine iter_args h fun us J S1 ρ1 H1 vs hJ rp1 ru q => ?_
    obtain ⟨u, v, xs, ys, rfl, h1, h2, rfl⟩ := itNew_zip hJ
    cases ru with
    | cons r t =>
      cases t with
      | cons r2 t =>
        cases t
        obtain ⟨p1, vs, e2, hp, _⟩ := rp1.items r h1
        obtain ⟨p2, vs2, e3, hp2, _⟩ := rp1.items r2 h2
        subst e2
        subst e3
        exact ⟨p1, p2, vs, vs2, rfl, by rw [hK]; exact hp, by rw [hK]; exact hp2, q _ (by rw [hK]; exact mat_zip r rfl r2 rfl)⟩
end IP
/-! IPLc: targets, comprehensions; every expression. -/
namespace IP
open PySem L2 PySem.Spec PyProof.Rows
variable {P : Prm}
def tGs : List Nat → TGs
  | [] => gNil
  | i :: is => gCons (gName i) (tGs is)
def tG (K : PySem.W.Frag) : Tg → TG
  | .nm i => gName i
  | .tp is => gTup K is.length (tGs is)
theorem nameAt_ok {L : LC} {X : Cx} {W : WX} (C : CtxOk P L X W) {i : Nat} {e : Expr} (h : nameAt L i e = true) : ∃ x p, e = .Name x p ∧ X.N[i]? = some x ∧ Loc X.env.scope x ∧ (X.fn x = true ∨ X.env.scope.names.lookup x = some .local) := by
  cases e <;> simp only [nameAt, Bool.false_eq_true, Bool.and_eq_true, decide_eq_true_eq] at h
  rename_i x p
  refine ⟨x, p, rfl, by rw [C.N]; exact h.1, ?_, ?_⟩
  · rw [C.sc]
    have q := h.2
    unfold stB at q
    split at q
    · exact .inl (by assumption)
    · exact .inr (by assumption)
    · cases q
  · rw [C.sc]
    have q := h.2
    unfold stB at q
    split at q
    · exact .inr (by assumption)
    · exact .inl (C.fnx _ q)
    · cases q
theorem pgs_ok {L : LC} {X : Cx} {W : WX} (C : CtxOk P L X W) : ∀ {is : List Nat} {es : List Expr}, namesAt L is es = true → PGs X es (tGs is) ∧ (assignEach es X.env).length = is.length ∧ (assignEach es X.env).findIdx? (·.1) = none
  | [], [], _ => ⟨pgs_nil, rfl, rfl⟩
  | i :: is, e :: es, h => by
    simp only [namesAt, Bool.and_eq_true] at h
    obtain ⟨x, p, rfl, h1, h2, h3⟩ := nameAt_ok C h.1
    obtain ⟨q1, q2, q3⟩ := pgs_ok C h.2
    have e1 : assignEach (.Name x p :: es) X.env = (false, assign (.Name x p) X.env) :: assignEach es X.env := rfl
    refine ⟨pgs_cons (pg_name C.nd h1 h2 h3) q1 (by rw [e1]; rfl), by rw [e1]; simp [q2], by rw [e1, List.findIdx?_cons]; simp [q3]⟩
  | [], _ :: _, h => by simp [namesAt] at h
  | _ :: _, [], h => by simp [namesAt] at h
theorem pg_ok {L : LC} {X : Cx} {W : WX} (C : CtxOk P L X W) {g : Tg} {e : Expr} (h : tgB L g e = true) : PG X e (tG P.K g) := by
  cases g with
  | nm i =>
    simp only [tgB] at h
    obtain ⟨x, p, rfl, h1, h2, h3⟩ := nameAt_ok C h
    exact pg_name C.nd h1 h2 h3
  | tp is =>
    cases e <;> simp only [tgB, Bool.false_eq_true, Bool.and_eq_true] at h
    rename_i es k pos
    obtain ⟨q1, q2, q3⟩ := pgs_ok C h.2
    have r : PG X (.Tuple es k pos) (gTup X.K is.length (tGs is)) := pg_tup (n := is.length) (C.calm h.1) q1 q2 q3
    rw [C.K] at r
    exact r
/-! ### wiping -/
theorem wipe_in {σ : L2.St} {j : Nat} : ∀ {vs : List Nat}, j ∈ vs → j < σ.length → (L2.wipe σ vs)[j]? = some none
  | v :: vs, h, hl => by
    unfold L2.wipe
    by_cases e : v = j
    · subst e
      rw [List.getElem?_set_self (by rw [wipe_length]; exact hl)]
    · rw [List.getElem?_set_ne e]
      exact wipe_in ((List.mem_cons.mp h).resolve_left fun z => e z.symm) hl
theorem wipe_set {σ : L2.St} {i : Nat} {x : Option V} {vs : List Nat} (h : i ∈ vs) : L2.wipe (σ.set i x) vs = L2.wipe σ vs := by
  apply List.ext_getElem?
  intro j
  by_cases hj : j ∈ vs
  · by_cases hl : j < σ.length
    · rw [wipe_in hj (by simpa using hl), wipe_in hj hl]
    · rw [List.getElem?_eq_none (by rw [wipe_length]; simp; omega), List.getElem?_eq_none (by rw [wipe_length]; omega)]
  · rw [wipe_out hj, wipe_out hj, List.getElem?_set_ne (fun z => hj (by rw [← z]; exact h))]
theorem wipe_wipe {σ : L2.St} {vs : List Nat} : L2.wipe (L2.wipe σ vs) vs = L2.wipe σ vs := by
  apply List.ext_getElem?
  intro j
  by_cases hj : j ∈ vs
  · by_cases hl : j < σ.length
    · rw [wipe_in hj (by rw [wipe_length]; exact hl), wipe_in hj hl]
    · rw [List.getElem?_eq_none (by rw [wipe_length, wipe_length]; omega), List.getElem?_eq_none (by rw [wipe_length]; omega)]
  · rw [wipe_out hj]
section
variable {K : PySem.W.Frag} {n : Nat} {ρ : Nat → Addr} {H : Hp}
theorem tGs_put : ∀ {is : List Nat} {us : List U} {vs : List V} {σ : L2.St} {σU σU1 : Fr} {Q : L2.St → Hp → Prop}, Sl K n ρ H σ σU → RUs K n ρ H us vs → setNs is us σU = some σU1 →
    (∀ σ1, Sl K n ρ H σ1 σU1 → (∀ ws, (∀ i ∈ is, i ∈ ws) → L2.wipe σ1 ws = L2.wipe σ ws) → Q σ1 H) → tGs is vs σ H Q ∧ vs.length = is.length
  | [], [], _, σ, σU, σU1, Q, sl, .nil, h, q => by
    cases h
    exact ⟨⟨rfl, q σ sl fun _ _ => rfl⟩, rfl⟩
  | i :: is, u :: us, _, σ, σU, σU1, Q, sl, .cons r t, h, q => by
    have z := tGs_put (is := is) (Q := Q) (sl.set r i) t h fun σ1 s1 w1 => q σ1 s1 fun ws hw => by
      rw [w1 ws fun j hj => hw j (List.mem_cons_of_mem _ hj), wipe_set (hw i List.mem_cons_self)]
    exact ⟨⟨_, _, rfl, z.1⟩, by simp [z.2]⟩
  | [], _ :: _, _, _, _, _, _, _, _, h, _ => by simp [setNs] at h
  | _ :: _, [], _, _, _, _, _, _, _, h, _ => by simp [setNs] at h
theorem tG_put {g : Tg} {u : U} {v : V} {σ : L2.St} {σU σU1 : Fr} {Q : L2.St → Hp → Prop} (sl : Sl K n ρ H σ σU) (r : RU K n ρ H u v) (h : g.put u σU = some σU1)
    (q : ∀ σ1, Sl K n ρ H σ1 σU1 → (∀ ws, (∀ i ∈ g.ids, i ∈ ws) → L2.wipe σ1 ws = L2.wipe σ ws) → Q σ1 H) : tG K g v σ H Q := by
  cases g with
  | nm i =>
    cases h
    exact q _ (sl.set r i) fun ws hw => wipe_set (hw i (by simp [Tg.ids]))
  | tp is =>
    cases r <;> simp only [Tg.put, reduceCtorEq] at h
    rename_i a us vs ha t
    obtain ⟨z1, z2⟩ := tGs_put (is := is) (Q := Q) sl t h q
    exact ⟨a, vs, rfl, ha, z2, z1⟩
end
/-! ### the block of a comprehension -/
abbrev W0 : WX := fun _ _ _ _ => False
theorem CtxOk.blk {L : LC} {X : Cx} {W : WX} (C : CtxOk P L X W) {scope : Scope} (hk : scope.kind = .function) (s : Shared) (H : Hp) (D : Addr) (cl : List (Str × Addr)) (fp : List Addr) :
    CtxOk P (blkLC L scope) (X.blk s H scope (compEnvC scope cl D X.env) fp) W0 where
  N := C.N
  sc := by
    show relabel scope X.env = relS scope L.sc
    rw [← C.sc]
    rfl
  kd := hk
  nd := C.nd
  fnx := fun x h => h
  calm := C.calm
  room := C.room
  pass := PassesOwn.never
  takes := takes0
  K := C.K
  mg := C.mg
  txt := C.txt
  fns := C.fns
theorem lc_read {W : WX} {own : List Nat} {k : IK} {g : Tg} {src cond body : CE} {hc : Bool} {tt : TT} {σ : L2.St} {H : Hp} {Q : VK} (hg : ∀ i ∈ g.ids, i ∈ own)
    (htt : ∀ {σ : L2.St} {H : Hp} {S : Sto} {ρ : Nat → Addr} {σU : Fr} {Q' : Bool → Hp → Prop}, Rep P.K P.cad S ρ H → Sl P.K S.n ρ H σ σU →
      PostT P.K P.cad S.n ρ H Q' (fun _ _ _ => False) ((if hc = true then ev P.Γ.G P.call cond else fun _ S => .ok (.bl true) S) σU S) → tt σ H Q')
    (h : tE P W (.lc own k g src hc cond body) σ H Q) : tLc (tI P W k src) (tG P.K g) tt (tE P W0 body) own σ H Q := by
  obtain ⟨S, ρ, σU, rp, sl, h⟩ := h
  refine ⟨S, ρ, σU, rp, sl, ?_⟩
  simp only [ev] at h
  cases e1 : ev P.Γ.G P.call src σU S with
  | bad => rw [e1] at h; exact h
  | exc x S1 => rw [e1] at h; exact h
  | ok u S1 =>
    rw [e1] at h
    simp only [R.bind] at h
    cases u <;> try exact h.elim
    rename_i us
    simp only at h
    cases eJ : itNew k us S1 with
    | none => rw [eJ] at h; exact h.elim
    | some J =>
      rw [eJ] at h
      simp only at h
      cases eM : J.len S1 with
      | none => rw [eM] at h; exact h.elim
      | some m0 =>
        rw [eM] at h
        simp only at h
        refine ⟨J, eJ, fun ρ1 H1 JJ nx rp1 mat D hD => ?_⟩
        have nxD : Nxt P.K S1.n ρ1 H1 (S1.n + 1) (ext ρ1 S1.n D) (upd H1 D (.lst [])) := nxt_new hD
        have rpD : Rep P.K P.cad (S1.new (.lst [])) (ext ρ1 S1.n D) (upd H1 D (.lst [])) := rp1.new hD ⟨[], .nil, upd_same⟩
        generalize hcond : (if hc = true then ev P.Γ.G P.call cond else fun _ S => R.ok (.bl true) S) = cf at h htt
        refine ⟨fun i m H' => ∃ S' ρ', Nxt P.K (S1.n + 1) (ext ρ1 S1.n D) (upd H1 D (.lst [])) S'.n ρ' H' ∧ Rep P.K P.cad S' ρ' H' ∧ PostR P.K P.cad S'.n ρ' H' Q (fun cls d H' => W cls d σ H') (lcF J g cf (ev P.Γ.G P.call body) (wipeU σU own) S1.n m i S'),
          ⟨m0, _, _, .refl, rpD, h.mono (nx.trans nxD)⟩, ?_⟩
        rintro i m H' ⟨S', ρ', nx', rp', h'⟩
        have slw : Sl P.K S'.n ρ' H' (L2.wipe σ own) (wipeU σU own) := ((sl.mono (nx.trans nxD)).mono nx').wipe own
        have lD : S1.n < S'.n := Nat.lt_of_lt_of_le (Nat.lt_succ_self _) nx'.le
        have eD : ρ' S1.n = D := by
          rw [nx'.eq S1.n (Nat.lt_succ_self _), ext_same]
        cases m with
        | zero =>
          unfold lcF at h'
          split at h'
          · rename_i hl
            refine .inl ⟨mat.stop _ _ _ _ (nxD.trans nx') rp' hl, ?_⟩
            have r : RU P.K S'.n ρ' H' (.loc S1.n) (.ref (ρ' S1.n)) := .loc _ lD
            rw [eD] at r
            exact h' _ _ _ .refl rp' r
          · exact h'.elim
        | succ m =>
          unfold lcF at h'
          split at h'
          · exact h'.elim
          · rename_i u hu
            split at h'
            · exact h'.elim
            · rename_i σU1 hput
              refine .inr ⟨mat.go _ _ _ _ _ (nxD.trans nx') rp' hu, _, fun H2 h2 => ⟨m, Nat.lt_succ_self _, h2⟩, fun x H2 hy => ?_⟩
              obtain ⟨nx2, rp2, ru⟩ := mat.yld _ _ _ _ _ _ _ (nxD.trans nx') rp' hu hy
              refine tG_put (slw.mono nx2) ru hput fun σ1 sl1 w1 => ⟨?_, ?_⟩
              · rw [w1 own hg, wipe_wipe]
              · refine htt rp2 sl1 ?_
                have h2 := h'.mono nx2
                cases ec : cf σU1 S' with
                | bad => rw [ec] at h2; exact h2
                | exc x S3 => rw [ec] at h2; exact h2.elim
                | ok c S3 =>
                  rw [ec] at h2
                  simp only at h2
                  cases ek : tru S3 c with
                  | none => rw [ek] at h2; exact h2.elim
                  | some b =>
                    rw [ek] at h2
                    refine ⟨b, ek, fun ρ3 H3 nx3 rp3 => ?_⟩
                    have h3 := h2.mono nx3
                    cases b with
                    | false =>
                      refine iteF ⟨S3, ρ3, nx'.trans (nx2.trans nx3), rp3, h3⟩
                    | true =>
                      simp only at h3
                      refine iteT ⟨S3, ρ3, σU1, rp3, sl1.mono nx3, ?_⟩
                      cases eb : ev P.Γ.G P.call body σU1 S3 with
                      | bad => rw [eb] at h3; exact h3
                      | exc x S4 => rw [eb] at h3; exact h3.elim
                      | ok w S4 =>
                        rw [eb] at h3
                        simp only at h3
                        intro ρ4 H4 y nx4 rp4 ry
                        cases ea : S4.f S1.n with
                        | none => rw [ea] at h3; exact h3.elim
                        | some o =>
                          rw [ea] at h3
                          cases o <;> try exact h3.elim
                          rename_i acc
                          simp only at h3
                          split at h3
                          · rename_i hl
                            obtain ⟨vs, rv, hv⟩ := rp4.lst ea
                            have nxa := nx'.trans (nx2.trans (nx3.trans nx4))
                            have eD4 : ρ4 S1.n = D := by
                              rw [nxa.eq S1.n (Nat.lt_succ_self _), ext_same]
                            rw [eD4] at hv
                            have lD4 : S1.n < S4.n := Nat.lt_of_lt_of_le (Nat.lt_succ_self _) nxa.le
                            refine ⟨vs, hv, by rw [← rv.length]; exact hl, ?_⟩
                            have nx5 : Nxt P.K S4.n ρ4 H4 S4.n ρ4 (upd H4 D (.lst (vs ++ [y]))) := nxt_upd hv trivial
                            have rp5 : Rep P.K P.cad (S4.put S1.n (.lst (acc ++ [w]))) ρ4 (upd H4 (ρ4 S1.n) (.lst (vs ++ [y]))) := rp4.put lD4 (by
                              rw [eD4]
                              exact ⟨_, (rv.append (.cons ry .nil)).mono nx5, upd_same⟩)
                            rw [eD4] at rp5
                            exact ⟨S4.put S1.n (.lst (acc ++ [w])), ρ4, nxa.trans nx5, rp5, (h3.mono nx4).mono nx5⟩
                          · exact h3.elim
theorem chk_lc {Γ : Gam} {L : LC} {own : List Nat} {k : IK} {g : Tg} {src cond body : CE} {hc : Bool} {e : Expr} (h : chkE Γ L (.lc own k g src hc cond body) e = true) : ∃ elt tg iter ifs scope pos es, e = .ListComp elt [⟨tg, iter, ifs, 0⟩] scope pos ∧
    L.calm = true ∧ blkC L.N L.sc scope (ownP L own) = true ∧ notSet iter = true ∧ iterTup k tg = true ∧ (∀ i ∈ g.ids, i ∈ own) ∧ (match iterName k with | some x => glB L.sc x && Γ.blt.contains x | none => true) = true ∧
    iterArgs k iter = some es ∧ chkA Γ L src es = true ∧ tgB (blkLC L scope) g tg = true ∧ ((hc = true ∧ ∃ c, ifs = [c] ∧ chkE Γ (blkLC L scope) cond c = true) ∨ (hc = false ∧ ifs = [])) ∧ chkE Γ (blkLC L scope) body elt = true := by
  cases e <;> try (simp only [chkE, Bool.false_eq_true] at h; done)
  rename_i elt gens scope pos
  match gens, h with
  | [], h => simp [chkE] at h
  | _ :: _ :: _, h => simp [chkE] at h
  | [⟨tg, iter, ifs, as⟩], h =>
    simp only [chkE, Bool.and_eq_true, decide_eq_true_eq] at h
    obtain ⟨⟨⟨⟨⟨⟨⟨⟨⟨⟨h0, h1⟩, h2⟩, h3⟩, h4⟩, h5⟩, h6⟩, h7⟩, h8⟩, h9⟩, h10⟩ := h
    subst h0
    cases e7 : iterArgs k iter with
    | none => rw [e7] at h7; cases h7
    | some es =>
      rw [e7] at h7
      refine ⟨elt, tg, iter, ifs, scope, pos, es, rfl, h1, h2, h3, h4, ?_, h6, e7, h7, h8, ?_, h10⟩
      · intro i hi
        have z := List.all_eq_true.mp h5 i hi
        simpa using z
      · cases hc with
        | true =>
          match ifs, h9 with
          | [c], h9 => exact .inl ⟨rfl, c, rfl, h9⟩
        | false =>
          match ifs, h9 with
          | [], _ => exact .inr ⟨rfl, rfl⟩
/-- the parts of a comprehension's proof -/
theorem lc_parts {own : List Nat} {k : IK} {g : Tg} {src cond body : CE} {hc : Bool} (A : Snd P src) (B : Snd P cond) (D : Snd P body) {L : LC} {X : Cx} {W : WX} (C : CtxOk P L X W) {e : Expr} (h : chkE P.Γ L (.lc own k g src hc cond body) e = true) :
    ∃ elt tg iter ifs scope pos ownp tt, e = .ListComp elt [⟨tg, iter, ifs, 0⟩] scope pos ∧ X.calm = true ∧ PI X tg iter (tI P W k src) ∧ BlkOk X.N X.env.scope scope ownp ∧ ownp.map (·.2) = own ∧
      (∀ (s : Shared) (H : Hp) (C : Addr) (cl : List (Str × Addr)) (fp : List Addr), PG (X.blk s H scope (compEnvC scope cl C X.env) fp) tg (tG P.K g)) ∧
      (∀ (s : Shared) (H : Hp) (C : Addr) (cl : List (Str × Addr)) (fp : List Addr), PTs (X.blk s H scope (compEnvC scope cl C X.env) fp) ifs tt) ∧
      (∀ (s : Shared) (H : Hp) (C : Addr) (cl : List (Str × Addr)) (fp : List Addr), PE (X.blk s H scope (compEnvC scope cl C X.env) fp) elt (tE P W0 body)) ∧ (∀ x, foldedSetIterable iter X.env x = pure x) ∧
      ∀ σ H Q, tE P W (.lc own k g src hc cond body) σ H Q → tLc (tI P W k src) (tG P.K g) tt (tE P W0 body) own σ H Q := by
  obtain ⟨elt, tg, iter, ifs, scope, pos, es, rfl, h1, h2, h3, h4, h5, h6, h7, h8, h9, h10, h11⟩ := chk_lc h
  have bo : BlkOk X.N X.env.scope scope (ownP L own) := by
    rw [C.N, C.sc]
    exact blkOk_by h2
  have cb := fun s H D cl fp => C.blk bo.kind s H D cl fp
  have eo : (ownP L own).map (·.2) = own := by simp [ownP, Function.comp_def]
  rcases h10 with ⟨rfl, c, rfl, h10⟩ | ⟨rfl, rfl⟩
  · exact ⟨elt, tg, iter, [c], scope, pos, _, tT P W0 cond, rfl, C.calm h1, snd_iter A C h4 h6 h7 h8, bo, eo, fun s H D cl fp => pg_ok (cb s H D cl fp) h9, fun s H E cl fp => pts_one (B.pt _ _ _ (cb s H E cl fp) c h10),
      fun s H E cl fp => D.pe _ _ _ (cb s H E cl fp) elt h11, fold_plain h3, fun σ H Q h => lc_read (hc := true) h5 (fun rp sl q => ⟨_, _, _, rp, sl, by rw [if_pos rfl] at q; exact q⟩) h⟩
  · refine ⟨elt, tg, iter, [], scope, pos, _, tYes, rfl, C.calm h1, snd_iter A C h4 h6 h7 h8, bo, eo, fun s H D cl fp => pg_ok (cb s H D cl fp) h9, fun s H E cl fp => pts_nil,
      fun s H E cl fp => D.pe _ _ _ (cb s H E cl fp) elt h11, fold_plain h3, fun σ H Q h => lc_read h5 (fun rp sl q => ?_) h⟩
    obtain ⟨k, e, q⟩ := q
    cases e
    exact q _ _ .refl rp
theorem snd_lc (own : List Nat) (k : IK) (g : Tg) {src cond body : CE} (hc : Bool) (A : Snd P src) (B : Snd P cond) (D : Snd P body) : Snd P (.lc own k g src hc cond body) := by
  refine .of (fun L X W C e h => ?_) (fun L e h => ?_) (fun L es => by cases es <;> rfl) (fun _ _ h => by cases h)
  · obtain ⟨elt, tg, iter, ifs, scope, pos, ownp, tt, rfl, h1, h2, h3, h4, h5, h6, h7, h8, h9⟩ := lc_parts A B D C h
    have r := pe_lc (pos := pos) h1 C.nd h2 h3 h5 h6 h7 h8
    rw [h4] at r
    exact r.imp h9
  · obtain ⟨elt, tg, iter, ifs, scope, pos, es, rfl, _⟩ := chk_lc h
    rfl
/-- THE SOUNDNESS of every expression -/
theorem snd : ∀ c : CE, Snd P c
  | .var i => snd_var i
  | .cst u => snd_cst u
  | .glob i => snd_glob i
  | .bin o a b => snd_bin o (snd a) (snd b)
  | .neg a => snd_neg (snd a)
  | .cmp o a b => snd_cmp o (snd a) (snd b)
  | .isN a => snd_isN (snd a)
  | .notN a => snd_notN (snd a)
  | .chn o o' a b c => snd_chn o o' (snd a) (snd b) (snd c)
  | .and a b => snd_and (snd a) (snd b)
  | .or a b => snd_or (snd a) (snd b)
  | .not a => snd_not (snd a)
  | .ife c a b => snd_ife (snd c) (snd a) (snd b)
  | .nil => snd_nil
  | .cons a b => snd_cons (snd a) (snd b)
  | .call f a => snd_call f (snd a)
  | .bi b a => snd_bi b (snd a)
  | .lrg a => snd_lrg (snd a)
  | .bm m o a => snd_bm m (snd o) (snd a)
  | .ix a i => snd_ix (snd a) (snd i)
  | .sl kl kh a lo hi => snd_sl kl kh (snd a) (snd lo) (snd hi)
  | .tupc a => snd_tupc (snd a)
  | .lstc a => snd_lstc (snd a)
  | .lc own k g src hc cond body => snd_lc own k g hc (snd src) (snd cond) (snd body)
  | .isi a ts => snd_isi ts (snd a)
end IP
/-! IPStm: the soundness of the statements. -/
namespace IP
open PySem L2 PySem.Spec PyProof.Rows
def PostF (K : PySem.W.Frag) (cad : Nat → Addr) (n : Nat) (ρ : Nat → Addr) (H : Hp) (D : Ends) (W : WX) : Fl → Prop
  | .nx σU => ∀ σ, Sl K n ρ H σ σU → D.nx σ H
  | .rt u => ∀ v, RU K n ρ H u v → D.rt v H
  | .bk σU => ∀ σ, Sl K n ρ H σ σU → D.bk σ H
  | .ct σU => ∀ σ, Sl K n ρ H σ σU → D.ct σ H
  | .ex x σU => ∀ σ cls d, Sl K n ρ H σ σU → ExR K cad n ρ H x cls d → W cls d σ H
def PostS (K : PySem.W.Frag) (cad : Nat → Addr) (n : Nat) (ρ : Nat → Addr) (H : Hp) (D : Ends) (W : WX) : SR → Prop
  | .ok f S' => ∀ ρ' H', Nxt K n ρ H S'.n ρ' H' → Rep K cad S' ρ' H' → PostF K cad S'.n ρ' H' D W f
  | .bad => False
section
variable {K : PySem.W.Frag} {cad : Nat → Addr} {n n1 : Nat} {ρ ρ1 : Nat → Addr} {H H1 : Hp} {D : Ends} {W : WX}
theorem PostS.mono {r : SR} (x : Nxt K n ρ H n1 ρ1 H1) (h : PostS K cad n ρ H D W r) : PostS K cad n1 ρ1 H1 D W r := by
  cases r with
  | ok u S' => exact fun ρ' H' nx => h ρ' H' (x.trans nx)
  | bad => exact h
theorem PostS.bindS {r : R} {σ : L2.St} {σU : Fr} {f : U → Sto → SR} {Q' : VK} (sl : Sl K n ρ H σ σU) (h : PostS K cad n ρ H D W (r.bindS σU f))
    (k : ∀ u S1 ρ1 H1 v, Nxt K n ρ H S1.n ρ1 H1 → Rep K cad S1 ρ1 H1 → RU K S1.n ρ1 H1 u v → PostS K cad S1.n ρ1 H1 D W (f u S1) → Q' v H1) : PostR K cad n ρ H Q' (fun cls d H' => W cls d σ H') r := by
  cases r with
  | ok u S' => exact fun ρ' H' v nx rp ru => k u S' ρ' H' v nx rp ru (PostS.mono nx h)
  | exc e S' => exact fun ρ' H' cls d nx rp ex => h ρ' H' nx rp σ cls d (sl.mono nx) ex
  | bad => exact h
theorem PostS.bindST {r : R} {σ : L2.St} {σU : Fr} {f : U → Sto → SR} {Q' : Bool → Hp → Prop} (sl : Sl K n ρ H σ σU) (h : PostS K cad n ρ H D W (r.bindS σU f)) (ht : ∀ u S1, tru S1 u = none → f u S1 = .bad)
    (k : ∀ u S1 ρ1 H1 b, Nxt K n ρ H S1.n ρ1 H1 → Rep K cad S1 ρ1 H1 → tru S1 u = some b → PostS K cad S1.n ρ1 H1 D W (f u S1) → Q' b H1) : PostT K cad n ρ H Q' (fun cls d H' => W cls d σ H') r := by
  cases r with
  | ok u S' =>
    cases e : tru S' u with
    | none =>
      have z : PostS K cad n ρ H D W (f u S') := h
      rw [ht u S' e] at z
      exact z.elim
    | some b => exact ⟨b, e, fun ρ' H' nx rp => k u S' ρ' H' b nx rp e (PostS.mono nx h)⟩
  | exc e S' => exact fun ρ' H' cls d nx rp ex => h ρ' H' nx rp σ cls d (sl.mono nx) ex
  | bad => exact h
end
def tS (P : Prm) (W : WX) (fu : Nat) (s : CS) : TS := fun D σ H => ∃ S ρ σU, Rep P.K P.cad S ρ H ∧ Sl P.K S.n ρ H σ σU ∧ PostS P.K P.cad S.n ρ H D W (ex P.Γ.G P.call fu s σU S)
section
variable {X : Cx} {st : Stmt} {sts : List Stmt}
theorem _root_.L2.PS.imp {t t' : TS} (h : PS X st t) (i : ∀ D σ H, t' D σ H → t D σ H) : PS X st t' := ⟨fun pins s σ H D I q => h.run pins s σ H D I (i D σ H q)⟩
theorem _root_.L2.PSs.imp {t t' : TS} (h : PSs X sts t) (i : ∀ D σ H, t' D σ H → t D σ H) : PSs X sts t' := ⟨fun pins s σ H D I q => h.run pins s σ H D I (i D σ H q)⟩
end
variable {P : Prm} {fu : Nat}
structure SndS (P : Prm) (fu : Nat) (c : CS) : Prop where
  ps : ∀ L X W, CtxOk P L X W → ∀ s, chkS P.Γ L c s = true → PS X s (tS P W fu c)
  pss : ∀ L X W, CtxOk P L X W → ∀ ss, chkSs P.Γ L c ss = true → PSs X ss (tS P W fu c)
theorem SndS.of {c : CS} (ps : ∀ L X W, CtxOk P L X W → ∀ s, chkS P.Γ L c s = true → PS X s (tS P W fu c)) (na : ∀ L ss, chkSs P.Γ L c ss = false) : SndS P fu c where
  ps := ps
  pss := fun L X W C ss h => by rw [na] at h; cases h
theorem snds_skip : SndS P fu .skip where
  ps := fun L X W C s h => by cases s <;> simp [chkS] at h
  pss := fun L X W C ss h => by
    cases ss with
    | cons _ _ => simp [chkSs] at h
    | nil => exact pss_nil.imp fun D σ H ⟨S, ρ, σU, rp, sl, h⟩ => h _ _ .refl rp _ sl
theorem snds_seq {a b : CS} (A : SndS P fu a) (B : SndS P fu b) : SndS P fu (.seq a b) where
  ps := fun L X W C s h => by cases s <;> simp [chkS] at h
  pss := fun L X W C ss h => by
    cases ss with
    | nil => simp [chkSs] at h
    | cons s ss =>
      simp only [chkSs, Bool.and_eq_true] at h
      refine (pss_cons (A.ps L X W C s h.1) (B.pss L X W C ss h.2)).imp fun D σ H ⟨S, ρ, σU, rp, sl, h⟩ => ?_
      refine ⟨S, ρ, σU, rp, sl, ?_⟩
      simp only [ex] at h
      cases e : ex P.Γ.G P.call fu a σU S with
      | bad => rw [e] at h; exact h
      | ok f S1 =>
        rw [e] at h
        cases f with
        | nx σ1 => exact fun ρ1 H1 nx rp1 σ' sl1 => ⟨S1, ρ1, σ1, rp1, sl1, h.mono nx⟩
        | rt u => exact h
        | bk σ1 => exact h
        | ct σ1 => exact h
        | ex x σ1 => exact h
theorem snds_pass : SndS P fu .pass := .of (fun L X W C s h => by
  cases s <;> try (simp only [chkS, Bool.false_eq_true] at h; done)
  exact ps_pass.imp fun D σ H ⟨S, ρ, σU, rp, sl, h⟩ => h _ _ .refl rp _ sl) fun L ss => by cases ss <;> rfl
theorem snds_brk : SndS P fu .brk := .of (fun L X W C s h => by
  cases s <;> try (simp only [chkS, Bool.false_eq_true] at h; done)
  exact ps_break.imp fun D σ H ⟨S, ρ, σU, rp, sl, h⟩ => h _ _ .refl rp _ sl) fun L ss => by cases ss <;> rfl
theorem snds_cont : SndS P fu .cont := .of (fun L X W C s h => by
  cases s <;> try (simp only [chkS, Bool.false_eq_true] at h; done)
  exact ps_continue.imp fun D σ H ⟨S, ρ, σU, rp, sl, h⟩ => h _ _ .refl rp _ sl) fun L ss => by cases ss <;> rfl
theorem snds_retN : SndS P fu .retN := .of (fun L X W C s h => by
  cases s <;> try (simp only [chkS, Bool.false_eq_true] at h; done)
  rename_i v pos
  cases v <;> try (simp only [chkS, Bool.false_eq_true] at h; done)
  exact ps_retN.imp fun D σ H ⟨S, ρ, σU, rp, sl, h⟩ => h _ _ .refl rp _ .non) fun L ss => by cases ss <;> rfl
theorem snds_ret (e : CE) : SndS P fu (.ret e) := .of (fun L X W C s h => by
  cases s <;> try (simp only [chkS, Bool.false_eq_true] at h; done)
  rename_i v pos
  cases v <;> try (simp only [chkS, Bool.false_eq_true] at h; done)
  simp only [chkS] at h
  exact (ps_ret ((snd e).pe L X W C _ h)).imp fun D σ H ⟨S, ρ, σU, rp, sl, h⟩ => ⟨S, ρ, σU, rp, sl, PostS.bindS sl h fun u S1 ρ1 H1 v nx rp1 ru h1 => h1 _ _ .refl rp1 _ ru⟩) fun L ss => by cases ss <;> rfl
theorem snds_exp (e : CE) : SndS P fu (.exp e) := .of (fun L X W C s h => by
  cases s <;> try (simp only [chkS, Bool.false_eq_true] at h; done)
  simp only [chkS, Bool.and_eq_true] at h
  exact (ps_expr ((snd e).pe L X W C _ h.2) (swaps_plain h.1)).imp fun D σ H ⟨S, ρ, σU, rp, sl, h⟩ => ⟨S, ρ, σU, rp, sl, PostS.bindS sl h fun u S1 ρ1 H1 v nx rp1 ru h1 => h1 _ _ .refl rp1 _ (sl.mono nx)⟩) fun L ss => by cases ss <;> rfl
theorem snds_ife (c : CE) {a b : CS} (A : SndS P fu a) (B : SndS P fu b) : SndS P fu (.ife c a b) := .of (fun L X W C s h => by
  cases s <;> try (simp only [chkS, Bool.false_eq_true] at h; done)
  simp only [chkS, Bool.and_eq_true] at h
  refine (ps_if ((snd c).pt L X W C _ h.1.1) (A.pss L X W C _ h.1.2) (B.pss L X W C _ h.2)).imp fun D σ H ⟨S, ρ, σU, rp, sl, h⟩ => ⟨S, ρ, σU, rp, sl, PostS.bindST sl h (fun u S1 e => by simp only [e]) fun u S1 ρ1 H1 k nx rp1 e h1 => ?_⟩
  simp only [e] at h1
  cases k with
  | true => exact iteT ⟨S1, ρ1, σU, rp1, sl.mono nx, h1⟩
  | false => exact iteF ⟨S1, ρ1, σU, rp1, sl.mono nx, h1⟩) fun L ss => by cases ss <;> rfl
theorem swaps_lc {L : LC} {X : Cx} {W : WX} (C : CtxOk P L X W) {elt : Expr} {gs : List Comprehension} {scope : Scope} {pos py : Pos} {y : Str} {l : Nat} :
    swapsWith (.ListComp elt gs scope pos) (some (.Name y py)) l X.env = pure (swB L y py (.ListComp elt gs scope pos)) := by
  have hb : X.env.blockKind = .function := by
    unfold Env.blockKind
    rw [C.sc, C.kd]
    rfl
  unfold swapsWith swB
  simp only [hb, Env.kindOf, C.sc, Expr.pos]
  rfl
theorem comp_lc {Γ : Gam} {L : LC} {e : CE} {v : Expr} (h : chkE Γ L e v = true) (h2 : notComp v = false) : ∃ own k g src hc cond body, e = .lc own k g src hc cond body := by
  cases v <;> try (simp only [notComp, Bool.true_eq_false] at h2; done)
  all_goals
    cases e <;> first | exact ⟨_, _, _, _, _, _, _, rfl⟩ | (simp only [chkE, Bool.false_eq_true] at h; done)
theorem snds_set (i : Nat) (e : CE) : SndS P fu (.set i e) := .of (fun L X W C s h => by
  cases s <;> try (simp only [chkS, Bool.false_eq_true] at h; done)
  rename_i ts v pos
  simp only [chkS] at h
  cases et : tgt1 ts with
  | none => rw [et] at h; cases h
  | some t =>
    rw [et] at h
    have et := tgt1_ok et
    subst et
    simp only [Bool.and_eq_true] at h
    obtain ⟨x, p, e1, h1, h2, h3⟩ := nameAt_ok C h.1
    subst e1
    have rd : ∀ {D : Ends} {σ : L2.St} {H : Hp}, tS P W fu (.set i e) D σ H → tE P W e σ H (fun x H1 => gName i x σ H1 D.nx) := fun {D σ H} ⟨S, ρ, σU, rp, sl, h⟩ => ⟨S, ρ, σU, rp, sl, PostS.bindS sl h fun u S1 ρ1 H1 v nx rp1 ru h1 => h1 _ _ .refl rp1 _ ((sl.mono nx).set ru i)⟩
    by_cases hc : notComp v = true
    · exact (ps_set C.nd h1 h2 ((snd e).pe L X W C _ h.2) (swaps_plain hc) h3).imp fun D σ H h => rd h
    · obtain ⟨own, k, g, src, hcb, cond, body, rfl⟩ := comp_lc h.2 (by simpa using hc)
      obtain ⟨elt, tg, iter, ifs, scope, lpos, ownp, tt, rfl, q1, q2, q3, q4, q5, q6, q7, q8, q9⟩ := lc_parts (snd src) (snd cond) (snd body) C h.2
      by_cases hs : swB L x p (.ListComp elt [⟨tg, iter, ifs, 0⟩] scope lpos) = true
      · have hl : X.env.scope.names.lookup x = some .local := by
          rw [C.sc]
          simp only [swB, Bool.and_eq_true, beq_iff_eq] at hs
          exact hs.1.1
        have r := ps_setLc (spos := pos) q1 C.nd h1 hl (by rw [swaps_lc C, hs]) q2 q3 q5 q6 q7 q8
        rw [q4] at r
        exact r.imp fun D σ H h => q9 _ _ _ (rd h)
      · have hs : swB L x p (.ListComp elt [⟨tg, iter, ifs, 0⟩] scope lpos) = false := by simpa using hs
        exact (ps_set C.nd h1 h2 ((snd _).pe L X W C _ h.2) (by rw [swaps_lc C, hs]) h3).imp fun D σ H h => rd h) fun L ss => by cases ss <;> rfl
theorem swapped_none {es vs : List Expr} {k k2 : Nat} {p p2 : Pos} {env : Env} (h : vs.all (foldedForSure 8) = true) : swappedStores [.Tuple es k p] (.Tuple vs k2 p2) env = pure none := by
  unfold swappedStores
  simp only [h]
  split
  · rfl
  · split
    · rfl
    · split
      · rfl
      · rfl
theorem snds_setT (is : List Nat) (e : CE) : SndS P fu (.setT is e) := .of (fun L X W C s h => by
  cases s <;> try (simp only [chkS, Bool.false_eq_true] at h; done)
  rename_i ts v pos
  simp only [chkS] at h
  cases et : tgt1 ts with
  | none => rw [et] at h; cases h
  | some t =>
    rw [et] at h
    have et := tgt1_ok et
    subst et
    simp only [Bool.and_eq_true] at h
    obtain ⟨⟨⟨h1, h2⟩, h3⟩, h4⟩ := h
    have pg := pg_ok C h3
    have hw : swappedStores [t] v X.env = pure none := by
      cases t <;> simp only [tgB, Bool.false_eq_true] at h3
      cases v <;> first | rfl | exact swapped_none h1
    have ha : (assignEach [t] X.env).map (·.2) = [assign t X.env] := by
      cases t <;> simp only [tgB, Bool.false_eq_true] at h3
      rfl
    refine (ps_asg ((snd e).pe L X W C _ h4) pg (show swapsWithSole [t] v _ X.env = pure false from swaps_plain h2) hw ha).imp fun D σ H ⟨S, ρ, σU, rp, sl, h⟩ => ⟨S, ρ, σU, rp, sl, PostS.bindS sl h fun u S1 ρ1 H1 v nx rp1 ru h1 => ?_⟩
    cases e2 : (Tg.tp is).put u σU with
    | none => rw [e2] at h1; exact h1.elim
    | some σ1 =>
      rw [e2] at h1
      exact tG_put (sl.mono nx) ru e2 fun σ2 sl2 _ => h1 _ _ .refl rp1 _ sl2) fun L ss => by cases ss <;> rfl
theorem snds_sub (o i e : CE) : SndS P fu (.sub o i e) := .of (fun L X W C s h => by
  cases s <;> try (simp only [chkS, Bool.false_eq_true] at h; done)
  rename_i ts v pos
  simp only [chkS] at h
  cases et : tgt1 ts with
  | none => rw [et] at h; cases h
  | some t =>
    rw [et] at h
    have et := tgt1_ok et
    subst et
    simp only at h
    cases eu : sub1 t with
    | none => rw [eu] at h; cases h
    | some q =>
      rw [eu] at h
      obtain ⟨eo, ei⟩ := q
      obtain ⟨p, rfl⟩ := sub1_ok eu
      simp only [Bool.and_eq_true] at h
      obtain ⟨⟨⟨⟨h1, h2⟩, h3⟩, h4⟩, h5⟩ := h
      have hw : swappedStores [.Subscript eo ei p] v X.env = pure none := by cases v <;> rfl
      have ok := sub_ok (X := X) (cad := P.cad)
      rw [C.K] at ok
      have hsw : swapsWithSole [.Subscript eo ei p] v pos.line X.env = pure false := swaps_plain (t := some (.Subscript eo ei p)) (l := pos.line) (env := X.env) h2
      refine (ps_asg ((snd e).pe L X W C _ h3) (pg_sub ((snd o).pe L X W C _ h4) ((snd i).pe L X W C _ h5) ok (by intro v; cases ei <;> first | rfl | cases h1)) hsw hw).imp fun D σ H ⟨S, ρ, σU, rp, sl, h⟩ => ⟨S, ρ, σU, rp, sl, PostS.bindS sl h fun u S1 ρ1 H1 v nx rp1 ru h1 => ?_⟩
      refine ⟨S1, ρ1, σU, rp1, sl.mono nx, PostS.bindS (sl.mono nx) h1 fun w S2 ρ2 H2 z nx2 rp2 rw_ h2 => ?_⟩
      refine ⟨S2, ρ2, σU, rp2, (sl.mono nx).mono nx2, PostS.bindS ((sl.mono nx).mono nx2) h2 fun w3 S3 ρ3 H3 z3 nx3 rp3 rw3 h3 => ?_⟩
      cases e2 : subU w w3 u S3 with
      | none => rw [e2] at h3; exact h3.elim
      | some S4 =>
        rw [e2] at h3
        exact ⟨S3, ρ3, w, w3, u, S4, rp3, rw_.mono nx3, rw3, ru.mono (nx2.trans nx3), e2, fun ρ4 H4 nx4 rp4 => h3 _ _ nx4 rp4 _ ((((sl.mono nx).mono nx2).mono nx3).mono nx4)⟩) fun L ss => by cases ss <;> rfl
theorem loc_ok {L : LC} {X : Cx} {W : WX} (C : CtxOk P L X W) {x : Str} (h : locB L x = true) : X.env.scope.names.lookup x = some .local := by
  rw [C.sc]
  unfold locB at h
  split at h
  · assumption
  · cases h
theorem swaps_tup {es : List Expr} {k : Nat} {p : Pos} {t : Expr} {l : Nat} {env : Env} : swapsWithSole [t] (.Tuple es k p) l env = pure false := rfl
theorem star_is (e : Expr) : (match e with | .Starred _ _ => true | _ => false) = !notStar e := by cases e <;> rfl
theorem swapped_two {L : LC} {X : Cx} {W : WX} (C : CtxOk P L X W) {x y : Str} {px py pt p2 : Pos} {k k2 : Nat} {ea eb : Expr} (h1 : locB L x = true) (h2 : locB L y = true) (h3 : (px.line == py.line) = true) (h4 : notStar ea = true) (h5 : notStar eb = true) (h6 : notFold [ea, eb] = true) (h7 : (!(x == y)) = true) :
    swappedStores [.Tuple [.Name x px, .Name y py] k pt] (.Tuple [ea, eb] k2 p2) X.env = pure (some [x, y]) := by
  have hb : X.env.blockKind = .function := by
    unfold Env.blockKind
    rw [C.sc, C.kd]
    rfl
  have l1 := loc_ok C h1
  have l2 := loc_ok C h2
  simp only [notFold, Bool.and_eq_true, Bool.not_eq_true'] at h6
  have h3' : (py.line == px.line) = true := by
    rw [beq_iff_eq] at h3 ⊢
    exact h3.symm
  have h7' : (x == y) = false := by simpa using h7
  have h8 : (y == x) = false := by
    rw [beq_eq_false_iff_ne] at h7' ⊢
    exact fun z => h7' z.symm
  unfold swappedStores
  have e3 : py.line = px.line := by simpa using h3'
  simp only [List.length_cons, List.length_nil, hb, List.any_cons, List.any_nil, Bool.or_false, List.filterMap_cons, List.filterMap_nil, Env.kindOf, l1, l2, h6.1, h6.2, List.head?_cons, Option.map_some, Option.getD_some, Expr.pos, e3, BEq.rfl, Bool.and_self, if_true, List.eraseDups_cons, List.filter_cons, h8, Bool.not_false, List.filter_nil, List.eraseDups_nil]
  cases ea <;> first | (cases h4; done) | skip
  all_goals (cases eb <;> first | (cases h5; done) | rfl)
theorem snds_par (i j : Nat) (a b : CE) : SndS P fu (.par i j a b) := .of (fun L X W C s h => by
  cases s <;> try (simp only [chkS, Bool.false_eq_true] at h; done)
  rename_i ts v pos
  simp only [chkS] at h
  cases et : tgt1 ts with
  | none => rw [et] at h; cases h
  | some t =>
    rw [et] at h
    have et := tgt1_ok et
    subst et
    simp only at h
    cases ep : parB L i j t v with
    | none => rw [ep] at h; cases h
    | some q =>
      obtain ⟨ea, eb⟩ := q
      rw [ep] at h
      simp only [Bool.and_eq_true] at h
      unfold parB at ep
      split at ep
      · rename_i t1 t2 va vb q1 q2
        split at ep
        · rename_i x px y py q3 q4
          split at ep
          · rename_i hc
            cases ep
            obtain ⟨k, p, rfl⟩ := tupOf_ok q1
            obtain ⟨k2, p2, rfl⟩ := tupOf_ok q2
            have q3 := nameOf1_ok q3
            have q4 := nameOf1_ok q4
            subst q3
            subst q4
            simp only [Bool.and_eq_true, decide_eq_true_eq] at hc
            obtain ⟨⟨⟨⟨⟨⟨⟨⟨⟨⟨c1, c2⟩, c3⟩, c4⟩, c5⟩, c6⟩, c7⟩, c8⟩, c9⟩, c10⟩, c11⟩ := hc
            refine (ps_par (C.calm c1) C.nd (by rw [C.N]; exact c3) (by rw [C.N]; exact c4) c2 (loc_ok C c5) (loc_ok C c6) (pa_cons ((snd a).pe L X W C _ h.1) (pa_cons ((snd b).pe L X W C _ h.2) pa_nil (star_cons c9)) (star_cons c8)) (swapped_two C c5 c6 c7 c8 c9 c10 c11) rfl).imp fun D σ H ⟨S, ρ, σU, rp, sl, h⟩ => ?_
            refine ⟨S, ρ, σU, rp, sl, PostS.bindS sl h fun u S1 ρ1 H1 v nx rp1 ru h1 => ⟨S1, ρ1, σU, rp1, sl.mono nx, PostS.bindS (sl.mono nx) h1 fun w S2 ρ2 H2 z nx2 rp2 rw_ h2 => ?_⟩⟩
            exact ⟨v, z, rfl, h2 _ _ .refl rp2 _ ((((sl.mono nx).mono nx2).set (ru.mono nx2) i).set rw_ j)⟩
          · cases ep
        · cases ep
      · cases ep) fun L ss => by cases ss <;> rfl
theorem swapped_three {L : LC} {X : Cx} {W : WX} (C : CtxOk P L X W) {x y z : Str} {px py pz pt p2 : Pos} {k k2 : Nat} {ea eb ec : Expr} (h1 : locB L x = true) (h2 : locB L y = true) (h2' : locB L z = true) (h3 : (px.line == py.line) = true) (h3' : (px.line == pz.line) = true)
    (h4 : notStar ea = true) (h5 : notStar eb = true) (h5' : notStar ec = true) (h6 : notFold [ea, eb, ec] = true) (h7 : (!(x == y)) = true) (h8 : (!(x == z)) = true) (h9 : (!(y == z)) = true) :
    swappedStores [.Tuple [.Name x px, .Name y py, .Name z pz] k pt] (.Tuple [ea, eb, ec] k2 p2) X.env = pure (some [x, y, z]) := by
  have hb : X.env.blockKind = .function := by
    unfold Env.blockKind
    rw [C.sc, C.kd]
    rfl
  have l1 := loc_ok C h1
  have l2 := loc_ok C h2
  have l3 := loc_ok C h2'
  simp only [notFold, Bool.and_eq_true, Bool.not_eq_true'] at h6
  have e3 : py.line = px.line := by rw [beq_iff_eq] at h3; exact h3.symm
  have e4 : pz.line = px.line := by rw [beq_iff_eq] at h3'; exact h3'.symm
  have sy : ∀ {a b : Str}, (!(a == b)) = true → (b == a) = false := fun {a b} h => by
    have h : (a == b) = false := by simpa using h
    rw [beq_eq_false_iff_ne] at h ⊢
    exact fun z => h z.symm
  have hs : ([ea, eb, ec].any fun e => match e with | .Starred _ _ => true | _ => false) = false := by
    simp only [List.any_cons, List.any_nil, star_is, h4, h5, h5', Bool.not_true, Bool.or_false]
  unfold swappedStores
  simp only [List.length_cons, List.length_nil, hb, Bool.or_false, List.filterMap_cons, List.filterMap_nil, Env.kindOf, l1, l2, l3, h6.1, h6.2, List.head?_cons, Option.map_some, Option.getD_some, Expr.pos, e3, e4, BEq.rfl, Bool.and_self, if_true, List.eraseDups_cons, List.filter_cons, sy h7, sy h8, sy h9, Bool.not_false, List.filter_nil, List.eraseDups_nil]
  split
  · rename_i q
    exact absurd q (by decide)
  · split
    · rename_i q
      have q2 := q.symm.trans hs
      cases q2
    · rfl
theorem snds_par3 (i j k : Nat) (a b c : CE) : SndS P fu (.par3 i j k a b c) := .of (fun L X W C s h => by
  cases s <;> try (simp only [chkS, Bool.false_eq_true] at h; done)
  rename_i ts v pos
  simp only [chkS] at h
  cases et : tgt1 ts with
  | none => rw [et] at h; cases h
  | some t =>
    rw [et] at h
    have et := tgt1_ok et
    subst et
    simp only at h
    cases ep : parB3 L i j k t v with
    | none => rw [ep] at h; cases h
    | some q =>
      obtain ⟨ea, eb, ec⟩ := q
      rw [ep] at h
      simp only [Bool.and_eq_true] at h
      unfold parB3 at ep
      split at ep
      · rename_i t1 t2 t3 va vb vc q1 q2
        split at ep
        · rename_i x px y py z pz q3 q4 q5
          split at ep
          · rename_i hc
            cases ep
            obtain ⟨k, p, rfl⟩ := tupOf_ok q1
            obtain ⟨k2, p2, rfl⟩ := tupOf_ok q2
            have q3 := nameOf1_ok q3
            have q4 := nameOf1_ok q4
            have q5 := nameOf1_ok q5
            subst q3
            subst q4
            subst q5
            simp only [Bool.and_eq_true, decide_eq_true_eq] at hc
            obtain ⟨⟨⟨⟨⟨⟨⟨⟨⟨⟨⟨⟨⟨⟨⟨⟨⟨⟨c1, c2⟩, c3⟩, c4⟩, c5⟩, c6⟩, c7⟩, c8⟩, c9⟩, c10⟩, c11⟩, c12⟩, c13⟩, c14⟩, c15⟩, c16⟩, c17⟩, c18⟩, c19⟩ := hc
            refine (ps_par3 (C.calm c1) C.nd (by rw [C.N]; exact c5) (by rw [C.N]; exact c6) (by rw [C.N]; exact c7) c2 c3 c4 (loc_ok C c8) (loc_ok C c9) (loc_ok C c10) (pa_cons ((snd a).pe L X W C _ h.1.1) (pa_cons ((snd b).pe L X W C _ h.1.2) (pa_cons ((snd c).pe L X W C _ h.2) pa_nil (star_cons c15)) (star_cons c14)) (star_cons c13)) (swapped_three C c8 c9 c10 c11 c12 c13 c14 c15 c16 c17 c18 c19) rfl).imp fun D σ H ⟨S, ρ, σU, rp, sl, h⟩ => ?_
            refine ⟨S, ρ, σU, rp, sl, PostS.bindS sl h fun u S1 ρ1 H1 v nx rp1 ru h1 => ⟨S1, ρ1, σU, rp1, sl.mono nx, PostS.bindS (sl.mono nx) h1 fun w S2 ρ2 H2 z nx2 rp2 rw_ h2 => ⟨S2, ρ2, σU, rp2, (sl.mono nx).mono nx2, PostS.bindS ((sl.mono nx).mono nx2) h2 fun w3 S3 ρ3 H3 z3 nx3 rp3 rw3 h3 => ?_⟩⟩⟩
            exact ⟨v, z, z3, rfl, h3 _ _ .refl rp3 _ ((((((sl.mono nx).mono nx2).mono nx3).set (ru.mono (nx2.trans nx3)) i).set (rw_.mono nx3) j).set rw3 _)⟩
          · cases ep
        · cases ep
      · cases ep) fun L ss => by cases ss <;> rfl
theorem snds_whl (c : CE) {b : CS} (B : SndS P fu b) : SndS P fu (.whl c b) := .of (fun L X W C s h => by
  cases s <;> try (simp only [chkS, Bool.false_eq_true] at h; done)
  rename_i ec sb se pos
  simp only [chkS, Bool.and_eq_true, List.isEmpty_iff] at h
  obtain ⟨⟨rfl, h⟩, h'⟩ := h
  have h := And.intro h h'
  refine (ps_while C.pass ((snd c).pt L X W C _ h.1) (B.pss L X W C _ h.2)).imp fun D σ H ⟨S, ρ, σU, rp, sl, h⟩ => ?_
  refine ⟨fun m σ H => ∃ S ρ σU, Rep P.K P.cad S ρ H ∧ Sl P.K S.n ρ H σ σU ∧ PostS P.K P.cad S.n ρ H D W (whileF (ev P.Γ.G P.call c) (ex P.Γ.G P.call fu b) m σU S), ⟨fu, S, ρ, σU, rp, sl, h⟩, ?_⟩
  rintro m σ H ⟨S, ρ, σU, rp, sl, h⟩
  cases m with
  | zero => exact h.elim
  | succ m =>
    refine ⟨S, ρ, σU, rp, sl, PostS.bindST sl h (fun u S1 e => by simp only [e]) fun u S1 ρ1 H1 k nx rp1 e h1 => ?_⟩
    simp only [e] at h1
    cases k with
    | false => exact iteF (h1 _ _ .refl rp1 _ (sl.mono nx))
    | true =>
      simp only at h1
      refine iteT ⟨_, fun σ' H' h => ⟨m, Nat.lt_succ_self _, h⟩, S1, ρ1, σU, rp1, sl.mono nx, ?_⟩
      cases e2 : ex P.Γ.G P.call fu b σU S1 with
      | bad => rw [e2] at h1; exact h1
      | ok f S2 =>
        rw [e2] at h1
        intro ρ2 H2 nx2 rp2
        cases f with
        | nx σ1 => exact fun σ' sl2 => ⟨S2, ρ2, σ1, rp2, sl2, h1.mono nx2⟩
        | ct σ1 => exact fun σ' sl2 => ⟨S2, ρ2, σ1, rp2, sl2, h1.mono nx2⟩
        | bk σ1 => exact fun σ' sl2 => h1 _ _ nx2 rp2 _ sl2
        | rt u => exact h1 _ _ nx2 rp2
        | ex x σ1 => exact h1 _ _ nx2 rp2) fun L ss => by cases ss <;> rfl
theorem snds_forr (k : IK) (g : Tg) (src : CE) {b : CS} (B : SndS P fu b) : SndS P fu (.forr k g src b) := .of (fun L X W C s h => by
  cases s <;> try (simp only [chkS, Bool.false_eq_true] at h; done)
  rename_i tg iter sb se pos
  simp only [chkS, Bool.and_eq_true, List.isEmpty_iff] at h
  obtain ⟨⟨⟨⟨⟨⟨⟨rfl, h1⟩, h2⟩, h3⟩, h4⟩, h5⟩, h6⟩, h7⟩ := h
  cases e7 : iterArgs k iter with
  | none => rw [e7] at h5; cases h5
  | some es =>
    rw [e7] at h5
    refine (ps_for C.pass (C.calm h1) (snd_iter (snd src) C h3 h4 e7 h5) (pg_ok C h6) (B.pss L X W C _ h7) (fold_plain h2)).imp fun D σ H ⟨S, ρ, σU, rp, sl, h⟩ => ?_
    refine ⟨S, ρ, σU, rp, sl, ?_⟩
    simp only [ex] at h
    cases e1 : ev P.Γ.G P.call src σU S with
    | bad => rw [e1] at h; exact h
    | exc x S1 => rw [e1] at h; exact fun ρ' H' cls d nx rp ex => h ρ' H' nx rp σ cls d (sl.mono nx) ex
    | ok u S1 =>
      rw [e1] at h
      simp only [R.bindS] at h
      cases u <;> try exact h.elim
      rename_i us
      simp only at h
      cases eJ : itNew k us S1 with
      | none => rw [eJ] at h; exact h.elim
      | some J =>
        rw [eJ] at h
        simp only at h
        cases eM : J.len S1 with
        | none => rw [eM] at h; exact h.elim
        | some m0 =>
          rw [eM] at h
          simp only at h
          refine ⟨J, eJ, fun ρ1 H1 JJ nx rp1 mat => ?_⟩
          refine ⟨fun i m σ H' => ∃ S' ρ' σU', Nxt P.K S1.n ρ1 H1 S'.n ρ' H' ∧ Rep P.K P.cad S' ρ' H' ∧ Sl P.K S'.n ρ' H' σ σU' ∧ PostS P.K P.cad S'.n ρ' H' D W (forF J g (ex P.Γ.G P.call fu b) m i σU' S'),
            ⟨m0, S1, ρ1, σU, .refl, rp1, sl.mono nx, h.mono nx⟩, ?_⟩
          rintro i m σ H' ⟨S', ρ', σU', nx', rp', sl', h'⟩
          cases m with
          | zero =>
            unfold forF at h'
            split at h'
            · rename_i hl
              exact .inl ⟨mat.stop _ _ _ _ nx' rp' hl, h' _ _ .refl rp' _ sl'⟩
            · exact h'.elim
          | succ m =>
            unfold forF at h'
            split at h'
            · exact h'.elim
            · rename_i u hu
              split at h'
              · exact h'.elim
              · rename_i σU1 hput
                refine .inr ⟨mat.go _ _ _ _ _ nx' rp' hu, _, fun σ2 H2 h2 => ⟨m, Nat.lt_succ_self _, h2⟩, fun x H2 hy => ?_⟩
                obtain ⟨nx2, rp2, ru⟩ := mat.yld _ _ _ _ _ _ _ nx' rp' hu hy
                refine tG_put (sl'.mono nx2) ru hput fun σ1 sl1 w1 => ⟨S', ρ', σU1, rp2, sl1, ?_⟩
                have h2 := h'.mono nx2
                cases e2 : ex P.Γ.G P.call fu b σU1 S' with
                | bad => rw [e2] at h2; exact h2
                | ok f S2 =>
                  rw [e2] at h2
                  intro ρ3 H3 nx3 rp3
                  cases f with
                  | nx σ1 => exact fun σ' sl2 => ⟨S2, ρ3, σ1, (nx'.trans nx2).trans nx3, rp3, sl2, h2.mono nx3⟩
                  | ct σ1 => exact fun σ' sl2 => ⟨S2, ρ3, σ1, (nx'.trans nx2).trans nx3, rp3, sl2, h2.mono nx3⟩
                  | bk σ1 => exact fun σ' sl2 => h2 _ _ nx3 rp3 _ sl2
                  | rt u => exact h2 _ _ nx3 rp3
                  | ex x σ1 => exact h2 _ _ nx3 rp3) fun L ss => by cases ss <;> rfl

/-- THE SOUNDNESS of every statement -/
theorem snds (fu : Nat) : ∀ c : CS, SndS P fu c
  | .skip => snds_skip
  | .seq a b => snds_seq (snds fu a) (snds fu b)
  | .set i e => snds_set i e
  | .setT is e => snds_setT is e
  | .par i j a b => snds_par i j a b
  | .par3 i j k a b c => snds_par3 i j k a b c
  | .sub o i e => snds_sub o i e
  | .exp e => snds_exp e
  | .ret e => snds_ret e
  | .retN => snds_retN
  | .ife c a b => snds_ife c (snds fu a) (snds fu b)
  | .whl c b => snds_whl c (snds fu b)
  | .forr k g src b => snds_forr k g src (snds fu b)
  | .pass => snds_pass
  | .brk => snds_brk
  | .cont => snds_cont
end IP
/-! IPTop: the defs of a program keep what the evaluator says; the law's end. -/
namespace IP
open PySem L2 PySem.Spec PyProof.Rows

/-- the frame at a def's entry -/
def startU (n : Nat) (us : List U) : Fr := us.map some ++ List.replicate (n - us.length) none
def endF : SR → R
  | .ok (.rt u) S => .ok u S
  | .ok (.nx _) S => .ok .non S
  | .ok (.ex x _) S => .exc x S
  | _ => .bad
/-- the defs, to a depth of calls -/
def callF (Γ : Gam) (fu : Nat) : Nat → Nat → List U → Sto → R
  | 0, _, _, _ => .bad
  | d + 1, i, us, S => match Γ.fns[i]? with
    | none => .bad
    | some I => if us.length = I.ps.length then endF (ex Γ.G (callF Γ fu d) fu I.body (startU I.N.length us) S) else .bad

def fnScB (N ps : List Str) (sc : Scope) : Bool := (match sc.kind with | .function => true | _ => false) && !sc.isCoroutine && !sc.isGenerator && decide N.Nodup && decide (N.take ps.length = ps) &&
  (ps.all fun x => match sc.names.lookup x with | some .local => true | some .cell => true | _ => false) && sc.names.all fun y => match y.2 with | .free => false | _ => true
theorem fnSc_ok {N ps : List Str} {sc : Scope} (h : fnScB N ps sc = true) : FnScope N ps sc := by
  simp only [fnScB, Bool.and_eq_true, decide_eq_true_eq, List.all_eq_true, Bool.not_eq_true'] at h
  obtain ⟨⟨⟨⟨⟨⟨h1, h2⟩, h3⟩, h4⟩, h5⟩, h6⟩, h7⟩ := h
  refine ⟨?_, h2, h3, h4, h5, fun x hx => ?_, fun y hy e => ?_⟩
  · split at h1
    · assumption
    · cases h1
  · have q := h6 x hx
    split at q
    · exact .inl (by assumption)
    · exact .inr (by assumption)
    · cases q
  · have q := h7 y hy
    rw [e] at q
    cases q
def lcOf (I : FnI) : LC := { N := I.N, sc := defScope I.st, fnx := fun _ => true, calm := true }
def chkFn (Γ : Gam) (I : FnI) : Bool := fnScB I.N I.ps (defScope I.st) && chkSs Γ (lcOf I) I.body (defBody I.st)

/-- what is known of a def as it stands -/
structure FnFact (K : PySem.W.Frag) (mg : Str → Option Value) (I : FnI) (f : Addr) (fd : FuncData) : Prop where
  fn : Fun K I.name I.qual I.st f fd
  glob : mg I.name = some (.ref f)
  eqb : ∀ us : List Value, us.length = I.ps.length → bindArgs fd ⟨us, []⟩ = pure (I.ps.zip us)
theorem FnFact.binds {K : PySem.W.Frag} {mg : Str → Option Value} {I : FnI} {f : Addr} {fd : FuncData} (F : FnFact K mg I f fd) : Binds K fd I.ps [] := .all F.eqb
/-- what is known of the module -/
structure Facts (Γ : Gam) (K : PySem.W.Frag) (mg : Str → Option Value) (fa : Nat → Addr) (fd : Nat → FuncData) : Prop where
  fns : ∀ (i : Nat) (I : FnI), Γ.fns[i]? = some I → FnFact K mg I (fa i) (fd i)
  blt : ∀ x, Γ.blt.contains x = true → mg x = none
  glv : ∀ (i : Nat) (y : Str) (u : U), Γ.glv[i]? = some (y, u) → ∃ v w, mg y = some w ∧ RelV v w ∧ ∀ n ρ H, RU K n ρ H u v
section
variable {Γ : Gam} {K : PySem.W.Frag} {mg : Str → Option Value} {fa : Nat → Addr} {fd : Nat → FuncData} {cad : Nat → Addr} {fu : Nat}
def prm (Γ : Gam) (K : PySem.W.Frag) (mg : Str → Option Value) (cad fa : Nat → Addr) (fd : Nat → FuncData) (fu d : Nat) : Prm := ⟨Γ, K, mg, cad, fa, fd, callF Γ fu d, 2 * d⟩
theorem callF_len {d i : Nat} {I : FnI} {us : List U} {S : Sto} (hI : Γ.fns[i]? = some I) (h : callF Γ fu d i us S ≠ .bad) : us.length = I.ps.length := by
  cases d with
  | zero => exact absurd rfl h
  | succ d =>
    unfold callF at h
    rw [hI] at h
    by_cases e : us.length = I.ps.length
    · exact e
    · simp only [if_neg e] at h
      exact absurd rfl h
theorem txt_of (T : Facts Γ K mg fa fd) (d : Nat) : Txt (prm Γ K mg cad fa fd fu d) where
  blt := T.blt
  gfn := fun i I h => ⟨(T.fns i I h).glob, (T.fns i I h).fn.kp, (T.fns i I h).binds⟩
  len := fun i I us S hI h => callF_len hI h
  glv := T.glv
theorem sl_start {n : Nat} {ρ : Nat → Addr} {H : Hp} {us : List U} {vs : List V} {N : List Str} (r : RUs K n ρ H us vs) : Sl K n ρ H (L2.start N vs) (startU N.length us) := by
  refine ⟨by simp [L2.start, startU, r.length], fun i u e => ?_⟩
  unfold startU at e
  by_cases hi : i < us.length
  · rw [List.getElem?_append_left (by simpa using hi)] at e
    simp only [List.getElem?_map, Option.map_eq_some_iff] at e
    obtain ⟨w, e1, e2⟩ := e
    cases e2
    obtain ⟨v, h1, h2⟩ := r.get e1
    refine ⟨v, ?_, h2⟩
    unfold L2.start
    rw [List.getElem?_append_left (by simpa [← r.length] using hi)]
    simp [h1]
  · rw [List.getElem?_append_right (by simpa using hi)] at e
    rw [List.getElem?_replicate] at e
    split at e
    · cases e
    · cases e
theorem post_end {n : Nat} {ρ : Nat → Addr} {H : Hp} {Q : VK} {E : XK} {r : SR} (h : PostR K cad n ρ H Q E (endF r)) : PostS K cad n ρ H { nx := fun _ H' => Q .non H', rt := Q } (fun cls d _ H => E cls d H) r := by
  cases r with
  | bad => exact h
  | ok f S =>
    cases f with
    | nx σ => exact fun ρ' H' nx rp σ' sl => h ρ' H' _ nx rp .non
    | rt u => exact fun ρ' H' nx rp v ru => h ρ' H' v nx rp ru
    | bk σ => exact h.elim
    | ct σ => exact h.elim
    | ex x σ => exact fun ρ' H' nx rp σ' cls d sl ex => h ρ' H' cls d nx rp ex
/-- THE DEFS -/
theorem fns_ok {P : Program} {w : World} {base : Heap} (T : Facts Γ K mg fa fd) (ck : ∀ I ∈ Γ.fns, chkFn Γ I = true) : ∀ (d i : Nat) (I : FnI), Γ.fns[i]? = some I → FnOk P w K mg base (L2.CX P w) (2 * d) (fa i) (fd i) I.ps (spF K cad (callF Γ fu d) i I.ps.length)
  | 0, i, I, hI => by
    have no : ∀ {vs : List V} {H : Hp} {Q : VK} {E : XK}, ¬ spF K cad (callF Γ fu 0) i I.ps.length vs H Q E := fun ⟨S, ρ, us, _, _, _, h⟩ => h
    exact ⟨fun vs H Q E h => (no h).elim, fun A outer s H args us vs Q E hr he hb hv h => (no h).elim⟩
  | d + 1, i, I, hI => by
    have F := (T.fns i I hI).fn
    have c := ck I (List.mem_of_getElem? hI)
    simp only [chkFn, Bool.and_eq_true] at c
    have S := fnSc_ok c.1
    have step : FnOk P w K mg base (L2.CX P w) (2 * d + 1 + 1) (fa i) (fd i) I.ps (spF K cad (callF Γ fu (d + 1)) i I.ps.length) := by
      refine F.okX S (fun vs H Q E ⟨S, ρ, us, _, r, hl, _⟩ => by rw [← r.length]; exact hl) (fun cdv A outer s H vs Q E hr h => ?_)
      obtain ⟨St, ρ, us, rp, r, hl, h⟩ := h
      have C : CtxOk (prm Γ K mg cad fa fd fu d) (lcOf I) (cxOf (L2.CX P w) P w K mg base I.N I.qual (defScope I.st) (fa i) cdv A outer s H E) (fun cls d _ H => E cls d H) :=
        { N := rfl, sc := rfl, kd := S.kind, nd := S.nd, fnx := fun _ _ => rfl, calm := fun _ => rfl, room := hr.mono (by show 2 * d ≤ 2 * d + 1; omega), pass := passes_of rfl, takes := takes_of rfl rfl rfl rfl, K := rfl, mg := rfl, txt := txt_of T d,
          fns := fun j J hJ => fns_ok T ck d j J hJ }
      refine ⟨_, (snds fu I.body).pss _ _ _ C _ c.2, St, ρ, startU I.N.length us, rp, sl_start r, post_end ?_⟩
      have e : callF Γ fu (d + 1) i us St = endF (ex Γ.G (callF Γ fu d) fu I.body (startU I.N.length us) St) := by
        show (match Γ.fns[i]? with | none => R.bad | some I => if us.length = I.ps.length then endF (ex Γ.G (callF Γ fu d) fu I.body (startU I.N.length us) St) else .bad) = _
        rw [hI]
        exact if_pos hl
      rw [e] at h
      exact h
    exact step
end
/-- the law's promise -/
def spLaw (K : PySem.W.Frag) : Sp := fun vs H Q _ => ∃ (a : Addr) (ns : List Int), vs = [.ref a] ∧ SqF K H a (ns.map V.int) ∧ ns.length ≤ 63 ∧ ∀ H', Q (.bl true) H'
def sto0 : Sto := ⟨0, []⟩
def isTrueR : R → Bool
  | .ok (.bl true) _ => true
  | _ => false
theorem isTrueR_ok {r : R} (h : isTrueR r = true) : ∃ S, r = .ok (.bl true) S := by
  cases r with
  | ok u S => cases u <;> simp only [isTrueR, Bool.false_eq_true] at h; rename_i b; cases b <;> simp only [isTrueR, Bool.false_eq_true] at h; exact ⟨S, rfl⟩
  | exc _ _ => cases h
  | bad => cases h
theorem rus_ints {K : PySem.W.Frag} {n : Nat} {ρ : Nat → Addr} {H : Hp} : ∀ ns : List Int, RUs K n ρ H (ns.map U.int) (ns.map V.int)
  | [] => .nil
  | i :: ns => .cons (.int i) (rus_ints ns)
theorem law_sp {Γ : Gam} {K : PySem.W.Frag} {cad : Nat → Addr} {fu d i : Nat} (h : ∀ ns : List Int, ns.length ≤ 63 → isTrueR (callF Γ fu d i [.scr (ns.map U.int)] sto0) = true) : ∀ vs H Q E, spLaw K vs H Q E → spF K cad (callF Γ fu d) i 1 vs H Q E := by
  rintro vs H Q E ⟨a, ns, rfl, hS, hl, k⟩
  refine ⟨sto0, fun _ => 0, [.scr (ns.map U.int)], ⟨(fun l o e => by simp [Sto.f, sto0] at e), (fun l h => absurd h (Nat.not_lt_zero _)), (fun l m h => absurd h (Nat.not_lt_zero _)), (fun l o e => by simp [Sto.f, sto0] at e)⟩, .cons (.scr hS (rus_ints ns)) .nil, rfl, ?_⟩
  obtain ⟨S, e⟩ := isTrueR_ok (h ns hl)
  rw [e]
  intro ρ' H' v nx rp ru
  cases ru
  exact k H'
/-- each def of the list is known -/
theorem facts_choice {K : PySem.W.Frag} {mg : Str → Option Value} {fns : List FnI} (h : ∀ I ∈ fns, ∃ f fd, FnFact K mg I f fd) : ∃ (fa : Nat → Addr) (fd : Nat → FuncData), ∀ (i : Nat) (I : FnI), fns[i]? = some I → FnFact K mg I (fa i) (fd i) := by
  by_cases hn : fns = []
  · subst hn
    exact ⟨fun _ => 0, fun _ => Classical.choice ⟨PySem.W.fnOf "" "" (defArgs (.Pass ⟨0, 0, 0, 0⟩)) [] (defScope (.Pass ⟨0, 0, 0, 0⟩)) .none .none .none .none none .none .none⟩, fun i I e => by simp at e⟩
  · have key : ∀ i : Nat, ∃ p : Addr × FuncData, ∀ I, fns[i]? = some I → FnFact K mg I p.1 p.2 := fun i => by
      cases e : fns[i]? with
      | some I =>
        obtain ⟨f, fd, q⟩ := h I (List.mem_of_getElem? e)
        exact ⟨(f, fd), fun J hJ => by cases hJ; exact q⟩
      | none => exact ⟨(0, PySem.W.fnOf "" "" (defArgs (.Pass ⟨0, 0, 0, 0⟩)) [] (defScope (.Pass ⟨0, 0, 0, 0⟩)) .none .none .none .none none .none .none), fun J hJ => by cases hJ⟩
    exact ⟨fun i => (Classical.choose (key i)).1, fun i => (Classical.choose (key i)).2, fun i I e => Classical.choose_spec (key i) I e⟩
theorem fact_mk {K : PySem.W.Frag} {mg : Str → Option Value} {I : FnI} {f : Addr} {oc : Value} {od an : Option Addr} {osl : Array (Option Value)} {kV doc pm cdv ct : Value} (g : mg I.name = some (.ref f))
    (l : K.lookup f = some ⟨oc, od, .func (PySem.W.fnOf I.name I.qual (defArgs I.st) (defBody I.st) (defScope I.st) .none kV doc pm an cdv ct), osl⟩) (c : PySem.W.codeIn K cdv I.qual = true) (k : PySem.W.keepIn K (.ref f) = true)
    (b : ∀ (kV doc pm : Value) (an : Option Addr) (cdv ct : Value) (us : List Value), us.length = I.ps.length → bindArgs (PySem.W.fnOf I.name I.qual (defArgs I.st) (defBody I.st) (defScope I.st) .none kV doc pm an cdv ct) ⟨us, []⟩ = pure (I.ps.zip us)) : ∃ f fd, FnFact K mg I f fd := by
  have F := fun_mk (st := I.st) l c k
  exact ⟨f, _, F, g, b kV doc pm an cdv ct⟩
theorem fact_mk2 {K : PySem.W.Frag} {mg : Str → Option Value} {name qual : Str} {st : Stmt} {ps N : List Str} {body : CS} {dfl : List U} {f : Addr} {oc : Value} {od an : Option Addr} {osl : Array (Option Value)} {kV doc pm cdv ct : Value} (g : mg name = some (.ref f))
    (l : K.lookup f = some ⟨oc, od, .func (PySem.W.fnOf name qual (defArgs st) (defBody st) (defScope st) .none kV doc pm an cdv ct), osl⟩) (c : PySem.W.codeIn K cdv qual = true) (k : PySem.W.keepIn K (.ref f) = true)
    (b : ∀ (kV doc pm : Value) (an : Option Addr) (cdv ct : Value) (us : List Value), us.length = ps.length → bindArgs (PySem.W.fnOf name qual (defArgs st) (defBody st) (defScope st) .none kV doc pm an cdv ct) ⟨us, []⟩ = pure (ps.zip us)) : ∃ f fd, FnFact K mg ⟨name, qual, st, ps, N, body, dfl⟩ f fd := fact_mk (I := ⟨name, qual, st, ps, N, body, dfl⟩) g l c k b
theorem blt_of {bl : List Str} {mg : Str → Option Value} (h : ∀ x ∈ bl, mg x = none) : ∀ x, bl.contains x = true → mg x = none := fun x hx => h x (by simpa using hx)
theorem glv_of {K : PySem.W.Frag} {mg : Str → Option Value} {gl : List (Str × U)} (h : ∀ p ∈ gl, ∃ v w', mg p.1 = some w' ∧ RelV v w' ∧ ∀ n ρ H, RU K n ρ H p.2 v) : ∀ (i : Nat) (y : Str) (u : U), gl[i]? = some (y, u) → ∃ v w', mg y = some w' ∧ RelV v w' ∧ ∀ n ρ H, RU K n ρ H u v :=
  fun i y u e => h (y, u) (List.mem_of_getElem? e)
theorem glv_int {K : PySem.W.Frag} {mg : Str → Option Value} {y : Str} {i : Int} {t : Tok} (h : mg y = some (.int i t)) : ∃ v w', mg (y, U.int i).1 = some w' ∧ RelV v w' ∧ ∀ n ρ H, RU K n ρ H (y, U.int i).2 v := ⟨.int i, _, h, ⟨t, rfl⟩, fun _ _ _ => .int i⟩
theorem glv_str {K : PySem.W.Frag} {mg : Str → Option Value} {y x : Str} {t : Tok} (h : mg y = some (.str x t)) : ∃ v w', mg (y, U.str x).1 = some w' ∧ RelV v w' ∧ ∀ n ρ H, RU K n ρ H (y, U.str x).2 v := ⟨.str x, _, h, ⟨t, rfl⟩, fun _ _ _ => .str x⟩
/-- the law: from the module's facts to the walk that k_head asks -/
theorem law_of {l : PySem.W.OpenLaw} {q : Program} {loose : List Str} {XP : (Str → Option Value) → Heap → Prop} {YP : World → Heap → Prop} {d : DefRec} {K : Params → PySem.W.Frag} {Γ : Gam} {fu dep iL : Nat} {IL : FnI}
    (hn : l.most = some 63) (hdf : d.params.defaults = []) (hr : Room (2 * dep) callerA) (hY : ∀ (w : World) (h : Heap), YP w h → (K w.params).In h)
    (ck : ∀ I ∈ Γ.fns, chkFn Γ I = true) (hI : Γ.fns[iL]? = some IL) (hps : IL.ps = ([("script" : Str)] : List Str)) (hnm : IL.name = d.name)
    (F : ∀ (w : World) (mg : Str → Option Value) (fa : Addr) (h : Heap), (K w.params).In h → h.Ns mainGlobals mg → mg d.name = some (.ref fa) →
      (∀ I ∈ Γ.fns, ∃ f fd, FnFact (K w.params) mg I f fd) ∧ (∀ x, Γ.blt.contains x = true → mg x = none) ∧
      (∀ (i : Nat) (y : Str) (u : U), Γ.glv[i]? = some (y, u) → ∃ v w', mg y = some w' ∧ RelV v w' ∧ ∀ n ρ H, RU (K w.params) n ρ H u v))
    (hlaw : ∀ ns : List Int, ns.length ≤ 63 → isTrueR (callF Γ fu dep iL [.scr (ns.map U.int)] sto0) = true) :
    PySem.W.WalkO q loose XP YP l.row.toRowW d [] (fun f vs => PySem.call f vs) := by
  refine L2.walk_of (n := 63) (k := 2 * dep) (x := "script") (CX := fun w => L2.CX l.prog w) (sp := fun w => spLaw (K w.params)) hn (by rw [sizeLine_eq]; decide) hdf hr hY (fun w mg fa h KX G hmg => ?_) (fun w H a ns hl hO hS => ?_) fun w H s e s' hc => ?_
  · obtain ⟨f1, f2, f3⟩ := F w mg fa h KX G hmg
    obtain ⟨fas, fds, hf⟩ := facts_choice f1
    have e := hf iL IL hI
    have ef : fas iL = fa := by
      have z := e.glob
      rw [hnm, hmg] at z
      cases z
      rfl
    refine ⟨fds iL, fun s u => ?_, fun base hb hB => ?_⟩
    · have b := e.eqb [u] (by rw [hps]; rfl)
      rw [hps] at b
      exact .of_eq b
    · have T : Facts Γ (K w.params) mg fas fds := ⟨hf, f2, f3⟩
      have r := fns_ok (P := l.prog) (w := w) (base := base) (cad := fun _ => 0) (fu := fu) T ck dep iL IL hI
      rw [ef, hps] at r
      exact r.imp (law_sp hlaw)
  · rcases hS with (h | ⟨o, h⟩) | h
    · rcases hO a with z | ⟨o, xs, z⟩
      · rw [h] at z; cases z
      · rw [h] at z; cases z
    · exact ⟨a, ns, rfl, .inl ⟨o, h⟩, hl, fun _ => rfl⟩
    · exact ⟨a, ns, rfl, .inr h, hl, fun _ => rfl⟩
  · obtain ⟨a, B, H', cls, d', _, _, _, _, _, _, _, z⟩ := hc
    exact z
end IP
/-! IPLaw: loops by their invariants; a law's seed and draws. -/
namespace IP
open PySem L2

theorem forF_rule {J : ItS} {g : Tg} {b : Fr → Sto → SR} {n : Nat} (Inv : Nat → Fr → Sto → Prop) (hend : ∀ σ S, Inv n σ S → J.len S = some n)
    (step : ∀ i σ S, i < n → Inv i σ S → ∃ x σ1 σ2 S2, J.at i S = some x ∧ g.put x σ = some σ1 ∧ (b σ1 S = .ok (.nx σ2) S2 ∨ b σ1 S = .ok (.ct σ2) S2) ∧ Inv (i + 1) σ2 S2) :
    ∀ (m i : Nat) (σ : Fr) (S : Sto), i + m = n → Inv i σ S → ∃ σ' S', forF J g b m i σ S = .ok (.nx σ') S' ∧ Inv n σ' S'
  | 0, i, σ, S, e, h => by
    have e : i = n := by omega
    subst e
    refine ⟨σ, S, ?_, h⟩
    unfold forF
    rw [if_pos (hend _ _ h)]
  | m + 1, i, σ, S, e, h => by
    obtain ⟨x, σ1, σ2, S2, h1, h2, h3, h4⟩ := step i σ S (by omega) h
    obtain ⟨σ', S', h5, h6⟩ := forF_rule Inv hend step m (i + 1) σ2 S2 (by omega) h4
    refine ⟨σ', S', ?_, h6⟩
    unfold forF
    simp only [h1, h2]
    rcases h3 with h3 | h3
    · simp only [h3]; exact h5
    · simp only [h3]; exact h5
theorem whileF_rule {c : Fr → Sto → R} {b : Fr → Sto → SR} (Inv : Nat → Fr → Sto → Prop) (Post : Fr → Sto → Prop)
    (step : ∀ m σ S, Inv m σ S → ∃ u S1, c σ S = .ok u S1 ∧ ((tru S1 u = some false ∧ Post σ S1) ∨ (tru S1 u = some true ∧ ∃ σ2 S2, (b σ S1 = .ok (.nx σ2) S2 ∨ b σ S1 = .ok (.ct σ2) S2) ∧ ∃ m', m' < m ∧ Inv m' σ2 S2))) :
    ∀ (n m : Nat) (σ : Fr) (S : Sto), m < n → Inv m σ S → ∃ σ' S', whileF c b n σ S = .ok (.nx σ') S' ∧ Post σ' S'
  | 0, m, σ, S, e, h => by omega
  | n + 1, m, σ, S, e, h => by
    obtain ⟨u, S1, h1, h2⟩ := step m σ S h
    unfold whileF
    simp only [h1, R.bindS]
    rcases h2 with ⟨h2, h3⟩ | ⟨h2, σ2, S2, h3, m', h4, h5⟩
    · exact ⟨σ, S1, by simp only [h2], h3⟩
    · obtain ⟨σ', S', h6, h7⟩ := whileF_rule Inv Post step n m' σ2 S2 (by omega) h5
      refine ⟨σ', S', ?_, h7⟩
      simp only [h2]
      rcases h3 with h3 | h3
      · simp only [h3]; exact h6
      · simp only [h3]; exact h6
/-- a comprehension over a source of n items: item i gives out (f i) with i in keep, or nothing -/
theorem lcF_rule {J : ItS} {g : Tg} {cond body : Fr → Sto → R} {σ : Fr} {D n : Nat} (Inv : Nat → Sto → Prop) (hend : ∀ S, Inv n S → J.len S = some n)
    (step : ∀ i S, i < n → Inv i S → ∃ x σ1 c S1 k, J.at i S = some x ∧ g.put x σ = some σ1 ∧ cond σ1 S = .ok c S1 ∧ tru S1 c = some k ∧
      ((k = false ∧ Inv (i + 1) S1) ∨ (k = true ∧ ∃ v S2 acc, body σ1 S1 = .ok v S2 ∧ S2.f D = some (.lst acc) ∧ acc.length < sizeLine ∧ Inv (i + 1) (S2.put D (.lst (acc ++ [v])))))) :
    ∀ (m i : Nat) (S : Sto), i + m = n → Inv i S → ∃ S', lcF J g cond body σ D m i S = .ok (.loc D) S' ∧ Inv n S'
  | 0, i, S, e, h => by
    have e : i = n := by omega
    subst e
    refine ⟨S, ?_, h⟩
    unfold lcF
    rw [if_pos (hend _ h)]
  | m + 1, i, S, e, h => by
    obtain ⟨x, σ1, c, S1, k, h1, h2, h3, h4, h5⟩ := step i S (by omega) h
    unfold lcF
    rcases h5 with ⟨rfl, h5⟩ | ⟨rfl, v, S2, acc, h6, h7, h8, h9⟩
    · obtain ⟨S', q1, q2⟩ := lcF_rule Inv hend step m (i + 1) S1 (by omega) h5
      exact ⟨S', by simp only [h1, h2, h3, h4]; exact q1, q2⟩
    · obtain ⟨S', q1, q2⟩ := lcF_rule Inv hend step m (i + 1) _ (by omega) h9
      exact ⟨S', by simp only [h1, h2, h3, h4, h6, h7, if_pos h8]; exact q1, q2⟩

/-! ### products and quotients that are small enough -/
theorem mulOk_right {a b : Int} (h : Builtin.Int.intBits b ≤ 64) : mulOk a b = true := by
  unfold mulOk
  rw [decide_eq_false (show ¬ (Builtin.Int.intBits b > shortFactorBits) from Nat.not_lt.mpr h)]
  simp
theorem mulOk_left {a b : Int} (h : Builtin.Int.intBits a ≤ 64) : mulOk a b = true := by
  unfold mulOk
  rw [decide_eq_false (show ¬ (Builtin.Int.intBits a > shortFactorBits) from Nat.not_lt.mpr h)]
  simp
theorem mulOk_r {a b : Int} (h1 : -(2 ^ 64) < b) (h2 : b < 2 ^ 64) : mulOk a b = true := mulOk_right (intBits_le_64 h1 h2)
theorem mulOk_l {a b : Int} (h1 : -(2 ^ 64) < a) (h2 : a < 2 ^ 64) : mulOk a b = true := mulOk_left (intBits_le_64 h1 h2)

theorem bop_mul {i j : Int} {S : Sto} (h : mulOk i j = true) : bop .mul (.int i) (.int j) S = some (.int (i * j), S) := by
  show (if mulOk i j = true then _ else _) = _
  rw [if_pos h]
theorem bop_mod {i j : Int} {S : Sto} (h : j ≠ 0) : bop .mod (.int i) (.int j) S = some (.int (i.fmod j), S) := by
  show (if j ≠ 0 then _ else _) = _
  rw [if_pos h]
theorem bop_fdiv {i j : Int} {S : Sto} (h : j ≠ 0) (h2 : j.natAbs < 1073741824) : bop .fdiv (.int i) (.int j) S = some (.int (i.fdiv j), S) := by
  show (if j ≠ 0 ∧ Builtin.divisionGoesByPylong i j = false then _ else _) = _
  rw [if_pos ⟨h, PyProof.noPylong_small h2⟩]
theorem bop_add {i j : Int} {S : Sto} : bop .add (.int i) (.int j) S = some (.int (i + j), S) := rfl
theorem bop_sub {i j : Int} {S : Sto} : bop .sub (.int i) (.int j) S = some (.int (i - j), S) := rfl
theorem items_loc {S : Sto} {l : Nat} {us : List U} (h : S.f l = some (.lst us)) : items S (.loc l) = some us := by
  simp only [items, h]
theorem ix_loc {S : Sto} {l : Nat} {us : List U} {i : Int} (h : S.f l = some (.lst us)) : ixU (.loc l) (.int i) S = atU us i := by
  simp only [ixU, items, h, Option.bind_some]
/-! ### the law's seed -/
def cState : CS :=
  (.seq (.set 1 (.cst (.int 0))) (.seq (.set 2 (.cst (.int 1))) (.seq (.forr .seq (.nm 3) (.cons (.sl false true (.var 0) .nil (.cst (.int 63))) .nil) (.seq (.set 1 (.bin .add (.bin .mul (.var 1) (.cst (.int 1000003))) (.bi .abs (.cons (.var 3) .nil)))) (.seq (.set 2 (.bin .mod (.bi .int (.cons (.bin .add (.bin .mul (.var 2) (.cst (.int 48271))) (.var 3)) .nil)) (.cst (.int 2147483647)))) .skip))) (.seq (.ret (.lstc (.cons (.var 1) (.cons (.var 2) .nil)))) .skip))))
def cTake : CS :=
  (.seq (.ife (.cmp .gt (.ix (.var 0) (.cst (.int 0))) (.cst (.int 0))) (.seq (.set 2 (.bin .mod (.bi .int (.cons (.ix (.var 0) (.cst (.int 0))) .nil)) (.var 1))) (.seq (.sub (.var 0) (.cst (.int 0)) (.bin .fdiv (.ix (.var 0) (.cst (.int 0))) (.var 1))) (.seq (.ret (.var 2)) .skip))) .skip) (.seq (.sub (.var 0) (.cst (.int 1)) (.bin .mod (.bi .int (.cons (.bin .add (.bin .mul (.ix (.var 0) (.cst (.int 1))) (.cst (.int 48271))) (.cst (.int 11))) .nil)) (.cst (.int 2147483647)))) (.seq (.ret (.bin .mod (.bi .int (.cons (.bin .fdiv (.ix (.var 0) (.cst (.int 1))) (.cst (.int 7))) .nil)) (.var 1))) .skip)))
section
variable {G : Nat → Option U} {call : Nat → List U → Sto → R} {fu : Nat}
theorem seed_step {Us : U} {a b z : Int} {S : Sto} : ex G call fu (.seq (.set 1 (.bin .add (.bin .mul (.var 1) (.cst (.int 1000003))) (.bi .abs (.cons (.var 3) .nil)))) (.seq (.set 2 (.bin .mod (.bi .int (.cons (.bin .add (.bin .mul (.var 2) (.cst (.int 48271))) (.var 3)) .nil)) (.cst (.int 2147483647)))) .skip)) [some Us, some (.int a), some (.int b), some (.int z)] S =
    .ok (.nx [some Us, some (.int (a * 1000003 + if z < 0 then -z else z)), some (.int ((b * 48271 + z).fmod 2147483647)), some (.int z)]) S := by
  have m1 : mulOk a 1000003 = true := mulOk_r (by omega) (by omega)
  have m2 : mulOk b 48271 = true := mulOk_r (by omega) (by omega)
  simp only [ex, ev, R.bind, R.bindS, SR.bind, bop_mul m1, bop_mul m2, bop_add, biF, bop_mod (show (2147483647 : Int) ≠ 0 by omega), okP, setN, List.getElem?_cons_zero, List.getElem?_cons_succ, List.set_cons_zero, List.set_cons_succ]
theorem state_ok (ns : List Int) (S : Sto) : ∃ a b : Int, 0 ≤ a ∧ 0 ≤ b ∧ endF (ex G call fu cState (startU 4 [.scr (ns.map U.int)]) S) = .ok (.loc (S.n + 1)) ((S.new (.lst (cutU (ns.map U.int) none (some 63)))).new (.lst [.int a, .int b])) := by
  have hall : ∀ u ∈ cutU (ns.map U.int) none (some 63), ∃ z, u = U.int z := fun u hu => by
    have h1 := List.mem_of_mem_drop (List.mem_of_mem_take hu)
    obtain ⟨z, _, rfl⟩ := List.mem_map.mp h1
    exact ⟨z, rfl⟩
  generalize hus : cutU (ns.map U.int) none (some 63) = us at hall ⊢
  have hf : (S.new (.lst us)).f S.n = some (.lst us) := by rw [Sto.f_new, if_pos rfl]
  have hit : items (S.new (.lst us)) (.loc S.n) = some us := items_loc hf
  obtain ⟨σ', S', h1, h2⟩ := forF_rule (J := .lst (.loc S.n)) (g := .nm 3) (b := ex G call fu (.seq (.set 1 (.bin .add (.bin .mul (.var 1) (.cst (.int 1000003))) (.bi .abs (.cons (.var 3) .nil)))) (.seq (.set 2 (.bin .mod (.bi .int (.cons (.bin .add (.bin .mul (.var 2) (.cst (.int 48271))) (.var 3)) .nil)) (.cst (.int 2147483647)))) .skip))) (n := us.length)
    (fun i σ T => T = S.new (.lst us) ∧ ∃ (a b : Int) (c : Option U), σ = [some (.scr (ns.map U.int)), some (.int a), some (.int b), c] ∧ 0 ≤ a ∧ 0 ≤ b)
    (fun σ T ⟨e, _⟩ => by subst e; simp only [ItS.len, hit, Option.map_some])
    (fun i σ T hi ⟨e, a, b, c, e2, ha, hb⟩ => by
      subst e e2
      obtain ⟨z, hz⟩ := hall us[i] (List.getElem_mem hi)
      refine ⟨.int z, [some (.scr (ns.map U.int)), some (.int a), some (.int b), some (.int z)], _, S.new (.lst us), ?_, rfl, .inl seed_step, rfl, _, _, _, rfl, ?_, ?_⟩
      · simp only [ItS.at, hit, Option.bind_some, List.getElem?_eq_getElem hi, hz]
      · split <;> omega
      · exact Int.fmod_nonneg_of_pos _ (by omega))
    us.length 0 [some (.scr (ns.map U.int)), some (.int 0), some (.int 1), none] (S.new (.lst us)) (by omega) ⟨rfl, 0, 1, none, rfl, by omega, by omega⟩
  obtain ⟨rfl, a, b, c, rfl, ha, hb⟩ := h2
  refine ⟨a, b, ha, hb, ?_⟩
  have e1 : ItS.len (.lst (.loc S.n)) (S.new (.lst us)) = some us.length := by simp only [ItS.len, hit, Option.map_some]
  have e2 : itNew .seq [.loc S.n] (S.new (.lst us)) = some (.lst (.loc S.n)) := by simp only [itNew, hit, Option.map_some]
  have e3 : (2 : Nat) ≤ sizeLine := by rw [sizeLine_eq]; decide
  have st : startU 4 [.scr (ns.map U.int)] = [some (.scr (ns.map U.int)), none, none, none] := rfl
  rw [st]
  unfold cState
  rw [ex]
  have q1 : ex G call fu (.set 1 (.cst (.int 0))) [some (.scr (ns.map U.int)), none, none, none] S = .ok (.nx [some (.scr (ns.map U.int)), some (.int 0), none, none]) S := rfl
  rw [q1, SR.bind, ex]
  have q2 : ex G call fu (.set 2 (.cst (.int 1))) [some (.scr (ns.map U.int)), some (.int 0), none, none] S = .ok (.nx [some (.scr (ns.map U.int)), some (.int 0), some (.int 1), none]) S := rfl
  rw [q2, SR.bind, ex, ex]
  have q3 : ev G call (.cons (.sl false true (.var 0) .nil (.cst (.int 63))) .nil) [some (.scr (ns.map U.int)), some (.int 0), some (.int 1), none] S = .ok (.tup [.loc S.n]) (S.new (.lst us)) := by
    rw [← hus]; rfl
  rw [q3, R.bindS]
  simp only [e2, e1, h1, SR.bind]
  rw [ex]
  have q4 : ex G call fu (.ret (.lstc (.cons (.var 1) (.cons (.var 2) .nil)))) [some (.scr (ns.map U.int)), some (.int a), some (.int b), c] (S.new (.lst us)) = .ok (.rt (.loc (S.n + 1))) ((S.new (.lst us)).new (.lst [.int a, .int b])) := by
    simp only [ex, ev, R.bind, R.bindS, List.getElem?_cons_zero, List.getElem?_cons_succ, List.length_cons, List.length_nil, if_pos e3, Sto.n_new]
  rw [q4]
  rfl
/-- a draw -/
theorem take_ok {S : Sto} {l : Nat} {a b m : Int} (h : S.f l = some (.lst [.int a, .int b])) (ha : 0 ≤ a) (hb : 0 ≤ b) (hm : 0 < m) (hm2 : m < 1073741824) :
    ∃ v a' b' : Int, 0 ≤ v ∧ v < m ∧ 0 ≤ a' ∧ 0 ≤ b' ∧ endF (ex G call fu cTake (startU 3 [.loc l, .int m]) S) = .ok (.int v) (S.put l (.lst [.int a', .int b'])) := by
  have st : startU 3 [.loc l, .int m] = [some (.loc l), some (.int m), none] := rfl
  rw [st]
  have i0 : ixU (.loc l) (.int 0) S = some (.int a) := by rw [ix_loc h]; rfl
  have i1 : ixU (.loc l) (.int 1) S = some (.int b) := by rw [ix_loc h]; rfl
  have d1 : (a.fdiv m) = a / m := Int.fdiv_eq_ediv_of_nonneg _ (by omega)
  have d2 : ∀ x : Int, x.fmod m = x % m := fun x => Int.fmod_eq_emod_of_nonneg _ (by omega)
  have hn : m.natAbs < 1073741824 := by omega
  by_cases c : 0 < a
  · refine ⟨a.fmod m, a.fdiv m, b, ?_, ?_, ?_, hb, ?_⟩
    · rw [d2]; exact Int.emod_nonneg _ (by omega)
    · rw [d2]; exact Int.emod_lt_of_pos _ hm
    · rw [d1]; exact Int.ediv_nonneg ha (by omega)
    · have s0 : subU (.loc l) (.int 0) (.int (a.fdiv m)) S = some (S.put l (.lst [.int (a.fdiv m), .int b])) := by
        simp only [subU, h]; rfl
      have t0 : ∀ S : Sto, tru S (.bl (decide (0 < a))) = some true := fun _ => by simp [tru, c]
      simp only [cTake, ex, ev, R.bind, R.bindS, SR.bind, okP, okO, i0, cop, Option.map_some, t0, List.getElem?_cons_zero, List.getElem?_cons_succ, biF, bop_mod (show m ≠ 0 by omega), bop_fdiv (show m ≠ 0 by omega) hn, setN, List.set_cons_zero, List.set_cons_succ, s0, endF]
  · have c' : a = 0 := by omega
    subst c'
    generalize hb' : (b * 48271 + 11).fmod 2147483647 = b'
    have hb2 : 0 ≤ b' := by rw [← hb']; exact Int.fmod_nonneg_of_pos _ (by omega)
    refine ⟨(b'.fdiv 7).fmod m, 0, b', ?_, ?_, by omega, hb2, ?_⟩
    · rw [d2]; exact Int.emod_nonneg _ (by omega)
    · rw [d2]; exact Int.emod_lt_of_pos _ hm
    · have s1 : subU (.loc l) (.int 1) (.int b') S = some (S.put l (.lst [.int 0, .int b'])) := by
        simp only [subU, h]; rfl
      have i2 : ixU (.loc l) (.int 1) (S.put l (.lst [.int 0, .int b'])) = some (.int b') := by
        rw [ix_loc (us := [.int 0, .int b']) (by rw [Sto.f_put h, if_pos rfl])]; rfl
      have t0 : ∀ S : Sto, tru S (.bl (decide ((0 : Int) < 0))) = some false := fun _ => rfl
      have m2 : mulOk b 48271 = true := mulOk_r (by omega) (by omega)
      simp only [cTake, ex, ev, R.bind, R.bindS, SR.bind, okP, okO, i0, i1, cop, Option.map_some, t0, List.getElem?_cons_zero, List.getElem?_cons_succ, biF, bop_mul m2, bop_add, bop_mod (show m ≠ 0 by omega), bop_mod (show (2147483647 : Int) ≠ 0 by omega), bop_fdiv (show (7 : Int) ≠ 0 by omega) (show (7 : Int).natAbs < 1073741824 by decide), hb', s1, i2, endF]
end
end IP
namespace IP
open PySem L2
section
variable {G : Nat → Option U} {call : Nat → List U → Sto → R} {fu : Nat}
/-! ### step by step -/
theorem ex_set {i : Nat} {e : CE} {r : CS} {σ : Fr} {S S1 : Sto} {u : U} (h : ev G call e σ S = .ok u S1) : ex G call fu (.seq (.set i e) r) σ S = ex G call fu r (setN σ i u) S1 := by
  simp only [ex, h, R.bindS, SR.bind]
theorem ex_one {s : CS} {r : CS} {σ σ1 : Fr} {S S1 : Sto} (h : ex G call fu s σ S = .ok (.nx σ1) S1) : ex G call fu (.seq s r) σ S = ex G call fu r σ1 S1 := by
  simp only [ex, h, SR.bind]
theorem ex_if_t {c : CE} {a b r : CS} {σ : Fr} {S S1 : Sto} {u : U} (h : ev G call c σ S = .ok u S1) (t : tru S1 u = some true) : ex G call fu (.seq (.ife c a b) r) σ S = (ex G call fu a σ S1).bind fun σ S => ex G call fu r σ S := by
  simp only [ex, h, R.bindS, t]
theorem ex_if_f {c : CE} {a b r : CS} {σ : Fr} {S S1 : Sto} {u : U} (h : ev G call c σ S = .ok u S1) (t : tru S1 u = some false) : ex G call fu (.seq (.ife c a b) r) σ S = (ex G call fu b σ S1).bind fun σ S => ex G call fu r σ S := by
  simp only [ex, h, R.bindS, t]
theorem ex_ret {e : CE} {r : CS} {σ : Fr} {S S1 : Sto} {u : U} (h : ev G call e σ S = .ok u S1) : ex G call fu (.seq (.ret e) r) σ S = .ok (.rt u) S1 := by
  simp only [ex, h, R.bindS, SR.bind]
theorem ev_call {f : Nat} {a : CE} {σ : Fr} {S S1 S2 : Sto} {us : List U} {u : U} (h : ev G call a σ S = .ok (.tup us) S1) (c : call f us S1 = .ok u S2) : ev G call (.call f a) σ S = .ok u S2 := by
  simp only [ev, h, R.bind, c]
theorem ev_cons {a b : CE} {σ : Fr} {S S1 S2 : Sto} {u : U} {us : List U} (h : ev G call a σ S = .ok u S1) (h2 : ev G call b σ S1 = .ok (.tup us) S2) : ev G call (.cons a b) σ S = .ok (.tup (u :: us)) S2 := by
  simp only [ev, h, h2, R.bind]
theorem ev_nil {σ : Fr} {S : Sto} : ev G call .nil σ S = .ok (.tup []) S := rfl
theorem ev_var {i : Nat} {σ : Fr} {S : Sto} {u : U} (h : σ[i]? = some (some u)) : ev G call (.var i) σ S = .ok u S := by
  simp only [ev, h]
theorem ev_cst {u : U} {σ : Fr} {S : Sto} : ev G call (.cst u) σ S = .ok u S := rfl
theorem ev_bin {o : Bop} {a b : CE} {σ : Fr} {S S1 S2 S3 : Sto} {u v w : U} (h : ev G call a σ S = .ok u S1) (h2 : ev G call b σ S1 = .ok v S2) (h3 : bop o u v S2 = some (w, S3)) : ev G call (.bin o a b) σ S = .ok w S3 := by
  simp only [ev, h, h2, h3, R.bind, okP]
end
theorem callF_succ {Γ : Gam} {fu d i : Nat} {I : FnI} {us : List U} {S : Sto} (h : Γ.fns[i]? = some I) (hl : us.length = I.ps.length) : callF Γ fu (d + 1) i us S = endF (ex Γ.G (callF Γ fu d) fu I.body (startU I.N.length us) S) := by
  show (match Γ.fns[i]? with | none => R.bad | some I => if us.length = I.ps.length then endF (ex Γ.G (callF Γ fu d) fu I.body (startU I.N.length us) S) else .bad) = _
  rw [h]
  exact if_pos hl
end IP
namespace Law
open PySem L2 IP
def topS (i : Nat) : Stmt := PySem.Challenge.pw_characterroads_k02_cyclotomic_polynomial.main.body.getD i (.Pass ⟨0, 0, 0, 0⟩)
def c__law_state : CS :=
  (.seq (.set 1 (.cst (.int 0))) (.seq (.set 2 (.cst (.int 1))) (.seq (.forr .seq (.nm 3) (.cons (.sl false true (.var 0) .nil (.cst (.int 63))) .nil) (.seq (.set 1 (.bin .add (.bin .mul (.var 1) (.cst (.int 1000003))) (.bi .abs (.cons (.var 3) .nil)))) (.seq (.set 2 (.bin .mod (.bi .int (.cons (.bin .add (.bin .mul (.var 2) (.cst (.int 48271))) (.var 3)) .nil)) (.cst (.int 2147483647)))) .skip))) (.seq (.ret (.lstc (.cons (.var 1) (.cons (.var 2) .nil)))) .skip))))
abbrev s__law_state : Stmt := topS 7
def f__law_state : FnI := ⟨"_law_state", "_law_state", s__law_state, ["script"], ["script", "seed", "total", "cell"], c__law_state, []⟩
def c__law_take : CS :=
  (.seq (.ife (.cmp .gt (.ix (.var 0) (.cst (.int 0))) (.cst (.int 0))) (.seq (.set 2 (.bin .mod (.bi .int (.cons (.ix (.var 0) (.cst (.int 0))) .nil)) (.var 1))) (.seq (.sub (.var 0) (.cst (.int 0)) (.bin .fdiv (.ix (.var 0) (.cst (.int 0))) (.var 1))) (.seq (.ret (.var 2)) .skip))) .skip) (.seq (.sub (.var 0) (.cst (.int 1)) (.bin .mod (.bi .int (.cons (.bin .add (.bin .mul (.ix (.var 0) (.cst (.int 1))) (.cst (.int 48271))) (.cst (.int 11))) .nil)) (.cst (.int 2147483647)))) (.seq (.ret (.bin .mod (.bi .int (.cons (.bin .fdiv (.ix (.var 0) (.cst (.int 1))) (.cst (.int 7))) .nil)) (.var 1))) .skip)))
abbrev s__law_take : Stmt := topS 10
def f__law_take : FnI := ⟨"_law_take", "_law_take", s__law_take, ["state", "m"], ["state", "m", "value"], c__law_take, []⟩
def c__law_odd : CS :=
  (.seq (.ife (.cmp .eq (.var 0) (.cst (.str "a word that nothing else is"))) (.seq (.ret (.cst (.bl true))) .skip) .skip) (.seq (.ret (.and (.isi (.var 0) [.tuple, .list]) (.cmp .gt (.bi .len (.cons (.lc [1] .seq (.nm 1) (.cons (.var 0) .nil) true (.call 2 (.cons (.var 1) .nil)) (.var 1)) .nil)) (.cst (.int 0))))) .skip))
abbrev s__law_odd : Stmt := topS 8
def f__law_odd : FnI := ⟨"_law_odd", "_law_odd", s__law_odd, ["value"], ["value", "item"], c__law_odd, []⟩
def c__law_honest : CS :=
  (.seq (.ret (.ife (.call 2 (.cons (.var 0) .nil)) (.cst (.str "odd")) (.var 0))) .skip)
abbrev s__law_honest : Stmt := topS 9
def f__law_honest : FnI := ⟨"_law_honest", "_law_honest", s__law_honest, ["value"], ["value"], c__law_honest, []⟩
def c_prime_powers : CS :=
  (.seq (.set 1 (.lstc .nil)) (.seq (.set 2 (.cst (.int 2))) (.seq (.whl (.cmp .le (.bin .mul (.var 2) (.var 2)) (.var 0)) (.seq (.set 3 (.cst (.int 0))) (.seq (.whl (.cmp .eq (.bin .mod (.var 0) (.var 2)) (.cst (.int 0))) (.seq (.set 0 (.bin .fdiv (.var 0) (.var 2))) (.seq (.set 3 (.bin .add (.var 3) (.cst (.int 1)))) .skip))) (.seq (.ife (.cmp .gt (.var 3) (.cst (.int 0))) (.seq (.exp (.bm .append (.var 1) (.cons (.tupc (.cons (.var 2) (.cons (.var 3) .nil))) .nil))) .skip) .skip) (.seq (.set 2 (.bin .add (.var 2) (.cst (.int 1)))) .skip))))) (.seq (.ife (.cmp .gt (.var 0) (.cst (.int 1))) (.seq (.exp (.bm .append (.var 1) (.cons (.tupc (.cons (.var 0) (.cons (.cst (.int 1)) .nil))) .nil))) .skip) .skip) (.seq (.ret (.bi .tuple (.cons (.var 1) .nil))) .skip)))))
abbrev s_prime_powers : Stmt := topS 1
def f_prime_powers : FnI := ⟨"prime_powers", "prime_powers", s_prime_powers, ["n"], ["n", "found", "p", "k"], c_prime_powers, []⟩
def c_divided : CS :=
  (.seq (.set 2 (.bi .list (.cons (.var 0) .nil))) (.seq (.set 3 (.bin .sub (.bi .len (.cons (.var 1) .nil)) (.cst (.int 1)))) (.seq (.set 4 (.lc [7] .rng1 (.nm 7) (.cons (.bi .max2 (.cons (.bin .sub (.bi .len (.cons (.var 2) .nil)) (.var 3)) (.cons (.cst (.int 0)) .nil))) .nil) false .nil (.cst (.int 0)))) (.seq (.forr .rng3 (.nm 5) (.cons (.bin .sub (.bi .len (.cons (.var 4) .nil)) (.cst (.int 1))) (.cons (.neg (.cst (.int 1))) (.cons (.neg (.cst (.int 1))) .nil))) (.seq (.set 6 (.ix (.var 2) (.bin .add (.var 5) (.var 3)))) (.seq (.sub (.var 4) (.var 5) (.var 6)) (.seq (.ife (.cmp .ne (.var 6) (.cst (.int 0))) (.seq (.forr .rng1 (.nm 8) (.cons (.bin .add (.var 3) (.cst (.int 1))) .nil) (.seq (.sub (.var 2) (.bin .add (.var 5) (.var 8)) (.bin .sub (.ix (.var 2) (.bin .add (.var 5) (.var 8))) (.bin .mul (.var 6) (.ix (.var 1) (.var 8))))) .skip)) .skip) .skip) .skip)))) (.seq (.ret (.tupc (.cons (.var 4) (.cons (.sl false true (.var 2) .nil (.var 3)) .nil)))) .skip)))))
abbrev s_divided : Stmt := topS 4
def f_divided : FnI := ⟨"divided", "divided", s_divided, ["poly", "by"], ["poly", "by", "rest", "size", "quotient", "k", "c", "_", "j"], c_divided, []⟩
def c_spread : CS :=
  (.seq (.set 2 (.lc [4] .rng1 (.nm 4) (.cons (.bin .add (.bin .mul (.bin .sub (.bi .len (.cons (.var 0) .nil)) (.cst (.int 1))) (.var 1)) (.cst (.int 1))) .nil) false .nil (.cst (.int 0)))) (.seq (.forr .rng1 (.nm 3) (.cons (.bi .len (.cons (.var 0) .nil)) .nil) (.seq (.sub (.var 2) (.bin .mul (.var 3) (.var 1)) (.ix (.var 0) (.var 3))) .skip)) (.seq (.ret (.var 2)) .skip)))
abbrev s_spread : Stmt := topS 3
def f_spread : FnI := ⟨"spread", "spread", s_spread, ["poly", "p"], ["poly", "p", "found", "k", "_"], c_spread, []⟩
def c_cyclotomic : CS :=
  (.seq (.set 1 (.lstc (.cons (.neg (.cst (.int 1))) (.cons (.cst (.int 1)) .nil)))) (.seq (.forr .seq (.tp [2, 3]) (.cons (.call 4 (.cons (.var 0) .nil)) .nil) (.seq (.set 1 (.ix (.call 5 (.cons (.call 6 (.cons (.var 1) (.cons (.var 2) .nil))) (.cons (.var 1) .nil))) (.cst (.int 0)))) (.seq (.forr .rng1 (.nm 4) (.cons (.bin .sub (.var 3) (.cst (.int 1))) .nil) (.seq (.set 1 (.call 6 (.cons (.var 1) (.cons (.var 2) .nil)))) .skip)) .skip))) (.seq (.ret (.bi .tuple (.cons (.var 1) .nil))) .skip)))
abbrev s_cyclotomic : Stmt := topS 5
def f_cyclotomic : FnI := ⟨"cyclotomic", "cyclotomic", s_cyclotomic, ["e"], ["e", "poly", "p", "k", "_"], c_cyclotomic, []⟩
def c__law_gcd : CS :=
  (.seq (.set 0 (.bi .abs (.cons (.var 0) .nil))) (.seq (.set 1 (.bi .abs (.cons (.var 1) .nil))) (.seq (.whl (.cmp .ne (.var 1) (.cst (.int 0))) (.seq (.par 0 1 (.var 1) (.bin .mod (.bi .int (.cons (.var 0) .nil)) (.var 1))) .skip)) (.seq (.ret (.var 0)) .skip))))
abbrev s__law_gcd : Stmt := topS 11
def f__law_gcd : FnI := ⟨"_law_gcd", "_law_gcd", s__law_gcd, ["a", "b"], ["a", "b"], c__law_gcd, []⟩
def c_law : CS :=
  (.seq (.set 1 (.call 0 (.cons (.var 0) .nil))) (.seq (.set 2 (.bin .add (.cst (.int 1)) (.call 1 (.cons (.var 1) (.cons (.cst (.int 60)) .nil))))) (.seq (.set 3 (.lstc (.cons (.cst (.int 1)) .nil))) (.seq (.forr .rng2 (.nm 4) (.cons (.cst (.int 1)) (.cons (.bin .add (.var 2) (.cst (.int 1))) .nil)) (.seq (.ife (.cmp .eq (.bin .mod (.var 2) (.var 4)) (.cst (.int 0))) (.seq (.set 5 (.call 3 (.cons (.call 7 (.cons (.var 4) .nil)) .nil))) (.seq (.ife (.or (.not (.isi (.var 5) [.tuple])) (.cmp .ne (.ix (.var 5) (.neg (.cst (.int 1)))) (.cst (.int 1)))) (.seq (.ret (.cst (.bl false))) .skip) .skip) (.seq (.ife (.cmp .ne (.bi .len (.cons (.var 5) .nil)) (.bin .add (.cst (.int 1)) (.bi .len (.cons (.lc [9] .rng2 (.nm 9) (.cons (.cst (.int 1)) (.cons (.bin .add (.var 4) (.cst (.int 1))) .nil)) true (.cmp .eq (.call 8 (.cons (.var 9) (.cons (.var 4) .nil))) (.cst (.int 1))) (.var 9)) .nil)))) (.seq (.ret (.cst (.bl false))) .skip) .skip) (.seq (.set 6 (.lc [9] .rng1 (.nm 9) (.cons (.bin .sub (.bin .add (.bi .len (.cons (.var 3) .nil)) (.bi .len (.cons (.var 5) .nil))) (.cst (.int 1))) .nil) false .nil (.cst (.int 0)))) (.seq (.forr .rng1 (.nm 7) (.cons (.bi .len (.cons (.var 3) .nil)) .nil) (.seq (.forr .rng1 (.nm 8) (.cons (.bi .len (.cons (.var 5) .nil)) .nil) (.seq (.sub (.var 6) (.bin .add (.var 7) (.var 8)) (.bin .add (.ix (.var 6) (.bin .add (.var 7) (.var 8))) (.bin .mul (.ix (.var 3) (.var 7)) (.ix (.var 5) (.var 8))))) .skip)) .skip)) (.seq (.set 3 (.bi .list (.cons (.var 6) .nil))) .skip)))))) .skip) .skip)) (.seq (.ret (.cmp .eq (.var 3) (.bin .add (.bin .add (.lstc (.cons (.neg (.cst (.int 1))) .nil)) (.lc [9] .rng1 (.nm 9) (.cons (.bin .sub (.var 2) (.cst (.int 1))) .nil) false .nil (.cst (.int 0)))) (.lstc (.cons (.cst (.int 1)) .nil))))) .skip)))))
abbrev s_law : Stmt := topS 12
def f_law : FnI := ⟨"law", "law", s_law, ["script"], ["script", "state", "e", "total", "d", "p", "out", "i", "j", "k"], c_law, []⟩
def gam : Gam := ⟨[f__law_state, f__law_take, f__law_odd, f__law_honest, f_prime_powers, f_divided, f_spread, f_cyclotomic, f__law_gcd, f_law], [], ["abs", "int", "isinstance", "len", "list", "max", "range", "tuple"]⟩
theorem ck__law_state : chkFn gam f__law_state = true := by decide +kernel
theorem ck__law_take : chkFn gam f__law_take = true := by decide +kernel
theorem ck__law_odd : chkFn gam f__law_odd = true := by decide +kernel
theorem ck__law_honest : chkFn gam f__law_honest = true := by decide +kernel
theorem ck_prime_powers : chkFn gam f_prime_powers = true := by decide +kernel
theorem ck_divided : chkFn gam f_divided = true := by decide +kernel
theorem ck_spread : chkFn gam f_spread = true := by decide +kernel
theorem ck_cyclotomic : chkFn gam f_cyclotomic = true := by decide +kernel
theorem ck__law_gcd : chkFn gam f__law_gcd = true := by decide +kernel
theorem ck_law : chkFn gam f_law = true := by decide +kernel
theorem ck : ∀ I ∈ gam.fns, chkFn gam I = true := by
  refine List.forall_mem_cons.mpr ⟨ck__law_state, ?_⟩
  refine List.forall_mem_cons.mpr ⟨ck__law_take, ?_⟩
  refine List.forall_mem_cons.mpr ⟨ck__law_odd, ?_⟩
  refine List.forall_mem_cons.mpr ⟨ck__law_honest, ?_⟩
  refine List.forall_mem_cons.mpr ⟨ck_prime_powers, ?_⟩
  refine List.forall_mem_cons.mpr ⟨ck_divided, ?_⟩
  refine List.forall_mem_cons.mpr ⟨ck_spread, ?_⟩
  refine List.forall_mem_cons.mpr ⟨ck_cyclotomic, ?_⟩
  refine List.forall_mem_cons.mpr ⟨ck__law_gcd, ?_⟩
  refine List.forall_mem_cons.mpr ⟨ck_law, ?_⟩
  exact fun _ h => absurd h List.not_mem_nil
end Law
namespace Law
open PySem L2 IP

def rest : CS := match c_law with | .seq _ (.seq _ r) => r | _ => .skip
def fr (X : List U) (v : Int) : Fr := [some (.scr X), some (.loc 1), some (.int v), none, none, none, none, none, none, none]
def st2 (us0 : List U) (a b : Int) : Sto := ⟨2, [.lst [.int a, .int b], .lst us0]⟩
def Good (e : Int) : Prop := ∀ (X us0 : List U) (a b : Int), isTrueR (endF (ex gam.G (callF gam 100000 11) 100000 rest (fr X (1 + e)) (st2 us0 a b))) = true
theorem run_0 : Good 0 := fun X us0 a b => by kernel_rfl
theorem run_1 : Good 1 := fun X us0 a b => by kernel_rfl
theorem run_2 : Good 2 := fun X us0 a b => by kernel_rfl
theorem run_3 : Good 3 := fun X us0 a b => by kernel_rfl
theorem run_4 : Good 4 := fun X us0 a b => by kernel_rfl
theorem run_5 : Good 5 := fun X us0 a b => by kernel_rfl
theorem run_6 : Good 6 := fun X us0 a b => by kernel_rfl
theorem run_7 : Good 7 := fun X us0 a b => by kernel_rfl
theorem run_8 : Good 8 := fun X us0 a b => by kernel_rfl
theorem run_9 : Good 9 := fun X us0 a b => by kernel_rfl
theorem run_10 : Good 10 := fun X us0 a b => by kernel_rfl
theorem run_11 : Good 11 := fun X us0 a b => by kernel_rfl
theorem run_12 : Good 12 := fun X us0 a b => by kernel_rfl
theorem run_13 : Good 13 := fun X us0 a b => by kernel_rfl
theorem run_14 : Good 14 := fun X us0 a b => by kernel_rfl
theorem run_15 : Good 15 := fun X us0 a b => by kernel_rfl
theorem run_16 : Good 16 := fun X us0 a b => by kernel_rfl
theorem run_17 : Good 17 := fun X us0 a b => by kernel_rfl
theorem run_18 : Good 18 := fun X us0 a b => by kernel_rfl
theorem run_19 : Good 19 := fun X us0 a b => by kernel_rfl
theorem run_20 : Good 20 := fun X us0 a b => by kernel_rfl
theorem run_21 : Good 21 := fun X us0 a b => by kernel_rfl
theorem run_22 : Good 22 := fun X us0 a b => by kernel_rfl
theorem run_23 : Good 23 := fun X us0 a b => by kernel_rfl
theorem run_24 : Good 24 := fun X us0 a b => by kernel_rfl
theorem run_25 : Good 25 := fun X us0 a b => by kernel_rfl
theorem run_26 : Good 26 := fun X us0 a b => by kernel_rfl
theorem run_27 : Good 27 := fun X us0 a b => by kernel_rfl
theorem run_28 : Good 28 := fun X us0 a b => by kernel_rfl
theorem run_29 : Good 29 := fun X us0 a b => by kernel_rfl
theorem run_30 : Good 30 := fun X us0 a b => by kernel_rfl
theorem run_31 : Good 31 := fun X us0 a b => by kernel_rfl
theorem run_32 : Good 32 := fun X us0 a b => by kernel_rfl
theorem run_33 : Good 33 := fun X us0 a b => by kernel_rfl
theorem run_34 : Good 34 := fun X us0 a b => by kernel_rfl
theorem run_35 : Good 35 := fun X us0 a b => by kernel_rfl
theorem run_36 : Good 36 := fun X us0 a b => by kernel_rfl
theorem run_37 : Good 37 := fun X us0 a b => by kernel_rfl
theorem run_38 : Good 38 := fun X us0 a b => by kernel_rfl
theorem run_39 : Good 39 := fun X us0 a b => by kernel_rfl
theorem run_40 : Good 40 := fun X us0 a b => by kernel_rfl
theorem run_41 : Good 41 := fun X us0 a b => by kernel_rfl
theorem run_42 : Good 42 := fun X us0 a b => by kernel_rfl
theorem run_43 : Good 43 := fun X us0 a b => by kernel_rfl
theorem run_44 : Good 44 := fun X us0 a b => by kernel_rfl
theorem run_45 : Good 45 := fun X us0 a b => by kernel_rfl
theorem run_46 : Good 46 := fun X us0 a b => by kernel_rfl
theorem run_47 : Good 47 := fun X us0 a b => by kernel_rfl
theorem run_48 : Good 48 := fun X us0 a b => by kernel_rfl
theorem run_49 : Good 49 := fun X us0 a b => by kernel_rfl
theorem run_50 : Good 50 := fun X us0 a b => by kernel_rfl
theorem run_51 : Good 51 := fun X us0 a b => by kernel_rfl
theorem run_52 : Good 52 := fun X us0 a b => by kernel_rfl
theorem run_53 : Good 53 := fun X us0 a b => by kernel_rfl
theorem run_54 : Good 54 := fun X us0 a b => by kernel_rfl
theorem run_55 : Good 55 := fun X us0 a b => by kernel_rfl
theorem run_56 : Good 56 := fun X us0 a b => by kernel_rfl
theorem run_57 : Good 57 := fun X us0 a b => by kernel_rfl
theorem run_58 : Good 58 := fun X us0 a b => by kernel_rfl
theorem run_59 : Good 59 := fun X us0 a b => by kernel_rfl
theorem runs (v : Int) (h0 : 0 ≤ v) (h1 : v < 60) : Good v := by
  have h : v = 0 ∨ v = 1 ∨ v = 2 ∨ v = 3 ∨ v = 4 ∨ v = 5 ∨ v = 6 ∨ v = 7 ∨ v = 8 ∨ v = 9 ∨ v = 10 ∨ v = 11 ∨ v = 12 ∨ v = 13 ∨ v = 14 ∨ v = 15 ∨ v = 16 ∨ v = 17 ∨ v = 18 ∨ v = 19 ∨ v = 20 ∨ v = 21 ∨ v = 22 ∨ v = 23 ∨ v = 24 ∨ v = 25 ∨ v = 26 ∨ v = 27 ∨ v = 28 ∨ v = 29 ∨ v = 30 ∨ v = 31 ∨ v = 32 ∨ v = 33 ∨ v = 34 ∨ v = 35 ∨ v = 36 ∨ v = 37 ∨ v = 38 ∨ v = 39 ∨ v = 40 ∨ v = 41 ∨ v = 42 ∨ v = 43 ∨ v = 44 ∨ v = 45 ∨ v = 46 ∨ v = 47 ∨ v = 48 ∨ v = 49 ∨ v = 50 ∨ v = 51 ∨ v = 52 ∨ v = 53 ∨ v = 54 ∨ v = 55 ∨ v = 56 ∨ v = 57 ∨ v = 58 ∨ v = 59 := by omega
  rcases h with rfl | rfl | rfl | rfl | rfl | rfl | rfl | rfl | rfl | rfl | rfl | rfl | rfl | rfl | rfl | rfl | rfl | rfl | rfl | rfl | rfl | rfl | rfl | rfl | rfl | rfl | rfl | rfl | rfl | rfl | rfl | rfl | rfl | rfl | rfl | rfl | rfl | rfl | rfl | rfl | rfl | rfl | rfl | rfl | rfl | rfl | rfl | rfl | rfl | rfl | rfl | rfl | rfl | rfl | rfl | rfl | rfl | rfl | rfl | rfl
  · exact run_0
  · exact run_1
  · exact run_2
  · exact run_3
  · exact run_4
  · exact run_5
  · exact run_6
  · exact run_7
  · exact run_8
  · exact run_9
  · exact run_10
  · exact run_11
  · exact run_12
  · exact run_13
  · exact run_14
  · exact run_15
  · exact run_16
  · exact run_17
  · exact run_18
  · exact run_19
  · exact run_20
  · exact run_21
  · exact run_22
  · exact run_23
  · exact run_24
  · exact run_25
  · exact run_26
  · exact run_27
  · exact run_28
  · exact run_29
  · exact run_30
  · exact run_31
  · exact run_32
  · exact run_33
  · exact run_34
  · exact run_35
  · exact run_36
  · exact run_37
  · exact run_38
  · exact run_39
  · exact run_40
  · exact run_41
  · exact run_42
  · exact run_43
  · exact run_44
  · exact run_45
  · exact run_46
  · exact run_47
  · exact run_48
  · exact run_49
  · exact run_50
  · exact run_51
  · exact run_52
  · exact run_53
  · exact run_54
  · exact run_55
  · exact run_56
  · exact run_57
  · exact run_58
  · exact run_59
theorem hlaw : ∀ ns : List Int, ns.length ≤ 63 → isTrueR (callF gam 100000 12 9 [.scr (ns.map U.int)] sto0) = true := by
  intro ns _
  obtain ⟨a, b, ha, hb, h1⟩ := state_ok (G := gam.G) (call := callF gam 100000 10) (fu := 100000) ns sto0
  generalize hus : cutU (ns.map U.int) none (some 63) = us0 at h1
  have c0 : callF gam 100000 11 0 [.scr (ns.map U.int)] sto0 = .ok (.loc 1) (st2 us0 a b) := (callF_succ (I := f__law_state) rfl rfl).trans h1
  obtain ⟨v, a', b', v0, v1, ha', hb', h2⟩ := take_ok (G := gam.G) (call := callF gam 100000 10) (fu := 100000) (S := st2 us0 a b) (l := 1) (a := a) (b := b) (m := 60) rfl ha hb (by omega) (by omega)
  have c1 : callF gam 100000 11 1 [.loc 1, .int 60] (st2 us0 a b) = .ok (.int v) (st2 us0 a' b') := (callF_succ (I := f__law_take) rfl rfl).trans h2
  have e : callF gam 100000 12 9 [.scr (ns.map U.int)] sto0 = endF (ex gam.G (callF gam 100000 11) 100000 rest (fr (ns.map U.int) (1 + v)) (st2 us0 a' b')) := by
    refine (callF_succ (I := f_law) rfl rfl).trans (congrArg endF ?_)
    refine (ex_set (ev_call (ev_cons (ev_var rfl) ev_nil) c0)).trans ?_
    exact ex_set (ev_bin ev_cst (ev_call (ev_cons (ev_var rfl) (ev_cons ev_cst ev_nil)) c1) bop_add)
  rw [e]
  exact runs v v0 v1 _ _ _ _
end Law
open PySem PySem.W PyProof.Rows
set_option maxRecDepth 100000 in
set_option maxHeartbeats 0 in
theorem PySem.Challenge.cw_characterroads_k02_cyclotomic_polynomial_holds : PySem.Challenge.rw_characterroads_k02_cyclotomic_polynomial.Holds := by
  w_on; o_law; k_head; (case hw => w_witness2)
  k_fill
  refine IP.law_of (l := PySem.Challenge.rw_characterroads_k02_cyclotomic_polynomial) (Γ := Law.gam) (fu := 100000) (dep := 12) (iL := 9) (IL := Law.f_law) rfl rfl ⟨rfl, by decide, by decide⟩ (fun w h Y => PySem.W.kIn_of Y) Law.ck rfl rfl rfl ?F Law.hlaw
  case F =>
    intro w mg fa h KX G hmg
    refine ⟨?fns, ?blt, ?glv⟩
    case fns =>
      refine List.forall_mem_cons.mpr ⟨?_, ?_⟩
      · refine' IP.fact_mk2 (name := "_law_state") (st := Law.s__law_state) (PySem.W.mg_of KX G ?a) ?l ?c ?k ?b
        (case a => k_is); (case l => k_is); (case c => k_is); (case k => k_is)
        (case b => exact fun _ _ _ _ _ _ us hl => match us, hl with | [_], _ => rfl)
      refine List.forall_mem_cons.mpr ⟨?_, ?_⟩
      · refine' IP.fact_mk2 (name := "_law_take") (st := Law.s__law_take) (PySem.W.mg_of KX G ?a) ?l ?c ?k ?b
        (case a => k_is); (case l => k_is); (case c => k_is); (case k => k_is)
        (case b => exact fun _ _ _ _ _ _ us hl => match us, hl with | [_, _], _ => rfl)
      refine List.forall_mem_cons.mpr ⟨?_, ?_⟩
      · refine' IP.fact_mk2 (name := "_law_odd") (st := Law.s__law_odd) (PySem.W.mg_of KX G ?a) ?l ?c ?k ?b
        (case a => k_is); (case l => k_is); (case c => k_is); (case k => k_is)
        (case b => exact fun _ _ _ _ _ _ us hl => match us, hl with | [_], _ => rfl)
      refine List.forall_mem_cons.mpr ⟨?_, ?_⟩
      · refine' IP.fact_mk2 (name := "_law_honest") (st := Law.s__law_honest) (PySem.W.mg_of KX G ?a) ?l ?c ?k ?b
        (case a => k_is); (case l => k_is); (case c => k_is); (case k => k_is)
        (case b => exact fun _ _ _ _ _ _ us hl => match us, hl with | [_], _ => rfl)
      refine List.forall_mem_cons.mpr ⟨?_, ?_⟩
      · refine' IP.fact_mk2 (name := "prime_powers") (st := Law.s_prime_powers) (PySem.W.mg_of KX G ?a) ?l ?c ?k ?b
        (case a => k_is); (case l => k_is); (case c => k_is); (case k => k_is)
        (case b => exact fun _ _ _ _ _ _ us hl => match us, hl with | [_], _ => rfl)
      refine List.forall_mem_cons.mpr ⟨?_, ?_⟩
      · refine' IP.fact_mk2 (name := "divided") (st := Law.s_divided) (PySem.W.mg_of KX G ?a) ?l ?c ?k ?b
        (case a => k_is); (case l => k_is); (case c => k_is); (case k => k_is)
        (case b => exact fun _ _ _ _ _ _ us hl => match us, hl with | [_, _], _ => rfl)
      refine List.forall_mem_cons.mpr ⟨?_, ?_⟩
      · refine' IP.fact_mk2 (name := "spread") (st := Law.s_spread) (PySem.W.mg_of KX G ?a) ?l ?c ?k ?b
        (case a => k_is); (case l => k_is); (case c => k_is); (case k => k_is)
        (case b => exact fun _ _ _ _ _ _ us hl => match us, hl with | [_, _], _ => rfl)
      refine List.forall_mem_cons.mpr ⟨?_, ?_⟩
      · refine' IP.fact_mk2 (name := "cyclotomic") (st := Law.s_cyclotomic) (PySem.W.mg_of KX G ?a) ?l ?c ?k ?b
        (case a => k_is); (case l => k_is); (case c => k_is); (case k => k_is)
        (case b => exact fun _ _ _ _ _ _ us hl => match us, hl with | [_], _ => rfl)
      refine List.forall_mem_cons.mpr ⟨?_, ?_⟩
      · refine' IP.fact_mk2 (name := "_law_gcd") (st := Law.s__law_gcd) (PySem.W.mg_of KX G ?a) ?l ?c ?k ?b
        (case a => k_is); (case l => k_is); (case c => k_is); (case k => k_is)
        (case b => exact fun _ _ _ _ _ _ us hl => match us, hl with | [_, _], _ => rfl)
      refine List.forall_mem_cons.mpr ⟨?_, ?_⟩
      · refine' IP.fact_mk2 (name := "law") (st := Law.s_law) (PySem.W.mg_of KX G ?a) ?l ?c ?k ?b
        (case a => k_is); (case l => k_is); (case c => k_is); (case k => k_is)
        (case b => exact fun _ _ _ _ _ _ us hl => match us, hl with | [_], _ => rfl)
      exact fun _ h => absurd h List.not_mem_nil
    case blt =>
      refine IP.blt_of ?_
      refine List.forall_mem_cons.mpr ⟨?_, ?_⟩
      · refine' PySem.W.mg_none_of KX G ?z
        (case z => k_is)
      refine List.forall_mem_cons.mpr ⟨?_, ?_⟩
      · refine' PySem.W.mg_none_of KX G ?z
        (case z => k_is)
      refine List.forall_mem_cons.mpr ⟨?_, ?_⟩
      · refine' PySem.W.mg_none_of KX G ?z
        (case z => k_is)
      refine List.forall_mem_cons.mpr ⟨?_, ?_⟩
      · refine' PySem.W.mg_none_of KX G ?z
        (case z => k_is)
      refine List.forall_mem_cons.mpr ⟨?_, ?_⟩
      · refine' PySem.W.mg_none_of KX G ?z
        (case z => k_is)
      refine List.forall_mem_cons.mpr ⟨?_, ?_⟩
      · refine' PySem.W.mg_none_of KX G ?z
        (case z => k_is)
      refine List.forall_mem_cons.mpr ⟨?_, ?_⟩
      · refine' PySem.W.mg_none_of KX G ?z
        (case z => k_is)
      refine List.forall_mem_cons.mpr ⟨?_, ?_⟩
      · refine' PySem.W.mg_none_of KX G ?z
        (case z => k_is)
      exact fun _ h => absurd h List.not_mem_nil
    case glv =>
      refine IP.glv_of ?_
      exact fun _ h => absurd h List.not_mem_nil
#print axioms PySem.Challenge.cw_characterroads_k02_cyclotomic_polynomial_holds
