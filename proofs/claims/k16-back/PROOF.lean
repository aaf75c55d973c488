import PyProof.Rows.All
import Wide.All
import OpenK.AllK
import Wide.FinOn
import PyProof.ReprReads
import PyProof.EqLayable
import PyProof.StrLawsRepr
import PyProof.ReprRoads
import HandS.ForMost
import HandS.ForExc
import HandS.Evl
import HandS.ExcCtx
import HandS.HotCalls
import HandS.ExcIs
import HandS.Lambda
import HandS.EndTab
import HandS.EndBits
import HandS.Wide
import HandS.SortInts
import HandS.Deep
import HandS.TupAny
import HandS.TupMul
import HandS.Star
import HandS.Rev
import HandS.Zip
import HandS.Words
import HandS.SetFor
import HandS.Strs
import KE.GoesZip
import KE.GoesMore
import KE.GoesEnum
import PyProof.ListMulRoad
import PyProof.FactsAll.tuple_2
import HandS.Style
import HandS.IsInst
import HandS.More
import HandS.Small
import HandS.CallLocal
import HandS.DictComp
import HandS.Conv
import HandS.TupSets
import PySem.Challenge.RW_ellwand_k16_whole_readings_that_come_bac
set_option Elab.async false
set_option linter.all false
set_option maxRecDepth 100000
set_option maxHeartbeats 2000000
set_option autoImplicit true
/-! Ell0: a core language over data, values as data, and its evaluator. Plain Lean. -/
namespace Ell
open PySem
noncomputable section
abbrev D := PyData
/-- bounds that no machine reckons out -/
def leN (m n : Nat) : Prop := m ≤ n
def ltN (m n : Nat) : Prop := m < n
noncomputable instance {m n : Nat} : Decidable (leN m n) := Classical.propDecidable _
noncomputable instance {m n : Nat} : Decidable (ltN m n) := Classical.propDecidable _
def leI (m n : Int) : Prop := m ≤ n
def ltI (m n : Int) : Prop := m < n
noncomputable instance {m n : Int} : Decidable (leI m n) := Classical.propDecidable _
noncomputable instance {m n : Int} : Decidable (ltI m n) := Classical.propDecidable _
@[simp] theorem leI_iff {m n : Int} : leI m n ↔ m ≤ n := Iff.rfl
@[simp] theorem ltI_iff {m n : Int} : ltI m n ↔ m < n := Iff.rfl
@[simp] theorem leN_iff {m n : Nat} : leN m n ↔ m ≤ n := Iff.rfl
@[simp] theorem ltN_iff {m n : Nat} : ltN m n ↔ m < n := Iff.rfl
abbrev Ky := Sum Int Str
def kyD : Ky → D
  | .inl i => .int i
  | .inr x => .str x
@[simp] theorem z_kyD_1  : kyD  (.inl i) = .int i := (rfl)
@[simp] theorem z_kyD_2  : kyD  (.inr x) = .str x := (rfl)
@[simp] def dKy : D → Option Ky
  | .int i => some (.inl i)
  | .str x => some (.inr x)
  | _ => none
inductive Exc where | notAllowed | tooLarge | missing | badPaper
  deriving DecidableEq
/-- what a name owns alone: a list or a dict that may still change -/
inductive O where
  | lst (ds : List D)
  | dic (kvs : List (Ky × D))
def frz : O → D
  | .lst ds => .list ds
  | .dic kvs => .dict (kvs.map fun p => (kyD p.1, p.2))
@[simp] theorem z_frz_1  : frz  (.lst ds) = .list ds := (rfl)
@[simp] theorem z_frz_2  : frz  (.dic kvs) = .dict (kvs.map fun p => (kyD p.1, p.2)) := (rfl)
/-- a value as it lies in the heap -/
inductive PV where
  | non
  | bl (b : Bool)
  | int (i : Int)
  | str (x : Str)
  | ref (a : Nat)
/-- a name's content: unknown, data, an own object, the caller's own object, a list that is only read, a def of the text, a dict's object that stands as it is -/
inductive Slot where
  | un
  | dat (d : D)
  | own (o : O)
  | io (o : O)
  | ro (ds : List D)
  | fn (x : Str)
  | pin (o : PySem.Obj) (kvs : List (Ky × PV))
  | fns (xs : List Str)
  | gh (G : L2.Hp)
abbrev Rho := List Slot
inductive Res (α : Type) where
  | ok (a : α) (ρ : Rho)
  | err (c : Exc) (ρ : Rho)
  | stuck
/-- a def: its name, how many parameters, what it makes of them -/
structure Fn where
  name : Str
  arity : Nat
  run : Rho → Res Slot
inductive BOp where | add | sub | mul | fdiv | mod | pow
inductive COp where | eq | ne | lt | le | gt | ge | is_ | isnot | in_ | notin
inductive BF where
  | len | abs | int | max2 | min2 | maxL | minL | sum | all | any | sorted | tuple | list | repr | setlen | sset | isint | isbool | istup | isstr | rev | trev | vals | trng | lrng | setlenT
@[simp] def isNone : D → Bool
  | .none => true
  | _ => false
@[simp] def flatD : D → Bool
  | .none => true
  | .bool _ => true
  | .int _ => true
  | .str _ => true
  | _ => false
def binop : BOp → D → D → Option Slot
  | .add, .int i, .int j => some (.dat (.int (i + j)))
  | .sub, .int i, .int j => some (.dat (.int (i - j)))
  | .mul, .int i, .int j => if ltN (i.natAbs.log2 + j.natAbs.log2) 1000000 then some (.dat (.int (i * j))) else none
  | .fdiv, .int i, .int j => if j ≠ 0 ∧ ltN j.natAbs.log2 9000 then some (.dat (.int (i.fdiv j))) else none
  | .mod, .int i, .int j => if j ≠ 0 then some (.dat (.int (i.fmod j))) else none
  | .pow, .int i, .int j => if leI 0 j ∧ leI j 1000000 ∧ ltN i.natAbs (2 ^ 64) then some (.dat (.int (i ^ j.toNat))) else none
  | .add, .str x, .str y => if leN (x.length + y.length) sizeLine then some (.dat (.str (x ++ y))) else none
  | .mul, .tuple xs, .int k => if leI (-1000) k ∧ leI k 1000 ∧ leN xs.length 1000 then some (.dat (.tuple (List.replicate k.toNat xs).flatten)) else none
  | .add, .tuple xs, .tuple ys => if leN (xs.length + ys.length) sizeLine then some (.dat (.tuple (xs ++ ys))) else none
  | .add, .list xs, .list ys => if leN (xs.length + ys.length) sizeLine then some (.own (.lst (xs ++ ys))) else none
  | .mul, .list xs, .int k => if leI (-(2 ^ 63)) k ∧ ltI k (2 ^ 63) ∧ leN (xs.length * k.toNat) sizeLine then some (.own (.lst (List.replicate k.toNat xs).flatten)) else none
  | _, _, _ => none
def bothStr : D → D → Bool
  | .str _, .str _ => true
  | _, _ => false
section
variable {i : Int} {b : Bool} {x y : Str} {xs : List D} {d : D} {kv : List (D × D)}
@[simp] theorem bs_ss : bothStr (.str x) (.str y) = true := (rfl)
@[simp] theorem bs_i : bothStr (.int i) d = false := (rfl)
@[simp] theorem bs_b : bothStr (.bool b) d = false := (rfl)
@[simp] theorem bs_n : bothStr .none d = false := (rfl)
@[simp] theorem bs_t : bothStr (.tuple xs) d = false := (rfl)
@[simp] theorem bs_l : bothStr (.list xs) d = false := (rfl)
@[simp] theorem bs_d : bothStr (.dict kv) d = false := (rfl)
@[simp] theorem bs_i2 : bothStr d (.int i) = false := by cases d <;> rfl
@[simp] theorem bs_b2 : bothStr d (.bool b) = false := by cases d <;> rfl
@[simp] theorem bs_n2 : bothStr d .none = false := by cases d <;> rfl
@[simp] theorem bs_t2 : bothStr d (.tuple xs) = false := by cases d <;> rfl
@[simp] theorem bs_l2 : bothStr d (.list xs) = false := by cases d <;> rfl
end
def kget (kvs : List (Ky × D)) (k : Ky) : Option D := (kvs.find? fun kv => decide (kv.1 = k)).map (·.2)
/-- a dict's pairs, where its keys are ints and texts -/
def kvD : List (D × D) → Option (List (Ky × D))
  | [] => some []
  | (k, v) :: r => (dKy k).bind fun ky => (kvD r).map ((ky, v) :: ·)
def dget (kvs : List (D × D)) (k : D) : Option (Option D) := (kvD kvs).bind fun m => (dKy k).map (kget m)
def cmpop : COp → D → D → Option Bool
  | .eq, d, e => if bothStr d e = true ∨ SeqAt.shaped d = true ∧ SeqAt.shaped e = true then some (PyData.eqv d e) else none
  | .ne, d, e => if bothStr d e = true ∨ SeqAt.shaped d = true ∧ SeqAt.shaped e = true then some (!PyData.eqv d e) else none
  | .lt, .int i, .int j => some (decide (i < j))
  | .le, .int i, .int j => some (decide (i ≤ j))
  | .gt, .int i, .int j => some (decide (j < i))
  | .ge, .int i, .int j => some (decide (j ≤ i))
  | .is_, .bool a, .bool b => some (decide (a = b))
  | .isnot, .bool a, .bool b => some (!decide (a = b))
  | .is_, d, .none => some (isNone d)
  | .isnot, d, .none => some (!isNone d)
  | .in_, d, .list xs => if SeqAt.shaped d = true ∧ SeqAt.shaped (.list xs) = true then some (xs.any fun z => PyData.eqv z d) else none
  | .notin, d, .list xs => if SeqAt.shaped d = true ∧ SeqAt.shaped (.list xs) = true then some (!xs.any fun z => PyData.eqv z d) else none
  | .in_, d, .tuple xs => if flatD d = true ∧ xs.all flatD = true then some (xs.any fun z => PyData.eqv z d) else none
  | .notin, d, .tuple xs => if flatD d = true ∧ xs.all flatD = true then some (!xs.any fun z => PyData.eqv z d) else none
  | .in_, d, .dict kvs => (dget kvs d).map Option.isSome
  | .notin, d, .dict kvs => (dget kvs d).map fun o => !o.isSome
  | _, _, _ => none
def ixn (n : Nat) (i : Int) : Option Nat := if 0 ≤ i then (if i < n then some i.toNat else none) else if -(n : Int) ≤ i then some (i + n).toNat else none
def nth {α : Type} (xs : List α) (i : Int) : Option α := (ixn xs.length i).bind fun j => xs[j]?
def six (n d : Nat) : Option Int → Nat
  | none => d
  | some v => if v < 0 then (v + (n : Int)).toNat else min v.toNat n
def cut {α : Type} (xs : List α) (lo hi : Option Int) : List α := (xs.drop (six xs.length 0 lo)).take (six xs.length xs.length hi - six xs.length 0 lo)
def kput (kvs : List (Ky × D)) (k : Ky) (v : D) : List (Ky × D) :=
  if (kvs.any fun kv => decide (kv.1 = k)) = true then kvs.map (fun kv => if kv.1 = k then (kv.1, v) else kv) else kvs ++ [(k, v)]
def index : D → D → Option D
  | .list xs, .int i => nth xs i
  | .tuple xs, .int i => nth xs i
  | .dict kvs, k => (dget kvs k).bind id
  | _, _ => none
def ints? : List D → Option (List Int)
  | [] => some []
  | .int i :: r => (ints? r).map (i :: ·)
  | _ :: _ => none
/-- rows of ints -/
def rows? : List D → Option (List (List Int))
  | [] => some []
  | .tuple ys :: r => (ints? ys).bind fun ns => (rows? r).map (ns :: ·)
  | _ :: _ => none
/-- each row once -/
def dd : List (List Int) → List (List Int)
  | [] => []
  | x :: r => if x ∈ r then dd r else x :: dd r
/-- put into a strictly ascending row -/
def insS (k : Int) : List Int → List Int
  | [] => [k]
  | x :: r => if k < x then k :: x :: r else if k = x then x :: r else x :: insS k r
/-- sorted(set(ns)) -/
def ssort (ns : List Int) : List Int := ns.foldr insS []
/-- put into an ascending row -/
def insI (k : Int) : List Int → List Int
  | [] => [k]
  | x :: r => if k ≤ x then k :: x :: r else x :: insI k r
/-- sorted(ns) -/
def isort (ns : List Int) : List Int := ns.foldr insI []
def bools? : List D → Option (List Bool)
  | [] => some []
  | .bool b :: r => (bools? r).map (b :: ·)
  | _ :: _ => none
/-- the text of data is at most so long -/
def rsz : D → Nat
  | .none => 4
  | .bool _ => 5
  | .int _ => 1921
  | .str x => 12 * x.length + 2
  | .list xs => rszs xs + 2
  | .tuple xs => rszs xs + 3
  | .dict _ => 0
where rszs : List D → Nat
  | [] => 0
  | x :: r => rsz x + 2 + rszs r
/-- a value's type -/
def tyn : D → Option Nat
  | .none => some 0
  | .bool _ => some 1
  | .int _ => some 2
  | .str _ => some 3
  | .list _ => some 4
  | .tuple _ => some 5
  | .dict _ => none
@[simp] theorem tyn_none : tyn .none = some 0 := (rfl)
@[simp] theorem tyn_bool {b : Bool} : tyn (.bool b) = some 1 := (rfl)
@[simp] theorem tyn_int {i : Int} : tyn (.int i) = some 2 := (rfl)
@[simp] theorem tyn_str {x : Str} : tyn (.str x) = some 3 := (rfl)
@[simp] theorem tyn_list {xs : List D} : tyn (.list xs) = some 4 := (rfl)
@[simp] theorem tyn_tuple {xs : List D} : tyn (.tuple xs) = some 5 := (rfl)
/-- 0, 1, .. below n -/
def rngZ (n : Int) : List D := (List.range n.toNat).map fun (k : Nat) => .int (0 + (k : Int))
def bfun : BF → List D → Option Slot
  | .len, [.list xs] => some (.dat (.int xs.length))
  | .len, [.tuple xs] => some (.dat (.int xs.length))
  | .len, [.str x] => if leN x.length sizeLine then some (.dat (.int x.length)) else none
  | .abs, [.int i] => some (.dat (.int i.natAbs))
  | .int, [.int i] => some (.dat (.int i))
  | .int, [.bool b] => some (.dat (.int (if b then 1 else 0)))
  | .max2, [.int i, .int j] => some (.dat (.int (max i j)))
  | .min2, [.int i, .int j] => some (.dat (.int (min i j)))
  | .sum, [.list xs] => (ints? xs).map fun ns => .dat (.int ns.sum)
  | .sum, [.tuple xs] => (ints? xs).map fun ns => .dat (.int ns.sum)
  | .all, [.list xs] => (bools? xs).map fun bs => .dat (.bool (bs.all id))
  | .any, [.list xs] => (bools? xs).map fun bs => .dat (.bool (bs.any id))
  | .repr, [.list xs] => if PyData.showable (.list xs) = true ∧ PyData.canLay0 (.list xs) = true ∧ PyData.depth (.list xs) ≤ 32 ∧ leN (rsz (.list xs)) sizeLine then some (.dat (.str (PyData.shown (.list xs)))) else none
  | .repr, [.tuple xs] => if PyData.showable (.tuple xs) = true ∧ PyData.canLay0 (.tuple xs) = true ∧ PyData.depth (.tuple xs) ≤ 32 ∧ leN (rsz (.tuple xs)) sizeLine then some (.dat (.str (PyData.shown (.tuple xs)))) else none
  | .tuple, [.list xs] => some (.dat (.tuple xs))
  | .tuple, [.tuple xs] => some (.dat (.tuple xs))
  | .isint, [d] => (tyn d).map fun t => .dat (.bool (t == 1 || t == 2))
  | .isbool, [d] => (tyn d).map fun t => .dat (.bool (t == 1))
  | .isstr, [d] => (tyn d).map fun t => .dat (.bool (t == 3))
  | .istup, [d] => (tyn d).map fun t => .dat (.bool (t == 5))
  | .rev, [.list xs] => some (.own (.lst xs.reverse))
  | .rev, [.tuple xs] => some (.dat (.tuple xs.reverse))
  | .trev, [.list xs] => some (.dat (.tuple xs.reverse))
  | .setlenT, [.list xs] => (rows? xs).bind fun rs => if ltN rs.length 64 then some (.dat (.int (dd rs).length)) else none
  | .trng, [.int n] => if leI 0 n ∧ leI n 16777216 then some (.dat (.tuple (rngZ n))) else none
  | .lrng, [.int n] => if leI 0 n ∧ leI n 16777216 then some (.own (.lst (rngZ n))) else none
  | .maxL, [.list xs] => (ints? xs).bind fun ns => if ns = [] then none else some (.dat (.int (ns.foldl max (ns.headD 0))))
  | .minL, [.list xs] => (ints? xs).bind fun ns => if ns = [] then none else some (.dat (.int (ns.foldl min (ns.headD 0))))
  | .maxL, [.tuple xs] => (ints? xs).bind fun ns => if ns = [] then none else some (.dat (.int (ns.foldl max (ns.headD 0))))
  | .minL, [.tuple xs] => (ints? xs).bind fun ns => if ns = [] then none else some (.dat (.int (ns.foldl min (ns.headD 0))))
  | .sset, [.list xs] => (ints? xs).bind fun ns => if leN ns.length 4000 then some (.own (.lst ((ssort ns).map .int))) else none
  | .sset, [.tuple xs] => (ints? xs).bind fun ns => if leN ns.length 4000 then some (.own (.lst ((ssort ns).map .int))) else none
  | .setlen, [.list xs] => (ints? xs).bind fun ns => if leN ns.length 4000 then some (.dat (.int (ssort ns).length)) else none
  | .setlen, [.tuple xs] => (ints? xs).bind fun ns => if leN ns.length 4000 then some (.dat (.int (ssort ns).length)) else none
  | .sorted, [.list xs] => (ints? xs).map fun ns => .own (.lst ((isort ns).map .int))
  | .list, [.list xs] => some (.own (.lst xs))
  | .list, [.tuple xs] => some (.own (.lst xs))
  | .len, [.dict kvs] => (kvD kvs).map fun m => .dat (.int m.length)
  | .list, [.dict kvs] => (kvD kvs).map fun m => .own (.lst (m.map fun p => kyD p.1))
  | .sorted, [.dict kvs] => (kvD kvs).bind fun m => (ints? (m.map fun p => kyD p.1)).map fun ns => .own (.lst ((isort ns).map .int))
  | .vals, [.dict kvs] => (kvD kvs).map fun m => .own (.lst (m.map (·.2)))
  | _, _ => none
/-- targets of stores -/
inductive Tgt where
  | nm (i : Nat)
  | nil
  | cons (a b : Tgt)
  | tp (a : Tgt)
inductive CE where
  | var (i : Nat)
  | lit (d : D)
  | glob (x : Str) (d : D)
  | nil
  | cons (a b : CE)
  | star (a b : CE)
  | tup (as : CE)
  | lst (as : CE)
  | bin (op : BOp) (a b : CE)
  | neg (a : CE)
  | cmp (op : COp) (a b : CE)
  | chn (o1 o2 : COp) (a b c : CE)
  | chn3 (o1 o2 o3 : COp) (a b c d : CE)
  | and_ (a b : CE)
  | or_ (a b : CE)
  | not_ (a : CE)
  | ife (t a b : CE)
  | idx (a i : CE)
  | slc (a lo hi : CE)
  | call (F : Fn) (as : CE)
  | blt (f : BF) (as : CE)
  | lc (tg : Tgt) (it cond elt : CE) (own : List Nat)
  | lc2 (tg : Tgt) (it cond : CE) (tg1 : Tgt) (it1 cond1 elt : CE) (own own1 : List Nat)
  | dcp (tg : Tgt) (it cond key elt : CE) (own : List Nat)
  | dnew
  | dsp (k v : CE)
  | cnt (a k : CE)
  | get1 (a k : CE)
  | get2 (a k e : CE)
  | callv (i : Nat) (tab : List (Str × Fn)) (as : CE)
  | told (a : CE)
  | over (a : CE)
  | rng1 (a : CE)
  | rng2 (a b : CE)
  | rng3 (a b : CE)
  | enum (a : CE)
  | zip (a b : CE)
  | rev (a : CE)
@[simp] def fr1 : Slot → Option D
  | .dat d => some d
  | .own o => some (frz o)
  | _ => none
@[simp] def view : Slot → Option D
  | .dat d => some d
  | .own o => some (frz o)
  | .io o => some (frz o)
  | _ => none
def isIo : Slot → Bool
  | .io _ => true
  | _ => false
@[simp] theorem io_un : isIo .un = false := (rfl)
@[simp] theorem io_dat {d : D} : isIo (.dat d) = false := (rfl)
@[simp] theorem io_own {o : O} : isIo (.own o) = false := (rfl)
@[simp] theorem io_io {o : O} : isIo (.io o) = true := (rfl)
@[simp] theorem io_ro {ds : List D} : isIo (.ro ds) = false := (rfl)
@[simp] theorem io_fn {x : Str} : isIo (.fn x) = false := (rfl)
/-- an operand: a value made on the way, or a name's own -/
inductive Val where
  | tmp (s : Slot)
  | ref (i : Nat)
def Val.view (ρ : Rho) : Val → Option D
  | .tmp s => Ell.view s
  | .ref i => (ρ[i]?).bind Ell.view
@[simp] theorem z_Val_view_1 {ρ : Rho} : Val.view ρ (.tmp s) = Ell.view s := (rfl)
@[simp] theorem z_Val_view_2 {ρ : Rho} : Val.view ρ (.ref i) = (ρ[i]?).bind Ell.view := (rfl)
def opt {α : Type} (o : Option α) (ρ : Rho) : Res α := match o with
  | some a => .ok a ρ
  | none => .stuck
@[simp] theorem z_opt_1 {α : Type} {a : α} {ρ : Rho} : opt (some a) ρ = .ok a ρ := (rfl)
@[simp] theorem z_opt_2 {α : Type} {a : α} {ρ : Rho} : (opt (none) ρ : Res α) = .stuck := (rfl)
@[simp] def bl : D → Option Bool
  | .bool b => some b
  | _ => none
@[simp] def dB (o : Option Bool) : Option Slot := o.map fun b => Slot.dat (.bool b)
/-- a name's object frozen where it stands -/
def thaw (i : Nat) (ρ : Rho) : Option Slot → Res D
  | some (.dat d) => .ok d ρ
  | some (.own o) => .ok (frz o) (ρ.set i (.dat (frz o)))
  | _ => .stuck
@[simp] theorem z_thaw_1 {i : Nat} {ρ : Rho} : thaw i ρ (some (.dat d)) = .ok d ρ := (rfl)
@[simp] theorem z_thaw_2 {i : Nat} {ρ : Rho} : thaw i ρ (some (.own o)) = .ok (frz o) (ρ.set i (.dat (frz o))) := (rfl)
/-- an operand as data -/
def kD : Res Val → Res D
  | .ok (.tmp s) ρ => opt (fr1 s) ρ
  | .ok (.ref i) ρ => thaw i ρ ρ[i]?
  | .err c ρ => .err c ρ
  | .stuck => .stuck
@[simp] theorem z_kD_1  : kD  (.ok (.tmp s) ρ) = opt (fr1 s) ρ := (rfl)
@[simp] theorem z_kD_2  : kD  (.ok (.ref i) ρ) = thaw i ρ ρ[i]? := (rfl)
@[simp] theorem z_kD_3  : kD  (.err c ρ) = .err c ρ := (rfl)
@[simp] theorem z_kD_4  : kD  (.stuck) = .stuck := (rfl)
def take (i : Nat) (ρ : Rho) : Option Slot → Res Slot
  | some (.dat d) => .ok (.dat d) ρ
  | some (.own o) => .ok (.own o) (ρ.set i .un)
  | _ => .stuck
@[simp] theorem z_take_1 {i : Nat} {ρ : Rho} : take i ρ (some (.dat d)) = .ok (.dat d) ρ := (rfl)
@[simp] theorem z_take_2 {i : Nat} {ρ : Rho} : take i ρ (some (.own o)) = .ok (.own o) (ρ.set i .un) := (rfl)
/-- an operand's slot, a name's object moved -/
def kS : Res Val → Res Slot
  | .ok (.tmp s) ρ => .ok s ρ
  | .ok (.ref i) ρ => take i ρ ρ[i]?
  | .err c ρ => .err c ρ
  | .stuck => .stuck
@[simp] theorem z_kS_1  : kS  (.ok (.tmp s) ρ) = .ok s ρ := (rfl)
@[simp] theorem z_kS_2  : kS  (.ok (.ref i) ρ) = take i ρ ρ[i]? := (rfl)
@[simp] theorem z_kS_3  : kS  (.err c ρ) = .err c ρ := (rfl)
@[simp] theorem z_kS_4  : kS  (.stuck) = .stuck := (rfl)
def op2b (x : Val) (f : D → D → Option Slot) : Res Val → Res Val
  | .ok y ρ => opt ((x.view ρ).bind fun d => (y.view ρ).bind fun e => (f d e).map Val.tmp) ρ
  | .err c ρ => .err c ρ
  | .stuck => .stuck
@[simp] theorem z_op2b_1 {x : Val} {f : D → D → Option Slot} : op2b x f (.ok y ρ) = opt ((x.view ρ).bind fun d => (y.view ρ).bind fun e => (f d e).map Val.tmp) ρ := (rfl)
@[simp] theorem z_op2b_2 {x : Val} {f : D → D → Option Slot} : op2b x f (.err c ρ) = .err c ρ := (rfl)
@[simp] theorem z_op2b_3 {x : Val} {f : D → D → Option Slot} : op2b x f (.stuck) = .stuck := (rfl)
def op2 (f : D → D → Option Slot) (g : Rho → Res Val) : Res Val → Res Val
  | .ok x ρ => op2b x f (g ρ)
  | .err c ρ => .err c ρ
  | .stuck => .stuck
@[simp] theorem z_op2_1 {f : D → D → Option Slot} {g : Rho → Res Val} : op2 f g (.ok x ρ) = op2b x f (g ρ) := (rfl)
@[simp] theorem z_op2_2 {f : D → D → Option Slot} {g : Rho → Res Val} : op2 f g (.err c ρ) = .err c ρ := (rfl)
@[simp] theorem z_op2_3 {f : D → D → Option Slot} {g : Rho → Res Val} : op2 f g (.stuck) = .stuck := (rfl)
def op1 (f : D → Option Slot) : Res Val → Res Val
  | .ok x ρ => opt ((x.view ρ).bind fun d => (f d).map Val.tmp) ρ
  | .err c ρ => .err c ρ
  | .stuck => .stuck
@[simp] theorem z_op1_1 {f : D → Option Slot} : op1 f (.ok x ρ) = opt ((x.view ρ).bind fun d => (f d).map Val.tmp) ρ := (rfl)
@[simp] theorem z_op1_2 {f : D → Option Slot} : op1 f (.err c ρ) = .err c ρ := (rfl)
@[simp] theorem z_op1_3 {f : D → Option Slot} : op1 f (.stuck) = .stuck := (rfl)
/-- a test's answer -/
def kB : Res Val → Res Bool
  | .ok x ρ => opt ((x.view ρ).bind bl) ρ
  | .err c ρ => .err c ρ
  | .stuck => .stuck
@[simp] theorem z_kB_1  : kB  (.ok x ρ) = opt ((x.view ρ).bind bl) ρ := (rfl)
@[simp] theorem z_kB_2  : kB  (.err c ρ) = .err c ρ := (rfl)
@[simp] theorem z_kB_3  : kB  (.stuck) = .stuck := (rfl)
@[simp] def vB (b : Bool) (ρ : Rho) : Res Val := .ok (.tmp (.dat (.bool b))) ρ
def iteR (g h : Rho → Res Val) : Res Bool → Res Val
  | .ok true ρ => g ρ
  | .ok false ρ => h ρ
  | .err c ρ => .err c ρ
  | .stuck => .stuck
@[simp] theorem z_iteR_1 {g h : Rho → Res Val} : iteR g h (.ok true ρ) = g ρ := (rfl)
@[simp] theorem z_iteR_2 {g h : Rho → Res Val} : iteR g h (.ok false ρ) = h ρ := (rfl)
@[simp] theorem z_iteR_3 {g h : Rho → Res Val} : iteR g h (.err c ρ) = .err c ρ := (rfl)
@[simp] theorem z_iteR_4 {g h : Rho → Res Val} : iteR g h (.stuck) = .stuck := (rfl)
def chnC (y : Val) (o2 : COp) : Res Val → Res Val
  | .ok z ρ => opt ((y.view ρ).bind fun e => (z.view ρ).bind fun g => (dB (cmpop o2 e g)).map Val.tmp) ρ
  | .err c ρ => .err c ρ
  | .stuck => .stuck
@[simp] theorem z_chnC_1 {y : Val} {o2 : COp} : chnC y o2 (.ok z ρ) = opt ((y.view ρ).bind fun e => (z.view ρ).bind fun g => (dB (cmpop o2 e g)).map Val.tmp) ρ := (rfl)
@[simp] theorem z_chnC_2 {y : Val} {o2 : COp} : chnC y o2 (.err c ρ) = .err c ρ := (rfl)
@[simp] theorem z_chnC_3 {y : Val} {o2 : COp} : chnC y o2 (.stuck) = .stuck := (rfl)
def chnB (y : Val) (o2 : COp) (g : Rho → Res Val) (ρ : Rho) : Option Bool → Res Val
  | some true => chnC y o2 (g ρ)
  | some false => vB false ρ
  | none => .stuck
@[simp] theorem z_chnB_1 {y : Val} {o2 : COp} {g : Rho → Res Val} {ρ : Rho} : chnB y o2 g ρ (some true) = chnC y o2 (g ρ) := (rfl)
@[simp] theorem z_chnB_2 {y : Val} {o2 : COp} {g : Rho → Res Val} {ρ : Rho} : chnB y o2 g ρ (some false) = vB false ρ := (rfl)
@[simp] theorem z_chnB_3 {y : Val} {o2 : COp} {g : Rho → Res Val} {ρ : Rho} : chnB y o2 g ρ (none) = .stuck := (rfl)
def chnA (x : Val) (o1 o2 : COp) (g : Rho → Res Val) : Res Val → Res Val
  | .ok y ρ => chnB y o2 g ρ ((x.view ρ).bind fun d => (y.view ρ).bind fun e => cmpop o1 d e)
  | .err c ρ => .err c ρ
  | .stuck => .stuck
@[simp] theorem z_chnA_1 {x : Val} {o1 o2 : COp} {g : Rho → Res Val} : chnA x o1 o2 g (.ok y ρ) = chnB y o2 g ρ ((x.view ρ).bind fun d => (y.view ρ).bind fun e => cmpop o1 d e) := (rfl)
@[simp] theorem z_chnA_2 {x : Val} {o1 o2 : COp} {g : Rho → Res Val} : chnA x o1 o2 g (.err c ρ) = .err c ρ := (rfl)
@[simp] theorem z_chnA_3 {x : Val} {o1 o2 : COp} {g : Rho → Res Val} : chnA x o1 o2 g (.stuck) = .stuck := (rfl)
def chn (o1 o2 : COp) (f g : Rho → Res Val) : Res Val → Res Val
  | .ok x ρ => chnA x o1 o2 g (f ρ)
  | .err c ρ => .err c ρ
  | .stuck => .stuck
@[simp] theorem z_chn_1 {o1 o2 : COp} {f g : Rho → Res Val} : chn o1 o2 f g (.ok x ρ) = chnA x o1 o2 g (f ρ) := (rfl)
@[simp] theorem z_chn_2 {o1 o2 : COp} {f g : Rho → Res Val} : chn o1 o2 f g (.err c ρ) = .err c ρ := (rfl)
@[simp] theorem z_chn_3 {o1 o2 : COp} {f g : Rho → Res Val} : chn o1 o2 f g (.stuck) = .stuck := (rfl)
def chB (g : Val → Rho → Res Val) (y : Val) (ρ : Rho) : Option Bool → Res Val
  | some true => g y ρ
  | some false => vB false ρ
  | none => .stuck
@[simp] theorem z_chB_1 {g : Val → Rho → Res Val} {y : Val} {ρ : Rho} : chB g y ρ (some true) = g y ρ := (rfl)
@[simp] theorem z_chB_2 {g : Val → Rho → Res Val} {y : Val} {ρ : Rho} : chB g y ρ (some false) = vB false ρ := (rfl)
@[simp] theorem z_chB_3 {g : Val → Rho → Res Val} {y : Val} {ρ : Rho} : chB g y ρ (none) = .stuck := (rfl)
def chA (x : Val) (o : COp) (g : Val → Rho → Res Val) : Res Val → Res Val
  | .ok y ρ => chB g y ρ ((x.view ρ).bind fun d => (y.view ρ).bind fun e => cmpop o d e)
  | .err c ρ => .err c ρ
  | .stuck => .stuck
@[simp] theorem z_chA_1 {x : Val} {o : COp} {g : Val → Rho → Res Val} : chA x o g (.ok y ρ) = chB g y ρ ((x.view ρ).bind fun d => (y.view ρ).bind fun e => cmpop o d e) := (rfl)
@[simp] theorem z_chA_2 {x : Val} {o : COp} {g : Val → Rho → Res Val} : chA x o g (.err c ρ) = .err c ρ := (rfl)
@[simp] theorem z_chA_3 {x : Val} {o : COp} {g : Val → Rho → Res Val} : chA x o g (.stuck) = .stuck := (rfl)
def chn3 (o1 o2 o3 : COp) (f g h : Rho → Res Val) : Res Val → Res Val
  | .ok x ρ => chA x o1 (fun y ρ1 => chA y o2 (fun z ρ2 => chnC z o3 (h ρ2)) (g ρ1)) (f ρ)
  | .err c ρ => .err c ρ
  | .stuck => .stuck
@[simp] theorem z_chn3_1 {o1 o2 o3 : COp} {f g h : Rho → Res Val} : chn3 o1 o2 o3 f g h (.ok x ρ) = chA x o1 (fun y ρ1 => chA y o2 (fun z ρ2 => chnC z o3 (h ρ2)) (g ρ1)) (f ρ) := (rfl)
@[simp] theorem z_chn3_2 {o1 o2 o3 : COp} {f g h : Rho → Res Val} : chn3 o1 o2 o3 f g h (.err c ρ) = .err c ρ := (rfl)
@[simp] theorem z_chn3_3 {o1 o2 o3 : COp} {f g h : Rho → Res Val} : chn3 o1 o2 o3 f g h (.stuck) = .stuck := (rfl)
@[simp] def bindT : Tgt → D → Rho → Option Rho
  | .nm i, d, ρ => match ρ[i]? with
    | some s => if isIo s = true then none else some (ρ.set i (.dat d))
    | none => none
  | .tp t, .tuple ds, ρ => bindTs t ds ρ
  | .tp t, .list ds, ρ => bindTs t ds ρ
  | _, _, _ => none
where bindTs : Tgt → List D → Rho → Option Rho
  | .nil, [], ρ => some ρ
  | .cons t u, d :: ds, ρ => (bindT t d ρ).bind fun ρ' => bindTs u ds ρ'
  | _, _, _ => none
@[simp] theorem z_bt_n {ρ : Rho} : bindT.bindTs .nil [] ρ = some ρ := by simp only [bindT.bindTs]
@[simp] theorem z_bt_c {t u : Tgt} {d : D} {ds : List D} {ρ : Rho} : bindT.bindTs (.cons t u) (d :: ds) ρ = (bindT t d ρ).bind fun ρ' => bindT.bindTs u ds ρ' := by simp only [bindT.bindTs]
def consR (d : D) : Res (List D) → Res (List D)
  | .ok ds ρ => .ok (d :: ds) ρ
  | .err c ρ => .err c ρ
  | .stuck => .stuck
@[simp] theorem z_consR_1 {d : D} : consR d (.ok ds ρ) = .ok (d :: ds) ρ := (rfl)
@[simp] theorem z_consR_2 {d : D} : consR d (.err c ρ) = .err c ρ := (rfl)
@[simp] theorem z_consR_3 {d : D} : consR d (.stuck) = .stuck := (rfl)
def lcEnd : Res D → Res (Option D)
  | .ok d ρ => .ok (some d) ρ
  | .err _ _ => .stuck
  | .stuck => .stuck
@[simp] theorem z_lcEnd_1  : lcEnd  (.ok d ρ) = .ok (some d) ρ := (rfl)
@[simp] theorem z_lcEnd_2  : lcEnd  (.err z1 z2) = .stuck := (rfl)
@[simp] theorem z_lcEnd_3  : lcEnd  (.stuck) = .stuck := (rfl)
def lcIf (elt : Rho → Res Val) : Res Bool → Res (Option D)
  | .ok true ρ => lcEnd (kD (elt ρ))
  | .ok false ρ => .ok none ρ
  | _ => .stuck
@[simp] theorem z_lcIf_1 {elt : Rho → Res Val} : lcIf elt (.ok true ρ) = lcEnd (kD (elt ρ)) := (rfl)
@[simp] theorem z_lcIf_2 {elt : Rho → Res Val} : lcIf elt (.ok false ρ) = .ok none ρ := (rfl)
def lcGo (cond elt : Rho → Res Val) : Option Rho → Res (Option D)
  | some ρ => lcIf elt (kB (cond ρ))
  | none => .stuck
@[simp] theorem z_lcGo_1 {cond elt : Rho → Res Val} : lcGo cond elt (some ρ) = lcIf elt (kB (cond ρ)) := (rfl)
@[simp] theorem z_lcGo_2 {cond elt : Rho → Res Val} : lcGo cond elt (none) = .stuck := (rfl)
@[simp] def wip (ρ : Rho) : List Nat → Rho
  | [] => ρ
  | i :: r => (wip ρ r).set i .un
@[simp] def restore (ρ0 : Rho) : Rho → List Nat → Rho
  | ρ, [] => ρ
  | ρ, i :: r => restore ρ0 (ρ.set i ((ρ0[i]?).getD .un)) r
/-- a comprehension's turns: one item bound, tested, told -/
@[simp] def lcStep (tg : Tgt) (own : List Nat) (cond elt : Rho → Res Val) (x : D) (ρ : Rho) : Res (Option D) := lcGo cond elt (bindT tg x (wip ρ own))
def lcK (f : Rho → Res (List D)) : Res (Option D) → Res (List D)
  | .ok (some d) ρ => consR d (f ρ)
  | .ok none ρ => f ρ
  | .err c ρ => .err c ρ
  | .stuck => .stuck
@[simp] theorem z_lcK_1 {f : Rho → Res (List D)} : lcK f (.ok (some d) ρ) = consR d (f ρ) := (rfl)
@[simp] theorem z_lcK_2 {f : Rho → Res (List D)} : lcK f (.ok none ρ) = f ρ := (rfl)
@[simp] theorem z_lcK_3 {f : Rho → Res (List D)} : lcK f (.err c ρ) = .err c ρ := (rfl)
@[simp] theorem z_lcK_4 {f : Rho → Res (List D)} : lcK f (.stuck) = .stuck := (rfl)
@[simp] def lcL (f : D → Rho → Res (Option D)) : List D → Rho → Res (List D)
  | [], ρ => .ok [] ρ
  | x :: xs, ρ => lcK (lcL f xs) (f x ρ)
def lcFin (ρ0 : Rho) (own : List Nat) : Res (List D) → Res Val
  | .ok ds ρ => .ok (.tmp (.own (.lst ds))) (restore ρ0 ρ own)
  | .err c ρ => .err c ρ
  | .stuck => .stuck
@[simp] theorem z_lcFin_1 {ρ0 : Rho} {own : List Nat} : lcFin ρ0 own (.ok ds ρ) = .ok (.tmp (.own (.lst ds))) (restore ρ0 ρ own) := (rfl)
@[simp] theorem z_lcFin_2 {ρ0 : Rho} {own : List Nat} : lcFin ρ0 own (.err c ρ) = .err c ρ := (rfl)
@[simp] theorem z_lcFin_3 {ρ0 : Rho} {own : List Nat} : lcFin ρ0 own (.stuck) = .stuck := (rfl)
def lcAll (f : D → Rho → Res (Option D)) (own : List Nat) : Res (List D) → Res Val
  | .ok xs ρ => if leN xs.length sizeLine then lcFin ρ own (lcL f xs ρ) else .stuck
  | .err c ρ => .err c ρ
  | .stuck => .stuck
@[simp] theorem z_lcAll_1 {f : D → Rho → Res (Option D)} {own : List Nat} : lcAll f own (.ok xs ρ) = if leN xs.length sizeLine then lcFin ρ own (lcL f xs ρ) else .stuck := (rfl)
@[simp] theorem z_lcAll_2 {f : D → Rho → Res (Option D)} {own : List Nat} : lcAll f own (.err c ρ) = .err c ρ := (rfl)
@[simp] theorem z_lcAll_3 {f : D → Rho → Res (Option D)} {own : List Nat} : lcAll f own (.stuck) = .stuck := (rfl)
/-! a comprehension of two clauses -/
def appR (xs : List D) : Res (List D) → Res (List D)
  | .ok ds ρ => .ok (xs ++ ds) ρ
  | .err c ρ => .err c ρ
  | .stuck => .stuck
@[simp] theorem z_appR_1 {xs : List D} : appR xs (.ok ds ρ) = .ok (xs ++ ds) ρ := (rfl)
@[simp] theorem z_appR_2 {xs : List D} : appR xs (.err c ρ) = .err c ρ := (rfl)
@[simp] theorem z_appR_3 {xs : List D} : appR xs (.stuck) = .stuck := (rfl)
def lc2In (f : D → Rho → Res (Option D)) : Res (List D) → Res (List D)
  | .ok ys ρ => lcL f ys ρ
  | _ => .stuck
@[simp] theorem z_lc2In_1 {f : D → Rho → Res (Option D)} : lc2In f (.ok ys ρ) = lcL f ys ρ := (rfl)
def lc2If (g : Rho → Res (List D)) : Res Bool → Res (List D)
  | .ok true ρ => g ρ
  | .ok false ρ => .ok [] ρ
  | _ => .stuck
@[simp] theorem z_lc2If_1 {g : Rho → Res (List D)} : lc2If g (.ok true ρ) = g ρ := (rfl)
@[simp] theorem z_lc2If_2 {g : Rho → Res (List D)} : lc2If g (.ok false ρ) = .ok [] ρ := (rfl)
def lc2Go (cond : Rho → Res Val) (g : Rho → Res (List D)) : Option Rho → Res (List D)
  | some ρ => lc2If g (kB (cond ρ))
  | none => .stuck
@[simp] theorem z_lc2Go_1 {cond : Rho → Res Val} {g : Rho → Res (List D)} : lc2Go cond g (some ρ) = lc2If g (kB (cond ρ)) := (rfl)
@[simp] theorem z_lc2Go_2 {cond : Rho → Res Val} {g : Rho → Res (List D)} : lc2Go cond g (none) = .stuck := (rfl)
def lc2Step (tg : Tgt) (own : List Nat) (cond : Rho → Res Val) (g : Rho → Res (List D)) (x : D) (ρ : Rho) : Res (List D) := lc2Go cond g (bindT tg x (wip ρ own))
def lc2K (f : Rho → Res (List D)) : Res (List D) → Res (List D)
  | .ok ds ρ => appR ds (f ρ)
  | .err c ρ => .err c ρ
  | .stuck => .stuck
@[simp] theorem z_lc2K_1 {f : Rho → Res (List D)} : lc2K f (.ok ds ρ) = appR ds (f ρ) := (rfl)
@[simp] theorem z_lc2K_2 {f : Rho → Res (List D)} : lc2K f (.err c ρ) = .err c ρ := (rfl)
@[simp] theorem z_lc2K_3 {f : Rho → Res (List D)} : lc2K f (.stuck) = .stuck := (rfl)
def lc2L (f : D → Rho → Res (List D)) : List D → Rho → Res (List D)
  | [], ρ => .ok [] ρ
  | x :: xs, ρ => lc2K (lc2L f xs) (f x ρ)
def lc2Fin (ρ0 : Rho) (own : List Nat) : Res (List D) → Res Val
  | .ok ds ρ => if leN ds.length sizeLine then .ok (.tmp (.own (.lst ds))) (restore ρ0 ρ own) else .stuck
  | .err _ _ => .stuck
  | .stuck => .stuck
@[simp] theorem z_lc2Fin_1 {ρ0 : Rho} {own : List Nat} : lc2Fin ρ0 own (.ok ds ρ) = if leN ds.length sizeLine then .ok (.tmp (.own (.lst ds))) (restore ρ0 ρ own) else .stuck := (rfl)
@[simp] theorem z_lc2Fin_2 {ρ0 : Rho} {own : List Nat} : lc2Fin ρ0 own (.err z1 z2) = .stuck := (rfl)
@[simp] theorem z_lc2Fin_3 {ρ0 : Rho} {own : List Nat} : lc2Fin ρ0 own (.stuck) = .stuck := (rfl)
def lc2All (f : D → Rho → Res (List D)) (own : List Nat) : Res (List D) → Res Val
  | .ok xs ρ => lc2Fin ρ own (lc2L f xs ρ)
  | .err c ρ => .err c ρ
  | .stuck => .stuck
@[simp] theorem z_lc2All_1 {f : D → Rho → Res (List D)} {own : List Nat} : lc2All f own (.ok xs ρ) = lc2Fin ρ own (lc2L f xs ρ) := (rfl)
@[simp] theorem z_lc2All_2 {f : D → Rho → Res (List D)} {own : List Nat} : lc2All f own (.err c ρ) = .err c ρ := (rfl)
@[simp] theorem z_lc2All_3 {f : D → Rho → Res (List D)} {own : List Nat} : lc2All f own (.stuck) = .stuck := (rfl)
/-! a dict's comprehension -/
def dcV (k : D) : Res D → Res (Option (D × D))
  | .ok d ρ => .ok (some (k, d)) ρ
  | _ => .stuck
@[simp] theorem z_dcV_1 {k : D} : dcV k (.ok d ρ) = .ok (some (k, d)) ρ := (rfl)
def dcE (elt : Rho → Res Val) : Res D → Res (Option (D × D))
  | .ok k ρ => dcV k (kD (elt ρ))
  | _ => .stuck
@[simp] theorem z_dcE_1 {elt : Rho → Res Val} : dcE elt (.ok k ρ) = dcV k (kD (elt ρ)) := (rfl)
def dcIf (key elt : Rho → Res Val) : Res Bool → Res (Option (D × D))
  | .ok true ρ => dcE elt (kD (key ρ))
  | .ok false ρ => .ok none ρ
  | _ => .stuck
@[simp] theorem z_dcIf_1 {key elt : Rho → Res Val} : dcIf key elt (.ok true ρ) = dcE elt (kD (key ρ)) := (rfl)
@[simp] theorem z_dcIf_2 {key elt : Rho → Res Val} : dcIf key elt (.ok false ρ) = .ok none ρ := (rfl)
def dcGo (cond key elt : Rho → Res Val) : Option Rho → Res (Option (D × D))
  | some ρ => dcIf key elt (kB (cond ρ))
  | none => .stuck
@[simp] theorem z_dcGo_1 {cond key elt : Rho → Res Val} : dcGo cond key elt (some ρ) = dcIf key elt (kB (cond ρ)) := (rfl)
@[simp] theorem z_dcGo_2 {cond key elt : Rho → Res Val} : dcGo cond key elt (none) = .stuck := (rfl)
@[simp] def dcStep (tg : Tgt) (own : List Nat) (cond key elt : Rho → Res Val) (x : D) (ρ : Rho) : Res (Option (D × D)) := dcGo cond key elt (bindT tg x (wip ρ own))
def dcP (g : List (Ky × D) → Rho → Res (List (Ky × D))) (m : List (Ky × D)) (v : D) (ρ : Rho) : Option Ky → Res (List (Ky × D))
  | some ky => g (kput m ky v) ρ
  | none => .stuck
@[simp] theorem z_dcP_1 {g : List (Ky × D) → Rho → Res (List (Ky × D))} {m : List (Ky × D)} {v : D} {ρ : Rho} : dcP g m v ρ (some ky) = g (kput m ky v) ρ := (rfl)
@[simp] theorem z_dcP_2 {g : List (Ky × D) → Rho → Res (List (Ky × D))} {m : List (Ky × D)} {v : D} {ρ : Rho} : dcP g m v ρ (none) = .stuck := (rfl)
def dcK (g : List (Ky × D) → Rho → Res (List (Ky × D))) (m : List (Ky × D)) : Res (Option (D × D)) → Res (List (Ky × D))
  | .ok (some (k, v)) ρ => dcP g m v ρ (dKy k)
  | .ok none ρ => g m ρ
  | _ => .stuck
@[simp] theorem z_dcK_1 {g : List (Ky × D) → Rho → Res (List (Ky × D))} {m : List (Ky × D)} : dcK g m (.ok (some (k, v)) ρ) = dcP g m v ρ (dKy k) := (rfl)
@[simp] theorem z_dcK_2 {g : List (Ky × D) → Rho → Res (List (Ky × D))} {m : List (Ky × D)} : dcK g m (.ok none ρ) = g m ρ := (rfl)
def dcL (f : D → Rho → Res (Option (D × D))) : List D → List (Ky × D) → Rho → Res (List (Ky × D))
  | [], m, ρ => .ok m ρ
  | x :: xs, m, ρ => dcK (dcL f xs) m (f x ρ)
def dcFin (ρ0 : Rho) (own : List Nat) : Res (List (Ky × D)) → Res Val
  | .ok m ρ => .ok (.tmp (.own (.dic m))) (restore ρ0 ρ own)
  | _ => .stuck
@[simp] theorem z_dcFin_1 {ρ0 : Rho} {own : List Nat} : dcFin ρ0 own (.ok m ρ) = .ok (.tmp (.own (.dic m))) (restore ρ0 ρ own) := (rfl)
def dcAll (f : D → Rho → Res (Option (D × D))) (own : List Nat) : Res (List D) → Res Val
  | .ok xs ρ => if ltN xs.length sizeLine then dcFin ρ own (dcL f xs [] ρ) else .stuck
  | .err c ρ => .err c ρ
  | .stuck => .stuck
@[simp] theorem z_dcAll_1 {f : D → Rho → Res (Option (D × D))} {own : List Nat} : dcAll f own (.ok xs ρ) = if ltN xs.length sizeLine then dcFin ρ own (dcL f xs [] ρ) else .stuck := (rfl)
@[simp] theorem z_dcAll_2 {f : D → Rho → Res (Option (D × D))} {own : List Nat} : dcAll f own (.err c ρ) = .err c ρ := (rfl)
@[simp] theorem z_dcAll_3 {f : D → Rho → Res (Option (D × D))} {own : List Nat} : dcAll f own (.stuck) = .stuck := (rfl)
/-- {k: v} -/
def dspP (v : D) (ρ : Rho) : Option Ky → Res Val
  | some ky => .ok (.tmp (.own (.dic [(ky, v)]))) ρ
  | none => .stuck
@[simp] theorem z_dspP_1 {v : D} {ρ : Rho} : dspP v ρ (some ky) = .ok (.tmp (.own (.dic [(ky, v)]))) ρ := (rfl)
@[simp] theorem z_dspP_2 {v : D} {ρ : Rho} : dspP v ρ (none) = .stuck := (rfl)
def dspV (k : D) : Res D → Res Val
  | .ok v ρ => dspP v ρ (dKy k)
  | .err _ _ => .stuck
  | .stuck => .stuck
@[simp] theorem z_dspV_1 {k : D} : dspV k (.ok v ρ) = dspP v ρ (dKy k) := (rfl)
@[simp] theorem z_dspV_2 {k : D} : dspV k (.err z1 z2) = .stuck := (rfl)
@[simp] theorem z_dspV_3 {k : D} : dspV k (.stuck) = .stuck := (rfl)
def dspK (g : Rho → Res Val) : Res D → Res Val
  | .ok k ρ => dspV k (kD (g ρ))
  | .err _ _ => .stuck
  | .stuck => .stuck
@[simp] theorem z_dspK_1 {g : Rho → Res Val} : dspK g (.ok k ρ) = dspV k (kD (g ρ)) := (rfl)
@[simp] theorem z_dspK_2 {g : Rho → Res Val} : dspK g (.err z1 z2) = .stuck := (rfl)
@[simp] theorem z_dspK_3 {g : Rho → Res Val} : dspK g (.stuck) = .stuck := (rfl)
/-- d.get(k), d.get(k, x) -/
def getX (x : D) : D → D → Option D
  | .dict kvs, k => (dget kvs k).map fun o => o.getD x
  | _, _ => none
@[simp] theorem z_getX_1 {x : D} : getX x (.dict kvs) (k) = (dget kvs k).map fun o => o.getD x := (rfl)
def isDic : D → Bool
  | .dict _ => true
  | _ => false
@[simp] theorem isDic_d {kv : List (D × D)} : isDic (.dict kv) = true := (rfl)
@[simp] theorem isDic_n : isDic .none = false := (rfl)
@[simp] theorem isDic_b {b : Bool} : isDic (.bool b) = false := (rfl)
@[simp] theorem isDic_i {i : Int} : isDic (.int i) = false := (rfl)
@[simp] theorem isDic_s {x : Str} : isDic (.str x) = false := (rfl)
@[simp] theorem isDic_l {xs : List D} : isDic (.list xs) = false := (rfl)
@[simp] theorem isDic_t {xs : List D} : isDic (.tuple xs) = false := (rfl)
def getC (x : Val) (y : Val) : Res D → Res Val
  | .ok z ρ => opt ((x.view ρ).bind fun d => (y.view ρ).bind fun k => (getX z d k).map fun e => Val.tmp (.dat e)) ρ
  | .err c ρ => .err c ρ
  | .stuck => .stuck
@[simp] theorem z_getC_1 {x : Val} {y : Val} : getC x y (.ok z ρ) = opt ((x.view ρ).bind fun d => (y.view ρ).bind fun k => (getX z d k).map fun e => Val.tmp (.dat e)) ρ := (rfl)
@[simp] theorem z_getC_2 {x : Val} {y : Val} : getC x y (.err c ρ) = .err c ρ := (rfl)
@[simp] theorem z_getC_3 {x : Val} {y : Val} : getC x y (.stuck) = .stuck := (rfl)
def getB (x : Val) (h : Rho → Res D) : Res Val → Res Val
  | .ok y ρ => getC x y (h ρ)
  | .err c ρ => .err c ρ
  | .stuck => .stuck
@[simp] theorem z_getB_1 {x : Val} {h : Rho → Res D} : getB x h (.ok y ρ) = getC x y (h ρ) := (rfl)
@[simp] theorem z_getB_2 {x : Val} {h : Rho → Res D} : getB x h (.err c ρ) = .err c ρ := (rfl)
@[simp] theorem z_getB_3 {x : Val} {h : Rho → Res D} : getB x h (.stuck) = .stuck := (rfl)
@[simp] def getG (b : Bool) (r : Res Val) : Res Val := if b = true then r else .stuck
def getA (g : Rho → Res Val) (h : Rho → Res D) : Res Val → Res Val
  | .ok x ρ => getG (((x.view ρ).map isDic).getD false) (getB x h (g ρ))
  | .err c ρ => .err c ρ
  | .stuck => .stuck
@[simp] theorem z_getA_1 {g : Rho → Res Val} {h : Rho → Res D} : getA g h (.ok x ρ) = getG (((x.view ρ).map isDic).getD false) (getB x h (g ρ)) := (rfl)
@[simp] theorem z_getA_2 {g : Rho → Res Val} {h : Rho → Res D} : getA g h (.err c ρ) = .err c ρ := (rfl)
@[simp] theorem z_getA_3 {g : Rho → Res Val} {h : Rho → Res D} : getA g h (.stuck) = .stuck := (rfl)
/-- xs.count(i) -/
def cntF : D → D → Option Slot
  | .list xs, .int i => (ints? xs).map fun ns => .dat (.int (ns.count i))
  | _, _ => none
def isLst : D → Bool
  | .list _ => true
  | _ => false
@[simp] theorem isLst_l {xs : List D} : isLst (.list xs) = true := (rfl)
def cntA (g : Rho → Res Val) : Res Val → Res Val
  | .ok x ρ => getG (((x.view ρ).map isLst).getD false) (op2b x cntF (g ρ))
  | .err c ρ => .err c ρ
  | .stuck => .stuck
@[simp] theorem z_cntA_1 {g : Rho → Res Val} : cntA g (.ok x ρ) = getG (((x.view ρ).map isLst).getD false) (op2b x cntF (g ρ)) := (rfl)
@[simp] theorem z_cntA_2 {g : Rho → Res Val} : cntA g (.err c ρ) = .err c ρ := (rfl)
@[simp] theorem z_cntA_3 {g : Rho → Res Val} : cntA g (.stuck) = .stuck := (rfl)
@[simp] def excKind : Exc → Str
  | .notAllowed => "refused"
  | .tooLarge => "large"
  | .missing => "missing"
  | .badPaper => "paper"
def toldR : Res D → Res Val
  | .ok d ρ => if isDic d = true then .stuck else .ok (.tmp (.dat (.tuple [.str "told", d]))) ρ
  | .err c ρ => .ok (.tmp (.dat (.tuple [.str (excKind c)]))) ρ
  | .stuck => .stuck
@[simp] theorem z_toldR_1  : toldR  (.ok d ρ) = if isDic d = true then .stuck else .ok (.tmp (.dat (.tuple [.str "told", d]))) ρ := (rfl)
@[simp] theorem z_toldR_2  : toldR  (.err c ρ) = .ok (.tmp (.dat (.tuple [.str (excKind c)]))) ρ := (rfl)
@[simp] theorem z_toldR_3  : toldR  (.stuck) = .stuck := (rfl)
def rngD (lo : Int) (n : Nat) : List D := (List.range n).map fun (k : Nat) => .int (lo + k)
@[simp] def optI : D → Option (Option Int)
  | .int i => some (some i)
  | _ => none
def slice : D → Option Int → Option Int → Option Slot
  | .list xs, l, h => some (.own (.lst (cut xs l h)))
  | .tuple xs, l, h => some (.dat (.tuple (cut xs l h)))
  | _, _, _ => none
def roS : Option Slot → Option D
  | some (.ro ds) => some (.list ds)
  | some (.dat d) => some d
  | some (.own o) => some (frz o)
  | some (.io o) => some (frz o)
  | _ => none
@[simp] theorem z_roS_1 {ds : List D} : roS (some (.ro ds)) = some (.list ds) := (rfl)
@[simp] theorem z_roS_2 {d : D} : roS (some (.dat d)) = some d := (rfl)
@[simp] theorem z_roS_3 {o : O} : roS (some (.own o)) = some (frz o) := (rfl)
@[simp] theorem z_roS_4 {o : O} : roS (some (.io o)) = some (frz o) := (rfl)
def roV (ρ : Rho) : Val → Option D
  | .ref i => roS ρ[i]?
  | .tmp s => view s
@[simp] theorem z_roV_1 {ρ : Rho} : roV ρ (.ref i) = roS ρ[i]? := (rfl)
@[simp] theorem z_roV_2 {ρ : Rho} : roV ρ (.tmp s) = view s := (rfl)
def kO : Res D → Res (Option Int)
  | .ok d ρ => opt (optI d) ρ
  | .err c ρ => .err c ρ
  | .stuck => .stuck
@[simp] theorem z_kO_1  : kO  (.ok d ρ) = opt (optI d) ρ := (rfl)
@[simp] theorem z_kO_2  : kO  (.err c ρ) = .err c ρ := (rfl)
@[simp] theorem z_kO_3  : kO  (.stuck) = .stuck := (rfl)
def slcB (x : Val) (lo : Option Int) : Res (Option Int) → Res Val
  | .ok hi ρ => opt ((roV ρ x).bind fun d => (slice d lo hi).map Val.tmp) ρ
  | .err c ρ => .err c ρ
  | .stuck => .stuck
@[simp] theorem z_slcB_1 {x : Val} {lo : Option Int} : slcB x lo (.ok hi ρ) = opt ((roV ρ x).bind fun d => (slice d lo hi).map Val.tmp) ρ := (rfl)
@[simp] theorem z_slcB_2 {x : Val} {lo : Option Int} : slcB x lo (.err c ρ) = .err c ρ := (rfl)
@[simp] theorem z_slcB_3 {x : Val} {lo : Option Int} : slcB x lo (.stuck) = .stuck := (rfl)
def slcA (x : Val) (g : Rho → Res (Option Int)) : Res (Option Int) → Res Val
  | .ok lo ρ => slcB x lo (g ρ)
  | .err c ρ => .err c ρ
  | .stuck => .stuck
@[simp] theorem z_slcA_1 {x : Val} {g : Rho → Res (Option Int)} : slcA x g (.ok lo ρ) = slcB x lo (g ρ) := (rfl)
@[simp] theorem z_slcA_2 {x : Val} {g : Rho → Res (Option Int)} : slcA x g (.err c ρ) = .err c ρ := (rfl)
@[simp] theorem z_slcA_3 {x : Val} {g : Rho → Res (Option Int)} : slcA x g (.stuck) = .stuck := (rfl)
def slc (f g : Rho → Res (Option Int)) : Res Val → Res Val
  | .ok x ρ => slcA x g (f ρ)
  | .err c ρ => .err c ρ
  | .stuck => .stuck
@[simp] theorem z_slc_1 {f g : Rho → Res (Option Int)} : slc f g (.ok x ρ) = slcA x g (f ρ) := (rfl)
@[simp] theorem z_slc_2 {f g : Rho → Res (Option Int)} : slc f g (.err c ρ) = .err c ρ := (rfl)
@[simp] theorem z_slc_3 {f g : Rho → Res (Option Int)} : slc f g (.stuck) = .stuck := (rfl)
/-- what a call takes; a name's own object is lent -/
def argT (i : Nat) (ρ : Rho) : Option Slot → Option (Slot × Rho)
  | some (.own o) => some (.own o, ρ.set i .un)
  | some (.io o) => some (.own o, ρ.set i .un)
  | some (.dat d) => some (.dat d, ρ)
  | some (.ro ds) => some (.ro ds, ρ)
  | _ => none
@[simp] theorem z_argT_1 {i : Nat} {ρ : Rho} : argT i ρ (some (.own o)) = some (.own o, ρ.set i .un) := (rfl)
@[simp] theorem z_argT_2 {i : Nat} {ρ : Rho} : argT i ρ (some (.io o)) = some (.own o, ρ.set i .un) := (rfl)
@[simp] theorem z_argT_3 {i : Nat} {ρ : Rho} : argT i ρ (some (.dat d)) = some (.dat d, ρ) := (rfl)
@[simp] theorem z_argT_4 {i : Nat} {ρ : Rho} : argT i ρ (some (.ro ds)) = some (.ro ds, ρ) := (rfl)
def frA : Slot → Option D
  | .dat d => some d
  | .own (.lst ds) => some (.list ds)
  | _ => none
@[simp] theorem z_frA_1  : frA  (.dat d) = some d := (rfl)
@[simp] theorem z_frA_2  : frA  (.own (.lst ds)) = some (.list ds) := (rfl)
def argS (ρ : Rho) : Val → Option (Slot × Rho)
  | .tmp s => (frA s).map fun d => (.dat d, ρ)
  | .ref i => argT i ρ ρ[i]?
@[simp] theorem z_argS_1 {ρ : Rho} : argS ρ (.tmp s) = (frA s).map fun d => (.dat d, ρ) := (rfl)
@[simp] theorem z_argS_2 {ρ : Rho} : argS ρ (.ref i) = argT i ρ ρ[i]? := (rfl)
def consA (s : Slot) : Option (Rho × Rho) → Option (Rho × Rho)
  | some p => some (s :: p.1, p.2)
  | none => none
@[simp] theorem z_consA_1 {s : Slot} : consA s (some p) = some (s :: p.1, p.2) := (rfl)
@[simp] theorem z_consA_2 {s : Slot} : consA s (none) = none := (rfl)
def argB (f : Rho → Option (Rho × Rho)) : Option (Slot × Rho) → Option (Rho × Rho)
  | some p => consA p.1 (f p.2)
  | none => none
@[simp] theorem z_argB_1 {f : Rho → Option (Rho × Rho)} : argB f (some p) = consA p.1 (f p.2) := (rfl)
@[simp] theorem z_argB_2 {f : Rho → Option (Rho × Rho)} : argB f (none) = none := (rfl)
@[simp] def argSs : List Val → Rho → Option (Rho × Rho)
  | [], ρ => some ([], ρ)
  | v :: vs, ρ => argB (argSs vs) (argS ρ v)
@[simp] def views (ρ : Rho) : List Val → Option (List D)
  | [] => some []
  | v :: vs => (v.view ρ).bind fun s => (views ρ vs).map (s :: ·)
/-- what a call has left of an own argument goes back to its name -/
def backS (i : Nat) (o : O) (ρ : Rho) : Option Slot → Rho
  | some (.own _) => ρ.set i (.own o)
  | some (.io _) => ρ.set i (.io o)
  | _ => ρ
@[simp] theorem z_backS_1 {i : Nat} {o : O} {ρ : Rho} : backS i o ρ (some (.own z1)) = ρ.set i (.own o) := (rfl)
@[simp] theorem z_backS_2 {i : Nat} {o : O} {ρ : Rho} : backS i o ρ (some (.io z1)) = ρ.set i (.io o) := (rfl)
def putBack (ρ0 ρ : Rho) : Val → Slot → Rho
  | .ref i, .own o => backS i o ρ ρ0[i]?
  | _, _ => ρ
@[simp] theorem z_putBack_1 {ρ0 ρ : Rho} : putBack ρ0 ρ (.ref i) (.own o) = backS i o ρ ρ0[i]? := (rfl)
@[simp] def putBacks (ρ0 : Rho) : Rho → List Val → Rho → Rho
  | ρ, a :: as, s :: ss => putBacks ρ0 (putBack ρ0 ρ a s) as ss
  | ρ, _, _ => ρ
def callF (ρ0 ρ : Rho) (os : List Val) : Res Slot → Res Val
  | .ok r outs => .ok (.tmp r) (putBacks ρ0 ρ os outs)
  | .err c outs => .err c (putBacks ρ0 ρ os outs)
  | .stuck => .stuck
@[simp] theorem z_callF_1 {ρ0 ρ : Rho} {vs0 : List Val} : callF ρ0 ρ vs0 (.ok r outs) = .ok (.tmp r) (putBacks ρ0 ρ vs0 outs) := (rfl)
@[simp] theorem z_callF_2 {ρ0 ρ : Rho} {vs0 : List Val} : callF ρ0 ρ vs0 (.err c outs) = .err c (putBacks ρ0 ρ vs0 outs) := (rfl)
@[simp] theorem z_callF_3 {ρ0 ρ : Rho} {vs0 : List Val} : callF ρ0 ρ vs0 (.stuck) = .stuck := (rfl)
def callG (F : Fn) (ρ : Rho) (os : List Val) : Option (Rho × Rho) → Res Val
  | some p => if p.1.length = F.arity then callF ρ p.2 os (F.run p.1) else .stuck
  | none => .stuck
@[simp] theorem z_callG_1 {F : Fn} {ρ : Rho} {vs0 : List Val} : callG F ρ vs0 (some p) = if p.1.length = F.arity then callF ρ p.2 vs0 (F.run p.1) else .stuck := (rfl)
@[simp] theorem z_callG_2 {F : Fn} {ρ : Rho} {vs0 : List Val} : callG F ρ vs0 (none) = .stuck := (rfl)
def callR (F : Fn) : Res (List Val) → Res Val
  | .ok os ρ => callG F ρ os (argSs os ρ)
  | .err c ρ => .err c ρ
  | .stuck => .stuck
@[simp] theorem z_callR_1 {F : Fn} : callR F (.ok vs0 ρ) = callG F ρ vs0 (argSs vs0 ρ) := (rfl)
@[simp] theorem z_callR_2 {F : Fn} : callR F (.err c ρ) = .err c ρ := (rfl)
@[simp] theorem z_callR_3 {F : Fn} : callR F (.stuck) = .stuck := (rfl)
/-- a call of a name that holds a def -/
def fnOf (tab : List (Str × Fn)) (x : Str) : Option Fn := (tab.find? fun p => decide (p.1 = x)).map (·.2)
def callW (r : Res (List Val)) : Option Fn → Res Val
  | some F => callR F r
  | none => .stuck
@[simp] theorem z_callW_1 {r : Res (List Val)} : callW r (some F) = callR F r := (rfl)
@[simp] theorem z_callW_2 {r : Res (List Val)} : callW r (none) = .stuck := (rfl)
def callV (tab : List (Str × Fn)) (r : Res (List Val)) : Option Slot → Res Val
  | some (.fn x) => callW r (fnOf tab x)
  | _ => .stuck
@[simp] theorem z_callV_1 {tab : List (Str × Fn)} {r : Res (List Val)} : callV tab r (some (.fn x)) = callW r (fnOf tab x) := (rfl)
def bltR (f : BF) : Res (List Val) → Res Val
  | .ok os ρ => opt ((views ρ os).bind fun ds => (bfun f ds).map Val.tmp) ρ
  | .err c ρ => .err c ρ
  | .stuck => .stuck
@[simp] theorem z_bltR_1 {f : BF} : bltR f (.ok vs0 ρ) = opt ((views ρ vs0).bind fun ds => (bfun f ds).map Val.tmp) ρ := (rfl)
@[simp] theorem z_bltR_2 {f : BF} : bltR f (.err c ρ) = .err c ρ := (rfl)
@[simp] theorem z_bltR_3 {f : BF} : bltR f (.stuck) = .stuck := (rfl)
def consV (v : Val) : Res (List Val) → Res (List Val)
  | .ok vs ρ => .ok (v :: vs) ρ
  | .err c ρ => .err c ρ
  | .stuck => .stuck
@[simp] theorem z_consV_1 {v : Val} : consV v (.ok vs ρ) = .ok (v :: vs) ρ := (rfl)
@[simp] theorem z_consV_2 {v : Val} : consV v (.err c ρ) = .err c ρ := (rfl)
@[simp] theorem z_consV_3 {v : Val} : consV v (.stuck) = .stuck := (rfl)
def argsV (g : Rho → Res (List Val)) : Res Val → Res (List Val)
  | .ok v ρ => consV v (g ρ)
  | .err c ρ => .err c ρ
  | .stuck => .stuck
@[simp] theorem z_argsV_1 {g : Rho → Res (List Val)} : argsV g (.ok v ρ) = consV v (g ρ) := (rfl)
@[simp] theorem z_argsV_2 {g : Rho → Res (List Val)} : argsV g (.err c ρ) = .err c ρ := (rfl)
@[simp] theorem z_argsV_3 {g : Rho → Res (List Val)} : argsV g (.stuck) = .stuck := (rfl)
def argsS (g : Rho → Res (List D)) : Res (List D) → Res (List D)
  | .ok v ρ => appR v (g ρ)
  | .err c ρ => .err c ρ
  | .stuck => .stuck
@[simp] theorem z_argsS_1 {g : Rho → Res (List D)} : argsS g (.ok v ρ) = appR v (g ρ) := (rfl)
@[simp] theorem z_argsS_2 {g : Rho → Res (List D)} : argsS g (.err c ρ) = .err c ρ := (rfl)
@[simp] theorem z_argsS_3 {g : Rho → Res (List D)} : argsS g (.stuck) = .stuck := (rfl)
def argsD (g : Rho → Res (List D)) : Res D → Res (List D)
  | .ok v ρ => consR v (g ρ)
  | .err c ρ => .err c ρ
  | .stuck => .stuck
@[simp] theorem z_argsD_1 {g : Rho → Res (List D)} : argsD g (.ok v ρ) = consR v (g ρ) := (rfl)
@[simp] theorem z_argsD_2 {g : Rho → Res (List D)} : argsD g (.err c ρ) = .err c ρ := (rfl)
@[simp] theorem z_argsD_3 {g : Rho → Res (List D)} : argsD g (.stuck) = .stuck := (rfl)
def tupR : Res (List D) → Res Val
  | .ok ds ρ => if leN ds.length sizeLine then .ok (.tmp (.dat (.tuple ds))) ρ else .stuck
  | .err c ρ => .err c ρ
  | .stuck => .stuck
@[simp] theorem z_tupR_1  : tupR  (.ok ds ρ) = if leN ds.length sizeLine then .ok (.tmp (.dat (.tuple ds))) ρ else .stuck := (rfl)
@[simp] theorem z_tupR_2  : tupR  (.err c ρ) = .err c ρ := (rfl)
@[simp] theorem z_tupR_3  : tupR  (.stuck) = .stuck := (rfl)
def lstR : Res (List D) → Res Val
  | .ok ds ρ => if leN ds.length sizeLine then .ok (.tmp (.own (.lst ds))) ρ else .stuck
  | .err c ρ => .err c ρ
  | .stuck => .stuck
@[simp] theorem z_lstR_1  : lstR  (.ok ds ρ) = if leN ds.length sizeLine then .ok (.tmp (.own (.lst ds))) ρ else .stuck := (rfl)
@[simp] theorem z_lstR_2  : lstR  (.err c ρ) = .err c ρ := (rfl)
@[simp] theorem z_lstR_3  : lstR  (.stuck) = .stuck := (rfl)
@[simp] def neg1 : D → Option Slot
  | .int i => some (.dat (.int (-i)))
  | _ => none
def itemsOf : D → Option (List D)
  | .list xs => some xs
  | .tuple xs => some xs
  | _ => none
@[simp] theorem z_itemsOf_1  : itemsOf  (.list xs) = some xs := (rfl)
@[simp] theorem z_itemsOf_2  : itemsOf  (.tuple xs) = some xs := (rfl)
def kI (f : D → Option (List D)) : Res D → Res (List D)
  | .ok d ρ => opt (f d) ρ
  | .err c ρ => .err c ρ
  | .stuck => .stuck
@[simp] theorem z_kI_1 {f : D → Option (List D)} : kI f (.ok d ρ) = opt (f d) ρ := (rfl)
@[simp] theorem z_kI_2 {f : D → Option (List D)} : kI f (.err c ρ) = .err c ρ := (rfl)
@[simp] theorem z_kI_3 {f : D → Option (List D)} : kI f (.stuck) = .stuck := (rfl)
def kI2b (f : D → D → Option (List D)) (d : D) : Res D → Res (List D)
  | .ok e ρ => opt (f d e) ρ
  | .err c ρ => .err c ρ
  | .stuck => .stuck
@[simp] theorem z_kI2b_1 {f : D → D → Option (List D)} {d : D} : kI2b f d (.ok e ρ) = opt (f d e) ρ := (rfl)
@[simp] theorem z_kI2b_2 {f : D → D → Option (List D)} {d : D} : kI2b f d (.err c ρ) = .err c ρ := (rfl)
@[simp] theorem z_kI2b_3 {f : D → D → Option (List D)} {d : D} : kI2b f d (.stuck) = .stuck := (rfl)
def kI2 (f : D → D → Option (List D)) (g : Rho → Res Val) : Res D → Res (List D)
  | .ok d ρ => kI2b f d (kD (g ρ))
  | .err c ρ => .err c ρ
  | .stuck => .stuck
@[simp] theorem z_kI2_1 {f : D → D → Option (List D)} {g : Rho → Res Val} : kI2 f g (.ok d ρ) = kI2b f d (kD (g ρ)) := (rfl)
@[simp] theorem z_kI2_2 {f : D → D → Option (List D)} {g : Rho → Res Val} : kI2 f g (.err c ρ) = .err c ρ := (rfl)
@[simp] theorem z_kI2_3 {f : D → D → Option (List D)} {g : Rho → Res Val} : kI2 f g (.stuck) = .stuck := (rfl)
@[simp] def rng1D : D → Option (List D)
  | .int n => if leI (-(2 ^ 62)) n ∧ ltI n (2 ^ 62) then some (rngD 0 n.toNat) else none
  | _ => none
@[simp] def rng2D : D → D → Option (List D)
  | .int m, .int n => if leI (-(2 ^ 62)) m ∧ ltI m (2 ^ 62) ∧ leI (-(2 ^ 62)) n ∧ ltI n (2 ^ 62) then some (rngD m (n - m).toNat) else none
  | _, _ => none
/-- range(a, b, -1) -/
def rng3D : D → D → Option (List D)
  | .int m, .int n => if leI (-(2 ^ 61)) m ∧ ltI m (2 ^ 61) ∧ leI (-(2 ^ 61)) n ∧ ltI n (2 ^ 61) then some ((List.range (m - n).toNat).map fun (k : Nat) => .int (m - k)) else none
  | _, _ => none
@[simp] theorem z_rng3D_1  : rng3D  (.int m) (.int n) = if leI (-(2 ^ 61)) m ∧ ltI m (2 ^ 61) ∧ leI (-(2 ^ 61)) n ∧ ltI n (2 ^ 61) then some ((List.range (m - n).toNat).map fun (k : Nat) => .int (m - k)) else none := (rfl)
/-- what a for walks -/
def overD : D → Option (List D)
  | .list xs => some xs
  | .tuple xs => some xs
  | .dict kvs => (kvD kvs).map fun m => m.map fun p => kyD p.1
  | _ => none
@[simp] theorem z_overD_1  : overD  (.list xs) = some xs := (rfl)
@[simp] theorem z_overD_2  : overD  (.tuple xs) = some xs := (rfl)
@[simp] theorem z_overD_3  : overD  (.dict kvs) = (kvD kvs).map fun m => m.map fun p => kyD p.1 := (rfl)
def enumD (d : D) : Option (List D) := (itemsOf d).map fun xs => xs.zipIdx.map fun p => .tuple [.int p.2, p.1]
def prs2 (xs ys : List D) : List D := (xs.zip ys).map fun p => .tuple [p.1, p.2]
def zipD : D → D → Option (List D)
  | .list xs, .list ys => some (prs2 xs ys)
  | .tuple xs, .tuple ys => some (prs2 xs ys)
  | .list xs, .tuple ys => some (prs2 xs ys)
  | .tuple xs, .list ys => some (prs2 xs ys)
  | _, _ => none
@[simp] theorem z_zipD_1  : zipD  (.list xs) (.list ys) = some (prs2 xs ys) := (rfl)
@[simp] theorem z_zipD_2  : zipD  (.tuple xs) (.tuple ys) = some (prs2 xs ys) := (rfl)
@[simp] theorem z_zipD_3  : zipD  (.list xs) (.tuple ys) = some (prs2 xs ys) := (rfl)
@[simp] theorem z_zipD_4  : zipD  (.tuple xs) (.list ys) = some (prs2 xs ys) := (rfl)
def revD (d : D) : Option (List D) := (itemsOf d).map List.reverse
@[simp] theorem enumD_l {xs : List D} : enumD (.list xs) = some (xs.zipIdx.map fun p => .tuple [.int p.2, p.1]) := (rfl)
@[simp] theorem enumD_t {xs : List D} : enumD (.tuple xs) = some (xs.zipIdx.map fun p => .tuple [.int p.2, p.1]) := (rfl)
@[simp] theorem revD_l {xs : List D} : revD (.list xs) = some xs.reverse := (rfl)
@[simp] theorem revD_t {xs : List D} : revD (.tuple xs) = some xs.reverse := (rfl)
/-- a name that holds something -/
def varR (i : Nat) (ρ : Rho) : Option Slot → Res Val
  | some .un => .stuck
  | some (.gh _) => .stuck
  | some _ => .ok (.ref i) ρ
  | none => .stuck
@[simp] theorem z_varR_1 {i : Nat} {ρ : Rho} : varR i ρ (some .un) = .stuck := (rfl)
@[simp] theorem z_varR_2 {i : Nat} {ρ : Rho} : varR i ρ (some (.gh z1)) = .stuck := (rfl)
@[simp] theorem z_varR_3 {i : Nat} {ρ : Rho} : varR i ρ (none) = .stuck := (rfl)
@[simp] theorem z_pb_a {ρ0 ρ : Rho} {v : Val} : putBack ρ0 ρ v .un = ρ := by cases v <;> rfl
@[simp] theorem z_pb_b {ρ0 ρ : Rho} {s t : Slot} : putBack ρ0 ρ (.tmp s) t = ρ := by cases t <;> rfl
@[simp] theorem z_varR_a {i : Nat} {ρ : Rho} {d : D} : varR i ρ (some (.dat d)) = .ok (.ref i) ρ := rfl
@[simp] theorem z_varR_b {i : Nat} {ρ : Rho} {o : O} : varR i ρ (some (.own o)) = .ok (.ref i) ρ := rfl
@[simp] theorem z_varR_c {i : Nat} {ρ : Rho} {o : O} : varR i ρ (some (.io o)) = .ok (.ref i) ρ := rfl
@[simp] theorem z_varR_d {i : Nat} {ρ : Rho} {ds : List D} : varR i ρ (some (.ro ds)) = .ok (.ref i) ρ := rfl
mutual
@[simp] def evP : CE → Rho → Res Val
  | .var i, ρ => varR i ρ ρ[i]?
  | .lit d, ρ => .ok (.tmp (.dat d)) ρ
  | .glob _ d, ρ => .ok (.tmp (.dat d)) ρ
  | .tup as, ρ => tupR (evA as ρ)
  | .lst as, ρ => lstR (evA as ρ)
  | .bin op a b, ρ => op2 (binop op) (evP b) (evP a ρ)
  | .neg a, ρ => op1 neg1 (evP a ρ)
  | .cmp op a b, ρ => op2 (fun d e => dB (cmpop op d e)) (evP b) (evP a ρ)
  | .chn o1 o2 a b c, ρ => chn o1 o2 (evP b) (evP c) (evP a ρ)
  | .chn3 o1 o2 o3 a b c d, ρ => chn3 o1 o2 o3 (evP b) (evP c) (evP d) (evP a ρ)
  | .and_ a b, ρ => iteR (evP b) (vB false) (kB (evP a ρ))
  | .or_ a b, ρ => iteR (vB true) (evP b) (kB (evP a ρ))
  | .not_ a, ρ => iteR (vB false) (vB true) (kB (evP a ρ))
  | .ife t a b, ρ => iteR (evP a) (evP b) (kB (evP t ρ))
  | .idx a i, ρ => op2 (fun d e => (index d e).map Slot.dat) (evP i) (evP a ρ)
  | .slc a lo hi, ρ => slc (evQ lo) (evQ hi) (evP a ρ)
  | .call F as, ρ => callR F (evC as ρ)
  | .blt f as, ρ => bltR f (evC as ρ)
  | .lc tg it cond elt own, ρ => lcAll (lcStep tg own (evP cond) (evP elt)) own (evI it ρ)
  | .lc2 tg it cond tg1 it1 cond1 elt own own1, ρ => lc2All (lc2Step tg own (evP cond) (fun ρ => lc2In (lcStep tg1 own1 (evP cond1) (evP elt)) (evI it1 ρ))) own (evI it ρ)
  | .told a, ρ => toldR (kD (evP a ρ))
  | .dcp tg it cond key elt own, ρ => dcAll (dcStep tg own (evP cond) (evP key) (evP elt)) own (evI it ρ)
  | .dnew, ρ => .ok (.tmp (.own (.dic []))) ρ
  | .dsp k v, ρ => dspK (evP v) (kD (evP k ρ))
  | .cnt a k, ρ => cntA (evP k) (evP a ρ)
  | .get1 a k, ρ => getA (evP k) (fun ρ => .ok .none ρ) (evP a ρ)
  | .get2 a k e, ρ => getA (evP k) (fun ρ => kD (evP e ρ)) (evP a ρ)
  | .callv i tab as, ρ => callV tab (evC as ρ) ρ[i]?
  | _, _ => .stuck
/-- arguments, frozen -/
@[simp] def evA : CE → Rho → Res (List D)
  | .nil, ρ => .ok [] ρ
  | .cons a b, ρ => argsD (evA b) (kD (evP a ρ))
  | .star a b, ρ => argsS (evA b) (kI itemsOf (kD (evP a ρ)))
  | _, _ => .stuck
/-- a slice's end: left out, or an int -/
@[simp] def evQ : CE → Rho → Res (Option Int)
  | .nil, ρ => .ok none ρ
  | .cons a _, ρ => kO (kD (evP a ρ))
  | _, _ => .stuck
/-- operands in a row -/
@[simp] def evC : CE → Rho → Res (List Val)
  | .nil, ρ => .ok [] ρ
  | .cons a b, ρ => argsV (evC b) (evP a ρ)
  | _, _ => .stuck
/-- what is walked -/
@[simp] def evI : CE → Rho → Res (List D)
  | .over a, ρ => kI overD (kD (evP a ρ))
  | .rng1 a, ρ => kI rng1D (kD (evP a ρ))
  | .rng2 a b, ρ => kI2 rng2D (evP b) (kD (evP a ρ))
  | .rng3 a b, ρ => kI2 rng3D (evP b) (kD (evP a ρ))
  | .enum a, ρ => kI enumD (kD (evP a ρ))
  | .zip a b, ρ => kI2 zipD (evP b) (kD (evP a ρ))
  | .rev a, ρ => kI revD (kD (evP a ρ))
  | _, _ => .stuck
end
inductive CS where
  | done
  | seq (s r : CS)
  | set (i : Nat) (e : CE)
  | unp (tg : Tgt) (e : CE)
  | seti (a : Nat) (i e : CE)
  | setk (a : Nat) (i e : CE)
  | app (a : Nat) (e : CE)
  | ext (a : Nat) (e : CE)
  | aug (i : Nat) (op : BOp) (e : CE)
  | ex (e : CE)
  | ret (e : CE)
  | ite (c : CE) (t f : CS)
  | whl (n : Nat) (c : CE) (b : CS)
  | for_ (tg : Tgt) (it : CE) (b : CS)
  | forF (i : Nat) (xs : List Str) (b : CS)
  | augi (a : Nat) (i : CE) (op : BOp) (e : D)
  | raise (c : Exc)
  | pass
  | brk
  | cont
  | kill (is : List Nat)
  | frzs (is : List Nat)
  | fork (i : Nat) (c e d x : CE) (a b : CS)
inductive Out where
  | next (ρ : Rho)
  | ret (r : Slot) (ρ : Rho)
  | brk (ρ : Rho)
  | cont (ρ : Rho)
  | err (c : Exc) (ρ : Rho)
  | stuck
@[simp] def nextO (ρ : Rho) : Out := .next ρ
/-- a name's own object that is not changed any more -/
def frz1 (i : Nat) (ρ : Rho) : Option Slot → Rho
  | some (.own o) => ρ.set i (.dat (frz o))
  | _ => ρ
@[simp] theorem z_frz1_1 {i : Nat} {ρ : Rho} {o : O} : frz1 i ρ (some (.own o)) = ρ.set i (.dat (frz o)) := (rfl)
@[simp] theorem z_frz1_2 {i : Nat} {ρ : Rho} {o : O} : frz1 i ρ (some (.io o)) = ρ := (rfl)
@[simp] theorem z_frz1_3 {i : Nat} {ρ : Rho} {d : D} : frz1 i ρ (some (.dat d)) = ρ := (rfl)
@[simp] theorem z_frz1_4 {i : Nat} {ρ : Rho} {ds : List D} : frz1 i ρ (some (.ro ds)) = ρ := (rfl)
@[simp] theorem z_frz1_5 {i : Nat} {ρ : Rho} : frz1 i ρ (some .un) = ρ := (rfl)
@[simp] theorem z_frz1_6 {i : Nat} {ρ : Rho} : frz1 i ρ none = ρ := (rfl)
@[simp] def frzO : List Nat → Rho → Rho
  | [], ρ => ρ
  | i :: r, ρ => frzO r (frz1 i ρ ρ[i]?)
/-- names that are not read any more -/
def killA (f : Rho → Out) (i : Nat) (ρ : Rho) : Option Slot → Out
  | some s => if isIo s = true then .stuck else f (ρ.set i .un)
  | none => .stuck
@[simp] theorem z_killA_1 {f : Rho → Out} {i : Nat} {ρ : Rho} : killA f i ρ (some s) = if isIo s = true then .stuck else f (ρ.set i .un) := (rfl)
@[simp] theorem z_killA_2 {f : Rho → Out} {i : Nat} {ρ : Rho} : killA f i ρ (none) = .stuck := (rfl)
@[simp] def killO : List Nat → Rho → Out
  | [], ρ => .next ρ
  | i :: r, ρ => killA (killO r) i ρ ρ[i]?
def toO : Option Rho → Out
  | some ρ => .next ρ
  | none => .stuck
@[simp] theorem z_toO_1  : toO  (some ρ) = .next ρ := (rfl)
@[simp] theorem z_toO_2  : toO  (none) = .stuck := (rfl)
/-- behind a statement -/
def seqO (f : Rho → Out) : Out → Out
  | .next ρ => f ρ
  | .ret r ρ => .ret r ρ
  | .brk ρ => .brk ρ
  | .cont ρ => .cont ρ
  | .err c ρ => .err c ρ
  | .stuck => .stuck
@[simp] theorem z_seqO_1 {f : Rho → Out} : seqO f (.next ρ) = f ρ := (rfl)
@[simp] theorem z_seqO_2 {f : Rho → Out} : seqO f (.ret r ρ) = .ret r ρ := (rfl)
@[simp] theorem z_seqO_3 {f : Rho → Out} : seqO f (.brk ρ) = .brk ρ := (rfl)
@[simp] theorem z_seqO_4 {f : Rho → Out} : seqO f (.cont ρ) = .cont ρ := (rfl)
@[simp] theorem z_seqO_5 {f : Rho → Out} : seqO f (.err c ρ) = .err c ρ := (rfl)
@[simp] theorem z_seqO_6 {f : Rho → Out} : seqO f (.stuck) = .stuck := (rfl)
/-- behind a loop's turn -/
def turnO (f : Rho → Out) : Out → Out
  | .next ρ => f ρ
  | .cont ρ => f ρ
  | .brk ρ => .next ρ
  | .ret r ρ => .ret r ρ
  | .err c ρ => .err c ρ
  | .stuck => .stuck
@[simp] theorem z_turnO_1 {f : Rho → Out} : turnO f (.next ρ) = f ρ := (rfl)
@[simp] theorem z_turnO_2 {f : Rho → Out} : turnO f (.cont ρ) = f ρ := (rfl)
@[simp] theorem z_turnO_3 {f : Rho → Out} : turnO f (.brk ρ) = .next ρ := (rfl)
@[simp] theorem z_turnO_4 {f : Rho → Out} : turnO f (.ret r ρ) = .ret r ρ := (rfl)
@[simp] theorem z_turnO_5 {f : Rho → Out} : turnO f (.err c ρ) = .err c ρ := (rfl)
@[simp] theorem z_turnO_6 {f : Rho → Out} : turnO f (.stuck) = .stuck := (rfl)
def goO (f : Rho → Out) : Option Rho → Out
  | some ρ => f ρ
  | none => .stuck
@[simp] theorem z_goO_1 {f : Rho → Out} : goO f (some ρ) = f ρ := (rfl)
@[simp] theorem z_goO_2 {f : Rho → Out} : goO f (none) = .stuck := (rfl)
@[simp] def forL (f : D → Rho → Out) : List D → Rho → Out
  | [], ρ => .next ρ
  | x :: xs, ρ => turnO (forL f xs) (f x ρ)
def forFs (i : Nat) (f : Rho → Out) (x : Str) (ρ : Rho) : Option Slot → Out
  | some s => if isIo s = true then .stuck else f (ρ.set i (.fn x))
  | none => .stuck
@[simp] theorem z_forFs_1 {i : Nat} {f : Rho → Out} {x : Str} {ρ : Rho} : forFs i f x ρ (some s) = if isIo s = true then .stuck else f (ρ.set i (.fn x)) := (rfl)
@[simp] theorem z_forFs_2 {i : Nat} {f : Rho → Out} {x : Str} {ρ : Rho} : forFs i f x ρ (none) = .stuck := (rfl)
@[simp] def forFL (i : Nat) (f : Rho → Out) : List Str → Rho → Out
  | [], ρ => .next ρ
  | x :: xs, ρ => turnO (forFL i f xs) (forFs i f x ρ ρ[i]?)
@[simp] def forStep (tg : Tgt) (b : Rho → Out) (x : D) (ρ : Rho) : Out := goO b (bindT tg x ρ)
def forO (f : D → Rho → Out) : Res (List D) → Out
  | .ok xs ρ => forL f xs ρ
  | .err c ρ => .err c ρ
  | .stuck => .stuck
@[simp] theorem z_forO_1 {f : D → Rho → Out} : forO f (.ok xs ρ) = forL f xs ρ := (rfl)
@[simp] theorem z_forO_2 {f : D → Rho → Out} : forO f (.err c ρ) = .err c ρ := (rfl)
@[simp] theorem z_forO_3 {f : D → Rho → Out} : forO f (.stuck) = .stuck := (rfl)
def iteO (f g : Rho → Out) : Res Bool → Out
  | .ok true ρ => f ρ
  | .ok false ρ => g ρ
  | .err c ρ => .err c ρ
  | .stuck => .stuck
@[simp] theorem z_iteO_1 {f g : Rho → Out} : iteO f g (.ok true ρ) = f ρ := (rfl)
@[simp] theorem z_iteO_2 {f g : Rho → Out} : iteO f g (.ok false ρ) = g ρ := (rfl)
@[simp] theorem z_iteO_3 {f g : Rho → Out} : iteO f g (.err c ρ) = .err c ρ := (rfl)
@[simp] theorem z_iteO_4 {f g : Rho → Out} : iteO f g (.stuck) = .stuck := (rfl)
def whlL (c : Rho → Res Val) (b : Rho → Out) : Nat → Rho → Out
  | 0, _ => .stuck
  | n + 1, ρ => iteO (fun ρ1 => turnO (whlL c b n) (b ρ1)) nextO (kB (c ρ))
def storeS (i : Nat) (ρ : Rho) : Slot → Out
  | .dat d => .next (ρ.set i (.dat d))
  | .own o => .next (ρ.set i (.own o))
  | _ => .stuck
@[simp] theorem z_storeS_1 {i : Nat} {ρ : Rho} : storeS i ρ (.dat d) = .next (ρ.set i (.dat d)) := (rfl)
@[simp] theorem z_storeS_2 {i : Nat} {ρ : Rho} : storeS i ρ (.own o) = .next (ρ.set i (.own o)) := (rfl)
def storeAt (i : Nat) (s : Slot) (ρ : Rho) : Option Slot → Out
  | some t => if isIo t = true then .stuck else storeS i ρ s
  | none => .stuck
@[simp] theorem z_storeAt_1 {i : Nat} {s : Slot} {ρ : Rho} : storeAt i s ρ (some t) = if isIo t = true then .stuck else storeS i ρ s := (rfl)
@[simp] theorem z_storeAt_2 {i : Nat} {s : Slot} {ρ : Rho} : storeAt i s ρ (none) = .stuck := (rfl)
def setO (i : Nat) : Res Slot → Out
  | .ok s ρ => storeAt i s ρ ρ[i]?
  | .err c ρ => .err c ρ
  | .stuck => .stuck
@[simp] theorem z_setO_1 {i : Nat} : setO i (.ok s ρ) = storeAt i s ρ ρ[i]? := (rfl)
@[simp] theorem z_setO_2 {i : Nat} : setO i (.err c ρ) = .err c ρ := (rfl)
@[simp] theorem z_setO_3 {i : Nat} : setO i (.stuck) = .stuck := (rfl)
def unpO (tg : Tgt) : Res D → Out
  | .ok d ρ => toO (bindT tg d ρ)
  | .err c ρ => .err c ρ
  | .stuck => .stuck
@[simp] theorem z_unpO_1 {tg : Tgt} : unpO tg (.ok d ρ) = toO (bindT tg d ρ) := (rfl)
@[simp] theorem z_unpO_2 {tg : Tgt} : unpO tg (.err c ρ) = .err c ρ := (rfl)
@[simp] theorem z_unpO_3 {tg : Tgt} : unpO tg (.stuck) = .stuck := (rfl)
/-- an own object changed where it stands -/
def chg (a : Nat) (ρ : Rho) (f : O → Option O) : Option Slot → Out
  | some (.own o) => toO ((f o).map fun o' => ρ.set a (.own o'))
  | some (.io o) => toO ((f o).map fun o' => ρ.set a (.io o'))
  | _ => .stuck
@[simp] theorem z_chg_1 {a : Nat} {ρ : Rho} {f : O → Option O} : chg a ρ f (some (.own o)) = toO ((f o).map fun o' => ρ.set a (.own o')) := (rfl)
@[simp] theorem z_chg_2 {a : Nat} {ρ : Rho} {f : O → Option O} : chg a ρ f (some (.io o)) = toO ((f o).map fun o' => ρ.set a (.io o')) := (rfl)
@[simp] def appF (d : D) : O → Option O
  | .lst ds => if ltN ds.length sizeLine then some (.lst (ds ++ [d])) else none
  | _ => none
@[simp] def extF (e : D) : O → Option O
  | .lst ds => (match e with
    | .list es => if leN (ds.length + es.length) sizeLine then some (.lst (ds ++ es)) else none
    | _ => none)
  | _ => none
@[simp] def setF (k d : D) : O → Option O
  | .lst ds => (match k with
    | .int j => (ixn ds.length j).map fun m => .lst (ds.set m d)
    | _ => none)
  | .dic kvs => (dKy k).bind fun ky => if ltN kvs.length sizeLine then some (.dic (kput kvs ky d)) else none
@[simp] def setKF (k d : D) : O → Option O
  | .dic kvs => (dKy k).bind fun ky => if ltN kvs.length sizeLine then some (.dic (kput kvs ky d)) else none
  | .lst _ => none
@[simp] def lstAt : Option Slot → Bool
  | some (.own (.lst _)) => true
  | some (.io (.lst _)) => true
  | _ => false
@[simp] def dicAt : Option Slot → Bool
  | some (.own (.dic _)) => true
  | some (.io (.dic _)) => true
  | _ => false
@[simp] def datAt : Option Slot → Bool
  | some (.dat _) => true
  | _ => false
@[simp] def augI : BOp → Int → Int → Option Int
  | .add, i, j => some (i + j)
  | .sub, i, j => some (i - j)
  | _, _, _ => none
@[simp] def augX (op : BOp) : D → D → Option Int
  | .int i, .int j => augI op i j
  | _, _ => none
def ownAt : Option Slot → Bool
  | some (.own _) => true
  | some (.io _) => true
  | _ => false
@[simp] theorem z_ownAt_1  : ownAt  (some (.own z1)) = true := (rfl)
@[simp] theorem z_ownAt_2  : ownAt  (some (.io z1)) = true := (rfl)
/-- xs[i] += e -/
@[simp] def augO1 (op : BOp) (k : D) (e : D) : O → Option O
  | .lst ds => (match k with
    | .int j => (ixn ds.length j).bind fun m => ds[m]?.bind fun x => (augX op x e).map fun z => .lst (ds.set m (.int z))
    | _ => none)
  | .dic _ => none
/-- what stands there is of the kind that the code needs -/
def gate : Bool → Out → Out
  | true, o => o
  | false, _ => .stuck
@[simp] theorem z_gate_1  : gate  (true) (o) = o := (rfl)
@[simp] theorem z_gate_2  : gate  (false) (z1) = .stuck := (rfl)
def chgO (a : Nat) (f : D → O → Option O) : Res D → Out
  | .ok d ρ => chg a ρ (f d) ρ[a]?
  | .err c ρ => .err c ρ
  | .stuck => .stuck
@[simp] theorem z_chgO_1 {a : Nat} {f : D → O → Option O} : chgO a f (.ok d ρ) = chg a ρ (f d) ρ[a]? := (rfl)
@[simp] theorem z_chgO_2 {a : Nat} {f : D → O → Option O} : chgO a f (.err c ρ) = .err c ρ := (rfl)
@[simp] theorem z_chgO_3 {a : Nat} {f : D → O → Option O} : chgO a f (.stuck) = .stuck := (rfl)
def setB (f : D → D → O → Option O) (a : Nat) (d : D) : Res D → Out
  | .ok k ρ => chg a ρ (f k d) ρ[a]?
  | .err c ρ => .err c ρ
  | .stuck => .stuck
@[simp] theorem z_setB_1 {f : D → D → O → Option O} {a : Nat} {d : D} : setB f a d (.ok k ρ) = chg a ρ (f k d) ρ[a]? := (rfl)
@[simp] theorem z_setB_2 {f : D → D → O → Option O} {a : Nat} {d : D} : setB f a d (.err c ρ) = .err c ρ := (rfl)
@[simp] theorem z_setB_3 {f : D → D → O → Option O} {a : Nat} {d : D} : setB f a d (.stuck) = .stuck := (rfl)
def setA (f : D → D → O → Option O) (a : Nat) (g : Rho → Res Val) : Res D → Out
  | .ok d ρ => setB f a d (kD (g ρ))
  | .err c ρ => .err c ρ
  | .stuck => .stuck
@[simp] theorem z_setA_1 {f : D → D → O → Option O} {a : Nat} {g : Rho → Res Val} : setA f a g (.ok d ρ) = setB f a d (kD (g ρ)) := (rfl)
@[simp] theorem z_setA_2 {f : D → D → O → Option O} {a : Nat} {g : Rho → Res Val} : setA f a g (.err c ρ) = .err c ρ := (rfl)
@[simp] theorem z_setA_3 {f : D → D → O → Option O} {a : Nat} {g : Rho → Res Val} : setA f a g (.stuck) = .stuck := (rfl)
def augF (op : BOp) (d : D) (i : Nat) (ρ : Rho) : Option Slot → Out
  | some (.dat x) => toO ((augX op x d).map fun z => ρ.set i (.dat (.int z)))
  | _ => .stuck
@[simp] theorem z_augF_1 {op : BOp} {d : D} {i : Nat} {ρ : Rho} : augF op d i ρ (some (.dat x)) = toO ((augX op x d).map fun z => ρ.set i (.dat (.int z))) := (rfl)
def augO (i : Nat) (op : BOp) : Res D → Out
  | .ok d ρ => augF op d i ρ ρ[i]?
  | .err c ρ => .err c ρ
  | .stuck => .stuck
@[simp] theorem z_augO_1 {i : Nat} {op : BOp} : augO i op (.ok d ρ) = augF op d i ρ ρ[i]? := (rfl)
@[simp] theorem z_augO_2 {i : Nat} {op : BOp} : augO i op (.err c ρ) = .err c ρ := (rfl)
@[simp] theorem z_augO_3 {i : Nat} {op : BOp} : augO i op (.stuck) = .stuck := (rfl)
def augA (a : Nat) (op : BOp) (e : D) : Res D → Out
  | .ok k ρ => chg a ρ (augO1 op k e) ρ[a]?
  | .err c ρ => .err c ρ
  | .stuck => .stuck
@[simp] theorem z_augA_1 {a : Nat} {op : BOp} {e : D} : augA a op e (.ok k ρ) = chg a ρ (augO1 op k e) ρ[a]? := (rfl)
@[simp] theorem z_augA_2 {a : Nat} {op : BOp} {e : D} : augA a op e (.err c ρ) = .err c ρ := (rfl)
@[simp] theorem z_augA_3 {a : Nat} {op : BOp} {e : D} : augA a op e (.stuck) = .stuck := (rfl)
def dropO : Res Val → Out
  | .ok _ ρ => .next ρ
  | .err c ρ => .err c ρ
  | .stuck => .stuck
@[simp] theorem z_dropO_1  : dropO  (.ok z1 ρ) = .next ρ := (rfl)
@[simp] theorem z_dropO_2  : dropO  (.err c ρ) = .err c ρ := (rfl)
@[simp] theorem z_dropO_3  : dropO  (.stuck) = .stuck := (rfl)
def retO : Res Slot → Out
  | .ok s ρ => .ret s ρ
  | .err c ρ => .err c ρ
  | .stuck => .stuck
@[simp] theorem z_retO_1  : retO  (.ok s ρ) = .ret s ρ := (rfl)
@[simp] theorem z_retO_2  : retO  (.err c ρ) = .err c ρ := (rfl)
@[simp] theorem z_retO_3  : retO  (.stuck) = .stuck := (rfl)
/-- what is only read -/
def msk (ρ : Rho) : Rho := ρ.map fun s => match s with
  | .own _ => .un
  | .io _ => .un
  | s => s
def toldL (xs : List D) : D := .tuple [.str "told", .list xs]
def forkB (x : Rho → Res Val) (a b : Out) (xs : List D) : Res Bool → Out
  | .ok true _ => a
  | .ok false ρ => match kD (x ρ) with
    | .ok _ _ => if ltN xs.length sizeLine then b else .stuck
    | _ => .stuck
  | _ => .stuck
def forkA (d x : Rho → Res Val) (a b : Out) (xs : List D) : Res Bool → Out
  | .ok false ρ => forkB x a b xs (kB (d ρ))
  | _ => .stuck
/-- told by name i; tested twice; what was told is then changed, and not read any more -/
def forkS (i : Nat) (e d x : Rho → Res Val) (a b : Rho → Out) (xs : List D) (ρ : Rho) : Option Slot → Out
  | some s => if isIo s = true then .stuck else forkA d x (a (ρ.set i (.dat (toldL xs)))) (b (ρ.set i .un)) xs (kB (e ((msk ρ).set i (.dat (toldL xs)))))
  | none => .stuck
def forkF (a : Rho → Out) : Res Bool → Out
  | .ok true ρ => a ρ
  | _ => .stuck
def forkE (d : Rho → Res Val) (a : Rho → Out) : Res Bool → Out
  | .ok false ρ => forkF a (kB (d ρ))
  | _ => .stuck
def forkD (i : Nat) (e d : Rho → Res Val) (a : Rho → Out) (v : D) (ρ : Rho) : Option Slot → Out
  | some s => if isIo s = true then .stuck else if isDic v = true then .stuck else forkE d a (kB (e (ρ.set i (.dat (.tuple [.str "told", v])))))
  | none => .stuck
def forkO (i : Nat) (e d x : Rho → Res Val) (a b : Rho → Out) : Res Val → Out
  | .ok (.tmp (.own (.lst xs))) ρ => forkS i e d x a b xs ρ ρ[i]?
  | .ok (.tmp (.dat v)) ρ => forkD i e d a v ρ ρ[i]?
  | _ => .stuck
@[simp] theorem z_forkF_1 {a : Rho → Out} {ρ : Rho} : forkF a (.ok true ρ) = a ρ := (rfl)
@[simp] theorem z_forkE_1 {d : Rho → Res Val} {a : Rho → Out} {ρ : Rho} : forkE d a (.ok false ρ) = forkF a (kB (d ρ)) := (rfl)
@[simp] theorem z_forkD_1 {i : Nat} {e d : Rho → Res Val} {a : Rho → Out} {v : D} {ρ : Rho} {s : Slot} : forkD i e d a v ρ (some s) = if isIo s = true then .stuck else if isDic v = true then .stuck else forkE d a (kB (e (ρ.set i (.dat (.tuple [.str "told", v]))))) := (rfl)
@[simp] theorem z_forkO_2 {i : Nat} {e d x : Rho → Res Val} {a b : Rho → Out} {v : D} {ρ : Rho} : forkO i e d x a b (.ok (.tmp (.dat v)) ρ) = forkD i e d a v ρ ρ[i]? := (rfl)
@[simp] theorem z_forkO_1 {i : Nat} {e d x : Rho → Res Val} {a b : Rho → Out} {xs : List D} {ρ : Rho} : forkO i e d x a b (.ok (.tmp (.own (.lst xs))) ρ) = forkS i e d x a b xs ρ ρ[i]? := (rfl)
@[simp] theorem z_forkS_1 {i : Nat} {e d x : Rho → Res Val} {a b : Rho → Out} {xs : List D} {ρ : Rho} {s : Slot} : forkS i e d x a b xs ρ (some s) = if isIo s = true then .stuck else forkA d x (a (ρ.set i (.dat (toldL xs)))) (b (ρ.set i .un)) xs (kB (e ((msk ρ).set i (.dat (toldL xs))))) := (rfl)
@[simp] theorem z_forkA_1 {d x : Rho → Res Val} {a b : Out} {xs : List D} {ρ : Rho} : forkA d x a b xs (.ok false ρ) = forkB x a b xs (kB (d ρ)) := (rfl)
@[simp] theorem z_forkB_1 {x : Rho → Res Val} {a b : Out} {xs : List D} {ρ : Rho} : forkB x a b xs (.ok true ρ) = a := (rfl)
@[simp] theorem z_forkB_2 {x : Rho → Res Val} {a b : Out} {xs : List D} {ρ : Rho} : forkB x a b xs (.ok false ρ) = match kD (x ρ) with
    | .ok _ _ => if ltN xs.length sizeLine then b else .stuck
    | _ => .stuck := (rfl)
@[simp] theorem msk_nil : msk [] = [] := (rfl)
@[simp] theorem msk_own {o : O} {r : Rho} : msk (.own o :: r) = .un :: msk r := (rfl)
@[simp] theorem msk_io {o : O} {r : Rho} : msk (.io o :: r) = .un :: msk r := (rfl)
@[simp] theorem msk_un {r : Rho} : msk (.un :: r) = .un :: msk r := (rfl)
@[simp] theorem msk_dat {x : D} {r : Rho} : msk (.dat x :: r) = .dat x :: msk r := (rfl)
@[simp] theorem msk_ro {x : List D} {r : Rho} : msk (.ro x :: r) = .ro x :: msk r := (rfl)
@[simp] theorem msk_fn {x : Str} {r : Rho} : msk (.fn x :: r) = .fn x :: msk r := (rfl)
@[simp] def evS : CS → Rho → Out
  | .done, ρ => .next ρ
  | .seq s r, ρ => seqO (evS r) (evS s ρ)
  | .set i e, ρ => setO i (kS (evP e ρ))
  | .unp tg e, ρ => unpO tg (kD (evP e ρ))
  | .augi a i op e, ρ => gate (lstAt ρ[a]?) (augA a op e (kD (evP i ρ)))
  | .forF i xs b, ρ => forFL i (evS b) xs ρ
  | .seti a i e, ρ => gate (ownAt ρ[a]?) (setA setF a (evP i) (kD (evP e ρ)))
  | .setk a i e, ρ => gate (dicAt ρ[a]?) (setA setKF a (evP i) (kD (evP e ρ)))
  | .app a e, ρ => gate (lstAt ρ[a]?) (chgO a appF (kD (evP e ρ)))
  | .ext a e, ρ => gate (lstAt ρ[a]?) (chgO a extF (kD (evP e ρ)))
  | .aug i op e, ρ => gate (datAt ρ[i]?) (augO i op (kD (evP e ρ)))
  | .ex e, ρ => dropO (evP e ρ)
  | .ret e, ρ => retO (kS (evP e ρ))
  | .ite c t f, ρ => iteO (evS t) (evS f) (kB (evP c ρ))
  | .whl n c b, ρ => whlL (evP c) (evS b) n ρ
  | .for_ tg it b, ρ => forO (forStep tg (evS b)) (evI it ρ)
  | .raise c, ρ => .err c ρ
  | .pass, ρ => .next ρ
  | .brk, ρ => .brk ρ
  | .cont, ρ => .cont ρ
  | .kill is, ρ => killO is ρ
  | .frzs is, ρ => .next (frzO is ρ)
  | .fork i c e d x a b, ρ => forkO i (evP e) (evP d) (evP x) (evS a) (evS b) (evP c ρ)
/-- a def's slots at its entry: own arguments are the caller's -/
@[simp] def enter : Rho → Rho
  | [] => []
  | .own o :: r => .io o :: enter r
  | s :: r => s :: enter r
@[simp] def outS : Slot → Option Slot → Slot
  | .own _, some (.io o') => .own o'
  | _, _ => .un
@[simp] def outs : Rho → Rho → Rho
  | s :: r, ρ => outS s ρ.head? :: outs r ρ.tail
  | [], _ => []
def endB (args : Rho) : Out → Res Slot
  | .next ρ => .ok (.dat .none) (outs args ρ)
  | .ret r ρ => .ok r (outs args ρ)
  | .err c ρ => .err c (outs args ρ)
  | _ => .stuck
@[simp] theorem z_endB_1 {args : Rho} : endB args (.next ρ) = .ok (.dat .none) (outs args ρ) := (rfl)
@[simp] theorem z_endB_2 {args : Rho} : endB args (.ret r ρ) = .ok r (outs args ρ) := (rfl)
@[simp] theorem z_endB_3 {args : Rho} : endB args (.err c ρ) = .err c (outs args ρ) := (rfl)
/-- what a body makes of arguments -/
def runB (n : Nat) (b : CS) (args : Rho) : Res Slot := endB args (evS b (enter args ++ List.replicate (n - args.length) .un))
/-! ### what simp is to know -/
section
variable {i j k : Int} {x y : Str} {xs ys ds : List D} {d e : D} {a b : Bool}
@[simp] theorem b_add : binop .add (.int i) (.int j) = some (.dat (.int (i + j))) := (rfl)
@[simp] theorem b_sub : binop .sub (.int i) (.int j) = some (.dat (.int (i - j))) := (rfl)
@[simp] theorem b_mul : binop .mul (.int i) (.int j) = if ltN (i.natAbs.log2 + j.natAbs.log2) 1000000 then some (.dat (.int (i * j))) else none := (rfl)
@[simp] theorem b_fdiv : binop .fdiv (.int i) (.int j) = if j ≠ 0 ∧ ltN j.natAbs.log2 9000 then some (.dat (.int (i.fdiv j))) else none := (rfl)
@[simp] theorem b_mod : binop .mod (.int i) (.int j) = if j ≠ 0 then some (.dat (.int (i.fmod j))) else none := (rfl)
@[simp] theorem b_pow : binop .pow (.int i) (.int j) = if leI 0 j ∧ leI j 1000000 ∧ ltN i.natAbs (2 ^ 64) then some (.dat (.int (i ^ j.toNat))) else none := (rfl)
@[simp] theorem b_cats : binop .add (.str x) (.str y) = if leN (x.length + y.length) sizeLine then some (.dat (.str (x ++ y))) else none := (rfl)
@[simp] theorem b_catt : binop .add (.tuple xs) (.tuple ys) = if leN (xs.length + ys.length) sizeLine then some (.dat (.tuple (xs ++ ys))) else none := (rfl)
@[simp] theorem b_catl : binop .add (.list xs) (.list ys) = if leN (xs.length + ys.length) sizeLine then some (.own (.lst (xs ++ ys))) else none := (rfl)
@[simp] theorem b_repl : binop .mul (.list xs) (.int k) = if leI (-(2 ^ 63)) k ∧ ltI k (2 ^ 63) ∧ leN (xs.length * k.toNat) sizeLine then some (.own (.lst (List.replicate k.toNat xs).flatten)) else none := (rfl)
@[simp] theorem b_rept : binop .mul (.tuple xs) (.int k) = if leI (-1000) k ∧ leI k 1000 ∧ leN xs.length 1000 then some (.dat (.tuple (List.replicate k.toNat xs).flatten)) else none := (rfl)
@[simp] theorem c_eq : cmpop .eq d e = if bothStr d e = true ∨ SeqAt.shaped d = true ∧ SeqAt.shaped e = true then some (PyData.eqv d e) else none := (rfl)
@[simp] theorem c_ne : cmpop .ne d e = if bothStr d e = true ∨ SeqAt.shaped d = true ∧ SeqAt.shaped e = true then some (!PyData.eqv d e) else none := (rfl)
@[simp] theorem c_lt : cmpop .lt (.int i) (.int j) = some (decide (i < j)) := (rfl)
@[simp] theorem c_le : cmpop .le (.int i) (.int j) = some (decide (i ≤ j)) := (rfl)
@[simp] theorem c_gt : cmpop .gt (.int i) (.int j) = some (decide (j < i)) := (rfl)
@[simp] theorem c_ge : cmpop .ge (.int i) (.int j) = some (decide (j ≤ i)) := (rfl)
@[simp] theorem c_is : cmpop .is_ d .none = some (isNone d) := by cases d <;> rfl
@[simp] theorem c_isnot : cmpop .isnot d .none = some (!isNone d) := by cases d <;> rfl
@[simp] theorem c_isb : cmpop .is_ (.bool a) (.bool b) = some (decide (a = b)) := (rfl)
@[simp] theorem c_isnotb : cmpop .isnot (.bool a) (.bool b) = some (!decide (a = b)) := (rfl)
@[simp] theorem c_inl : cmpop .in_ d (.list xs) = if SeqAt.shaped d = true ∧ SeqAt.shaped (.list xs) = true then some (xs.any fun z => PyData.eqv z d) else none := (rfl)
@[simp] theorem c_inn : cmpop .notin d (.list xs) = if SeqAt.shaped d = true ∧ SeqAt.shaped (.list xs) = true then some (!xs.any fun z => PyData.eqv z d) else none := (rfl)
@[simp] theorem c_int : cmpop .in_ d (.tuple xs) = if flatD d = true ∧ xs.all flatD = true then some (xs.any fun z => PyData.eqv z d) else none := (rfl)
@[simp] theorem c_innt : cmpop .notin d (.tuple xs) = if flatD d = true ∧ xs.all flatD = true then some (!xs.any fun z => PyData.eqv z d) else none := (rfl)
@[simp] theorem c_ind {kv : List (D × D)} : cmpop .in_ d (.dict kv) = (dget kv d).map Option.isSome := by cases d <;> rfl
@[simp] theorem c_innd {kv : List (D × D)} : cmpop .notin d (.dict kv) = (dget kv d).map fun o => !o.isSome := by cases d <;> rfl
@[simp] theorem ix_d {kv : List (D × D)} : index (.dict kv) d = (dget kv d).bind id := by cases d <;> rfl
theorem kvD_frz : ∀ m : List (Ky × D), kvD (m.map fun p => (kyD p.1, p.2)) = some m
  | [] => rfl
  | (k, v) :: r => by
    show (dKy (kyD k)).bind (fun ky => (kvD (r.map fun p => (kyD p.1, p.2))).map ((ky, v) :: ·)) = _
    rw [kvD_frz r]
    cases k <;> rfl
@[simp] theorem kvD_map (m : List (Ky × D)) : kvD (m.map fun p => (kyD p.1, p.2)) = some m := kvD_frz m
@[simp] theorem kvD_nil : kvD [] = some [] := (rfl)
@[simp] theorem dget_map (m : List (Ky × D)) : dget (m.map fun p => (kyD p.1, p.2)) d = (dKy d).map (kget m) := by unfold dget; rw [kvD_frz]; rfl
@[simp] theorem f_lend {kv : List (D × D)} : bfun .len [.dict kv] = (kvD kv).map fun m => .dat (.int m.length) := (rfl)
@[simp] theorem f_lstd {kv : List (D × D)} : bfun .list [.dict kv] = (kvD kv).map fun m => .own (.lst (m.map fun p => kyD p.1)) := (rfl)
@[simp] theorem f_srtd {kv : List (D × D)} : bfun .sorted [.dict kv] = (kvD kv).bind fun m => (ints? (m.map fun p => kyD p.1)).map fun ns => .own (.lst ((isort ns).map .int)) := (rfl)
@[simp] theorem f_vals {kv : List (D × D)} : bfun .vals [.dict kv] = (kvD kv).map fun m => .own (.lst (m.map (·.2))) := (rfl)
@[simp] theorem cntF_li : cntF (.list xs) (.int i) = (ints? xs).map fun ns => .dat (.int (ns.count i)) := (rfl)
@[simp] theorem sh_none : SeqAt.shaped .none = true := (rfl)
@[simp] theorem sh_bool : SeqAt.shaped (.bool b) = true := (rfl)
@[simp] theorem sh_int : SeqAt.shaped (.int i) = true := (rfl)
@[simp] theorem sh_tup : SeqAt.shaped (.tuple xs) = (PyData.canLayAll0 xs && decide (PyData.depthAll xs + 1 ≤ 64)) := (rfl)
@[simp] theorem sh_lst : SeqAt.shaped (.list xs) = (PyData.canLayAll0 xs && decide (PyData.depthAll xs + 1 ≤ 64)) := (rfl)
@[simp] theorem sh_str : SeqAt.shaped (.str x) = PyData.strOk x := by show (PyData.strOk x && decide (0 ≤ 64)) = PyData.strOk x; simp
@[simp] theorem rngD_len {lo : Int} {n : Nat} : (rngD lo n).length = n := by unfold rngD; simp
@[simp] theorem cl_nil : PyData.canLayAll0 [] = true := (rfl)
@[simp] theorem cl_cons : PyData.canLayAll0 (d :: ds) = (PyData.canLay0 d && PyData.canLayAll0 ds) := (rfl)
@[simp] theorem cl_none : PyData.canLay0 .none = true := (rfl)
@[simp] theorem cl_bool : PyData.canLay0 (.bool b) = true := (rfl)
@[simp] theorem cl_int : PyData.canLay0 (.int i) = true := (rfl)
@[simp] theorem cl_str : PyData.canLay0 (.str x) = PyData.strOk x := (rfl)
@[simp] theorem cl_tup : PyData.canLay0 (.tuple xs) = PyData.canLayAll0 xs := (rfl)
@[simp] theorem cl_lst : PyData.canLay0 (.list xs) = PyData.canLayAll0 xs := (rfl)
@[simp] theorem dp_nil : PyData.depthAll [] = 0 := (rfl)
@[simp] theorem dp_cons : PyData.depthAll (d :: ds) = max (PyData.depth d) (PyData.depthAll ds) := (rfl)
@[simp] theorem dp_none : PyData.depth .none = 0 := (rfl)
@[simp] theorem dp_bool : PyData.depth (.bool b) = 0 := (rfl)
@[simp] theorem dp_int : PyData.depth (.int i) = 0 := (rfl)
@[simp] theorem dp_str : PyData.depth (.str x) = 0 := (rfl)
@[simp] theorem dp_tup : PyData.depth (.tuple xs) = PyData.depthAll xs + 1 := (rfl)
@[simp] theorem dp_lst : PyData.depth (.list xs) = PyData.depthAll xs + 1 := (rfl)
@[simp] theorem eqv_int : PyData.eqv (.int i) (.int j) = decide (i = j) := by show (i == j) = decide (i = j); exact Bool.beq_eq_decide_eq i j
@[simp] theorem eqv_str : PyData.eqv (.str x) (.str y) = decide (x = y) := by show (x == y) = decide (x = y); exact Bool.beq_eq_decide_eq x y
@[simp] theorem eqv_bool : PyData.eqv (.bool a) (.bool b) = decide (a = b) := by cases a <;> cases b <;> rfl
@[simp] theorem eqv_bi : PyData.eqv (.bool a) (.int i) = decide ((if a then 1 else 0) = i) := by show ((if a = true then (1 : Int) else 0) == i) = _; exact Bool.beq_eq_decide_eq _ _
@[simp] theorem eqv_tup : PyData.eqv (.tuple xs) (.tuple ys) = PyData.eqvAll xs ys := (rfl)
@[simp] theorem eqv_lst : PyData.eqv (.list xs) (.list ys) = PyData.eqvAll xs ys := (rfl)
@[simp] theorem eqva_nil : PyData.eqvAll [] [] = true := (rfl)
@[simp] theorem eqva_cons : PyData.eqvAll (d :: xs) (e :: ys) = (PyData.eqv d e && PyData.eqvAll xs ys) := (rfl)
@[simp] theorem eqva_nc : PyData.eqvAll [] (e :: ys) = false := (rfl)
@[simp] theorem eqva_cn : PyData.eqvAll (d :: xs) [] = false := (rfl)
@[simp] theorem eqv_nn : PyData.eqv .none .none = true := (rfl)
@[simp] theorem eqv_nt : PyData.eqv .none (.tuple xs) = false := (rfl)
@[simp] theorem eqv_tn : PyData.eqv (.tuple xs) .none = false := (rfl)
@[simp] theorem eqv_nl : PyData.eqv .none (.list xs) = false := (rfl)
@[simp] theorem eqv_ln : PyData.eqv (.list xs) .none = false := (rfl)
@[simp] theorem ix_l : index (.list xs) (.int i) = nth xs i := (rfl)
@[simp] theorem ix_t : index (.tuple xs) (.int i) = nth xs i := (rfl)
@[simp] theorem f_lenl : bfun .len [.list xs] = some (.dat (.int xs.length)) := (rfl)
@[simp] theorem f_lent : bfun .len [.tuple xs] = some (.dat (.int xs.length)) := (rfl)
@[simp] theorem f_lens : bfun .len [.str x] = if leN x.length sizeLine then some (.dat (.int x.length)) else none := (rfl)
@[simp] theorem f_abs : bfun .abs [.int i] = some (.dat (.int i.natAbs)) := (rfl)
@[simp] theorem f_int : bfun .int [.int i] = some (.dat (.int i)) := (rfl)
@[simp] theorem f_intb : bfun .int [.bool b] = some (.dat (.int (if b then 1 else 0))) := (rfl)
@[simp] theorem f_max : bfun .max2 [.int i, .int j] = some (.dat (.int (max i j))) := (rfl)
@[simp] theorem f_min : bfun .min2 [.int i, .int j] = some (.dat (.int (min i j))) := (rfl)
@[simp] theorem f_sset : bfun .sset [.list xs] = (ints? xs).bind fun ns => if leN ns.length 4000 then some (.own (.lst ((ssort ns).map .int))) else none := (rfl)
@[simp] theorem f_ssett : bfun .sset [.tuple xs] = (ints? xs).bind fun ns => if leN ns.length 4000 then some (.own (.lst ((ssort ns).map .int))) else none := (rfl)
@[simp] theorem f_slen : bfun .setlen [.list xs] = (ints? xs).bind fun ns => if leN ns.length 4000 then some (.dat (.int (ssort ns).length)) else none := (rfl)
@[simp] theorem f_slent : bfun .setlen [.tuple xs] = (ints? xs).bind fun ns => if leN ns.length 4000 then some (.dat (.int (ssort ns).length)) else none := (rfl)
@[simp] theorem f_srt : bfun .sorted [.list xs] = (ints? xs).map fun ns => .own (.lst ((isort ns).map .int)) := (rfl)
@[simp] theorem f_sum : bfun .sum [.list xs] = (ints? xs).map fun ns => .dat (.int ns.sum) := (rfl)
@[simp] theorem f_sumt : bfun .sum [.tuple xs] = (ints? xs).map fun ns => .dat (.int ns.sum) := (rfl)
@[simp] theorem f_maxt : bfun .maxL [.tuple xs] = (ints? xs).bind fun ns => if ns = [] then none else some (.dat (.int (ns.foldl max (ns.headD 0)))) := (rfl)
@[simp] theorem f_mint : bfun .minL [.tuple xs] = (ints? xs).bind fun ns => if ns = [] then none else some (.dat (.int (ns.foldl min (ns.headD 0)))) := (rfl)
@[simp] theorem f_isint : bfun .isint [d] = (tyn d).map fun t => .dat (.bool (t == 1 || t == 2)) := (rfl)
@[simp] theorem f_isbool : bfun .isbool [d] = (tyn d).map fun t => .dat (.bool (t == 1)) := (rfl)
@[simp] theorem f_isstr : bfun .isstr [d] = (tyn d).map fun t => .dat (.bool (t == 3)) := (rfl)
@[simp] theorem f_istup : bfun .istup [d] = (tyn d).map fun t => .dat (.bool (t == 5)) := (rfl)
@[simp] theorem f_revl : bfun .rev [.list xs] = some (.own (.lst xs.reverse)) := (rfl)
@[simp] theorem f_revt : bfun .rev [.tuple xs] = some (.dat (.tuple xs.reverse)) := (rfl)
@[simp] theorem f_slenT : bfun .setlenT [.list xs] = (rows? xs).bind fun rs => if ltN rs.length 64 then some (.dat (.int (dd rs).length)) else none := (rfl)
@[simp] theorem f_trng : bfun .trng [.int n] = if leI 0 n ∧ leI n 16777216 then some (.dat (.tuple (rngZ n))) else none := (rfl)
@[simp] theorem f_lrng : bfun .lrng [.int n] = if leI 0 n ∧ leI n 16777216 then some (.own (.lst (rngZ n))) else none := (rfl)
@[simp] theorem f_trev : bfun .trev [.list xs] = some (.dat (.tuple xs.reverse)) := (rfl)
@[simp] theorem f_maxl : bfun .maxL [.list xs] = (ints? xs).bind fun ns => if ns = [] then none else some (.dat (.int (ns.foldl max (ns.headD 0)))) := (rfl)
@[simp] theorem f_minl : bfun .minL [.list xs] = (ints? xs).bind fun ns => if ns = [] then none else some (.dat (.int (ns.foldl min (ns.headD 0)))) := (rfl)
@[simp] theorem f_all : bfun .all [.list xs] = (bools? xs).map fun bs => .dat (.bool (bs.all id)) := (rfl)
@[simp] theorem f_any : bfun .any [.list xs] = (bools? xs).map fun bs => .dat (.bool (bs.any id)) := (rfl)
@[simp] theorem f_reprl : bfun .repr [.list xs] = if PyData.showable (.list xs) = true ∧ PyData.canLay0 (.list xs) = true ∧ PyData.depth (.list xs) ≤ 32 ∧ leN (rsz (.list xs)) sizeLine then some (.dat (.str (PyData.shown (.list xs)))) else none := (rfl)
@[simp] theorem f_reprt : bfun .repr [.tuple xs] = if PyData.showable (.tuple xs) = true ∧ PyData.canLay0 (.tuple xs) = true ∧ PyData.depth (.tuple xs) ≤ 32 ∧ leN (rsz (.tuple xs)) sizeLine then some (.dat (.str (PyData.shown (.tuple xs)))) else none := (rfl)
@[simp] theorem f_tupl : bfun .tuple [.list xs] = some (.dat (.tuple xs)) := (rfl)
@[simp] theorem f_tupt : bfun .tuple [.tuple xs] = some (.dat (.tuple xs)) := (rfl)
@[simp] theorem f_lstl : bfun .list [.list xs] = some (.own (.lst xs)) := (rfl)
@[simp] theorem f_lstt : bfun .list [.tuple xs] = some (.own (.lst xs)) := (rfl)
@[simp] theorem sl_l {lo hi : Option Int} : slice (.list xs) lo hi = some (.own (.lst (cut xs lo hi))) := (rfl)
@[simp] theorem sl_t {lo hi : Option Int} : slice (.tuple xs) lo hi = some (.dat (.tuple (cut xs lo hi))) := (rfl)
@[simp] theorem nth_nat {α : Type} {l : List α} {n : Nat} : nth l (n : Int) = l[n]? := by
  unfold nth ixn
  by_cases h : (n : Int) < (l.length : Int)
  · rw [if_pos (Int.natCast_nonneg n), if_pos h]; simp
  · rw [if_pos (Int.natCast_nonneg n), if_neg h]
    rw [List.getElem?_eq_none (by omega)]; rfl
@[simp] theorem nth_0 {α : Type} {l : List α} : nth l 0 = l[0]? := nth_nat (n := 0)
@[simp] theorem nth_1 {α : Type} {l : List α} : nth l 1 = l[1]? := nth_nat (n := 1)
@[simp] theorem nth_2 {α : Type} {l : List α} : nth l 2 = l[2]? := nth_nat (n := 2)
@[simp] theorem nth_3 {α : Type} {l : List α} : nth l 3 = l[3]? := nth_nat (n := 3)
@[simp] theorem nth_4 {α : Type} {l : List α} : nth l 4 = l[4]? := nth_nat (n := 4)
@[simp] theorem ints_map : ∀ ns : List Int, ints? (ns.map PyData.int) = some ns
  | [] => rfl
  | n :: r => by show (ints? (r.map PyData.int)).map (n :: ·) = _; rw [ints_map r]; rfl
@[simp] theorem bools_map : ∀ ns : List Bool, bools? (ns.map PyData.bool) = some ns
  | [] => rfl
  | n :: r => by show (bools? (r.map PyData.bool)).map (n :: ·) = _; rw [bools_map r]; rfl
end
/-! ### what evaluation keeps: how many slots, whose own objects -/
structure Kp (ρ ρ' : Rho) : Prop where
  len : ρ'.length = ρ.length
  io : ∀ (i : Nat) (o : O), ρ'[i]? = some (.io o) → ∃ o', ρ[i]? = some (.io o')
theorem Kp.refl (ρ : Rho) : Kp ρ ρ := ⟨rfl, fun _ o h => ⟨o, h⟩⟩
theorem Kp.trans {ρ ρ1 ρ2 : Rho} (a : Kp ρ ρ1) (b : Kp ρ1 ρ2) : Kp ρ ρ2 := ⟨b.len.trans a.len, fun i o h => by
  obtain ⟨o1, h1⟩ := b.io i o h
  exact a.io i o1 h1⟩
theorem Kp.set {ρ : Rho} {i : Nat} {s : Slot} (h : ∀ o, s = .io o → ∃ o', ρ[i]? = some (.io o')) : Kp ρ (ρ.set i s) := by
  refine ⟨List.length_set .., fun j o e => ?_⟩
  by_cases hj : i = j
  · subst hj
    by_cases hi : i < ρ.length
    · rw [List.getElem?_set_self hi] at e
      exact h o (Option.some.inj e)
    · rw [List.getElem?_eq_none (by simpa using hi)] at e
      cases e
  · rw [List.getElem?_set_ne hj] at e
    exact ⟨o, e⟩
theorem Kp.dat {ρ : Rho} {i : Nat} {d : D} : Kp ρ (ρ.set i (.dat d)) := .set fun _ e => nomatch e
theorem Kp.own {ρ : Rho} {i : Nat} {o : O} : Kp ρ (ρ.set i (.own o)) := .set fun _ e => nomatch e
theorem Kp.un {ρ : Rho} {i : Nat} : Kp ρ (ρ.set i .un) := .set fun _ e => nomatch e
def RK {α : Type} (ρ : Rho) : Res α → Prop
  | .ok _ ρ' => Kp ρ ρ'
  | .err _ ρ' => Kp ρ ρ'
  | .stuck => True
def OK (ρ : Rho) : Out → Prop
  | .next ρ' => Kp ρ ρ'
  | .ret _ ρ' => Kp ρ ρ'
  | .brk ρ' => Kp ρ ρ'
  | .cont ρ' => Kp ρ ρ'
  | .err _ ρ' => Kp ρ ρ'
  | .stuck => True
theorem RK.of {α : Type} {ρ ρ1 : Rho} {r : Res α} (k : Kp ρ ρ1) (h : RK ρ1 r) : RK ρ r := by
  cases r with
  | ok a ρ2 => exact k.trans h
  | err c ρ2 => exact k.trans h
  | stuck => trivial
theorem OK.of {ρ ρ1 : Rho} {r : Out} (k : Kp ρ ρ1) (h : OK ρ1 r) : OK ρ r := by
  cases r with
  | next ρ2 => exact k.trans h
  | ret _ ρ2 => exact k.trans h
  | brk ρ2 => exact k.trans h
  | cont ρ2 => exact k.trans h
  | err c ρ2 => exact k.trans h
  | stuck => trivial
theorem rk_opt {α : Type} {ρ : Rho} (o : Option α) : RK ρ (opt o ρ) := by
  cases o with
  | none => trivial
  | some a => exact Kp.refl ρ
/-- behind a result: f keeps what it starts from -/
theorem rk_kD {ρ : Rho} {r : Res Val} (h : RK ρ r) : RK ρ (kD r) := by
  cases r with
  | ok v ρ1 =>
    refine RK.of h ?_
    cases v with
    | tmp s => exact rk_opt _
    | ref i =>
      show RK ρ1 (thaw i ρ1 ρ1[i]?)
      cases ρ1[i]? with
      | none => trivial
      | some s => cases s <;> first | trivial | exact Kp.refl ρ1 | exact Kp.dat
  | err c ρ1 => exact h
  | stuck => trivial
theorem rk_kS {ρ : Rho} {r : Res Val} (h : RK ρ r) : RK ρ (kS r) := by
  cases r with
  | ok v ρ1 =>
    refine RK.of h ?_
    cases v with
    | tmp s => exact Kp.refl ρ1
    | ref i =>
      show RK ρ1 (take i ρ1 ρ1[i]?)
      cases ρ1[i]? with
      | none => trivial
      | some s => cases s <;> first | trivial | exact Kp.refl ρ1 | exact Kp.un
  | err c ρ1 => exact h
  | stuck => trivial
theorem rk_kB {ρ : Rho} {r : Res Val} (h : RK ρ r) : RK ρ (kB r) := by
  cases r with
  | ok v ρ1 => exact RK.of h (rk_opt _)
  | err c ρ1 => exact h
  | stuck => trivial
abbrev FK {α : Type} (f : Rho → Res α) : Prop := ∀ ρ, RK ρ (f ρ)
theorem rk_op2 {ρ : Rho} {f : D → D → Option Slot} {g : Rho → Res Val} {r : Res Val} (hg : FK g) (h : RK ρ r) : RK ρ (op2 f g r) := by
  cases r with
  | ok x ρ1 =>
    refine RK.of h ?_
    show RK ρ1 (op2b x f (g ρ1))
    have k := hg ρ1
    cases e : g ρ1 with
    | ok y ρ2 => rw [e] at k; exact RK.of k (rk_opt _)
    | err c ρ2 => rw [e] at k; exact k
    | stuck => trivial
  | err c ρ1 => exact h
  | stuck => trivial
theorem rk_op1 {ρ : Rho} {f : D → Option Slot} {r : Res Val} (h : RK ρ r) : RK ρ (op1 f r) := by
  cases r with
  | ok x ρ1 => exact RK.of h (rk_opt _)
  | err c ρ1 => exact h
  | stuck => trivial
theorem rk_iteR {ρ : Rho} {g k : Rho → Res Val} {r : Res Bool} (hg : FK g) (hk : FK k) (h : RK ρ r) : RK ρ (iteR g k r) := by
  cases r with
  | ok b ρ1 =>
    cases b with
    | true => exact RK.of h (hg ρ1)
    | false => exact RK.of h (hk ρ1)
  | err c ρ1 => exact h
  | stuck => trivial
theorem fk_vB {b : Bool} : FK (vB b) := fun ρ => Kp.refl ρ
theorem rk_chn {ρ : Rho} {o1 o2 : COp} {f g : Rho → Res Val} {r : Res Val} (hf : FK f) (hg : FK g) (h : RK ρ r) : RK ρ (chn o1 o2 f g r) := by
  cases r with
  | ok x ρ1 =>
    refine RK.of h ?_
    show RK ρ1 (chnA x o1 o2 g (f ρ1))
    have k := hf ρ1
    cases e : f ρ1 with
    | ok y ρ2 =>
      rw [e] at k
      refine RK.of k ?_
      show RK ρ2 (chnB y o2 g ρ2 _)
      cases (x.view ρ2).bind fun d => (y.view ρ2).bind fun e => cmpop o1 d e with
      | none => trivial
      | some b =>
        cases b with
        | false => exact Kp.refl ρ2
        | true =>
          show RK ρ2 (chnC y o2 (g ρ2))
          have k2 := hg ρ2
          cases e2 : g ρ2 with
          | ok z ρ3 => rw [e2] at k2; exact RK.of k2 (rk_opt _)
          | err c ρ3 => rw [e2] at k2; exact k2
          | stuck => trivial
    | err c ρ2 => rw [e] at k; exact k
    | stuck => trivial
  | err c ρ1 => exact h
  | stuck => trivial
theorem rk_chA {ρ : Rho} {x : Val} {o : COp} {g : Val → Rho → Res Val} {r : Res Val} (hg : ∀ y, FK (g y)) (h : RK ρ r) : RK ρ (chA x o g r) := by
  cases r with
  | ok y ρ1 =>
    refine RK.of h ?_
    show RK ρ1 (chB g y ρ1 _)
    cases (x.view ρ1).bind fun d => (y.view ρ1).bind fun e => cmpop o d e with
    | none => trivial
    | some b =>
      cases b with
      | false => exact Kp.refl ρ1
      | true => exact hg y ρ1
  | err c ρ1 => exact h
  | stuck => trivial
theorem rk_chnC {ρ : Rho} {y : Val} {o : COp} {r : Res Val} (h : RK ρ r) : RK ρ (chnC y o r) := by
  cases r with
  | ok z ρ1 => exact RK.of h (rk_opt _)
  | err c ρ1 => exact h
  | stuck => trivial
theorem rk_chn3 {ρ : Rho} {o1 o2 o3 : COp} {f g k : Rho → Res Val} {r : Res Val} (hf : FK f) (hg : FK g) (hk : FK k) (h : RK ρ r) : RK ρ (chn3 o1 o2 o3 f g k r) := by
  cases r with
  | ok x ρ1 => exact RK.of h (rk_chA (fun y ρ2 => rk_chA (fun z ρ3 => rk_chnC (hk ρ3)) (hg ρ2)) (hf ρ1))
  | err c ρ1 => exact h
  | stuck => trivial
theorem rk_kO {ρ : Rho} {r : Res D} (h : RK ρ r) : RK ρ (kO r) := by
  cases r with
  | ok d ρ1 => exact RK.of h (rk_opt _)
  | err c ρ1 => exact h
  | stuck => trivial
theorem rk_slc {ρ : Rho} {f g : Rho → Res (Option Int)} {r : Res Val} (hf : FK f) (hg : FK g) (h : RK ρ r) : RK ρ (slc f g r) := by
  cases r with
  | ok x ρ1 =>
    refine RK.of h ?_
    show RK ρ1 (slcA x g (f ρ1))
    have k := hf ρ1
    cases e : f ρ1 with
    | ok y ρ2 =>
      rw [e] at k
      refine RK.of k ?_
      show RK ρ2 (slcB x y (g ρ2))
      have k2 := hg ρ2
      cases e2 : g ρ2 with
      | ok z ρ3 => rw [e2] at k2; exact RK.of k2 (rk_opt _)
      | err c ρ3 => rw [e2] at k2; exact k2
      | stuck => trivial
    | err c ρ2 => rw [e] at k; exact k
    | stuck => trivial
  | err c ρ1 => exact h
  | stuck => trivial
theorem Kp.set0 {ρ0 ρ : Rho} {i : Nat} {s : Slot} (k : Kp ρ0 ρ) (h : ∀ o, s = .io o → ∃ o', ρ0[i]? = some (.io o')) : Kp ρ0 (ρ.set i s) := by
  refine ⟨(List.length_set ..).trans k.len, fun j o e => ?_⟩
  by_cases hj : i = j
  · subst hj
    by_cases hi : i < ρ.length
    · rw [List.getElem?_set_self hi] at e
      exact h o (Option.some.inj e)
    · rw [List.getElem?_eq_none (by rw [List.length_set]; omega)] at e
      cases e
  · rw [List.getElem?_set_ne hj] at e
    exact k.io j o e
theorem frA_fr1 {s : Slot} {d : D} (h : frA s = some d) : fr1 s = some d := by
  cases s with
  | own o => cases o with
    | lst ds => exact h
    | dic ds => cases h
  | dat d => exact h
  | _ => cases h
theorem kp_argS {ρ ρ1 : Rho} {v : Val} {s : Slot} (h : argS ρ v = some (s, ρ1)) : Kp ρ ρ1 := by
  cases v with
  | tmp t =>
    have h : (frA t).map (fun d => (Slot.dat d, ρ)) = some (s, ρ1) := h
    cases e : frA t with
    | none => rw [e] at h; cases h
    | some d => rw [e] at h; cases h; exact Kp.refl ρ
  | ref i =>
    have h : argT i ρ ρ[i]? = some (s, ρ1) := h
    cases e : ρ[i]? with
    | none => rw [e] at h; cases h
    | some t =>
      rw [e] at h
      cases t with
      | un => cases h
      | own o => cases h; exact Kp.un
      | io o => cases h; exact Kp.un
      | dat o => cases h; exact Kp.refl ρ
      | ro o => cases h; exact Kp.refl ρ
      | fn x => cases h
      | pin o kvs => cases h
      | fns xs => cases h
      | gh G => cases h
theorem argSs_cons {v : Val} {vs : List Val} {ρ : Rho} {p : Rho × Rho} (h : argSs (v :: vs) ρ = some p) : ∃ s ρ1 q, argS ρ v = some (s, ρ1) ∧ argSs vs ρ1 = some q ∧ p = (s :: q.1, q.2) := by
  have h : argB (argSs vs) (argS ρ v) = some p := h
  cases e : argS ρ v with
  | none => rw [e] at h; cases h
  | some q =>
    rw [e] at h
    have h : consA q.1 (argSs vs q.2) = some p := h
    cases e2 : argSs vs q.2 with
    | none => rw [e2] at h; cases h
    | some r => rw [e2] at h; cases h; exact ⟨q.1, q.2, r, rfl, e2, rfl⟩
theorem kp_argSs : ∀ {vs : List Val} {ρ : Rho} {p : Rho × Rho}, argSs vs ρ = some p → Kp ρ p.2
  | [], ρ, p, h => by cases h; exact Kp.refl ρ
  | v :: vs, ρ, p, h => by
    obtain ⟨s, ρ1, q, h1, h2, e⟩ := argSs_cons h
    subst e
    exact (kp_argS h1).trans (show Kp ρ1 q.2 from kp_argSs h2)
theorem kp_putBack {ρ0 ρ : Rho} (k : Kp ρ0 ρ) (v : Val) (s : Slot) : Kp ρ0 (putBack ρ0 ρ v s) := by
  cases v with
  | tmp t => cases s <;> exact k
  | ref i =>
    cases s with
    | own o =>
      show Kp ρ0 (backS i o ρ ρ0[i]?)
      cases e : ρ0[i]? with
      | none => exact k
      | some t => cases t with
        | own o' => exact k.set0 (fun _ z => nomatch z)
        | io o' => exact k.set0 fun _ _ => ⟨o', e⟩
        | _ => exact k
    | _ => exact k
theorem kp_putBacks {ρ0 : Rho} : ∀ (vs : List Val) (ss : Rho) {ρ : Rho}, Kp ρ0 ρ → Kp ρ0 (putBacks ρ0 ρ vs ss)
  | [], ss, ρ, k => by cases ss <;> exact k
  | v :: vs, [], ρ, k => k
  | v :: vs, s :: ss, ρ, k => kp_putBacks vs ss (kp_putBack k v s)
theorem rk_callG {F : Fn} {ρ1 : Rho} {os : List Val} : RK ρ1 (callG F ρ1 os (argSs os ρ1)) := by
  cases e : argSs os ρ1 with
  | none => trivial
  | some p =>
    show RK ρ1 (if p.1.length = F.arity then callF ρ1 p.2 os (F.run p.1) else .stuck)
    split
    · cases F.run p.1 with
      | ok r outs => exact kp_putBacks os outs (kp_argSs e)
      | err c outs => exact kp_putBacks os outs (kp_argSs e)
      | stuck => trivial
    · trivial
theorem rk_callR {ρ : Rho} {F : Fn} {r : Res (List Val)} (h : RK ρ r) : RK ρ (callR F r) := by
  cases r with
  | ok os ρ1 => exact RK.of h rk_callG
  | err c ρ1 => exact h
  | stuck => trivial
theorem rk_callV {ρ : Rho} {tab : List (Str × Fn)} {r : Res (List Val)} {o : Option Slot} (h : RK ρ r) : RK ρ (callV tab r o) := by
  cases o with
  | none => trivial
  | some s =>
    cases s with
    | fn x =>
      show RK ρ (callW r (fnOf tab x))
      cases fnOf tab x with
      | none => trivial
      | some F => exact rk_callR h
    | _ => trivial
theorem rk_getA {ρ : Rho} {g : Rho → Res Val} {k : Rho → Res D} {r : Res Val} (hg : FK g) (hk : FK k) (h : RK ρ r) : RK ρ (getA g k r) := by
  cases r with
  | ok x ρ1 =>
    refine RK.of h ?_
    show RK ρ1 (if (((x.view ρ1).map isDic).getD false) = true then getB x k (g ρ1) else .stuck)
    split
    · have k1 := hg ρ1
      cases e : g ρ1 with
      | ok y ρ2 =>
        rw [e] at k1
        refine RK.of k1 ?_
        show RK ρ2 (getC x y (k ρ2))
        have k2 := hk ρ2
        cases e2 : k ρ2 with
        | ok z ρ3 => rw [e2] at k2; exact RK.of k2 (rk_opt _)
        | err c ρ3 => rw [e2] at k2; exact k2
        | stuck => trivial
      | err c ρ2 => rw [e] at k1; exact k1
      | stuck => trivial
    · trivial
  | err c ρ1 => exact h
  | stuck => trivial
theorem rk_cntA {ρ : Rho} {g : Rho → Res Val} {r : Res Val} (hg : FK g) (h : RK ρ r) : RK ρ (cntA g r) := by
  cases r with
  | ok x ρ1 =>
    refine RK.of h ?_
    show RK ρ1 (if (((x.view ρ1).map isLst).getD false) = true then op2b x cntF (g ρ1) else .stuck)
    split
    · have k1 := hg ρ1
      cases e : g ρ1 with
      | ok y ρ2 => rw [e] at k1; exact RK.of k1 (rk_opt _)
      | err c ρ2 => rw [e] at k1; exact k1
      | stuck => trivial
    · trivial
  | err c ρ1 => exact h
  | stuck => trivial
theorem rk_dspK {ρ : Rho} {g : Rho → Res Val} {r : Res D} (hg : FK g) (h : RK ρ r) : RK ρ (dspK g r) := by
  cases r with
  | ok k ρ1 =>
    refine RK.of h ?_
    show RK ρ1 (dspV k (kD (g ρ1)))
    have k1 := rk_kD (hg ρ1)
    cases e : kD (g ρ1) with
    | ok v ρ2 =>
      rw [e] at k1
      refine RK.of k1 ?_
      show RK ρ2 (dspP v ρ2 (dKy k))
      cases dKy k with
      | none => trivial
      | some ky => exact Kp.refl ρ2
    | err c ρ2 => trivial
    | stuck => trivial
  | err c ρ1 => trivial
  | stuck => trivial
theorem rk_bltR {ρ : Rho} {f : BF} {r : Res (List Val)} (h : RK ρ r) : RK ρ (bltR f r) := by
  cases r with
  | ok os ρ1 => exact RK.of h (rk_opt _)
  | err c ρ1 => exact h
  | stuck => trivial
theorem rk_toldR {ρ : Rho} {r : Res D} (h : RK ρ r) : RK ρ (toldR r) := by
  cases r with
  | ok d ρ1 =>
    show RK ρ (if isDic d = true then .stuck else _)
    split
    · trivial
    · exact h
  | err c ρ1 => exact h
  | stuck => exact h
theorem rk_tupR {ρ : Rho} {r : Res (List D)} (h : RK ρ r) : RK ρ (tupR r) := by
  cases r with
  | ok ds ρ1 =>
    show RK ρ (if leN ds.length sizeLine then _ else _)
    split
    · exact h
    · trivial
  | err c ρ1 => exact h
  | stuck => trivial
theorem rk_lstR {ρ : Rho} {r : Res (List D)} (h : RK ρ r) : RK ρ (lstR r) := by
  cases r with
  | ok ds ρ1 =>
    show RK ρ (if leN ds.length sizeLine then _ else _)
    split
    · exact h
    · trivial
  | err c ρ1 => exact h
  | stuck => trivial
theorem rk_argsD {ρ : Rho} {g : Rho → Res (List D)} {r : Res D} (hg : FK g) (h : RK ρ r) : RK ρ (argsD g r) := by
  cases r with
  | ok d ρ1 =>
    refine RK.of h ?_
    show RK ρ1 (consR d (g ρ1))
    have k := hg ρ1
    cases e : g ρ1 <;> (rw [e] at k; exact k)
  | err c ρ1 => exact h
  | stuck => trivial
theorem rk_argsS {ρ : Rho} {g : Rho → Res (List D)} {r : Res (List D)} (hg : FK g) (h : RK ρ r) : RK ρ (argsS g r) := by
  cases r with
  | ok d ρ1 =>
    refine RK.of h ?_
    show RK ρ1 (appR d (g ρ1))
    have k := hg ρ1
    cases e : g ρ1 <;> (rw [e] at k; exact k)
  | err c ρ1 => exact h
  | stuck => trivial
theorem rk_argsV {ρ : Rho} {g : Rho → Res (List Val)} {r : Res Val} (hg : FK g) (h : RK ρ r) : RK ρ (argsV g r) := by
  cases r with
  | ok d ρ1 =>
    refine RK.of h ?_
    show RK ρ1 (consV d (g ρ1))
    have k := hg ρ1
    cases e : g ρ1 <;> (rw [e] at k; exact k)
  | err c ρ1 => exact h
  | stuck => trivial
theorem rk_kI {ρ : Rho} {f : D → Option (List D)} {r : Res D} (h : RK ρ r) : RK ρ (kI f r) := by
  cases r with
  | ok d ρ1 => exact RK.of h (rk_opt _)
  | err c ρ1 => exact h
  | stuck => trivial
theorem rk_kI2 {ρ : Rho} {f : D → D → Option (List D)} {g : Rho → Res Val} {r : Res D} (hg : FK g) (h : RK ρ r) : RK ρ (kI2 f g r) := by
  cases r with
  | ok d ρ1 =>
    refine RK.of h ?_
    show RK ρ1 (kI2b f d (kD (g ρ1)))
    have k := rk_kD (hg ρ1)
    cases e : kD (g ρ1) with
    | ok y ρ2 => rw [e] at k; exact RK.of k (rk_opt _)
    | err c ρ2 => rw [e] at k; exact k
    | stuck => trivial
  | err c ρ1 => exact h
  | stuck => trivial
mutual
theorem kp_bindT : ∀ (t : Tgt) (d : D) (ρ ρ' : Rho), bindT t d ρ = some ρ' → Kp ρ ρ'
  | .nm i, d, ρ, ρ', h => by
    unfold bindT at h
    split at h
    · split at h
      · cases h
      · cases h; exact Kp.dat
    · cases h
  | .tp t, .tuple ds, ρ, ρ', h => kp_bindTs t ds ρ ρ' (by unfold bindT at h; exact h)
  | .tp t, .list ds, ρ, ρ', h => kp_bindTs t ds ρ ρ' (by unfold bindT at h; exact h)
  | .tp t, .none, ρ, ρ', h => by unfold bindT at h; cases h
  | .tp t, .bool _, ρ, ρ', h => by unfold bindT at h; cases h
  | .tp t, .int _, ρ, ρ', h => by unfold bindT at h; cases h
  | .tp t, .str _, ρ, ρ', h => by unfold bindT at h; cases h
  | .tp t, .dict _, ρ, ρ', h => by unfold bindT at h; cases h
  | .nil, d, ρ, ρ', h => by unfold bindT at h; cases h
  | .cons _ _, d, ρ, ρ', h => by unfold bindT at h; cases h
theorem kp_bindTs : ∀ (t : Tgt) (ds : List D) (ρ ρ' : Rho), bindT.bindTs t ds ρ = some ρ' → Kp ρ ρ'
  | .nil, [], ρ, ρ', h => by unfold bindT.bindTs at h; cases h; exact Kp.refl _
  | .nil, _ :: _, ρ, ρ', h => by unfold bindT.bindTs at h; cases h
  | .cons t u, d :: ds, ρ, ρ', h => by
    unfold bindT.bindTs at h
    cases e : bindT t d ρ with
    | none => rw [e] at h; cases h
    | some ρ1 =>
      rw [e] at h
      exact (kp_bindT t d ρ ρ1 e).trans (kp_bindTs u ds ρ1 ρ' h)
  | .cons _ _, [], ρ, ρ', h => by unfold bindT.bindTs at h; cases h
  | .nm _, ds, ρ, ρ', h => by unfold bindT.bindTs at h; cases ds <;> cases h
  | .tp _, ds, ρ, ρ', h => by unfold bindT.bindTs at h; cases ds <;> cases h
end
theorem kp_wip (ρ : Rho) : ∀ l : List Nat, Kp ρ (wip ρ l)
  | [] => Kp.refl ρ
  | _ :: l => (kp_wip ρ l).trans Kp.un
theorem kp_restore {ρ0 : Rho} : ∀ (l : List Nat) {ρ : Rho}, Kp ρ0 ρ → Kp ρ0 (restore ρ0 ρ l)
  | [], _, h => h
  | i :: l, ρ, h => by
    refine kp_restore l ⟨(List.length_set ..).trans h.len, fun j o e => ?_⟩
    by_cases hj : i = j
    · subst hj
      by_cases hi : i < ρ.length
      · rw [List.getElem?_set_self hi] at e
        cases e0 : ρ0[i]? with
        | none => rw [e0] at e; cases e
        | some s => rw [e0] at e; exact ⟨o, by rw [← Option.some.inj e]; rfl⟩
      · rw [List.getElem?_eq_none (by simpa using hi)] at e
        cases e
    · rw [List.getElem?_set_ne hj] at e
      exact h.io j o e
theorem rk_lcStep {tg : Tgt} {own : List Nat} {cond elt : Rho → Res Val} (hc : FK cond) (he : FK elt) (x : D) : FK (lcStep tg own cond elt x) := fun ρ => by
  show RK ρ (lcGo cond elt (bindT tg x (wip ρ own)))
  cases e : bindT tg x (wip ρ own) with
  | none => trivial
  | some ρ1 =>
    refine RK.of ((kp_wip ρ own).trans (kp_bindT _ _ _ _ e)) ?_
    show RK ρ1 (lcIf elt (kB (cond ρ1)))
    have k := rk_kB (hc ρ1)
    cases e2 : kB (cond ρ1) with
    | ok b ρ2 =>
      rw [e2] at k
      cases b with
      | false => exact k
      | true =>
        refine RK.of k ?_
        show RK ρ2 (lcEnd (kD (elt ρ2)))
        have k2 := rk_kD (he ρ2)
        cases e3 : kD (elt ρ2) with
        | ok d ρ3 => rw [e3] at k2; exact k2
        | err c ρ3 => trivial
        | stuck => trivial
    | err c ρ2 => trivial
    | stuck => trivial
theorem rk_lcL {f : D → Rho → Res (Option D)} (hf : ∀ x, FK (f x)) : ∀ xs, FK (lcL f xs)
  | [], ρ => Kp.refl ρ
  | x :: xs, ρ => by
    show RK ρ (lcK (lcL f xs) (f x ρ))
    have k := hf x ρ
    cases e : f x ρ with
    | ok o ρ1 =>
      rw [e] at k
      refine RK.of k ?_
      have ih := rk_lcL hf xs ρ1
      cases o with
      | none => exact ih
      | some d =>
        show RK ρ1 (consR d (lcL f xs ρ1))
        cases e2 : lcL f xs ρ1 <;> (rw [e2] at ih; exact ih)
    | err c ρ1 => rw [e] at k; exact k
    | stuck => trivial
theorem rk_lcAll {ρ : Rho} {f : D → Rho → Res (Option D)} {own : List Nat} {r : Res (List D)} (hf : ∀ x, FK (f x)) (h : RK ρ r) : RK ρ (lcAll f own r) := by
  cases r with
  | ok xs ρ1 =>
    refine RK.of h ?_
    show RK ρ1 (if leN xs.length sizeLine then lcFin ρ1 own (lcL f xs ρ1) else .stuck)
    by_cases hz : leN xs.length sizeLine
    · rw [if_pos hz]
      have k := rk_lcL hf xs ρ1
      cases e : lcL f xs ρ1 with
      | ok ds ρ2 => rw [e] at k; exact kp_restore own k
      | err c ρ2 => rw [e] at k; exact k
      | stuck => trivial
    · rw [if_neg hz]; trivial
  | err c ρ1 => exact h
  | stuck => trivial
theorem rk_dcStep {tg : Tgt} {own : List Nat} {cond key elt : Rho → Res Val} (hc : FK cond) (hk : FK key) (he : FK elt) (x : D) : FK (dcStep tg own cond key elt x) := fun ρ => by
  show RK ρ (dcGo cond key elt (bindT tg x (wip ρ own)))
  cases e : bindT tg x (wip ρ own) with
  | none => trivial
  | some ρ1 =>
    refine RK.of ((kp_wip ρ own).trans (kp_bindT _ _ _ _ e)) ?_
    show RK ρ1 (dcIf key elt (kB (cond ρ1)))
    have k := rk_kB (hc ρ1)
    cases e2 : kB (cond ρ1) with
    | ok b ρ2 =>
      rw [e2] at k
      cases b with
      | false => exact k
      | true =>
        refine RK.of k ?_
        show RK ρ2 (dcE elt (kD (key ρ2)))
        have k2 := rk_kD (hk ρ2)
        cases e3 : kD (key ρ2) with
        | ok d ρ3 =>
          rw [e3] at k2
          refine RK.of k2 ?_
          show RK ρ3 (dcV d (kD (elt ρ3)))
          have k3 := rk_kD (he ρ3)
          cases e4 : kD (elt ρ3) with
          | ok v ρ4 => rw [e4] at k3; exact k3
          | err c ρ4 => trivial
          | stuck => trivial
        | err c ρ3 => trivial
        | stuck => trivial
    | err c ρ2 => trivial
    | stuck => trivial
theorem rk_dcL {f : D → Rho → Res (Option (D × D))} (hf : ∀ x, FK (f x)) : ∀ xs m, FK (dcL f xs m)
  | [], m, ρ => Kp.refl ρ
  | x :: xs, m, ρ => by
    show RK ρ (dcK (dcL f xs) m (f x ρ))
    have k := hf x ρ
    cases e : f x ρ with
    | ok o ρ1 =>
      rw [e] at k
      refine RK.of k ?_
      cases o with
      | none => exact rk_dcL hf xs m ρ1
      | some d =>
        show RK ρ1 (dcP (dcL f xs) m d.2 ρ1 (dKy d.1))
        cases dKy d.1 with
        | none => trivial
        | some ky => exact rk_dcL hf xs _ ρ1
    | err c ρ1 => trivial
    | stuck => trivial
theorem rk_dcAll {ρ : Rho} {f : D → Rho → Res (Option (D × D))} {own : List Nat} {r : Res (List D)} (hf : ∀ x, FK (f x)) (h : RK ρ r) : RK ρ (dcAll f own r) := by
  cases r with
  | ok xs ρ1 =>
    refine RK.of h ?_
    show RK ρ1 (if ltN xs.length sizeLine then dcFin ρ1 own (dcL f xs [] ρ1) else .stuck)
    by_cases hz : ltN xs.length sizeLine
    · rw [if_pos hz]
      have k := rk_dcL hf xs [] ρ1
      cases e : dcL f xs [] ρ1 with
      | ok ds ρ2 => rw [e] at k; exact kp_restore own k
      | err c ρ2 => trivial
      | stuck => trivial
    · rw [if_neg hz]; trivial
  | err c ρ1 => exact h
  | stuck => trivial
theorem rk_var {i : Nat} {ρ : Rho} {o : Option Slot} : RK ρ (varR i ρ o) := by
  cases o with
  | none => trivial
  | some s => cases s <;> first | trivial | exact Kp.refl ρ
theorem rk_appR {ρ : Rho} {xs : List D} {r : Res (List D)} (h : RK ρ r) : RK ρ (appR xs r) := by
  cases r <;> exact h
theorem rk_lc2Step {tg : Tgt} {own : List Nat} {cond : Rho → Res Val} {g : Rho → Res (List D)} (hc : FK cond) (hg : FK g) (x : D) : FK (lc2Step tg own cond g x) := fun ρ => by
  show RK ρ (lc2Go cond g (bindT tg x (wip ρ own)))
  have kw : Kp ρ (wip ρ own) := kp_wip ρ own
  cases e : bindT tg x (wip ρ own) with
  | none => trivial
  | some ρ1 =>
    have k1 := kw.trans (kp_bindT _ _ _ _ e)
    show RK ρ (lc2If g (kB (cond ρ1)))
    have k2 := rk_kB (hc ρ1)
    revert k2
    cases kB (cond ρ1) with
    | stuck => exact fun _ => trivial
    | err c ρ2 => exact fun _ => trivial
    | ok b ρ2 =>
      intro k2
      cases b with
      | true => exact RK.of (k1.trans k2) (hg ρ2)
      | false => exact k1.trans k2
theorem rk_lc2L {f : D → Rho → Res (List D)} (hf : ∀ x, FK (f x)) : ∀ xs, FK (lc2L f xs)
  | [], ρ => Kp.refl ρ
  | x :: xs, ρ => by
    show RK ρ (lc2K (lc2L f xs) (f x ρ))
    have k := hf x ρ
    revert k
    cases f x ρ with
    | stuck => exact fun _ => trivial
    | err c ρ1 => exact id
    | ok ds ρ1 =>
      intro k
      exact RK.of k (rk_appR (rk_lc2L hf xs ρ1))
theorem rk_lc2All {ρ : Rho} {f : D → Rho → Res (List D)} {own : List Nat} {r : Res (List D)} (hf : ∀ x, FK (f x)) (h : RK ρ r) : RK ρ (lc2All f own r) := by
  cases r with
  | stuck => trivial
  | err c ρ1 => exact h
  | ok xs ρ1 =>
    show RK ρ (lc2Fin ρ1 own (lc2L f xs ρ1))
    refine RK.of h ?_
    have k := rk_lc2L hf xs ρ1
    cases e : lc2L f xs ρ1 with
    | stuck => trivial
    | err c ρ2 => trivial
    | ok ds ρ2 =>
      rw [e] at k
      show RK ρ1 (if leN ds.length sizeLine then _ else _)
      by_cases hz : leN ds.length sizeLine
      · rw [if_pos hz]; exact kp_restore own k
      · rw [if_neg hz]; trivial
theorem rk_lc2In {g : Rho → Res (List D)} {f : D → Rho → Res (Option D)} (hg : FK g) (hf : ∀ x, FK (f x)) : FK (fun ρ => lc2In f (g ρ)) := fun ρ => by
  have k := hg ρ
  revert k
  show RK ρ (g ρ) → RK ρ (lc2In f (g ρ))
  cases g ρ with
  | stuck => exact fun _ => trivial
  | err c ρ1 => exact fun _ => trivial
  | ok ds ρ1 => exact fun k => RK.of k (rk_lcL hf ds ρ1)
theorem rk_ev : ∀ c : CE, FK (evP c) ∧ FK (evA c) ∧ FK (evC c) ∧ FK (evI c) ∧ FK (evQ c) := by
  intro c
  induction c with
  | var i => exact ⟨fun ρ => rk_var, fun _ => trivial, fun _ => trivial, fun _ => trivial, fun _ => trivial⟩
  | lit d => exact ⟨fun ρ => Kp.refl ρ, fun _ => trivial, fun _ => trivial, fun _ => trivial, fun _ => trivial⟩
  | glob x d => exact ⟨fun ρ => Kp.refl ρ, fun _ => trivial, fun _ => trivial, fun _ => trivial, fun _ => trivial⟩
  | nil => exact ⟨fun _ => trivial, fun ρ => Kp.refl ρ, fun ρ => Kp.refl ρ, fun _ => trivial, fun ρ => Kp.refl ρ⟩
  | cons a b ha hb => exact ⟨fun _ => trivial, fun ρ => rk_argsD hb.2.1 (rk_kD (ha.1 ρ)), fun ρ => rk_argsV hb.2.2.1 (ha.1 ρ), fun _ => trivial, fun ρ => rk_kO (rk_kD (ha.1 ρ))⟩
  | star a b ha hb => exact ⟨fun _ => trivial, fun ρ => rk_argsS hb.2.1 (rk_kI (rk_kD (ha.1 ρ))), fun _ => trivial, fun _ => trivial, fun _ => trivial⟩
  | tup a ha => exact ⟨fun ρ => rk_tupR (ha.2.1 ρ), fun _ => trivial, fun _ => trivial, fun _ => trivial, fun _ => trivial⟩
  | lst a ha => exact ⟨fun ρ => rk_lstR (ha.2.1 ρ), fun _ => trivial, fun _ => trivial, fun _ => trivial, fun _ => trivial⟩
  | bin op a b ha hb => exact ⟨fun ρ => rk_op2 hb.1 (ha.1 ρ), fun _ => trivial, fun _ => trivial, fun _ => trivial, fun _ => trivial⟩
  | neg a ha => exact ⟨fun ρ => rk_op1 (ha.1 ρ), fun _ => trivial, fun _ => trivial, fun _ => trivial, fun _ => trivial⟩
  | cmp op a b ha hb => exact ⟨fun ρ => rk_op2 hb.1 (ha.1 ρ), fun _ => trivial, fun _ => trivial, fun _ => trivial, fun _ => trivial⟩
  | chn o1 o2 a b c ha hb hc => exact ⟨fun ρ => rk_chn hb.1 hc.1 (ha.1 ρ), fun _ => trivial, fun _ => trivial, fun _ => trivial, fun _ => trivial⟩
  | chn3 o1 o2 o3 a b c d ha hb hc hd => exact ⟨fun ρ => rk_chn3 hb.1 hc.1 hd.1 (ha.1 ρ), fun _ => trivial, fun _ => trivial, fun _ => trivial, fun _ => trivial⟩
  | and_ a b ha hb => exact ⟨fun ρ => rk_iteR hb.1 fk_vB (rk_kB (ha.1 ρ)), fun _ => trivial, fun _ => trivial, fun _ => trivial, fun _ => trivial⟩
  | or_ a b ha hb => exact ⟨fun ρ => rk_iteR fk_vB hb.1 (rk_kB (ha.1 ρ)), fun _ => trivial, fun _ => trivial, fun _ => trivial, fun _ => trivial⟩
  | not_ a ha => exact ⟨fun ρ => rk_iteR fk_vB fk_vB (rk_kB (ha.1 ρ)), fun _ => trivial, fun _ => trivial, fun _ => trivial, fun _ => trivial⟩
  | ife t a b ht ha hb => exact ⟨fun ρ => rk_iteR ha.1 hb.1 (rk_kB (ht.1 ρ)), fun _ => trivial, fun _ => trivial, fun _ => trivial, fun _ => trivial⟩
  | idx a b ha hb => exact ⟨fun ρ => rk_op2 hb.1 (ha.1 ρ), fun _ => trivial, fun _ => trivial, fun _ => trivial, fun _ => trivial⟩
  | slc a b c ha hb hc => exact ⟨fun ρ => rk_slc hb.2.2.2.2 hc.2.2.2.2 (ha.1 ρ), fun _ => trivial, fun _ => trivial, fun _ => trivial, fun _ => trivial⟩
  | call F a ha => exact ⟨fun ρ => rk_callR (ha.2.2.1 ρ), fun _ => trivial, fun _ => trivial, fun _ => trivial, fun _ => trivial⟩
  | blt f a ha => exact ⟨fun ρ => rk_bltR (ha.2.2.1 ρ), fun _ => trivial, fun _ => trivial, fun _ => trivial, fun _ => trivial⟩
  | lc2 tg it c tg1 it1 c1 e own own1 hi hc hi1 hc1 he => exact ⟨fun ρ => rk_lc2All (fun x => rk_lc2Step hc.1 (rk_lc2In hi1.2.2.2.1 fun x => rk_lcStep hc1.1 he.1 x) x) (hi.2.2.2.1 ρ), fun _ => trivial, fun _ => trivial, fun _ => trivial, fun _ => trivial⟩
  | lc tg it c e own hi hc he => exact ⟨fun ρ => rk_lcAll (fun x => rk_lcStep hc.1 he.1 x) (hi.2.2.2.1 ρ), fun _ => trivial, fun _ => trivial, fun _ => trivial, fun _ => trivial⟩
  | dcp tg it c key e own hi hc hk he => exact ⟨fun ρ => rk_dcAll (fun x => rk_dcStep hc.1 hk.1 he.1 x) (hi.2.2.2.1 ρ), fun _ => trivial, fun _ => trivial, fun _ => trivial, fun _ => trivial⟩
  | dnew => exact ⟨fun ρ => Kp.refl ρ, fun _ => trivial, fun _ => trivial, fun _ => trivial, fun _ => trivial⟩
  | dsp k v hk hv => exact ⟨fun ρ => rk_dspK hv.1 (rk_kD (hk.1 ρ)), fun _ => trivial, fun _ => trivial, fun _ => trivial, fun _ => trivial⟩
  | cnt a k ha hk => exact ⟨fun ρ => rk_cntA hk.1 (ha.1 ρ), fun _ => trivial, fun _ => trivial, fun _ => trivial, fun _ => trivial⟩
  | get1 a k ha hk => exact ⟨fun ρ => rk_getA hk.1 (fun ρ => Kp.refl ρ) (ha.1 ρ), fun _ => trivial, fun _ => trivial, fun _ => trivial, fun _ => trivial⟩
  | get2 a k e ha hk he => exact ⟨fun ρ => rk_getA hk.1 (fun ρ => rk_kD (he.1 ρ)) (ha.1 ρ), fun _ => trivial, fun _ => trivial, fun _ => trivial, fun _ => trivial⟩
  | callv i tab a ha => exact ⟨fun ρ => rk_callV (ha.2.2.1 ρ), fun _ => trivial, fun _ => trivial, fun _ => trivial, fun _ => trivial⟩
  | rng3 a b ha hb => exact ⟨fun _ => trivial, fun _ => trivial, fun _ => trivial, fun ρ => rk_kI2 hb.1 (rk_kD (ha.1 ρ)), fun _ => trivial⟩
  | told a ha => exact ⟨fun ρ => rk_toldR (rk_kD (ha.1 ρ)), fun _ => trivial, fun _ => trivial, fun _ => trivial, fun _ => trivial⟩
  | over a ha => exact ⟨fun _ => trivial, fun _ => trivial, fun _ => trivial, fun ρ => rk_kI (rk_kD (ha.1 ρ)), fun _ => trivial⟩
  | rng1 a ha => exact ⟨fun _ => trivial, fun _ => trivial, fun _ => trivial, fun ρ => rk_kI (rk_kD (ha.1 ρ)), fun _ => trivial⟩
  | rng2 a b ha hb => exact ⟨fun _ => trivial, fun _ => trivial, fun _ => trivial, fun ρ => rk_kI2 hb.1 (rk_kD (ha.1 ρ)), fun _ => trivial⟩
  | enum a ha => exact ⟨fun _ => trivial, fun _ => trivial, fun _ => trivial, fun ρ => rk_kI (rk_kD (ha.1 ρ)), fun _ => trivial⟩
  | zip a b ha hb => exact ⟨fun _ => trivial, fun _ => trivial, fun _ => trivial, fun ρ => rk_kI2 hb.1 (rk_kD (ha.1 ρ)), fun _ => trivial⟩
  | rev a ha => exact ⟨fun _ => trivial, fun _ => trivial, fun _ => trivial, fun ρ => rk_kI (rk_kD (ha.1 ρ)), fun _ => trivial⟩
theorem ok_seqO {ρ : Rho} {f : Rho → Out} {o : Out} (hf : ∀ ρ, OK ρ (f ρ)) (h : OK ρ o) : OK ρ (seqO f o) := by
  cases o with
  | next ρ1 => exact OK.of h (hf ρ1)
  | _ => exact h
theorem ok_turnO {ρ : Rho} {f : Rho → Out} {o : Out} (hf : ∀ ρ, OK ρ (f ρ)) (h : OK ρ o) : OK ρ (turnO f o) := by
  cases o with
  | next ρ1 => exact OK.of h (hf ρ1)
  | cont ρ1 => exact OK.of h (hf ρ1)
  | _ => exact h
theorem ok_forStep {tg : Tgt} {b : Rho → Out} (hb : ∀ ρ, OK ρ (b ρ)) (x : D) (ρ : Rho) : OK ρ (forStep tg b x ρ) := by
  show OK ρ (goO b (bindT tg x ρ))
  cases e : bindT tg x ρ with
  | none => trivial
  | some ρ1 => exact OK.of (kp_bindT _ _ _ _ e) (hb ρ1)
theorem ok_forL {f : D → Rho → Out} (hf : ∀ x ρ, OK ρ (f x ρ)) : ∀ (xs : List D) (ρ : Rho), OK ρ (forL f xs ρ)
  | [], ρ => Kp.refl ρ
  | x :: xs, ρ => ok_turnO (ok_forL hf xs) (hf x ρ)
theorem ok_iteO {ρ : Rho} {f g : Rho → Out} {r : Res Bool} (hf : ∀ ρ, OK ρ (f ρ)) (hg : ∀ ρ, OK ρ (g ρ)) (h : RK ρ r) : OK ρ (iteO f g r) := by
  cases r with
  | ok b ρ1 =>
    cases b with
    | true => exact OK.of h (hf ρ1)
    | false => exact OK.of h (hg ρ1)
  | err c ρ1 => exact h
  | stuck => trivial
theorem ok_whlL {c : Rho → Res Val} {b : Rho → Out} (hc : FK c) (hb : ∀ ρ, OK ρ (b ρ)) : ∀ (n : Nat) (ρ : Rho), OK ρ (whlL c b n ρ)
  | 0, _ => trivial
  | n + 1, ρ => ok_iteO (fun ρ1 => ok_turnO (ok_whlL hc hb n) (hb ρ1)) (fun ρ1 => Kp.refl ρ1) (rk_kB (hc ρ))
theorem kp_store {i : Nat} {s : Slot} {ρ : Rho} {o : Option Slot} : OK ρ (storeAt i s ρ o) := by
  cases o with
  | none => trivial
  | some t =>
    show OK ρ (if isIo t = true then .stuck else storeS i ρ s)
    split
    · trivial
    · cases s <;> first | trivial | exact Kp.dat | exact Kp.own
theorem ok_chg {a : Nat} {ρ : Rho} {f : O → Option O} : OK ρ (chg a ρ f ρ[a]?) := by
  cases e : ρ[a]? with
  | none => trivial
  | some s =>
    cases s with
    | own o =>
      show OK ρ (toO ((f o).map fun o' => ρ.set a (.own o')))
      cases f o with
      | none => trivial
      | some o' => exact Kp.own
    | io o =>
      show OK ρ (toO ((f o).map fun o' => ρ.set a (.io o')))
      cases f o with
      | none => trivial
      | some o' => exact Kp.set (fun _ _ => ⟨o, e⟩)
    | _ => trivial
theorem ok_chgO {ρ : Rho} {a : Nat} {f : D → O → Option O} {r : Res D} (h : RK ρ r) : OK ρ (chgO a f r) := by
  cases r with
  | ok d ρ1 => exact OK.of h ok_chg
  | err c ρ1 => exact h
  | stuck => trivial
theorem ok_gate {ρ : Rho} {b : Bool} {o : Out} (h : OK ρ o) : OK ρ (gate b o) := by
  cases b with
  | true => exact h
  | false => trivial
theorem ok_setA {ρ : Rho} {a : Nat} {f : D → D → O → Option O} {g : Rho → Res Val} {r : Res D} (hg : FK g) (h : RK ρ r) : OK ρ (setA f a g r) := by
  cases r with
  | ok d ρ1 =>
    refine OK.of h ?_
    show OK ρ1 (setB f a d (kD (g ρ1)))
    have k2 := rk_kD (hg ρ1)
    revert k2
    cases kD (g ρ1) with
    | ok t ρ2 => exact fun k2 => OK.of k2 ok_chg
    | err c ρ1 => exact id
    | stuck => exact id
  | err c ρ1 => exact h
  | stuck => trivial
theorem ok_killO : ∀ (is : List Nat) (ρ : Rho), OK ρ (killO is ρ)
  | [], ρ => Kp.refl ρ
  | i :: r, ρ => by
    show OK ρ (killA (killO r) i ρ ρ[i]?)
    cases ρ[i]? with
    | none => trivial
    | some s =>
      show OK ρ (if isIo s = true then .stuck else killO r (ρ.set i .un))
      by_cases h : isIo s = true
      · rw [if_pos h]; trivial
      · rw [if_neg h]; exact OK.of Kp.un (ok_killO r _)
theorem kp_frz1 (i : Nat) (ρ : Rho) (s : Option Slot) : Kp ρ (frz1 i ρ s) := by
  cases s with
  | none => exact Kp.refl ρ
  | some s =>
    cases s with
    | own o => exact Kp.dat
    | _ => exact Kp.refl ρ
theorem kp_frzO : ∀ (is : List Nat) (ρ : Rho), Kp ρ (frzO is ρ)
  | [], ρ => Kp.refl ρ
  | i :: r, ρ => (kp_frz1 i ρ ρ[i]?).trans (kp_frzO r _)
theorem ok_ev : ∀ (c : CS) (ρ : Rho), OK ρ (evS c ρ) := by
  intro c
  induction c with
  | done => exact fun ρ => Kp.refl ρ
  | seq s r hs hr => exact fun ρ => ok_seqO hr (hs ρ)
  | set i e =>
    intro ρ
    have k := rk_kS ((rk_ev e).1 ρ)
    show OK ρ (setO i (kS (evP e ρ)))
    revert k
    cases kS (evP e ρ) with
    | ok s ρ1 => exact fun k => OK.of k kp_store
    | err c ρ1 => exact id
    | stuck => exact id
  | unp tg e =>
    intro ρ
    have k := rk_kD ((rk_ev e).1 ρ)
    show OK ρ (unpO tg (kD (evP e ρ)))
    revert k
    cases kD (evP e ρ) with
    | ok s ρ1 =>
      intro k
      refine OK.of k ?_
      show OK ρ1 (toO (bindT tg s ρ1))
      cases e2 : bindT tg s ρ1 with
      | none => trivial
      | some ρ2 => exact kp_bindT _ _ _ _ e2
    | err c ρ1 => exact id
    | stuck => exact id
  | seti a i e => exact fun ρ => ok_gate (ok_setA (rk_ev i).1 (rk_kD ((rk_ev e).1 ρ)))
  | setk a i e => exact fun ρ => ok_gate (ok_setA (rk_ev i).1 (rk_kD ((rk_ev e).1 ρ)))
  | app a e => exact fun ρ => ok_gate (ok_chgO (rk_kD ((rk_ev e).1 ρ)))
  | ext a e => exact fun ρ => ok_gate (ok_chgO (rk_kD ((rk_ev e).1 ρ)))
  | aug i op e =>
    intro ρ
    have k := rk_kD ((rk_ev e).1 ρ)
    refine ok_gate ?_
    revert k
    cases kD (evP e ρ) with
    | ok d ρ1 =>
      intro k
      refine OK.of k ?_
      show OK ρ1 (augF op d i ρ1 ρ1[i]?)
      cases ρ1[i]? with
      | none => trivial
      | some s =>
        cases s with
        | dat x =>
          show OK ρ1 (toO ((augX op x d).map fun z => ρ1.set i (.dat (.int z))))
          cases augX op x d with
          | none => trivial
          | some t => exact Kp.dat
        | _ => trivial
    | err c ρ1 => exact id
    | stuck => exact id
  | ex e =>
    intro ρ
    have k := (rk_ev e).1 ρ
    show OK ρ (dropO (evP e ρ))
    revert k
    cases evP e ρ <;> exact id
  | ret e =>
    intro ρ
    have k := rk_kS ((rk_ev e).1 ρ)
    show OK ρ (retO (kS (evP e ρ)))
    revert k
    cases kS (evP e ρ) <;> exact id
  | ite c t f ht hf => exact fun ρ => ok_iteO ht hf (rk_kB ((rk_ev c).1 ρ))
  | whl n c b hb => exact fun ρ => ok_whlL (rk_ev c).1 hb n ρ
  | for_ tg it b hb =>
    intro ρ
    have k := (rk_ev it).2.2.2.1 ρ
    show OK ρ (forO (forStep tg (evS b)) (evI it ρ))
    revert k
    cases evI it ρ with
    | ok xs ρ1 => exact fun k => OK.of k (ok_forL (ok_forStep hb) xs ρ1)
    | err c ρ1 => exact id
    | stuck => exact id
  | forF i xs b hb =>
    intro ρ
    show OK ρ (forFL i (evS b) xs ρ)
    induction xs generalizing ρ with
    | nil => exact Kp.refl ρ
    | cons x xs ih =>
      refine ok_turnO ih ?_
      cases ρ[i]? with
      | none => trivial
      | some s =>
        show OK ρ (if isIo s = true then .stuck else evS b (ρ.set i (.fn x)))
        split
        · trivial
        · exact OK.of (Kp.set (s := .fn x) (fun o z => by cases z)) (hb _)
  | augi a i op e =>
    intro ρ
    refine ok_gate ?_
    have k := rk_kD ((rk_ev i).1 ρ)
    revert k
    cases kD (evP i ρ) with
    | ok d ρ1 => exact fun k => OK.of k ok_chg
    | err c ρ1 => exact id
    | stuck => exact id
  | raise c => exact fun ρ => Kp.refl ρ
  | kill is => exact fun ρ => ok_killO is ρ
  | frzs is => exact fun ρ => kp_frzO is ρ
  | fork i c e d x a b ha hb =>
    intro ρ
    have k := (rk_ev c).1 ρ
    show OK ρ (forkO i (evP e) (evP d) (evP x) (evS a) (evS b) (evP c ρ))
    revert k
    cases evP c ρ with
    | ok v ρ1 =>
      intro k
      refine OK.of k ?_
      cases v with
      | ref j => trivial
      | tmp s =>
        cases s with
        | own o =>
          cases o with
          | dic _ => trivial
          | lst xs =>
            show OK ρ1 (forkS i (evP e) (evP d) (evP x) (evS a) (evS b) xs ρ1 ρ1[i]?)
            cases ρ1[i]? with
            | none => trivial
            | some t =>
              show OK ρ1 (if isIo t = true then .stuck else forkA (evP d) (evP x) (evS a (ρ1.set i (.dat (toldL xs)))) (evS b (ρ1.set i .un)) xs (kB (evP e ((msk ρ1).set i (.dat (toldL xs))))))
              have oa : OK ρ1 (evS a (ρ1.set i (.dat (toldL xs)))) := OK.of Kp.dat (ha _)
              have ob : OK ρ1 (evS b (ρ1.set i .un)) := OK.of Kp.un (hb _)
              split
              · trivial
              · generalize evS a (ρ1.set i (.dat (toldL xs))) = A at *
                generalize evS b (ρ1.set i .un) = B at *
                cases kB (evP e ((msk ρ1).set i (.dat (toldL xs)))) with
                | ok t ρ2 =>
                  cases t with
                  | true => trivial
                  | false =>
                    show OK ρ1 (forkB (evP x) A B xs (kB (evP d ρ2)))
                    cases kB (evP d ρ2) with
                    | ok u ρ3 =>
                      cases u with
                      | true => exact oa
                      | false =>
                        show OK ρ1 (match kD (evP x ρ3) with
                          | .ok _ _ => if ltN xs.length sizeLine then B else .stuck
                          | _ => .stuck)
                        cases kD (evP x ρ3) with
                        | ok z ρ4 =>
                          show OK ρ1 (if ltN xs.length sizeLine then B else .stuck)
                          split
                          · exact ob
                          · trivial
                        | _ => trivial
                    | _ => trivial
                | _ => trivial
        | dat v =>
          show OK ρ1 (forkD i (evP e) (evP d) (evS a) v ρ1 ρ1[i]?)
          cases ρ1[i]? with
          | none => trivial
          | some t =>
            show OK ρ1 (if isIo t = true then .stuck else if isDic v = true then .stuck else forkE (evP d) (evS a) (kB (evP e (ρ1.set i (.dat (.tuple [.str "told", v]))))))
            split
            · trivial
            · split
              · trivial
              · refine OK.of (Kp.dat (i := i) (d := .tuple [.str "told", v])) ?_
                have k2 := rk_kB ((rk_ev e).1 (ρ1.set i (.dat (.tuple [.str "told", v]))))
                revert k2
                generalize ρ1.set i (.dat (.tuple [.str "told", v])) = ρt
                cases kB (evP e ρt) with
                | ok b1 ρ2 =>
                  intro k2
                  cases b1 with
                  | true => trivial
                  | false =>
                    refine OK.of k2 ?_
                    show OK ρ2 (forkF (evS a) (kB (evP d ρ2)))
                    have k3 := rk_kB ((rk_ev d).1 ρ2)
                    revert k3
                    cases kB (evP d ρ2) with
                    | ok b2 ρ3 =>
                      intro k3
                      cases b2 with
                      | true => exact OK.of k3 (ha ρ3)
                      | false => trivial
                    | _ => intro _; trivial
                | _ => intro _; trivial
        | _ => trivial
    | err c ρ1 => intro _; trivial
    | stuck => exact id
  | pass => exact fun ρ => Kp.refl ρ
  | brk => exact fun ρ => Kp.refl ρ
  | cont => exact fun ρ => Kp.refl ρ
@[simp] def tsl : Tgt → List Nat
  | .nm i => [i]
  | .nil => []
  | .cons t u => tsl t ++ tsl u
  | .tp t => tsl t
@[simp] def tlen : Tgt → Nat
  | .cons _ u => tlen u + 1
  | _ => 0
theorem tlen_of : ∀ {t : Tgt} {ds : List D} {ρ ρ' : Rho}, bindT.bindTs t ds ρ = some ρ' → ds.length = tlen t
  | .nil, [], _, _, _ => rfl
  | .nil, _ :: _, _, _, h => by unfold bindT.bindTs at h; cases h
  | .cons t u, d :: ds, ρ, ρ', h => by
    unfold bindT.bindTs at h
    cases e : bindT t d ρ with
    | none => rw [e] at h; cases h
    | some ρ1 =>
      rw [e] at h
      have := tlen_of (t := u) (ds := ds) h
      simp [this]
  | .cons _ _, [], _, _, h => by unfold bindT.bindTs at h; cases h
  | .nm _, ds, _, _, h => by unfold bindT.bindTs at h; cases ds <;> cases h
  | .tp _, ds, _, _, h => by unfold bindT.bindTs at h; cases ds <;> cases h
end
end Ell
set_option autoImplicit false
/-! Ell1: data in the abstract heap; names with what they hold. -/
namespace Ell
open PySem PySem.Spec PyProof.Rows L2
open Evl (Ex)
/-! ### data at a value -/
mutual
inductive Is (K : PySem.W.Frag) (G : Hp) : V → D → Prop
  | non : Is K G .non .none
  | bl (b : Bool) : Is K G (.bl b) (.bool b)
  | int (i : Int) : Is K G (.int i) (.int i)
  | str (x : Str) : Is K G (.str x) (.str x)
  | lst {a : Addr} {xs : List V} {ds : List D} : G a = some (.lst xs) → Iss K G xs ds → Is K G (.ref a) (.list ds)
  | tup {a : Addr} {xs : List V} {ds : List D} : SqT K G a xs → Iss K G xs ds → Is K G (.ref a) (.tuple ds)
  | dic {a : Addr} {od : Obj} {ks : List Key} {xs : List V} {ds : List D} : G a = some (.frz od (.dK (ks.zip xs))) → ks.length = xs.length → Iss K G xs ds → Is K G (.ref a) (.dict ((ks.map kyD).zip ds))
inductive Iss (K : PySem.W.Frag) (G : Hp) : List V → List D → Prop
  | nil : Iss K G [] []
  | cons {v : V} {vs : List V} {d : D} {ds : List D} : Is K G v d → Iss K G vs ds → Iss K G (v :: vs) (d :: ds)
end
section
variable {K : PySem.W.Frag} {G G' H H' : Hp} {v w : V} {vs ws : List V} {d e : D} {ds es : List D} {a p : Addr}
mutual
theorem Is.mono (x : Ex G G') : ∀ {v : V} {d : D}, Is K G v d → Is K G' v d
  | _, _, .non => .non
  | _, _, .bl b => .bl b
  | _, _, .int i => .int i
  | _, _, .str z => .str z
  | _, _, .lst h t => .lst (x _ _ h) (Iss.mono x t)
  | _, _, .tup h t => .tup (Evl.ex_t x h) (Iss.mono x t)
  | _, _, .dic h l t => .dic (x _ _ h) l (Iss.mono x t)
theorem Iss.mono (x : Ex G G') : ∀ {vs : List V} {ds : List D}, Iss K G vs ds → Iss K G' vs ds
  | _, _, .nil => .nil
  | _, _, .cons h t => .cons (Is.mono x h) (Iss.mono x t)
end
theorem Iss.len : ∀ {vs : List V} {ds : List D}, Iss K G vs ds → vs.length = ds.length
  | _, _, .nil => rfl
  | _, _, .cons _ t => by rw [List.length_cons, List.length_cons, Iss.len t]
theorem Iss.app : ∀ {vs ws : List V} {ds es : List D}, Iss K G vs ds → Iss K G ws es → Iss K G (vs ++ ws) (ds ++ es)
  | _, _, _, _, .nil, k => k
  | _, _, _, _, .cons h t, k => .cons h (Iss.app t k)
theorem Iss.get : ∀ {vs : List V} {ds : List D} {i : Nat} {d : D}, Iss K G vs ds → ds[i]? = some d → ∃ v, vs[i]? = some v ∧ Is K G v d
  | _, _, _, _, .nil, e => by simp at e
  | _, _, 0, _, .cons h _, e => by simp at e; subst e; exact ⟨_, rfl, h⟩
  | _, _, i + 1, d, .cons _ t, e => by
    obtain ⟨v, h1, h2⟩ := Iss.get (i := i) (d := d) t (by simpa using e)
    exact ⟨v, by simpa using h1, h2⟩
theorem Iss.get' : ∀ {vs : List V} {ds : List D} {i : Nat} {v : V}, Iss K G vs ds → vs[i]? = some v → ∃ d, ds[i]? = some d ∧ Is K G v d
  | _, _, _, _, .nil, e => by simp at e
  | _, _, 0, _, .cons h _, e => by simp at e; subst e; exact ⟨_, rfl, h⟩
  | _, _, i + 1, d, .cons _ t, e => by
    obtain ⟨v, h1, h2⟩ := Iss.get' (i := i) (v := d) t (by simpa using e)
    exact ⟨v, by simpa using h1, h2⟩
theorem Iss.set (h : Is K G w e) : ∀ {vs : List V} {ds : List D} (i : Nat), Iss K G vs ds → Iss K G (vs.set i w) (ds.set i e)
  | _, _, _, .nil => .nil
  | _, _, 0, .cons _ t => .cons h t
  | _, _, i + 1, .cons k t => .cons k (Iss.set h i t)
theorem Iss.take : ∀ {vs : List V} {ds : List D} (n : Nat), Iss K G vs ds → Iss K G (vs.take n) (ds.take n)
  | _, _, 0, _ => by simp; exact .nil
  | _, _, n + 1, .nil => by simp; exact .nil
  | _, _, n + 1, .cons h t => by simp; exact .cons h (Iss.take n t)
theorem Iss.drop : ∀ {vs : List V} {ds : List D} (n : Nat), Iss K G vs ds → Iss K G (vs.drop n) (ds.drop n)
  | _, _, 0, h => by simpa using h
  | _, _, n + 1, .nil => by simp; exact .nil
  | _, _, n + 1, .cons h t => by simp; exact Iss.drop n t
theorem Iss.rep (h : Iss K G vs ds) : ∀ n : Nat, Iss K G (List.replicate n vs).flatten (List.replicate n ds).flatten
  | 0 => .nil
  | n + 1 => by simp only [List.replicate_succ, List.flatten_cons]; exact h.app (Iss.rep h n)
theorem Iss.rev : ∀ {vs : List V} {ds : List D}, Iss K G vs ds → Iss K G vs.reverse ds.reverse
  | _, _, .nil => .nil
  | _, _, .cons h t => by simp only [List.reverse_cons]; exact (Iss.rev t).app (.cons h .nil)
theorem six_eq (n d : Nat) (o : Option Int) : six n d o = HT.sIx n d o := by cases o <;> rfl
theorem Iss.cut (h : Iss K G vs ds) (lo hi : Option Int) : Iss K G (cutV vs lo hi) (Ell.cut ds lo hi) := by
  unfold cutV Ell.cut
  rw [six_eq, six_eq, ← h.len]
  exact (h.drop _).take _
theorem Iss.nth (h : Iss K G vs ds) {i : Int} (e : Ell.nth ds i = some d) : ∃ v, atI vs i = some v ∧ Is K G v d := by
  unfold Ell.nth at e
  rw [← h.len] at e
  cases q : ixn vs.length i with
  | none => rw [q] at e; cases e
  | some j =>
    rw [q] at e
    obtain ⟨v, h1, h2⟩ := h.get (i := j) e
    refine ⟨v, ?_, h2⟩
    unfold atI
    rw [show ixN vs.length i = some j from q]
    exact h1
theorem Iss.ints : ∀ {vs : List V} {ds : List D} {ns : List Int}, Iss K G vs ds → ints? ds = some ns → vs = ns.map V.int
  | _, _, _, .nil, e => by cases e; rfl
  | v :: vs, d :: ds, ns, .cons h t, e => by
    cases h with
    | int i =>
      unfold ints? at e
      cases q : ints? ds with
      | none => rw [q] at e; cases e
      | some ms =>
        rw [q] at e
        cases e
        rw [Iss.ints t q]
        rfl
    | _ => unfold ints? at e; cases e
theorem Iss.bools : ∀ {vs : List V} {ds : List D} {ns : List Bool}, Iss K G vs ds → bools? ds = some ns → vs = ns.map V.bl
  | _, _, _, .nil, e => by cases e; rfl
  | v :: vs, d :: ds, ns, .cons h t, e => by
    cases h with
    | bl i =>
      unfold bools? at e
      cases q : bools? ds with
      | none => rw [q] at e; cases e
      | some ms =>
        rw [q] at e
        cases e
        rw [Iss.bools t q]
        rfl
    | _ => unfold bools? at e; cases e
theorem Iss.of_ints : ∀ ns : List Int, Iss K G (ns.map V.int) (ns.map PyData.int)
  | [] => .nil
  | n :: r => .cons (.int n) (Iss.of_ints r)
mutual
theorem Is.dp (x : Ex G H) : ∀ {v : V} {d : D}, Is K G v d → d.canLay0 = true → Dp K H v d
  | _, _, .non, _ => .non
  | _, _, .bl b, _ => .bl b
  | _, _, .int i, _ => .int i
  | _, _, .str z, _ => .str z
  | _, _, .lst h t, c => .lst (SqL.of (x _ _ h)) (Iss.dp x t c)
  | _, _, .tup h t, c => .tup (Evl.ex_t x h) (Iss.dp x t c)
  | _, _, .dic h l t, c => by cases c
theorem Iss.dp (x : Ex G H) : ∀ {vs : List V} {ds : List D}, Iss K G vs ds → PyData.canLayAll0 ds = true → DpAll K H vs ds
  | _, _, .nil, _ => .nil
  | _, _, .cons h t, c => by
    rw [cl_cons, Bool.and_eq_true] at c
    exact .cons (Is.dp x h c.1) (Iss.dp x t c.2)
end
end

/-! ### what stands at an own address -/
def OAt (K : PySem.W.Frag) (G H : Hp) (a : Addr) : O → Prop
  | .lst ds => ∃ xs, H a = some (.lst xs) ∧ Iss K G xs ds
  | .dic kvs => ∃ xs, H a = some (.dK ((kvs.map (·.1)).zip xs)) ∧ xs.length = kvs.length ∧ Iss K G xs (kvs.map (·.2))
abbrev Ent := Slot × Option V
/-- a value by its sign -/
def toV : PV → V
  | .non => .non
  | .bl b => .bl b
  | .int i => .int i
  | .str x => .str x
  | .ref a => .ref a
def Good (K : PySem.W.Frag) (G H : Hp) (p : Ent) : Prop := match p.1 with
  | .un => True
  | .dat d => ∃ v, p.2 = some v ∧ Is K G v d
  | .own o => ∃ a, p.2 = some (.ref a) ∧ G a = none ∧ OAt K G H a o
  | .io o => ∃ a, p.2 = some (.ref a) ∧ G a = none ∧ OAt K G H a o
  | .ro ds => ∃ a xs, p.2 = some (.ref a) ∧ SqL K G a xs ∧ Iss K G xs ds
  | .fn x => ∃ a, p.2 = some (.ref a) ∧ PySem.W.nsIn K mainGlobals x = some (some (.ref a))
  | .pin o kvs => ∃ a, p.2 = some (.ref a) ∧ G a = some (.frz o (.dK (kvs.map fun p => (p.1, toV p.2))))
  | .fns xs => ∃ a as, p.2 = some (.ref a) ∧ G a = some (.lst (as.map V.ref)) ∧ Paired (fun (x : Str) (a : Addr) => PySem.W.nsIn K mainGlobals x = some (some (.ref a))) xs as
  | .gh G0 => Ex G0 G
def adr (p : Ent) : List Addr := match p.1, p.2 with
  | .own _, some (.ref a) => [a]
  | .io _, some (.ref a) => [a]
  | _, _ => []
structure RepG (K : PySem.W.Frag) (T : List (Addr × Str)) (G : Hp) (l : List Ent) (H : Hp) : Prop where
  sub : Ex G H
  notb : ∀ a ps, G a ≠ some (.tbl ps)
  good : ∀ p ∈ l, Good K G H p
  nd : (l.flatMap adr).Nodup
  tabs : LamX.Tabs T H
def Rep (K : PySem.W.Frag) (T : List (Addr × Str)) (l : List Ent) (H : Hp) : Prop := ∃ G, RepG K T G l H

section
variable {K : PySem.W.Frag} {T : List (Addr × Str)} {G G' H H' : Hp} {v w : V} {vs ws : List V} {d e : D} {ds es : List D} {a p : Addr} {l l' : List Ent} {o : O}
theorem OAt.some (h : OAt K G H a o) : ∃ u, H a = Option.some u ∧ (∀ ps, u ≠ .tbl ps) ∧ ∀ φ, u ≠ .ext φ := by
  cases o with
  | lst ds => obtain ⟨xs, e, _⟩ := h; exact ⟨_, e, (fun ps z => nomatch z), fun ps z => nomatch z⟩
  | dic ks => obtain ⟨xs, e, _⟩ := h; exact ⟨_, e, (fun ps z => nomatch z), fun ps z => nomatch z⟩
theorem OAt.mono (h : OAt K G H a o) (x : Ex G G') (y : H' a = H a) : OAt K G' H' a o := by
  cases o with
  | lst ds => obtain ⟨xs, e, t⟩ := h; exact ⟨xs, y.trans e, t.mono x⟩
  | dic ks => obtain ⟨xs, e, hl, t⟩ := h; exact ⟨xs, y.trans e, hl, t.mono x⟩
theorem sub_flat {α β : Type} (f : α → List β) {l l' : List α} (q : List.Sublist l l') : List.Sublist (l.flatMap f) (l'.flatMap f) := by
  induction q with
  | slnil => exact List.Sublist.refl _
  | cons a _ ih => rw [List.flatMap_cons]; exact ih.trans (List.sublist_append_right _ _)
  | cons_cons a _ ih => rw [List.flatMap_cons, List.flatMap_cons]; exact (List.Sublist.refl _).append ih
theorem RepG.perm (R : RepG K T G l H) (q : l.Perm l') : RepG K T G l' H :=
  ⟨R.sub, R.notb, fun p hp => R.good p (q.mem_iff.mpr hp), ((q.flatMap_right adr).nodup_iff).mp R.nd, R.tabs⟩
theorem RepG.subl (R : RepG K T G l H) (q : l'.Sublist l) : RepG K T G l' H :=
  ⟨R.sub, R.notb, fun p hp => R.good p (q.subset hp), R.nd.sublist (sub_flat adr q), R.tabs⟩
theorem Rep.perm (R : Rep K T l H) (q : l.Perm l') : Rep K T l' H := let ⟨G, r⟩ := R; ⟨G, r.perm q⟩
theorem Rep.subl (R : Rep K T l H) (q : l'.Sublist l) : Rep K T l' H := let ⟨G, r⟩ := R; ⟨G, r.subl q⟩
theorem adr_mem {b : Addr} {q : Ent} (hb : b ∈ adr q) (g : Good K G H q) : G b = none ∧ ∃ o, OAt K G H b o := by
  obtain ⟨s, u⟩ := q
  cases s with
  | own o =>
    obtain ⟨c, e, n, t⟩ := g
    dsimp only at e
    subst e
    have z : b = c := by simpa [adr] using hb
    subst z
    exact ⟨n, o, t⟩
  | io o =>
    obtain ⟨c, e, n, t⟩ := g
    dsimp only at e
    subst e
    have z : b = c := by simpa [adr] using hb
    subst z
    exact ⟨n, o, t⟩
  | _ => simp [adr] at hb
/-- the known part grows, what is own stays as it is -/
theorem Good.mono {q : Ent} (g : Good K G H q) (x : Ex G G') (y : ∀ b ∈ adr q, G' b = none ∧ H' b = H b) : Good K G' H' q := by
  obtain ⟨s, u⟩ := q
  cases s with
  | un => trivial
  | dat d => obtain ⟨v, e, t⟩ := g; exact ⟨v, e, t.mono x⟩
  | own o =>
    obtain ⟨c, e, n, t⟩ := g
    dsimp only at e
    subst e
    obtain ⟨y1, y2⟩ := y c (by simp [adr])
    exact ⟨c, rfl, y1, t.mono x y2⟩
  | io o =>
    obtain ⟨c, e, n, t⟩ := g
    dsimp only at e
    subst e
    obtain ⟨y1, y2⟩ := y c (by simp [adr])
    exact ⟨c, rfl, y1, t.mono x y2⟩
  | ro ds => obtain ⟨c, xs, e, h, t⟩ := g; exact ⟨c, xs, e, Evl.ex_l x h, t.mono x⟩
  | fn y => exact g
  | pin o kvs => obtain ⟨c, e, h⟩ := g; exact ⟨c, e, x _ _ h⟩
  | fns xs => obtain ⟨c, as, e, h, f⟩ := g; exact ⟨c, as, e, x _ _ h, f⟩
  | gh G0 => exact fun b o e => x _ _ (g b o e)
theorem no_adr {q : Ent} (R : RepG K T G l H) (hp : H p = none) (hq : q ∈ l) : ∀ b ∈ adr q, b ≠ p := fun b hb z => by
  obtain ⟨_, o, t⟩ := adr_mem hb (R.good q hq)
  obtain ⟨u, e, _⟩ := t.some
  rw [z, hp] at e
  cases e
theorem G_none (R : RepG K T G l H) (hp : H p = none) : G p = none := by
  cases e : G p with
  | none => rfl
  | some u => rw [R.sub p u e] at hp; cases hp
theorem ex_upd2 {u : HO} (x : Ex G H) : Ex (upd G p u) (upd H p u) := fun b o e => by
  by_cases hb : b = p
  · subst hb; rw [upd_same] at e ⊢; exact e
  · rw [upd_ne hb] at e ⊢; exact x b o e
theorem ex_new {u : HO} (h : G p = none) : Ex G (upd G p u) := Ex.new h
theorem tabs_new {u : HO} (t : LamX.Tabs T H) (h : H p = none) : LamX.Tabs T (upd H p u) := LamX.Tabs.ext t (Ex.new h)
theorem tabs_wr {u u' : HO} (t : LamX.Tabs T H) (h : H a = some u) (h1 : ∀ ps, u ≠ .tbl ps) (h2 : ∀ φ, u ≠ .ext φ) : LamX.Tabs T (upd H a u') := fun q hq => by
  obtain ⟨ps, e1, e2, e3⟩ := t q hq
  refine ⟨ps, by rw [upd_ne (ne_of e1 h fun z => h1 ps z.symm)]; exact e1, e2, fun pos cv hc => ?_⟩
  obtain ⟨c, ec, ho⟩ := e3 pos cv hc
  exact ⟨c, ec, by rw [upd_ne (ne_of ho h fun z => h2 _ z.symm)]; exact ho⟩
/-! ### entries come and go -/
theorem RepG.dat (R : RepG K T G l H) (h : Is K G v d) : RepG K T G ((.dat d, some v) :: l) H :=
  ⟨R.sub, R.notb, fun q hq => (List.mem_cons.mp hq).elim (fun z => by subst z; exact ⟨v, rfl, h⟩) (R.good q), by show (([] : List Addr) ++ l.flatMap adr).Nodup; exact R.nd, R.tabs⟩
theorem RepG.un (R : RepG K T G l H) (u : Option V) : RepG K T G ((.un, u) :: l) H :=
  ⟨R.sub, R.notb, fun q hq => (List.mem_cons.mp hq).elim (fun z => by subst z; trivial) (R.good q), by show (([] : List Addr) ++ l.flatMap adr).Nodup; exact R.nd, R.tabs⟩
/-- a new object that is known from now on -/
theorem RepG.new {u : HO} (R : RepG K T G l H) (hp : H p = none) (hu : ∀ ps, u ≠ .tbl ps) : RepG K T (upd G p u) l (upd H p u) := by
  have gp := G_none R hp
  refine ⟨ex_upd2 R.sub, fun b ps e => ?_, fun q hq => (R.good q hq).mono (ex_new gp) fun b hb => ?_, R.nd, tabs_new R.tabs hp⟩
  · by_cases hb : b = p
    · subst hb; rw [upd_same] at e; exact hu ps (Option.some.inj e)
    · rw [upd_ne hb] at e; exact R.notb b ps e
  · have n := no_adr R hp hq b hb
    exact ⟨by rw [upd_ne n]; exact (adr_mem hb (R.good q hq)).1, upd_ne n⟩
/-- a new object of one's own -/
theorem RepG.newO {u : HO} (R : RepG K T G l H) (hp : H p = none) (h : OAt K G (upd H p u) p o) : RepG K T G ((.own o, some (.ref p)) :: l) (upd H p u) := by
  refine ⟨R.sub.trans (Ex.new hp), R.notb, fun q hq => ?_, ?_, tabs_new R.tabs hp⟩
  · rcases List.mem_cons.mp hq with z | z
    · subst z; exact ⟨p, rfl, G_none R hp, h⟩
    · exact (R.good q z).mono (Ex.refl G) fun b hb => ⟨(adr_mem hb (R.good q z)).1, upd_ne (no_adr R hp z b hb)⟩
  · show (p :: l.flatMap adr).Nodup
    refine List.nodup_cons.mpr ⟨fun z => ?_, R.nd⟩
    obtain ⟨q, hq, hb⟩ := List.mem_flatMap.mp z
    exact no_adr R hp hq p hb rfl
/-- an own object is written -/
theorem RepG.wr {s s' : Slot} {u : HO} (R : RepG K T G ((s, some (.ref a)) :: l) H) (ha : adr (s, some (.ref a)) = [a]) (ha' : adr (s', some (.ref a)) = [a]) (g : Good K G (upd H a u) (s', some (.ref a))) : RepG K T G ((s', some (.ref a)) :: l) (upd H a u) := by
  have g0 := R.good _ List.mem_cons_self
  obtain ⟨ga, o, t⟩ := adr_mem (b := a) (by rw [ha]; simp) g0
  obtain ⟨u0, e0, h1, h2⟩ := t.some
  have nd := R.nd
  rw [List.flatMap_cons, ha] at nd
  have na := (List.nodup_cons.mp nd).1
  refine ⟨fun b w e => ?_, R.notb, fun q hq => ?_, ?_, tabs_wr R.tabs e0 h1 h2⟩
  · rw [upd_ne (ne_of_none e ga)]; exact R.sub b w e
  · rcases List.mem_cons.mp hq with z | z
    · subst z; exact g
    · have gq := R.good q (List.mem_cons_of_mem _ z)
      exact gq.mono (Ex.refl G) fun b hb => ⟨(adr_mem hb gq).1, upd_ne fun z2 => na (List.mem_flatMap.mpr ⟨q, z, z2 ▸ hb⟩)⟩
  · rw [List.flatMap_cons, ha']; exact nd
theorem frz_dic (kvs : List (Ky × D)) : frz (.dic kvs) = .dict (((kvs.map (·.1)).map kyD).zip (kvs.map (·.2))) := by
  show PyData.dict _ = PyData.dict _
  congr 1
  induction kvs with
  | nil => rfl
  | cons p r ih => simp only [List.map_cons, List.zip_cons_cons]; rw [ih]
/-- what stands at an own address, when it is data: a list as it is, a dict locked -/
def frzAt (od : Obj) : HO → HO → Prop
  | .dK kvs, u => u = .frz od (.dK kvs)
  | v, u => u = v
theorem OAt.is {od : Obj} {u v : HO} (h : OAt K G H a o) (x : Ex G G') (e : H a = Option.some v) (f : frzAt od v u) (y : G' a = Option.some u) : Is K G' (.ref a) (frz o) := by
  cases o with
  | lst ds =>
    obtain ⟨xs, e', t⟩ := h
    rw [e] at e'
    cases e'
    have f : u = .lst xs := f
    subst f
    exact .lst y (t.mono x)
  | dic ks =>
    obtain ⟨xs, e', hl, t⟩ := h
    rw [e] at e'
    cases e'
    have f : u = .frz od (.dK _) := f
    subst f
    rw [frz_dic]
    exact .dic y (by rw [List.length_map]; exact hl.symm) (t.mono x)
/-- an own object is frozen -/
theorem RepG.freezeAt {od : Obj} {u v : HO} (R : RepG K T G ((.own o, some (.ref a)) :: l) H) (e : H a = some v) (f : frzAt od v u) : Rep K T ((.dat (frz o), some (.ref a)) :: l) (upd H a u) := by
  have g0 := R.good _ List.mem_cons_self
  obtain ⟨c, ec, ga, t⟩ := g0
  cases ec
  obtain ⟨u0, e0, h1, h2⟩ := t.some
  have nd := R.nd
  have nd2 : (a :: l.flatMap adr).Nodup := nd
  have na := (List.nodup_cons.mp nd2).1
  have x : Ex G (upd G a u) := Ex.new ga
  have eu : u0 = v := by rw [e] at e0; exact (Option.some.inj e0).symm
  subst eu
  have h3 : ∀ ps, u ≠ .tbl ps := by
    intro ps z
    subst z
    cases u0 with
    | dK kvs => exact nomatch (show HO.tbl ps = .frz od (.dK kvs) from f)
    | _ => exact h1 ps (show HO.tbl ps = _ from f).symm
  refine ⟨upd G a u, fun b w e => ?_, fun b ps e => ?_, fun q hq => ?_, (List.nodup_cons.mp nd2).2, tabs_wr R.tabs e0 h1 h2⟩
  · by_cases hb : b = a
    · subst hb; rw [upd_same] at e ⊢; exact e
    · rw [upd_ne hb] at e ⊢; exact R.sub b w e
  · by_cases hb : b = a
    · subst hb; rw [upd_same] at e; exact h3 ps (Option.some.inj e)
    · rw [upd_ne hb] at e; exact R.notb b ps e
  · rcases List.mem_cons.mp hq with z | z
    · subst z; exact ⟨_, rfl, t.is x e f upd_same⟩
    · have gq := R.good q (List.mem_cons_of_mem _ z)
      refine gq.mono x fun b hb => ?_
      have nb : b ≠ a := fun z2 => na (List.mem_flatMap.mpr ⟨q, z, by rw [← z2]; exact hb⟩)
      exact ⟨by rw [upd_ne nb]; exact (adr_mem hb gq).1, upd_ne nb⟩
theorem upd_self {H : Hp} {a : Addr} {u : HO} (e : H a = some u) : upd H a u = H := by
  funext b
  by_cases hb : b = a
  · subst hb; rw [upd_same, e]
  · rw [upd_ne hb]
/-- an own list is frozen -/
theorem RepG.freeze {ds : List D} (R : RepG K T G ((.own (.lst ds), some (.ref a)) :: l) H) : Rep K T ((.dat (.list ds), some (.ref a)) :: l) H := by
  obtain ⟨c, ec, ga, xs, e, t⟩ := R.good _ List.mem_cons_self
  cases ec
  have r := R.freezeAt (od := { cls := .none, data := .fields #[] }) (u := .lst xs) e rfl
  rw [upd_self e] at r
  exact r
/-! ### what may be read at a value -/
def Vw (K : PySem.W.Frag) (G H : Hp) (v : V) (d : D) : Prop := Is K G v d ∨ ∃ a o, v = .ref a ∧ d = frz o ∧ OAt K G H a o
theorem Good.vw {s : Slot} {u : Option V} (g : Good K G H (s, u)) (e : view s = some d) : ∃ v, u = some v ∧ Vw K G H v d := by
  cases s with
  | dat d' => obtain ⟨v, e1, t⟩ := g; cases e; exact ⟨v, e1, .inl t⟩
  | own o => obtain ⟨a, e1, _, t⟩ := g; cases e; exact ⟨_, e1, .inr ⟨a, o, rfl, rfl, t⟩⟩
  | io o => obtain ⟨a, e1, _, t⟩ := g; cases e; exact ⟨_, e1, .inr ⟨a, o, rfl, rfl, t⟩⟩
  | _ => cases e
theorem Vw.int {i : Int} (h : Vw K G H v (.int i)) : v = .int i := by
  rcases h with h | ⟨a, o, _, e, _⟩
  · cases h; rfl
  · cases o <;> cases e
theorem Vw.bl {b : Bool} (h : Vw K G H v (.bool b)) : v = .bl b := by
  rcases h with h | ⟨a, o, _, e, _⟩
  · cases h; rfl
  · cases o <;> cases e
theorem Vw.str {x : Str} (h : Vw K G H v (.str x)) : v = .str x := by
  rcases h with h | ⟨a, o, _, e, _⟩
  · cases h; rfl
  · cases o <;> cases e
theorem Vw.non (h : Vw K G H v .none) : v = .non := by
  rcases h with h | ⟨a, o, _, e, _⟩
  · cases h; rfl
  · cases o <;> cases e
theorem Vw.lst (h : Vw K G H v (.list ds)) (x : Ex G H) : ∃ a xs, v = .ref a ∧ H a = some (.lst xs) ∧ Iss K G xs ds := by
  rcases h with h | ⟨a, o, ev, e, t⟩
  · cases h with
    | lst h t => exact ⟨_, _, rfl, x _ _ h, t⟩
  · cases o with
    | lst es => cases e; obtain ⟨xs, e1, t⟩ := t; exact ⟨a, xs, ev, e1, t⟩
    | dic _ => cases e
theorem Vw.tup (h : Vw K G H v (.tuple ds)) (x : Ex G H) : ∃ a xs, v = .ref a ∧ SqT K H a xs ∧ Iss K G xs ds := by
  rcases h with h | ⟨a, o, ev, e, t⟩
  · cases h with
    | tup h t => exact ⟨_, _, rfl, Evl.ex_t x h, t⟩
  · cases o <;> cases e
theorem Vw.dic {kvs : List (D × D)} (h : Vw K G H v (.dict kvs)) (x : Ex G H) : ∃ (a : Addr) (ks : List Key) (xs : List V) (ds : List D), v = .ref a ∧ Rd H a (.dK (ks.zip xs)) ∧ ks.length = xs.length ∧ Iss K G xs ds ∧ kvs = (ks.map kyD).zip ds := by
  rcases h with h | ⟨a, o, ev, e, t⟩
  · cases h with
    | dic h l t => exact ⟨_, _, _, _, rfl, .inr ⟨_, x _ _ h⟩, l, t, rfl⟩
  · cases o with
    | lst es => cases e
    | dic m =>
      rw [frz_dic] at e
      obtain ⟨xs, e1, hl, t⟩ := t
      cases e
      exact ⟨a, _, xs, _, ev, .inl e1, by rw [List.length_map]; exact hl.symm, t, rfl⟩
theorem Vw.isN (h : Vw K G H v d) : decide (v = .non) = isNone d := by
  rcases h with h | ⟨a, o, ev, e, t⟩
  · cases h <;> first | rfl | exact decide_eq_false (fun z => nomatch z)
  · subst ev
    subst e
    cases o <;> exact decide_eq_false (fun z => nomatch z)
theorem Vw.dp (h : Vw K G H v d) (x : Ex G H) (c : d.canLay0 = true) : Dp K H v d := by
  rcases h with h | ⟨a, o, ev, e, t⟩
  · exact h.dp x c
  · subst ev
    subst e
    cases o with
    | lst ds => obtain ⟨xs, e1, t⟩ := t; exact .lst (SqL.of e1) (t.dp x c)
    | dic _ => cases c
/-! ### a def's names -/
theorem zat {α β : Type} : ∀ {ρ : List α} {σ : List β} {i : Nat} {s : α} {u : β}, ρ[i]? = some s → σ[i]? = some u → (ρ.zip σ)[i]? = some (s, u)
  | [], _, _, _, _, h, _ => by simp at h
  | _ :: _, [], _, _, _, _, h => by simp at h
  | x :: ρ, y :: σ, 0, s, u, h1, h2 => by simp at h1 h2; subst h1; subst h2; rfl
  | x :: ρ, y :: σ, i + 1, s, u, h1, h2 => by
    have := zat (ρ := ρ) (σ := σ) (i := i) (s := s) (u := u) (by simpa using h1) (by simpa using h2)
    simpa using this
theorem zset {α β : Type} : ∀ {ρ : List α} {σ : List β} {i : Nat} {s : α} {u : β}, (ρ.set i s).zip (σ.set i u) = (ρ.zip σ).set i (s, u)
  | [], _, _, _, _ => by simp
  | _ :: _, [], _, _, _ => by simp
  | x :: ρ, y :: σ, 0, s, u => rfl
  | x :: ρ, y :: σ, i + 1, s, u => by simp [zset (ρ := ρ) (σ := σ) (i := i) (s := s) (u := u)]
theorem set_same {α : Type} : ∀ {σ : List α} {i : Nat} {u : α}, σ[i]? = some u → σ.set i u = σ
  | [], _, _, h => by simp at h
  | y :: σ, 0, u, h => by simp at h; subst h; rfl
  | y :: σ, i + 1, u, h => by simp [set_same (σ := σ) (i := i) (u := u) (by simpa using h)]
theorem at_perm {α : Type} : ∀ {l : List α} {i : Nat} {x : α}, l[i]? = some x → l.Perm (x :: l.eraseIdx i)
  | [], _, _, h => by simp at h
  | y :: l, 0, x, h => by simp at h; subst h; exact List.Perm.refl _
  | y :: l, i + 1, x, h => by
    have ih := at_perm (l := l) (i := i) (x := x) (by simpa using h)
    exact (ih.cons y).trans (List.Perm.swap x y _)
theorem set_perm {α : Type} : ∀ {l : List α} {i : Nat} {x : α}, i < l.length → (l.set i x).Perm (x :: l.eraseIdx i)
  | [], _, _, h => by simp at h
  | y :: l, 0, x, _ => List.Perm.refl _
  | y :: l, i + 1, x, h => by
    have ih := set_perm (l := l) (i := i) (x := x) (by simpa using h)
    exact (ih.cons y).trans (List.Perm.swap x y _)
/-- the i-th name's entry apart -/
theorem zopen {ρ : Rho} {σ : L2.St} {fr : List Ent} {i : Nat} {s : Slot} (hl : ρ.length = σ.length) (h : ρ[i]? = some s) : ∃ u rest, σ[i]? = some u ∧ (ρ.zip σ ++ fr).Perm ((s, u) :: rest) ∧ ∀ s', ((ρ.set i s').zip σ ++ fr).Perm ((s', u) :: rest) := by
  have hi : i < ρ.length := (List.getElem?_eq_some_iff.mp h).1
  have hi2 : i < σ.length := by omega
  have hu : σ[i]? = some σ[i] := List.getElem?_eq_getElem hi2
  refine ⟨σ[i], (ρ.zip σ).eraseIdx i ++ fr, hu, ?_, fun s' => ?_⟩
  · exact (at_perm (zat h hu)).append_right fr
  · have e : (ρ.set i s').zip σ = (ρ.zip σ).set i (s', σ[i]) := by
      rw [← zset, set_same hu]
    rw [e]
    refine (set_perm (x := (s', σ[i])) ?_).append_right fr
    rw [List.length_zip]; omega
/-- a name takes a value -/
theorem Rep.store {ρ : Rho} {σ : L2.St} {fr : List Ent} {i : Nat} {s : Slot} (R : Rep K T ((s, some v) :: (ρ.zip σ ++ fr)) H) (hl : ρ.length = σ.length) (hi : i < ρ.length) : Rep K T ((ρ.set i s).zip (σ.set i (some v)) ++ fr) H := by
  rw [zset]
  have hz : i < (ρ.zip σ).length := by rw [List.length_zip]; omega
  have q := (set_perm (l := ρ.zip σ) (x := (s, some v)) hz).append_right fr
  refine Rep.perm (Rep.subl R ?_) q.symm
  exact ((List.eraseIdx_sublist _ _).append_right fr).cons_cons _
end
end Ell
set_option autoImplicit false
/-! Ell2: the evaluator's answers as readings of expressions. -/
namespace Ell
open PySem PySem.Spec PyProof.Rows L2
open Evl (Ex)
/-- the tables of code objects, the classes of errors, what is wanted of an error -/
structure Cf where
  T : List (Addr × Str)
  cl : Exc → Addr
  W : WX
abbrev Env' (ρ : Rho) (σ : L2.St) : List Ent := ρ.zip σ
/-- what is wanted behind a result -/
def Post {α β : Type} (K : PySem.W.Frag) (Z : Cf) (σ : L2.St) (fr : List Ent) (I : α → β → L2.St → Prop) (E : α → β → List Ent) (Q : β → Hp → Prop) : Res α → Prop
  | .ok a ρ => ∀ b H, ρ.length = σ.length → I a b σ → Rep K Z.T (E a b ++ (ρ.zip σ ++ fr)) H → Q b H
  | .err c ρ => ∀ H, ρ.length = σ.length → Rep K Z.T (ρ.zip σ ++ fr) H → Z.W (.ref (Z.cl c)) none σ H
  | .stuck => False
def tG {α β : Type} (K : PySem.W.Frag) (Z : Cf) (I : α → β → L2.St → Prop) (E : α → β → List Ent) (ev : Rho → Res α) : L2.St → Hp → (β → Hp → Prop) → Prop := fun σ H Q =>
  ∃ ρ fr, ρ.length = σ.length ∧ Rep K Z.T (ρ.zip σ ++ fr) H ∧ Post K Z σ fr I E Q (ev ρ)
def VIs : Ell.Val → V → L2.St → Prop
  | .tmp _, _, _ => True
  | .ref i, v, σ => σ[i]? = some (some v)
def ents : Ell.Val → V → List Ent
  | .tmp s, v => [(s, some v)]
  | .ref _, _ => []
def VsIs : List Ell.Val → List V → L2.St → Prop
  | [], vs, _ => vs = []
  | x :: xs, vs, σ => ∃ v r, vs = v :: r ∧ VIs x v σ ∧ VsIs xs r σ
def entss : List Ell.Val → List V → List Ent
  | x :: xs, v :: vs => ents x v ++ entss xs vs
  | _, _ => []
/-- an expression | as data | moved | a truth value | a test | arguments frozen | operands -/
def tE (K : PySem.W.Frag) (Z : Cf) (c : CE) : TE := tG K Z VIs ents (evP c)
def tD (K : PySem.W.Frag) (Z : Cf) (ev : Rho → Res Ell.Val) : TE := tG K Z (fun _ _ _ => True) (fun d v => [(.dat d, some v)]) fun ρ => kD (ev ρ)
def tM (K : PySem.W.Frag) (Z : Cf) (ev : Rho → Res Ell.Val) : TE := tG K Z (fun _ _ _ => True) (fun s v => [(s, some v)]) fun ρ => kS (ev ρ)
def tBV (K : PySem.W.Frag) (Z : Cf) (ev : Rho → Res Ell.Val) : TE := tG K Z (fun b v _ => v = .bl b) (fun _ _ => []) fun ρ => kB (ev ρ)
def tT (K : PySem.W.Frag) (Z : Cf) (c : CE) : TT := tG K Z (fun (b b' : Bool) _ => b = b') (fun _ _ => []) fun ρ => kB (evP c ρ)
def dents (ds : List D) (vs : List V) : List Ent := (ds.map Slot.dat).zip (vs.map some)
def tAs (K : PySem.W.Frag) (Z : Cf) (c : CE) : TA := tG K Z (fun ds (vs : List V) _ => vs.length = ds.length) dents (evA c)
def tCs (K : PySem.W.Frag) (Z : Cf) (c : CE) : TA := tG K Z VsIs entss (evC c)

section
variable {X : Cx} {Z : Cf} {e : Expr} {es : List Expr} {t t' : TE} {pos : Pos} {c : CE}
theorem PE.imp (h : PE X e t) (k : ∀ σ H Q, t' σ H Q → t σ H Q) : PE X e t' := ⟨fun pins s σ H Q I q => h.run pins s σ H Q I (k σ H Q q)⟩
theorem PT.imp {u u' : TT} (h : PT X e u) (k : ∀ σ H Q, u' σ H Q → u σ H Q) : PT X e u' := ⟨fun pins s σ H Q I q => h.run pins s σ H Q I (k σ H Q q)⟩
theorem PA.imp {u u' : TA} (h : PA X es u) (k : ∀ σ H Q, u' σ H Q → u σ H Q) : PA X es u' := ⟨fun pos pins s σ H Q I q => h.run pos pins s σ H Q I (k σ H Q q)⟩
end
section
variable {K : PySem.W.Frag} {Z : Cf} {σ : L2.St} {H : Hp} {fr l : List Ent} {ρ : Rho} {G : Hp} {T : List (Addr × Str)}
/-- what stands behind a frame put aside -/
theorem Post.more {α β : Type} {I : α → β → L2.St → Prop} {E : α → β → List Ent} {Q Q' : β → Hp → Prop} {r : Res α} {more : List Ent}
    (h : ∀ a ρ, r = .ok a ρ → ∀ b H, ρ.length = σ.length → I a b σ → Rep K Z.T (E a b ++ (ρ.zip σ ++ (more ++ fr))) H → Q b H)
    (he : ∀ c ρ, r = .err c ρ → ∀ H, ρ.length = σ.length → Rep K Z.T (ρ.zip σ ++ fr) H → Z.W (.ref (Z.cl c)) none σ H)
    (hs : r ≠ .stuck) : Post K Z σ (more ++ fr) I E Q r := by
  cases r with
  | ok a ρ => exact h a ρ rfl
  | err c ρ => exact fun H hl R => he c ρ rfl H hl (R.subl ((List.sublist_append_right _ _).append_left _))
  | stuck => exact absurd rfl hs
theorem vw_at {x : Ell.Val} {v : V} {d : D} (R : RepG K T G l H) (hm : ∀ p ∈ ents x v, p ∈ l) (hz : ∀ p ∈ ρ.zip σ, p ∈ l) (vi : VIs x v σ) (e : x.view ρ = some d) : Vw K G H v d := by
  cases x with
  | tmp s =>
    obtain ⟨v', e1, w⟩ := (R.good (s, some v) (hm _ (by simp [ents]))).vw e
    cases e1
    exact w
  | ref i =>
    have e' : (ρ[i]?).bind Ell.view = some d := e
    cases q : ρ[i]? with
    | none => rw [q] at e'; cases e'
    | some s =>
      rw [q] at e'
      have hm := hz _ (List.mem_of_getElem? (zat q (show σ[i]? = some (some v) from vi)))
      obtain ⟨v', e1, w⟩ := (R.good _ hm).vw e'
      cases e1
      exact w
theorem mem_l {x : Ent} {a b c : List Ent} (h : x ∈ a) : x ∈ b ++ (a ++ c) := List.mem_append_right _ (List.mem_append_left _ h)
/-- as it is, or a dict that is to be locked -/
def lockQ (Q : VK) : VK := fun v H => (∃ a kvs, v = .ref a ∧ H a = some (.dK kvs) ∧ ∀ od, Q v (upd H a (.frz od (.dK kvs)))) ∨ Q v H
/-- data is what an operand holds -/
theorem tD_of {ev : Rho → Res Ell.Val} {Q : VK} (h : tD K Z ev σ H Q) : tG K Z VIs ents ev σ H (lockQ Q) := by
  obtain ⟨ρ, fr, hl, R, h⟩ := h
  refine ⟨ρ, fr, hl, R, ?_⟩
  dsimp only at h ⊢
  cases q : ev ρ with
  | stuck => rw [q] at h; exact h
  | err c ρ1 => rw [q] at h; exact h
  | ok x ρ1 =>
    rw [q] at h
    intro v H1 hl1 vi R1
    cases x with
    | tmp s =>
      cases s with
      | dat d => exact .inr (h v H1 hl1 trivial R1)
      | own o =>
        obtain ⟨G, g⟩ := R1
        obtain ⟨a, ea, _, oa⟩ := g.good _ List.mem_cons_self
        cases ea
        cases o with
        | lst ds => exact .inr (h _ H1 hl1 trivial g.freeze)
        | dic m =>
          obtain ⟨xs, e, _⟩ := oa
          exact .inl ⟨a, _, rfl, e, fun od => h _ _ hl1 trivial (g.freezeAt (od := od) e rfl)⟩
      | _ => exact False.elim h
    | ref i =>
      have h : Post K Z σ fr (fun _ _ _ => True) (fun d v => [(Slot.dat d, some v)]) Q (thaw i ρ1 ρ1[i]?) := h
      have vi : σ[i]? = some (some v) := vi
      have R1 : Rep K Z.T (ρ1.zip σ ++ fr) H1 := R1
      cases qi : ρ1[i]? with
      | none => rw [qi] at h; exact False.elim h
      | some s =>
        rw [qi] at h
        obtain ⟨u, rest, hu, pm, pset⟩ := zopen (fr := fr) hl1 qi
        rw [vi] at hu
        cases hu
        cases s with
        | dat d =>
          obtain ⟨G, g⟩ := R1
          have g2 := g.perm pm
          obtain ⟨v', ev', w⟩ := g2.good _ List.mem_cons_self
          cases ev'
          exact .inr (h v H1 hl1 trivial ⟨G, g.dat w⟩)
        | own o =>
          obtain ⟨G, g⟩ := R1
          have g2 := g.perm pm
          obtain ⟨a, ea, _, oa⟩ := g2.good _ List.mem_cons_self
          cases ea
          cases o with
          | lst ds =>
            obtain ⟨G2, g3⟩ := g2.freeze
            obtain ⟨v', ev', w⟩ := g3.good _ List.mem_cons_self
            cases ev'
            exact .inr (h (V.ref a) H1 (by rw [List.length_set]; exact hl1) trivial ⟨G2, (g3.perm (pset _).symm).dat w⟩)
          | dic m =>
            obtain ⟨xs, e, _⟩ := oa
            refine .inl ⟨a, _, rfl, e, fun od => ?_⟩
            obtain ⟨G2, g3⟩ := g2.freezeAt (od := od) e rfl
            obtain ⟨v', ev', w⟩ := g3.good _ List.mem_cons_self
            cases ev'
            exact h (V.ref a) _ (by rw [List.length_set]; exact hl1) trivial ⟨G2, (g3.perm (pset _).symm).dat w⟩
        | _ => exact False.elim h
/-- .. as a judgement -/
theorem pe_D {X : Cx} {e : Expr} {ev : Rho → Res Ell.Val} (h : PE X e (tG X.K Z VIs ents ev)) : PE X e (tD X.K Z ev) :=
  ⟨fun pins s σ H Q I q => wpAny_mono (h.run pins s σ H (lockQ Q) I (tD_of q)) (fun u s' ⟨v, H', I', rv, q⟩ => by
    rcases q with ⟨a, kvs, ev, e, k⟩ | q
    · obtain ⟨od, J⟩ := I'.lock e trivial
      exact ⟨v, _, J, rv, k od⟩
    · exact ⟨v, H', I', rv, q⟩) fun _ _ x => x⟩
/-- where no dict may stand -/
theorem tD_ofL {ev : Rho → Res Ell.Val} {Q : VK} (hl : ρ.length = σ.length) (R : Rep K Z.T (ρ.zip σ ++ fr) H) (h : Post K Z σ fr (fun _ _ _ => True) (fun d v => [(Slot.dat d, some v)]) Q (kD (ev ρ))) (no : ∀ d ρ', kD (ev ρ) = .ok d ρ' → isDic d = false) : tG K Z VIs ents ev σ H Q := by
  refine ⟨ρ, fr, hl, R, ?_⟩
  cases q : ev ρ with
  | stuck => rw [q] at h; exact h
  | err c ρ1 => rw [q] at h; exact h
  | ok x ρ1 =>
    rw [q] at h no
    intro v H1 hl1 vi R1
    cases x with
    | tmp s =>
      cases s with
      | dat d => exact h v H1 hl1 trivial R1
      | own o =>
        obtain ⟨G, g⟩ := R1
        obtain ⟨a, ea, _, oa⟩ := g.good _ List.mem_cons_self
        cases ea
        cases o with
        | lst ds => exact h _ H1 hl1 trivial g.freeze
        | dic m => exact nomatch (no _ _ rfl)
      | _ => exact False.elim h
    | ref i =>
      have h : Post K Z σ fr (fun _ _ _ => True) (fun d v => [(Slot.dat d, some v)]) Q (thaw i ρ1 ρ1[i]?) := h
      have no : ∀ d ρ', thaw i ρ1 ρ1[i]? = .ok d ρ' → isDic d = false := no
      have vi : σ[i]? = some (some v) := vi
      have R1 : Rep K Z.T (ρ1.zip σ ++ fr) H1 := R1
      cases qi : ρ1[i]? with
      | none => rw [qi] at h; exact False.elim h
      | some s =>
        rw [qi] at h no
        obtain ⟨u, rest, hu, pm, pset⟩ := zopen (fr := fr) hl1 qi
        rw [vi] at hu
        cases hu
        cases s with
        | dat d =>
          obtain ⟨G, g⟩ := R1
          have g2 := g.perm pm
          obtain ⟨v', ev', w⟩ := g2.good _ List.mem_cons_self
          cases ev'
          exact h v H1 hl1 trivial ⟨G, g.dat w⟩
        | own o =>
          obtain ⟨G, g⟩ := R1
          have g2 := g.perm pm
          obtain ⟨a, ea, _, oa⟩ := g2.good _ List.mem_cons_self
          cases ea
          cases o with
          | lst ds =>
            obtain ⟨G2, g3⟩ := g2.freeze
            obtain ⟨v', ev', w⟩ := g3.good _ List.mem_cons_self
            cases ev'
            exact h (V.ref a) H1 (by rw [List.length_set]; exact hl1) trivial ⟨G2, (g3.perm (pset _).symm).dat w⟩
          | dic m => exact nomatch (no _ _ rfl)
        | _ => exact False.elim h
theorem tM_of {ev : Rho → Res Ell.Val} {Q : VK} (h : tM K Z ev σ H Q) : tG K Z VIs ents ev σ H Q := by
  obtain ⟨ρ, fr, hl, R, h⟩ := h
  refine ⟨ρ, fr, hl, R, ?_⟩
  dsimp only at h ⊢
  cases q : ev ρ with
  | stuck => rw [q] at h; exact h
  | err c ρ1 => rw [q] at h; exact h
  | ok x ρ1 =>
    rw [q] at h
    intro v H1 hl1 vi R1
    cases x with
    | tmp s => exact h v H1 hl1 trivial R1
    | ref i =>
      have h : Post K Z σ fr (fun _ _ _ => True) (fun s v => [(s, some v)]) Q (take i ρ1 ρ1[i]?) := h
      have vi : σ[i]? = some (some v) := vi
      have R1 : Rep K Z.T (ρ1.zip σ ++ fr) H1 := R1
      cases qi : ρ1[i]? with
      | none => rw [qi] at h; exact False.elim h
      | some s =>
        rw [qi] at h
        obtain ⟨u, rest, hu, pm, pset⟩ := zopen (fr := fr) hl1 qi
        rw [vi] at hu
        cases hu
        cases s with
        | dat d =>
          obtain ⟨G, g⟩ := R1
          have g2 := g.perm pm
          obtain ⟨v', ev', w⟩ := g2.good _ List.mem_cons_self
          cases ev'
          exact h v H1 hl1 trivial ⟨G, g.dat w⟩
        | own o =>
          obtain ⟨G, g⟩ := R1
          have g2 := (g.perm pm).un (some v)
          refine h v H1 (by rw [List.length_set]; exact hl1) trivial ⟨G, ?_⟩
          exact (g2.perm (List.Perm.swap _ _ _)).perm ((pset .un).symm.cons _)
        | _ => exact False.elim h
theorem bl_eq {d : D} {b : Bool} (h : bl d = some b) : d = .bool b := by
  cases d <;> cases h
  rfl
theorem opt_some {α : Type} {o : Option α} {ρ' : Rho} {a : α} (h : opt o ρ = .ok a ρ') : o = some a ∧ ρ' = ρ := by
  cases o with
  | none => cases h
  | some b => cases h; exact ⟨rfl, rfl⟩
theorem tB_of {ev : Rho → Res Ell.Val} {Q : Bool → Hp → Prop} (h : tG K Z (fun (b b' : Bool) _ => b = b') (fun _ _ => []) (fun ρ => kB (ev ρ)) σ H Q) : tG K Z VIs ents ev σ H fun x H1 => ∃ k, x = .bl k ∧ Q k H1 := by
  obtain ⟨ρ, fr, hl, R, h⟩ := h
  refine ⟨ρ, fr, hl, R, ?_⟩
  dsimp only at h ⊢
  cases q : ev ρ with
  | stuck => rw [q] at h; exact h
  | err c ρ1 => rw [q] at h; exact h
  | ok x ρ1 =>
    rw [q] at h
    have h : Post K Z σ fr (fun (b b' : Bool) _ => b = b') (fun _ _ => []) Q (opt ((x.view ρ1).bind bl) ρ1) := h
    intro v H1 hl1 vi R1
    cases qv : x.view ρ1 with
    | none => rw [qv] at h; exact False.elim h
    | some d =>
      rw [qv] at h
      cases qb : bl d with
      | none => rw [Option.bind_some, qb] at h; exact False.elim h
      | some b =>
        rw [Option.bind_some, qb] at h
        obtain ⟨G, g⟩ := id R1
        have w := vw_at g (fun p hp => List.mem_append_left _ hp) (fun p hp => mem_l hp) vi (by rw [qv, bl_eq qb])
        exact ⟨b, w.bl, h b H1 hl1 rfl (R1.subl (List.sublist_append_right _ _))⟩
theorem tBV_of {ev : Rho → Res Ell.Val} {Q : VK} (h : tBV K Z ev σ H Q) : tG K Z (fun (b b' : Bool) _ => b = b') (fun _ _ => []) (fun ρ => kB (ev ρ)) σ H fun b H1 => Q (.bl b) H1 := by
  obtain ⟨ρ, fr, hl, R, h⟩ := h
  refine ⟨ρ, fr, hl, R, ?_⟩
  dsimp only at h ⊢
  revert h
  cases kB (ev ρ) with
  | stuck => exact id
  | err c ρ1 => exact id
  | ok b ρ1 =>
    intro h b' H1 hl1 eb R1
    subst eb
    exact h _ H1 hl1 rfl R1
/-- the list without what an operand laid there -/
theorem drop_mid {a b c : List Ent} (R : Rep K T (a ++ (b ++ c)) H) : Rep K T (a ++ c) H := R.subl ((List.sublist_append_right _ _).append_left _)
/-- an operation's soundness at values: x, y are read as d, e; what it makes is s -/
def OpOk (K : PySem.W.Frag) (r : R2) (g : D → D → Option Slot) : Prop :=
  ∀ (T : List (Addr × Str)) (G : Hp) (l : List Ent) (H : Hp) (x y : V) (d e : D) (s : Slot) (Q : VK), RepG K T G l H → Vw K G H x d → Vw K G H y e → g d e = some s → (∀ u H', Rep K T ((s, some u) :: l) H' → Q u H') → r x y H Q
theorem tOp_of {g : D → D → Option Slot} {ea eb : Rho → Res Ell.Val} {r : R2} {Q : VK} (hr : OpOk K r g) (h : tG K Z VIs ents (fun ρ => op2 g eb (ea ρ)) σ H Q) : tOp r (tG K Z VIs ents ea) (tG K Z VIs ents eb) σ H Q := by
  obtain ⟨ρ, fr, hl, R, h⟩ := h
  refine ⟨ρ, fr, hl, R, ?_⟩
  dsimp only at h ⊢
  cases qa : ea ρ with
  | stuck => rw [qa] at h; exact h
  | err c ρ1 => rw [qa] at h; exact h
  | ok x ρ1 =>
    rw [qa] at h
    intro v H1 hl1 vi R1
    refine ⟨ρ1, ents x v ++ fr, hl1, R1.perm (List.perm_append_comm_assoc _ _ _), ?_⟩
    have h : Post K Z σ fr VIs ents Q (op2b x g (eb ρ1)) := h
    cases qb : eb ρ1 with
    | stuck => rw [qb] at h; exact h
    | err c ρ2 =>
      rw [qb] at h
      exact fun H2 hl2 R2 => h H2 hl2 (drop_mid R2)
    | ok y ρ2 =>
      rw [qb] at h
      have h : Post K Z σ fr VIs ents Q (opt ((x.view ρ2).bind fun d => (y.view ρ2).bind fun e => (g d e).map Val.tmp) ρ2) := h
      intro w H2 hl2 wi R2
      cases ed : x.view ρ2 with
      | none => rw [ed] at h; exact False.elim h
      | some d =>
        rw [ed, Option.bind_some] at h
        cases ee : y.view ρ2 with
        | none => rw [ee] at h; exact False.elim h
        | some e =>
          rw [ee, Option.bind_some] at h
          cases es : g d e with
          | none => rw [es] at h; exact False.elim h
          | some s =>
            rw [es] at h
            have h : Post K Z σ fr VIs ents Q (.ok (.tmp s) ρ2) := h
            obtain ⟨G, g2⟩ := id R2
            have wx := vw_at (ρ := ρ2) (σ := σ) g2 (fun p hp => List.mem_append_right _ (mem_l hp)) (fun p hp => mem_l hp) vi ed
            have wy := vw_at (ρ := ρ2) (σ := σ) g2 (fun p hp => List.mem_append_left _ hp) (fun p hp => mem_l hp) wi ee
            refine hr _ G _ H2 v w d e s Q g2 wx wy es fun u H' R' => h u H' hl2 trivial ?_
            show Rep K Z.T ((s, some u) :: (ρ2.zip σ ++ fr)) H'
            exact R'.subl ((((List.sublist_append_right _ _).append_left _).trans (List.sublist_append_right _ _)).cons_cons _)
theorem tUn_of {g : D → Option Slot} {ea : Rho → Res Ell.Val} {r : V → Hp → VK → Prop} {Q : VK}
    (hr : ∀ (T : List (Addr × Str)) (G : Hp) (l : List Ent) (H : Hp) (x : V) (d : D) (s : Slot) (Q : VK), RepG K T G l H → Vw K G H x d → g d = some s → (∀ u H', Rep K T ((s, some u) :: l) H' → Q u H') → r x H Q)
    (h : tG K Z VIs ents (fun ρ => op1 g (ea ρ)) σ H Q) : tUn r (tG K Z VIs ents ea) σ H Q := by
  obtain ⟨ρ, fr, hl, R, h⟩ := h
  refine ⟨ρ, fr, hl, R, ?_⟩
  dsimp only at h ⊢
  cases qa : ea ρ with
  | stuck => rw [qa] at h; exact h
  | err c ρ1 => rw [qa] at h; exact h
  | ok x ρ1 =>
    rw [qa] at h
    intro v H1 hl1 vi R1
    have h : Post K Z σ fr VIs ents Q (opt ((x.view ρ1).bind fun d => (g d).map Val.tmp) ρ1) := h
    cases ed : x.view ρ1 with
    | none => rw [ed] at h; exact False.elim h
    | some d =>
      rw [ed, Option.bind_some] at h
      cases es : g d with
      | none => rw [es] at h; exact False.elim h
      | some s =>
        rw [es] at h
        have h : Post K Z σ fr VIs ents Q (.ok (.tmp s) ρ1) := h
        obtain ⟨G, g2⟩ := id R1
        have wx := vw_at (ρ := ρ1) (σ := σ) g2 (fun p hp => List.mem_append_left _ hp) (fun p hp => mem_l hp) vi ed
        refine hr _ G _ H1 v d s Q g2 wx es fun u H' R' => h u H' hl1 trivial ?_
        show Rep K Z.T ((s, some u) :: (ρ1.zip σ ++ fr)) H'
        exact R'.subl ((List.sublist_append_right _ _).cons_cons _)
/-- two results in a row, the second one's readings under the first one's -/
theorem tAs_cons {a b : CE} {Q : List V → Hp → Prop} (h : tAs K Z (.cons a b) σ H Q) : tCons (tD K Z (evP a)) (tAs K Z b) σ H Q := by
  obtain ⟨ρ, fr, hl, R, h⟩ := h
  refine ⟨ρ, fr, hl, R, ?_⟩
  have h : Post K Z σ fr (fun ds (vs : List V) _ => vs.length = ds.length) dents Q (argsD (evA b) (kD (evP a ρ))) := h
  dsimp only
  cases qa : kD (evP a ρ) with
  | stuck => rw [qa] at h; exact h
  | err c ρ1 => rw [qa] at h; exact h
  | ok d ρ1 =>
    rw [qa] at h
    intro v H1 hl1 _ R1
    refine ⟨ρ1, [(.dat d, some v)] ++ fr, hl1, R1.perm (List.perm_append_comm_assoc _ _ _), ?_⟩
    have h : Post K Z σ fr (fun ds (vs : List V) _ => vs.length = ds.length) dents Q (consR d (evA b ρ1)) := h
    cases qb : evA b ρ1 with
    | stuck => rw [qb] at h; exact h
    | err c ρ2 => rw [qb] at h; exact fun H2 hl2 R2 => h H2 hl2 (drop_mid R2)
    | ok ds ρ2 =>
      rw [qb] at h
      intro vs H2 hl2 e2 R2
      refine h (v :: vs) H2 hl2 (by show (v :: vs).length = (d :: ds).length; rw [List.length_cons, List.length_cons, e2]) ?_
      show Rep K Z.T ((.dat d, some v) :: (dents ds vs ++ (ρ2.zip σ ++ fr))) H2
      refine R2.perm ?_
      have p1 : (dents ds vs ++ (ρ2.zip σ ++ ([(Slot.dat d, some v)] ++ fr))).Perm (dents ds vs ++ ((Slot.dat d, some v) :: (ρ2.zip σ ++ fr))) := (List.perm_append_comm_assoc (ρ2.zip σ) [(Slot.dat d, some v)] fr).append_left _
      exact p1.trans List.perm_middle
theorem tAs_nil {Q : List V → Hp → Prop} (h : tAs K Z .nil σ H Q) : tNil σ H Q := by
  obtain ⟨ρ, fr, hl, R, h⟩ := h
  exact h [] H hl rfl R
theorem tCs_nil {Q : List V → Hp → Prop} (h : tCs K Z .nil σ H Q) : tNil σ H Q := by
  obtain ⟨ρ, fr, hl, R, h⟩ := h
  exact h [] H hl rfl R
theorem tCs_cons {a b : CE} {Q : List V → Hp → Prop} (h : tCs K Z (.cons a b) σ H Q) : tCons (tE K Z a) (tCs K Z b) σ H Q := by
  obtain ⟨ρ, fr, hl, R, h⟩ := h
  refine ⟨ρ, fr, hl, R, ?_⟩
  have h : Post K Z σ fr VsIs entss Q (argsV (evC b) (evP a ρ)) := h
  cases qa : evP a ρ with
  | stuck => rw [qa] at h; exact h
  | err c ρ1 => rw [qa] at h; exact h
  | ok x ρ1 =>
    rw [qa] at h
    intro v H1 hl1 vi R1
    refine ⟨ρ1, ents x v ++ fr, hl1, R1.perm (List.perm_append_comm_assoc _ _ _), ?_⟩
    have h : Post K Z σ fr VsIs entss Q (consV x (evC b ρ1)) := h
    cases qb : evC b ρ1 with
    | stuck => rw [qb] at h; exact h
    | err c ρ2 => rw [qb] at h; exact fun H2 hl2 R2 => h H2 hl2 (drop_mid R2)
    | ok xs ρ2 =>
      rw [qb] at h
      intro vs H2 hl2 e2 R2
      refine h (v :: vs) H2 hl2 ⟨v, vs, rfl, vi, e2⟩ ?_
      show Rep K Z.T (ents x v ++ entss xs vs ++ (ρ2.zip σ ++ fr)) H2
      refine R2.perm ?_
      have p1 : (entss xs vs ++ (ρ2.zip σ ++ (ents x v ++ fr))).Perm (entss xs vs ++ (ents x v ++ (ρ2.zip σ ++ fr))) := (List.perm_append_comm_assoc (ρ2.zip σ) (ents x v) fr).append_left _
      rw [List.append_assoc]
      exact p1.trans (List.perm_append_comm_assoc _ _ _)
/-- a run of frozen data is known -/
theorem dents_is : ∀ {ds : List D} {vs : List V} {l : List Ent}, vs.length = ds.length → RepG K T G (dents ds vs ++ l) H → Iss K G vs ds
  | [], [], _, _, _ => .nil
  | [], _ :: _, _, h, _ => by cases h
  | _ :: _, [], _, h, _ => by cases h
  | d :: ds, v :: vs, l, h, R => by
    obtain ⟨v', e, w⟩ := R.good (.dat d, some v) List.mem_cons_self
    cases e
    exact .cons w (dents_is (l := l) (by simpa using h) (R.subl (List.sublist_cons_self _ _)))
theorem tTup_of {as : CE} {Q : VK} (h : tE K Z (.tup as) σ H Q) : tTup (tAs K Z as) σ H Q := by
  obtain ⟨ρ, fr, hl, R, h⟩ := h
  refine ⟨ρ, fr, hl, R, ?_⟩
  have h : Post K Z σ fr VIs ents Q (tupR (evA as ρ)) := h
  cases qa : evA as ρ with
  | stuck => rw [qa] at h; exact h
  | err c ρ1 => rw [qa] at h; exact h
  | ok ds ρ1 =>
    rw [qa] at h
    have h : Post K Z σ fr VIs ents Q (if leN ds.length sizeLine then .ok (.tmp (.dat (.tuple ds))) ρ1 else .stuck) := h
    intro vs H1 hl1 e1 R1
    by_cases hz : leN ds.length sizeLine
    · rw [if_pos hz] at h
      refine ⟨by rw [e1]; exact hz, fun p hp => h (.ref p) _ hl1 trivial ?_⟩
      obtain ⟨G, g⟩ := R1
      have w := dents_is e1 g
      have g2 := (g.subl (List.sublist_append_right _ _)).new (u := .tup vs) hp (fun ps z => nomatch z)
      exact ⟨_, g2.dat (.tup (SqT.of upd_same) (w.mono (Ex.new (G_none g hp))))⟩
    · rw [if_neg hz] at h; exact False.elim h
theorem tLst_of {as : CE} {Q : VK} (h : tE K Z (.lst as) σ H Q) : tLst (tAs K Z as) σ H Q := by
  obtain ⟨ρ, fr, hl, R, h⟩ := h
  refine ⟨ρ, fr, hl, R, ?_⟩
  have h : Post K Z σ fr VIs ents Q (lstR (evA as ρ)) := h
  cases qa : evA as ρ with
  | stuck => rw [qa] at h; exact h
  | err c ρ1 => rw [qa] at h; exact h
  | ok ds ρ1 =>
    rw [qa] at h
    have h : Post K Z σ fr VIs ents Q (if leN ds.length sizeLine then .ok (.tmp (.own (.lst ds))) ρ1 else .stuck) := h
    intro vs H1 hl1 e1 R1
    by_cases hz : leN ds.length sizeLine
    · rw [if_pos hz] at h
      refine ⟨by rw [e1]; exact hz, fun p hp => h (.ref p) _ hl1 trivial ?_⟩
      obtain ⟨G, g⟩ := R1
      have w := dents_is e1 g
      exact ⟨G, (g.subl (List.sublist_append_right _ _)).newO hp ⟨vs, upd_same, w⟩⟩
    · rw [if_neg hz] at h; exact False.elim h
/-- a test, then one of two -/
theorem tIf_of {f g : Rho → Res Ell.Val} {t : Rho → Res Bool} {Q : VK} (h : tG K Z VIs ents (fun ρ => iteR f g (t ρ)) σ H Q) :
    tG K Z (fun (b b' : Bool) _ => b = b') (fun _ _ => []) t σ H fun b H1 => if b = true then tG K Z VIs ents f σ H1 Q else tG K Z VIs ents g σ H1 Q := by
  obtain ⟨ρ, fr, hl, R, h⟩ := h
  refine ⟨ρ, fr, hl, R, ?_⟩
  dsimp only at h ⊢
  cases qa : t ρ with
  | stuck => rw [qa] at h; exact h
  | err c ρ1 => rw [qa] at h; exact h
  | ok b ρ1 =>
    rw [qa] at h
    intro b' H1 hl1 eb R1
    subst eb
    cases b with
    | true =>
      rw [if_pos rfl]
      exact ⟨ρ1, fr, hl1, R1, h⟩
    | false =>
      rw [if_neg Bool.false_ne_true]
      exact ⟨ρ1, fr, hl1, R1, h⟩
theorem vB_val {b : Bool} {Q : VK} (h : tG K Z VIs ents (vB b) σ H Q) : ∃ H', Q (.bl b) H' ∧ H' = H := by
  obtain ⟨ρ, fr, hl, R, h⟩ := h
  obtain ⟨G, g⟩ := R
  exact ⟨H, h (.bl b) H hl trivial ⟨G, g.dat (.bl b)⟩, rfl⟩
end
/-! ### the rules -/
section
variable {X : Cx} {Z : Cf} {e a b : Expr} {es : List Expr} {pos : Pos} {c ca cb : CE}
theorem d_var {i : Nat} {x : Str} (hN : X.N[i]? = some x := by rfl) (hv : Vis X.env.scope x := by first | exact Or.inl rfl | exact Or.inr (Or.inl rfl) | exact Or.inr (Or.inr rfl)) (hd : (x == ("__debug__" : Str)) = false := by decide)
    (hcd : (x == ("__classdict__" : Str)) = false := by decide) : PE X (.Name x pos) (tE X.K Z (.var i)) := by
  refine PE.imp (pe_var (i := i) hN hv hd hcd) fun σ H Q h => ?_
  obtain ⟨ρ, fr, hl, R, h⟩ := h
  have h : Post X.K Z σ fr VIs ents Q (varR i ρ ρ[i]?) := h
  cases q : ρ[i]? with
  | none => rw [q] at h; exact False.elim h
  | some s =>
    obtain ⟨u, rest, hu, pm, _⟩ := zopen (fr := fr) hl q
    have go : ∀ v, u = some v → s ≠ .un → tVar i σ H Q := fun v eu hs => by
      subst eu
      refine ⟨v, hu, ?_⟩
      rw [q] at h
      have h : Post X.K Z σ fr VIs ents Q (.ok (.ref i) ρ) := by cases s <;> first | exact h | exact absurd rfl hs | exact False.elim h
      exact h v H hl hu R
    obtain ⟨G, g⟩ := R
    have w := (g.perm pm).good _ List.mem_cons_self
    cases s with
    | un => rw [q] at h; exact False.elim h
    | dat d => obtain ⟨v, ev, _⟩ := w; exact go v ev (fun z => nomatch z)
    | own o => obtain ⟨v, ev, _⟩ := w; exact go _ ev (fun z => nomatch z)
    | io o => obtain ⟨v, ev, _⟩ := w; exact go _ ev (fun z => nomatch z)
    | ro ds => obtain ⟨v, xs, ev, _⟩ := w; exact go _ ev (fun z => nomatch z)
    | fn y => obtain ⟨v, ev, _⟩ := w; exact go _ ev (fun z => nomatch z)
    | pin o kvs => obtain ⟨v, ev, _⟩ := w; exact go _ ev (fun z => nomatch z)
    | fns xs => obtain ⟨v, _, ev, _⟩ := w; exact go _ ev (fun z => nomatch z)
    | gh G0 => rw [q] at h; exact False.elim h
theorem lit_of {K : PySem.W.Frag} {v : V} {d : D} {σ : L2.St} {H : Hp} {Q : VK} (w : ∀ G, Is K G v d) (h : tE K Z (.lit d) σ H Q) : tC v σ H Q := by
  obtain ⟨ρ, fr, hl, R, h⟩ := h
  obtain ⟨G, g⟩ := R
  exact h v H hl trivial ⟨G, g.dat (w G)⟩
theorem d_int {i j} : PE X (.Constant (.int i) j pos) (tE X.K Z (.lit (.int i))) := PE.imp pe_int fun _ _ _ h => lit_of (fun _ => .int i) h
theorem d_str {x j} : PE X (.Constant (.str x) j pos) (tE X.K Z (.lit (.str x))) := PE.imp pe_str fun _ _ _ h => lit_of (fun _ => .str x) h
theorem d_bl {x j} : PE X (.Constant (.bool x) j pos) (tE X.K Z (.lit (.bool x))) := PE.imp pe_bl fun _ _ _ h => lit_of (fun _ => .bl x) h
theorem d_non {j} : PE X (.Constant .none j pos) (tE X.K Z (.lit .none)) := PE.imp pe_non fun _ _ _ h => lit_of (fun _ => .non) h
/-- a module's constant -/
def GlobIs (X : Cx) (x : Str) (d : D) : Prop := ∃ (v : V) (u : Value), X.mg x = some u ∧ RelV v u ∧ ∀ G, Is X.K G v d
theorem d_glob {x : Str} {d : D} (hm : GlobIs X x d) (hg : Gl X x := by rfl) (hd : (x == ("__debug__" : Str)) = false := by decide) : PE X (.Name x pos) (tE X.K Z (.glob x d)) := by
  obtain ⟨v, u, h1, h2, h3⟩ := hm
  refine PE.imp (pe_glob hg h1 h2 hd) fun σ H Q h => ?_
  obtain ⟨ρ, fr, hl, R, h⟩ := h
  obtain ⟨G, g⟩ := R
  exact h v H hl trivial ⟨G, g.dat (h3 G)⟩
theorem d_nil : PA X [] (tAs X.K Z .nil) := PA.imp pa_nil fun _ _ _ h => tAs_nil h
theorem d_cons (ha : PE X e (tE X.K Z ca)) (hb : PA X es (tAs X.K Z cb)) (hs : starEach (e :: es) X.env = (false, eval e X.env) :: starEach es X.env := by rfl) : PA X (e :: es) (tAs X.K Z (.cons ca cb)) :=
  PA.imp (pa_cons (pe_D ha) hb hs) fun _ _ _ h => tAs_cons h
theorem o_nil : PA X [] (tCs X.K Z .nil) := PA.imp pa_nil fun _ _ _ h => tCs_nil h
theorem o_cons (ha : PE X e (tE X.K Z ca)) (hb : PA X es (tCs X.K Z cb)) (hs : starEach (e :: es) X.env = (false, eval e X.env) :: starEach es X.env := by rfl) : PA X (e :: es) (tCs X.K Z (.cons ca cb)) :=
  PA.imp (pa_cons ha hb hs) fun _ _ _ h => tCs_cons h
theorem d_tup {x1} (h : PA X es (tAs X.K Z ca)) : PE X (.Tuple es x1 pos) (tE X.K Z (.tup ca)) := PE.imp (pe_tup h) fun _ _ _ h => tTup_of h
theorem d_lst (h : PA X es (tAs X.K Z ca)) : PE X (.List es pos) (tE X.K Z (.lst ca)) := PE.imp (pe_lst h) fun _ _ _ h => tLst_of h
/-- the widest reading of an operation -/
def wide (X : Cx) (f : Value → Value → Sem Value) : R2 := fun x y H Q => ∀ (pins : List (Addr × Obj)) (s : Shared) (σ : L2.St) (v u : Value), Inv X pins σ H s → RelV x v → RelV y u → wpAny (model X.prog X.w) X.A (f v u) (EP X pins σ Q) X.xe s
theorem op_wide (f : Value → Value → Sem Value) : OpR X f (wide X f) := fun pins s σ H x y v u Q I rx ry h => h pins s σ v u I rx ry
theorem wide_of {f : Value → Value → Sem Value} {r : R2} (o : OpR X f r) {x y : V} {H : Hp} {Q : VK} (h : r x y H Q) : wide X f x y H Q := fun pins s σ v u I rx ry => o pins s σ H x y v u Q I rx ry h
def wid1 (X : Cx) (f : Value → Sem Value) : V → Hp → VK → Prop := fun x H Q => ∀ (pins : List (Addr × Obj)) (s : Shared) (σ : L2.St) (v : Value), Inv X pins σ H s → RelV x v → wpAny (model X.prog X.w) X.A (f v) (EP X pins σ Q) X.xe s
theorem un_wide (f : Value → Sem Value) : UnR X f (wid1 X f) := fun pins s σ H x v Q I rx h => h pins s σ v I rx
theorem d_bin {op : Operator} {bo : BOp} (ho : OpOk X.K (wide X (binaryOp op)) (binop bo)) (ha : PE X a (tE X.K Z ca)) (hb : PE X b (tE X.K Z cb)) : PE X (.BinOp a op b pos) (tE X.K Z (.bin bo ca cb)) :=
  PE.imp (pe_op (op_wide _) ha hb) fun _ _ _ h => tOp_of ho h
theorem d_cmp {op : CmpOp} {co : COp} (ho : OpOk X.K (wide X (compareOp op)) (fun d e => dB (cmpop co d e))) (ha : PE X a (tE X.K Z ca)) (hb : PE X b (tE X.K Z cb)) (hm : behindInMarks op b = false := by rfl) : PE X (.Compare a [op] [b] pos) (tE X.K Z (.cmp co ca cb)) :=
  PE.imp (pe_cmpR (op_wide _) ha hb hm) fun _ _ _ h => tOp_of ho h
theorem t_cmp {op : CmpOp} {co : COp} (ho : OpOk X.K (wide X (compareOp op)) (fun d e => dB (cmpop co d e))) (ha : PE X a (tE X.K Z ca)) (hb : PE X b (tE X.K Z cb)) (hm : behindInMarks op b = false := by rfl) : PT X (.Compare a [op] [b] pos) (tT X.K Z (.cmp co ca cb)) :=
  PT.imp (pt_cmpR (op_wide _) ha hb hm) fun _ _ _ h => tOp_of ho (tB_of h)
theorem t_val (h : PE X e (tE X.K Z c)) (he : ∀ whole, isTrue e X.env whole = (do let v ← whole; standAt e.pos; holding [v] (truthy v)) := by intro _; rfl) : PT X e (tT X.K Z c) :=
  PT.imp (pt_val h he) fun _ _ _ h => tB_of h
theorem t_not (h : PT X e (tT X.K Z c)) : PT X (.UnaryOp .Not e pos) (tT X.K Z (.not_ c)) := by
  refine PT.imp (pt_not h) fun σ H Q h => ?_
  obtain ⟨ρ, fr, hl, R, h⟩ := h
  refine ⟨ρ, fr, hl, R, ?_⟩
  have h : Post X.K Z σ fr (fun (b b' : Bool) _ => b = b') (fun _ _ => []) Q (kB (iteR (vB false) (vB true) (kB (evP c ρ)))) := h
  dsimp only
  cases qa : kB (evP c ρ) with
  | stuck => rw [qa] at h; exact h
  | err c ρ1 => rw [qa] at h; exact h
  | ok b ρ1 =>
    rw [qa] at h
    intro b' H1 hl1 eb R1
    subst eb
    cases b <;> exact h _ H1 hl1 rfl R1
end
end Ell
set_option autoImplicit false
/-! EllM: a tuple once, or not at all. -/
namespace Ell
open PySem PySem.Spec PyProof.Rows L2
open Evl (Ex)
theorem mul_same (l : Addr) (items : Array Value) (n : Nat) (dd : Option Addr) (sl : Array (Option Value)) (x : Int) (u : Tok) (c0 : (decide (x < -(2 ^ 63)) || decide (x ≥ 2 ^ 63)) = false) (c1 : (items.isEmpty || x == 1) = true) :
    Meets (Builtin.«tuple.__mul__» ⟨[.ref l, .int x u], []⟩) (fun _ R s => s.heap.get? l = some { cls := .type "tuple", dict := dd, data := .seq items n, slots := sl } ∧ R (.ok (.ret (Value.ref l))) s) :=
  .of_wp fun prog w A R s h => by
    obtain ⟨hp, g, d, tk, os⟩ := s
    obtain ⟨hl, h⟩ := h
    have f1 := AutoSeq1.idx_int
    wp_walk using wpAny_loadPart' hl
    repeat (first
      | (refine wpAny_ite_false (decide_eq_false (by rw [c0]; exact Bool.false_ne_true)) ?_; wp_walk using wpAny_loadPart' hl)
      | (refine wpAny_ite_true (decide_eq_true c1) ?_; wp_walk using wpAny_loadPart' hl))
    exact ⟨_, rfl, h⟩
theorem mul_zero (l : Addr) (items : Array Value) (n : Nat) (dd : Option Addr) (sl : Array (Option Value)) (x : Int) (u : Tok) (c0 : (decide (x < -(2 ^ 63)) || decide (x ≥ 2 ^ 63)) = false) (c1 : (items.isEmpty || x == 1) = false) (c2 : (decide (x ≤ 0) || items.isEmpty) = true) :
    Meets (Builtin.«tuple.__mul__» ⟨[.ref l, .int x u], []⟩) (fun _ R s => s.heap.get? l = some { cls := .type "tuple", dict := dd, data := .seq items n, slots := sl } ∧
      R (.ok (.ret (Value.ref s.heap.objs.size))) { s with heap := s.heap.push { cls := Value.type "tuple", data := Data.seq #[] }, toks := s.toks }) :=
  .of_wp fun prog w A R s h => by
    obtain ⟨hp, g, d, tk, os⟩ := s
    obtain ⟨hl, h⟩ := h
    have f1 := AutoSeq1.idx_int
    wp_walk using wpAny_loadPart' hl
    repeat (first
      | (refine wpAny_ite_false (decide_eq_false (by rw [c0]; exact Bool.false_ne_true)) ?_; wp_walk using wpAny_loadPart' hl)
      | (refine wpAny_ite_false (decide_eq_false (by rw [c1]; exact Bool.false_ne_true)) ?_; wp_walk using wpAny_loadPart' hl)
      | (refine wpAny_ite_true (decide_eq_true c2) ?_; wp_walk using wpAny_loadPart' hl))
    exact ⟨_, rfl, h⟩
def rRepM (K : PySem.W.Frag) : R2 := fun x y H Q => ∃ l k xs, x = .ref l ∧ y = .int k ∧ SqT K H l xs ∧ -1000 ≤ k ∧ k ≤ 1000 ∧ xs.length ≤ 1000 ∧
  (xs = [] ∨ k = 1 → Q (.ref l) H) ∧ (xs ≠ [] → k ≠ 1 → ∀ p, H p = none → Q (.ref p) (upd H p (.tup (List.replicate k.toNat xs).flatten)))
theorem op_repM {X : Cx} : OpR X (binaryOp .Mult) (rRepM X.K) := by
  intro pins s σ H x y v u Q I rx ry h
  obtain ⟨l, k, xs, rfl, rfl, hT, h1, h2, hz, q1, q2⟩ := h
  by_cases c : xs = [] ∨ k = 1
  · have q := q1 c
    cases rx
    obtain ⟨t, rfl⟩ := ry
    obtain ⟨its, r, ⟨⟨cls, dd, data, sl⟩, ho, hc, n, hd⟩, hs⟩ := I.tuple hT
    simp only at hc hd
    subst hc hd
    have c1 : (its.toArray.isEmpty || k == 1) = true := by
      rcases c with c | c
      · subst c
        have : its = [] := by cases r; rfl
        subst this; rfl
      · subst c; simp
    have c0 : (decide (k < -(2 ^ 63)) || decide (k ≥ 2 ^ 63)) = false := by
      rw [Bool.or_eq_false_iff]
      exact ⟨decide_eq_false (by omega), decide_eq_false (by omega)⟩
    refine wpAny_binaryOp_repeat_ref (T := "tuple") (U := "int") (by decide) ⟨_, ho, rfl⟩ (fun s' => typeIs_int s' k t) noFill_tuple_mul F.fills_int_mul F.slot_int_rmul repeat_tuple F.slot_int_index.lookup
      (call_meets F.slot_int_rmul (typeIs_int s k t) F.entry_int_rmul (F.args_int_rmul_2 _ _) (int_rmul_tuple k t l its.toArray n dd sl)
        ⟨ho, rfl, ⟨_, ho, rfl⟩, call_meets F.slot_tuple_mul ⟨_, ho, rfl⟩ F.entry_tuple_mul (F.args_tuple_mul_2 _ _) (mul_same l its.toArray n dd sl k t c0 c1) ⟨ho, ?_⟩⟩)
    exact ⟨.ref l, H, I, rfl, q⟩
  · have hne : xs ≠ [] := fun z => c (.inl z)
    have hk : k ≠ 1 := fun z => c (.inr z)
    have q := q2 hne hk
    by_cases c2 : 2 ≤ k
    · exact op_repT pins s σ H _ _ v u Q I rx ry ⟨l, k, xs, rfl, rfl, hT, hne, c2, h2, hz, q⟩
    · have hk0 : k ≤ 0 := by omega
      have e0 : k.toNat = 0 := by omega
      rw [e0] at q
      cases rx
      obtain ⟨t, rfl⟩ := ry
      obtain ⟨its, r, ⟨⟨cls, dd, data, sl⟩, ho, hc, n, hd⟩, hs⟩ := I.tuple hT
      simp only at hc hd
      subst hc hd
      have hi : its.toArray.isEmpty = false := by
        cases r with
        | nil => exact absurd rfl hne
        | cons a b => rfl
      have c1 : (its.toArray.isEmpty || k == 1) = false := by
        rw [hi, Bool.false_or]
        exact beq_eq_false_iff_ne.mpr hk
      have c0 : (decide (k < -(2 ^ 63)) || decide (k ≥ 2 ^ 63)) = false := by
        rw [Bool.or_eq_false_iff]
        exact ⟨decide_eq_false (by omega), decide_eq_false (by omega)⟩
      have c3 : (decide (k ≤ 0) || its.toArray.isEmpty) = true := by rw [decide_eq_true hk0]; rfl
      refine wpAny_binaryOp_repeat_ref (T := "tuple") (U := "int") (by decide) ⟨_, ho, rfl⟩ (fun s' => typeIs_int s' k t) noFill_tuple_mul F.fills_int_mul F.slot_int_rmul repeat_tuple F.slot_int_index.lookup
        (call_meets F.slot_int_rmul (typeIs_int s k t) F.entry_int_rmul (F.args_int_rmul_2 _ _) (int_rmul_tuple k t l its.toArray n dd sl)
          ⟨ho, rfl, ⟨_, ho, rfl⟩, call_meets F.slot_tuple_mul ⟨_, ho, rfl⟩ F.entry_tuple_mul (F.args_tuple_mul_2 _ _) (mul_zero l its.toArray n dd sl k t c0 c1 c3) ⟨ho, ?_⟩⟩)
      refine ⟨.ref s.heap.objs.size, _, I.laid (t' := s.toks) (o := .tup []) (fun b ob q => Heap.get?_push_of_some _ q) (Nat.le_refl _) ?_, rfl, q _ (I.hok.fresh (Nat.le_refl _))⟩
      exact ⟨Nat.zero_le _, _, .nil, IsTup.new _ _⟩
end Ell
set_option autoImplicit false
/-! Ell3: operators, subscripts, slices, built-in functions. -/
namespace Ell
open PySem PySem.Spec PyProof.Rows L2
open Evl (Ex)
/-- what every body has: room, nothing handled, nothing being shown -/
structure XG (X : Cx) (k : Nat) : Prop where
  calm : X.calm = true
  room : Room k X.A
  grd : X.A.guards = some []
  nd : X.N.Nodup
theorem if_some {α : Type} {c : Prop} [Decidable c] {a s : α} (h : (if c then some a else none) = some s) : c ∧ a = s := by
  by_cases q : c
  · rw [if_pos q] at h; exact ⟨q, Option.some.inj h⟩
  · rw [if_neg q] at h; cases h
theorem dB_some {c : Prop} [Decidable c] {b : Bool} {s : Slot} (h : dB (if c then some b else none) = some s) : c ∧ .dat (.bool b) = s := by
  by_cases q : c
  · rw [if_pos q] at h; exact ⟨q, Option.some.inj h⟩
  · rw [if_neg q] at h; cases h
section
variable {K : PySem.W.Frag} {T : List (Addr × Str)} {G H : Hp} {l : List Ent} {v w : V} {d e : D} {vs : List V} {ds : List D}
theorem Is.flat (h : Is K G v d) (f : flatD d = true) : flatV v = true := by cases h <;> first | rfl | cases f
theorem Iss.flat : ∀ {vs : List V} {ds : List D}, Iss K G vs ds → ds.all flatD = true → vs.all flatV = true
  | _, _, .nil, _ => rfl
  | _, _, .cons h t, f => by
    rw [List.all_cons, Bool.and_eq_true] at f
    rw [List.all_cons, h.flat f.1, Iss.flat t f.2]
    rfl
theorem eq_flat (h : Is K G v d) (k : Is K G w e) (f : flatD d = true) (g : flatD e = true) : eqV v w = PyData.eqv d e := by
  cases h with
  | lst _ _ => cases f
  | tup _ _ => cases f
  | dic _ _ _ => cases f
  | _ =>
    cases k with
    | lst _ _ => cases g
    | tup _ _ => cases g
    | dic _ _ _ => cases g
    | _ => rfl
theorem Iss.inv : ∀ {vs : List V} {ds : List D}, Iss K G vs ds → Is K G w e → ds.all flatD = true → flatD e = true → inV w vs = ds.any fun z => PyData.eqv z e
  | _, _, .nil, _, _, _ => rfl
  | _, _, .cons h t, k, f, g => by
    rw [List.all_cons, Bool.and_eq_true] at f
    have ih := Iss.inv t k f.2 g
    unfold inV at ih ⊢
    rw [List.any_cons, List.any_cons, ih, eq_flat h k f.1 g]
theorem Vw.flat (h : Vw K G H v d) (f : flatD d = true) : Is K G v d := by
  rcases h with h | ⟨a, o, ev, e, t⟩
  · exact h
  · subst e
    cases o <;> cases f
theorem RepG.rep (R : RepG K T G l H) (h : Is K G v d) : Rep K T ((.dat d, some v) :: l) H := ⟨G, R.dat h⟩
theorem RepG.newT {p : Addr} (R : RepG K T G l H) (hp : H p = none) (h : Iss K G vs ds) : Rep K T ((.dat (.tuple ds), some (.ref p)) :: l) (upd H p (.tup vs)) :=
  ⟨_, (R.new (u := .tup vs) hp (fun ps z => nomatch z)).dat (.tup (SqT.of upd_same) (h.mono (Ex.new (G_none R hp))))⟩
theorem RepG.newL {p : Addr} (R : RepG K T G l H) (hp : H p = none) (h : Iss K G vs ds) : Rep K T ((.own (.lst ds), some (.ref p)) :: l) (upd H p (.lst vs)) := ⟨G, R.newO hp ⟨vs, upd_same, h⟩⟩
theorem Iss.nil_iff (h : Iss K G vs ds) : vs = [] ↔ ds = [] := by
  have := h.len
  cases vs <;> cases ds <;> simp at this ⊢
end
/-! ### dicts -/
theorem kyD_inj {a b : Ky} (h : kyD a = kyD b) : a = b := by
  cases a <;> cases b <;> first | cases h; rfl | cases h
theorem dKy_kyD (k : Ky) : dKy (kyD k) = some k := by cases k <;> rfl
theorem dKy_eq {d : D} {k : Ky} (h : dKy d = some k) : d = kyD k := by
  cases d <;> first | cases h; rfl | cases h
theorem kvD_zip : ∀ {ks : List Ky} {ds : List D}, kvD ((ks.map kyD).zip ds) = some (ks.zip ds)
  | [], ds => rfl
  | k :: ks, [] => rfl
  | k :: ks, d :: ds => by
    show (dKy (kyD k)).bind (fun ky => (kvD ((ks.map kyD).zip ds)).map ((ky, d) :: ·)) = _
    rw [dKy_kyD, kvD_zip]; rfl
section
variable {K : PySem.W.Frag} {G H : Hp} {v w : V} {d e : D}
theorem vw_key {k : Ky} (h : Vw K G H v d) (e : dKy d = some k) : v = kV k := by
  cases d with
  | int i => cases e; exact h.int
  | str x => cases e; exact h.str
  | _ => cases e
def GetR (K : PySem.W.Frag) (G : Hp) : Option D → Option V → Prop
  | none, r => r = none
  | some d, r => ∃ z, r = some z ∧ Is K G z d
theorem kget_valV (k : Ky) : ∀ {ks : List Ky} {xs : List V} {ds : List D}, Iss K G xs ds → GetR K G (kget (ks.zip ds) k) (valV (ks.zip xs) k)
  | [], xs, ds, h => by cases h <;> exact rfl
  | j :: ks, _, _, .nil => rfl
  | j :: ks, _, _, .cons (v := v) (vs := xs) (d := d) (ds := ds) h t => by
    have ih := kget_valV k (ks := ks) t
    by_cases e : j = k
    · have e1 : kget ((j, d) :: ks.zip ds) k = some d := by unfold kget; simp [e]
      show GetR K G (kget ((j, d) :: ks.zip ds) k) _
      rw [e1]
      exact ⟨v, valV_pos (p := (j, v)) e, h⟩
    · have e1 : kget ((j, d) :: ks.zip ds) k = kget (ks.zip ds) k := by unfold kget; simp [e]
      have e2 : valV ((j, v) :: ks.zip xs) k = valV (ks.zip xs) k := valV_neg (p := (j, v)) e
      show GetR K G (kget ((j, d) :: ks.zip ds) k) (valV ((j, v) :: ks.zip xs) k)
      rw [e1, e2]
      exact ih
/-- what is read of a dict -/
theorem vw_get {kvs : List (D × D)} {o : Option D} (hx : Vw K G H v (.dict kvs)) (hy : Vw K G H w e) (sub : Ex G H) (h : dget kvs e = some o) : ∃ a r, v = .ref a ∧ DGet H a w r ∧ GetR K G o r := by
  obtain ⟨a, ks, xs, ds, ev, hr, hl, hi, ek⟩ := hx.dic sub
  subst ek
  unfold dget at h
  rw [kvD_zip] at h
  cases qk : dKy e with
  | none => rw [qk] at h; cases h
  | some k =>
    rw [qk] at h
    cases h
    exact ⟨a, _, ev, .inl ⟨_, k, hr, vw_key hy qk, rfl⟩, kget_valV k hi⟩
end
section
variable {X : Cx} {Z : Cf} {k : Nat}
theorem op_inDict (hu : X.A.units + 1 < cLine) : OpR X (compareOp .In) (fun y x H Q => ∃ a o, x = .ref a ∧ DGet H a y o ∧ Q (.bl o.isSome) H) := fun pins s σ H y x iv u Q I ry rx q => by
  obtain ⟨a, o, ex, g, q⟩ := q
  subst ex
  obtain rfl : u = Value.ref a := rx
  exact d_in hu I g ry fun s3 I3 => ⟨.bl o.isSome, H, I3, rfl, q⟩
theorem op_notInDict (hu : X.A.units + 1 < cLine) : OpR X (compareOp .NotIn) (fun y x H Q => ∃ a o, x = .ref a ∧ DGet H a y o ∧ Q (.bl (!o.isSome)) H) := fun pins s σ H y x iv u Q I ry rx q => by
  obtain ⟨a, o, ex, g, q⟩ := q
  subst ex
  obtain rfl : u = Value.ref a := rx
  exact d_notIn hu I g ry fun s3 I3 => ⟨.bl (!o.isSome), H, I3, rfl, q⟩
theorem ix_dict (hu : X.A.units + 1 < cLine) : IxR X (fun x y H Q => ∃ a v, x = .ref a ∧ DGet H a y (some v) ∧ Q v H) := fun value slice pins s σ H x y v u Q I rx ry q hs => by
  obtain ⟨a, z, ex, g, q⟩ := q
  subst ex
  obtain rfl : v = Value.ref a := rx
  have hT := dict_typeIs I g
  unfold subscriptTail
  refine wpAny_bind ?_
  rw [getitemInPython_of_ne hT.not_modules]
  refine wpAny_bind (wpAny_specialOf hT PySem.F.slot_dict_getitem.lookup ?_)
  have fin : wpAny (model X.prog X.w) X.A (subscripted slice false (Value.ref a) u) (fun r s₃ => wpAny (model X.prog X.w) X.A (letTemporaryGo value (Value.ref a) r >>= fun _ => pure r) (EP X pins σ Q) X.xe s₃) X.xe s := by
    rw [hs]
    exact wpAny_operating (d_getItem hu I g ry fun w' s' I' rw' => wpAny_bind (wpAny_letTemporaryGo (wpAny_pure ⟨z, H, I', rw', q⟩)))
  first
    | exact wpAny_pure (wpAny_bind fin)
    | exact wpAny_bind (wpAny_pure (wpAny_bind fin))
    | exact wpAny_bind fin
theorem op_fdivX : OpR X (binaryOp .FloorDiv) (rI (fun _ j => j ≠ 0 ∧ j.natAbs.log2 < 9000) fun i j => .int (i.fdiv j)) := opI fun _ _ _ _ _ _ _ hc q => floordiv_int hc.1 q (.inl (PyProof.noPylong_of_log2 hc.2))
theorem ob_add : OpOk X.K (wide X (binaryOp .Add)) (binop .add) := by
  intro T G l H x y d e s Q R wx wy es hq
  cases d <;> cases e <;> first | cases es | skip
  · exact wide_of op_add ⟨_, _, wx.int, wy.int, hq _ _ (R.rep (.int _))⟩
  · rw [b_cats] at es
    obtain ⟨h, rfl⟩ := if_some es
    exact wide_of op_add_str ⟨_, _, wx.str, wy.str, h, hq _ _ (R.rep (.str _))⟩
  · rw [b_catl] at es
    obtain ⟨h, rfl⟩ := if_some es
    obtain ⟨a, xs, e1, h1, i1⟩ := wx.lst R.sub
    obtain ⟨b, ys, e2, h2, i2⟩ := wy.lst R.sub
    exact wide_of op_cat ⟨a, b, xs, ys, e1, e2, h1, h2, by rw [i1.len, i2.len]; exact h, fun p hp => hq _ _ (R.newL hp (i1.app i2))⟩
  · rw [b_catt] at es
    obtain ⟨h, rfl⟩ := if_some es
    obtain ⟨a, xs, e1, h1, i1⟩ := wx.tup R.sub
    obtain ⟨b, ys, e2, h2, i2⟩ := wy.tup R.sub
    refine wide_of op_catA ⟨a, b, xs, ys, e1, e2, h1, h2, by rw [i1.len, i2.len]; exact h, fun z => ?_, fun z1 z2 => ?_, fun z1 z2 p hp => hq _ _ (R.newT hp (i1.app i2))⟩
    · have z' := i1.nil_iff.mp z
      rw [z', List.nil_append] at hq
      rcases wy with w | ⟨_, o, _, e, _⟩
      · rw [e2] at w; exact hq _ _ (R.rep w)
      · cases o <;> cases e
    · have z' := i2.nil_iff.mp z2
      rw [z', List.append_nil] at hq
      rcases wx with w | ⟨_, o, _, e, _⟩
      · rw [e1] at w; exact hq _ _ (R.rep w)
      · cases o <;> cases e
theorem ob_sub : OpOk X.K (wide X (binaryOp .Sub)) (binop .sub) := by
  intro T G l H x y d e s Q R wx wy es hq
  cases d <;> cases e <;> first | cases es | skip
  exact wide_of op_sub ⟨_, _, wx.int, wy.int, hq _ _ (R.rep (.int _))⟩
theorem ob_mul : OpOk X.K (wide X (binaryOp .Mult)) (binop .mul) := by
  intro T G l H x y d e s Q R wx wy es hq
  cases d <;> cases e <;> first | cases es | skip
  · rw [b_mul] at es
    obtain ⟨h, rfl⟩ := if_some es
    exact wide_of op_mulW ⟨_, _, wx.int, wy.int, h, hq _ _ (R.rep (.int _))⟩
  · rw [b_repl] at es
    obtain ⟨h, rfl⟩ := if_some es
    obtain ⟨a, xs, e1, h1, i1⟩ := wx.lst R.sub
    exact wide_of op_rep ⟨a, _, xs, e1, wy.int, h1, h.1, h.2.1, by rw [i1.len]; exact h.2.2, fun p hp => hq _ _ (R.newL hp (i1.rep _))⟩
  · rw [b_rept] at es
    obtain ⟨h, rfl⟩ := if_some es
    obtain ⟨a, xs, e1, h1, i1⟩ := wx.tup R.sub
    refine wide_of op_repM ⟨a, _, xs, e1, wy.int, h1, h.1, h.2.1, by rw [i1.len]; exact h.2.2, fun z => ?_, fun z1 z2 p hp => hq _ _ (R.newT hp (i1.rep _))⟩
    have w : Is X.K G (.ref a) (.tuple ‹_›) := by
      rcases wx with w | ⟨_, o, _, e, _⟩
      · rw [e1] at w; exact w
      · cases o <;> cases e
    have e3 : ∀ (ds : List Ell.D) (k : Int), ds = [] ∨ k = 1 → (List.replicate k.toNat ds).flatten = ds := fun ds k z => by
      rcases z with z | z
      · subst z; simp
      · subst z; simp
    rw [e3 _ _ (z.imp i1.nil_iff.mp id)] at hq
    exact hq _ _ (R.rep w)
theorem ob_fdiv : OpOk X.K (wide X (binaryOp .FloorDiv)) (binop .fdiv) := by
  intro T G l H x y d e s Q R wx wy es hq
  cases d <;> cases e <;> first | cases es | skip
  rw [b_fdiv] at es
  obtain ⟨h, rfl⟩ := if_some es
  exact wide_of op_fdivX ⟨_, _, wx.int, wy.int, h, hq _ _ (R.rep (.int _))⟩
theorem ob_mod : OpOk X.K (wide X (binaryOp .Mod)) (binop .mod) := by
  intro T G l H x y d e s Q R wx wy es hq
  cases d <;> cases e <;> first | cases es | skip
  rw [b_mod] at es
  obtain ⟨h, rfl⟩ := if_some es
  exact wide_of op_modN ⟨_, _, wx.int, wy.int, h, hq _ _ (R.rep (.int _))⟩
theorem ob_pow : OpOk X.K (wide X (binaryOp .Pow)) (binop .pow) := by
  intro T G l H x y d e s Q R wx wy es hq
  cases d <;> cases e <;> first | cases es | skip
  rw [b_pow] at es
  obtain ⟨h, rfl⟩ := if_some es
  exact wide_of op_pow ⟨_, _, wx.int, wy.int, h, hq _ _ (R.rep (.int _))⟩
theorem d_neg {e : Expr} {pos : Pos} {c : CE} (h : PE X e (tE X.K Z c)) : PE X (.UnaryOp .USub e pos) (tE X.K Z (.neg c)) := by
  refine PE.imp (pe_un un_neg h) fun σ H Q h => tUn_of (fun T G l H x d s Q R w es hq => ?_) h
  cases d <;> first | cases es | skip
  exact ⟨_, w.int, hq _ _ (R.rep (.int _))⟩
theorem oc_eqU (hu : X.A.units + 64 < cLine) : OpOk X.K (wide X (compareOp .Eq)) (fun d e => dB (cmpop .eq d e)) := by
  intro T G l H x y d e s Q R wx wy es hq
  have es : dB (cmpop .eq d e) = some s := es
  rw [c_eq] at es
  obtain ⟨h, rfl⟩ := dB_some es
  rcases h with hs | h
  · cases d <;> first | cases hs | skip
    cases e <;> first | cases hs | skip
    refine wide_of op_eq ⟨by rw [wx.str, wy.str]; rfl, ?_⟩
    rename_i x1 y1 _
    have e1 : decide (x = y) = PyData.eqv (.str x1) (.str y1) := by
      rw [wx.str, wy.str, eqv_str]
      exact decide_eq_decide.mpr ⟨fun z => V.str.inj z, fun z => by rw [z]⟩
    rw [e1]
    exact hq _ _ (R.rep (.bl _))
  exact wide_of (op_eqD hu) ⟨d, e, wx.dp R.sub (SeqAt.canLay_of_shaped h.1), wy.dp R.sub (SeqAt.canLay_of_shaped h.2), h.1, h.2, hq _ _ (R.rep (.bl _))⟩
theorem oc_eq (g : XG X k) : OpOk X.K (wide X (compareOp .Eq)) (fun d e => dB (cmpop .eq d e)) := oc_eqU g.room.units
theorem oc_ne (g : XG X k) : OpOk X.K (wide X (compareOp .NotEq)) (fun d e => dB (cmpop .ne d e)) := by
  intro T G l H x y d e s Q R wx wy es hq
  have es : dB (cmpop .ne d e) = some s := es
  rw [c_ne] at es
  obtain ⟨h, rfl⟩ := dB_some es
  rcases h with hs | h
  · cases d <;> first | cases hs | skip
    cases e <;> first | cases hs | skip
    refine wide_of op_ne ⟨by rw [wx.str, wy.str]; rfl, ?_⟩
    rename_i x1 y1 _
    have e1 : decide (x = y) = PyData.eqv (.str x1) (.str y1) := by
      rw [wx.str, wy.str, eqv_str]
      exact decide_eq_decide.mpr ⟨fun z => V.str.inj z, fun z => by rw [z]⟩
    rw [e1]
    exact hq _ _ (R.rep (.bl _))
  exact wide_of (op_neD g.room.units) ⟨d, e, wx.dp R.sub (SeqAt.canLay_of_shaped h.1), wy.dp R.sub (SeqAt.canLay_of_shaped h.2), h.1, h.2, hq _ _ (R.rep (.bl _))⟩
theorem oc_lt : OpOk X.K (wide X (compareOp .Lt)) (fun d e => dB (cmpop .lt d e)) := by
  intro T G l H x y d e s Q R wx wy es hq
  cases d <;> cases e <;> first | cases es | skip
  exact wide_of op_lt ⟨_, _, wx.int, wy.int, hq _ _ (R.rep (.bl _))⟩
theorem oc_le : OpOk X.K (wide X (compareOp .LtE)) (fun d e => dB (cmpop .le d e)) := by
  intro T G l H x y d e s Q R wx wy es hq
  cases d <;> cases e <;> first | cases es | skip
  exact wide_of op_le ⟨_, _, wx.int, wy.int, hq _ _ (R.rep (.bl _))⟩
theorem oc_gt : OpOk X.K (wide X (compareOp .Gt)) (fun d e => dB (cmpop .gt d e)) := by
  intro T G l H x y d e s Q R wx wy es hq
  cases d <;> cases e <;> first | cases es | skip
  exact wide_of op_gt ⟨_, _, wx.int, wy.int, hq _ _ (R.rep (.bl _))⟩
theorem oc_ge : OpOk X.K (wide X (compareOp .GtE)) (fun d e => dB (cmpop .ge d e)) := by
  intro T G l H x y d e s Q R wx wy es hq
  cases d <;> cases e <;> first | cases es | skip
  exact wide_of op_ge ⟨_, _, wx.int, wy.int, hq _ _ (R.rep (.bl _))⟩
theorem oc_is : OpOk X.K (wide X (compareOp .Is)) (fun d e => dB (cmpop .is_ d e)) := by
  intro T G l H x y d e s Q R wx wy es hq
  cases e with
  | none =>
    have es : dB (cmpop .is_ d .none) = some s := es
    rw [c_is] at es
    cases es
    refine wide_of op_isN ⟨wy.non, ?_⟩
    rw [wx.isN]
    exact hq _ _ (R.rep (.bl _))
  | bool b =>
    cases d with
    | bool a =>
      have es : dB (cmpop .is_ (.bool a) (.bool b)) = some s := es
      rw [c_isb] at es
      cases es
      exact wide_of op_isBl ⟨a, b, wx.bl, wy.bl, hq _ _ (R.rep (.bl _))⟩
    | _ => cases es
  | _ => cases d <;> cases es
theorem oc_isnot : OpOk X.K (wide X (compareOp .IsNot)) (fun d e => dB (cmpop .isnot d e)) := by
  intro T G l H x y d e s Q R wx wy es hq
  cases e with
  | none =>
    have es : dB (cmpop .isnot d .none) = some s := es
    rw [c_isnot] at es
    cases es
    refine wide_of op_notN ⟨wy.non, ?_⟩
    rw [wx.isN]
    exact hq _ _ (R.rep (.bl _))
  | bool b =>
    cases d with
    | bool a =>
      have es : dB (cmpop .isnot (.bool a) (.bool b)) = some s := es
      rw [c_isnotb] at es
      cases es
      exact wide_of op_notBl ⟨a, b, wx.bl, wy.bl, hq _ _ (R.rep (.bl _))⟩
    | _ => cases es
  | _ => cases d <;> cases es
theorem oc_in (g : XG X k) : OpOk X.K (wide X (compareOp .In)) (fun d e => dB (cmpop .in_ d e)) := by
  intro T G l H x y d e s Q R wx wy es hq
  cases e with
  | list xs =>
    have es : dB (if SeqAt.shaped d = true ∧ SeqAt.shaped (.list xs) = true then some (xs.any fun z => PyData.eqv z d) else none) = some s := by cases d <;> exact es
    by_cases h : SeqAt.shaped d = true ∧ SeqAt.shaped (.list xs) = true
    · rw [if_pos h] at es; cases es
      exact wide_of (op_inD (by have := g.room.un; omega)) ⟨d, xs, wx.dp R.sub (SeqAt.canLay_of_shaped h.1), wy.dp R.sub (SeqAt.canLay_of_shaped h.2), h.1, h.2, hq _ _ (R.rep (.bl _))⟩
    · rw [if_neg h] at es; cases es
  | tuple xs =>
    have es : dB (if flatD d = true ∧ xs.all flatD = true then some (xs.any fun z => PyData.eqv z d) else none) = some s := by cases d <;> exact es
    by_cases h : flatD d = true ∧ xs.all flatD = true
    · rw [if_pos h] at es; cases es
      obtain ⟨b, ys, e2, h2, i2⟩ := wy.tup R.sub
      refine wide_of op_in_seq ⟨b, ys, e2, .inr h2, (wx.flat h.1).flat h.1, i2.flat h.2, ?_⟩
      rw [i2.inv (wx.flat h.1) h.2 h.1]
      exact hq _ _ (R.rep (.bl _))
    · rw [if_neg h] at es; cases es
  | dict kvs =>
    have es : dB ((dget kvs d).map fun o => o.isSome) = some s := by cases d <;> exact es
    cases qd : dget kvs d with
    | none => rw [qd] at es; cases es
    | some o =>
      rw [qd] at es; cases es
      obtain ⟨a, r, e2, hg, hr⟩ := vw_get wy wx R.sub qd
      refine wide_of (op_inDict (by have := g.room.un; omega)) ⟨a, r, e2, hg, ?_⟩
      have er : r.isSome = o.isSome := by
        cases o with
        | none => rw [show r = none from hr]; rfl
        | some z => obtain ⟨z', ez, _⟩ := hr; rw [ez]; rfl
      rw [er]
      exact hq _ _ (R.rep (.bl _))
  | _ => cases d <;> cases es
theorem oc_notin (g : XG X k) : OpOk X.K (wide X (compareOp .NotIn)) (fun d e => dB (cmpop .notin d e)) := by
  intro T G l H x y d e s Q R wx wy es hq
  cases e with
  | list xs =>
    have es : dB (if SeqAt.shaped d = true ∧ SeqAt.shaped (.list xs) = true then some (!xs.any fun z => PyData.eqv z d) else none) = some s := by cases d <;> exact es
    by_cases h : SeqAt.shaped d = true ∧ SeqAt.shaped (.list xs) = true
    · rw [if_pos h] at es; cases es
      exact wide_of (op_notInD (by have := g.room.un; omega)) ⟨d, xs, wx.dp R.sub (SeqAt.canLay_of_shaped h.1), wy.dp R.sub (SeqAt.canLay_of_shaped h.2), h.1, h.2, hq _ _ (R.rep (.bl _))⟩
    · rw [if_neg h] at es; cases es
  | tuple xs =>
    have es : dB (if flatD d = true ∧ xs.all flatD = true then some (!xs.any fun z => PyData.eqv z d) else none) = some s := by cases d <;> exact es
    by_cases h : flatD d = true ∧ xs.all flatD = true
    · rw [if_pos h] at es; cases es
      obtain ⟨b, ys, e2, h2, i2⟩ := wy.tup R.sub
      refine wide_of op_notIn_seq ⟨b, ys, e2, .inr h2, (wx.flat h.1).flat h.1, i2.flat h.2, ?_⟩
      rw [i2.inv (wx.flat h.1) h.2 h.1]
      exact hq _ _ (R.rep (.bl _))
    · rw [if_neg h] at es; cases es
  | dict kvs =>
    have es : dB ((dget kvs d).map fun o => (!o.isSome)) = some s := by cases d <;> exact es
    cases qd : dget kvs d with
    | none => rw [qd] at es; cases es
    | some o =>
      rw [qd] at es; cases es
      obtain ⟨a, r, e2, hg, hr⟩ := vw_get wy wx R.sub qd
      refine wide_of (op_notInDict (by have := g.room.un; omega)) ⟨a, r, e2, hg, ?_⟩
      have er : r.isSome = o.isSome := by
        cases o with
        | none => rw [show r = none from hr]; rfl
        | some z => obtain ⟨z', ez, _⟩ := hr; rw [ez]; rfl
      rw [er]
      exact hq _ _ (R.rep (.bl _))
  | _ => cases d <;> cases es
/-! ### subscripts -/
def wixR (X : Cx) : R2 := fun x y H Q => ∀ (value slice : Expr) (pins : List (Addr × Obj)) (s : Shared) (σ : L2.St) (v u : Value), Inv X pins σ H s → RelV x v → RelV y u →
  subscripted slice false v u = operate [v, u] (getItem v u) → wpAny (model X.prog X.w) X.A (subscriptTail value slice v u) (EP X pins σ Q) X.xe s
theorem ix_wide : IxR X (wixR X) := fun value slice pins s σ H x y v u Q I rx ry h hs => h value slice pins s σ v u I rx ry hs
theorem wix_of {r : R2} (o : IxR X r) {x y : V} {H : Hp} {Q : VK} (h : r x y H Q) : wixR X x y H Q := fun value slice pins s σ v u I rx ry hs => o value slice pins s σ H x y v u Q I rx ry h hs
theorem ok_idx (hu : X.A.units + 1 < cLine) : OpOk X.K (wixR X) (fun d e => (index d e).map Slot.dat) := by
  intro T G l H x y d e s Q R wx wy es hq
  cases d with
  | list ds =>
    cases e with
    | int i =>
      have es : (nth ds i).map Slot.dat = some s := es
      cases q : nth ds i with
      | none => rw [q] at es; cases es
      | some z =>
        rw [q] at es; cases es
        obtain ⟨a, xs, e1, h1, i1⟩ := wx.lst R.sub
        obtain ⟨v, hv, w⟩ := i1.nth q
        exact wix_of ix_list ⟨a, xs, i, v, e1, wy.int, SqL.of h1, hv, hq _ _ (R.rep w)⟩
    | _ => cases es
  | tuple ds =>
    cases e with
    | int i =>
      have es : (nth ds i).map Slot.dat = some s := es
      cases q : nth ds i with
      | none => rw [q] at es; cases es
      | some z =>
        rw [q] at es; cases es
        obtain ⟨a, xs, e1, h1, i1⟩ := wx.tup R.sub
        obtain ⟨v, hv, w⟩ := i1.nth q
        exact wix_of ix_tup ⟨a, xs, i, v, e1, wy.int, h1, hv, hq _ _ (R.rep w)⟩
    | _ => cases es
  | dict kvs =>
    have es : ((dget kvs e).bind id).map Slot.dat = some s := es
    cases qd : dget kvs e with
    | none => rw [qd] at es; cases es
    | some o =>
      rw [qd] at es
      obtain ⟨a, r, e2, hg, hr⟩ := vw_get wx wy R.sub qd
      cases o with
      | none => cases es
      | some z =>
        cases es
        obtain ⟨z', ez, w⟩ := hr
        subst ez
        exact wix_of (ix_dict hu) ⟨a, z', e2, hg, hq _ _ (R.rep w)⟩
  | _ => cases es
theorem d_idxU (hu : X.A.units + 64 < cLine) {a b : Expr} {pos : Pos} {ca cb : CE} (ha : PE X a (tE X.K Z ca)) (hb : PE X b (tE X.K Z cb)) (hs : PlainIx b := by exact fun _ _ => rfl) : PE X (.Subscript a b pos) (tE X.K Z (.idx ca cb)) :=
  PE.imp (pe_ix ix_wide ha hb hs) fun _ _ _ h => tOp_of (ok_idx (by omega)) h
theorem d_idx (g : XG X k) {a b : Expr} {pos : Pos} {ca cb : CE} (ha : PE X a (tE X.K Z ca)) (hb : PE X b (tE X.K Z cb)) (hs : PlainIx b := by exact fun _ _ => rfl) : PE X (.Subscript a b pos) (tE X.K Z (.idx ca cb)) :=
  d_idxU g.room.units ha hb hs
end
end Ell
set_option autoImplicit false
/-! Ell4: and, or, if, chains, slices, built-in functions. -/
namespace Ell
open PySem PySem.Spec PyProof.Rows L2
open Evl (Ex)
section
variable {K : PySem.W.Frag} {Z : Cf} {σ : L2.St} {H : Hp} {fr l : List Ent} {ρ : Rho} {G : Hp} {T : List (Addr × Str)}
theorem tG.mono {α β : Type} {I : α → β → L2.St → Prop} {E : α → β → List Ent} {ev : Rho → Res α} {Q Q' : β → Hp → Prop} (h : tG K Z I E ev σ H Q) (k : ∀ b H, Q b H → Q' b H) : tG K Z I E ev σ H Q' := by
  obtain ⟨ρ, fr, hl, R, h⟩ := h
  refine ⟨ρ, fr, hl, R, ?_⟩
  revert h
  cases ev ρ with
  | stuck => exact id
  | err c ρ1 => exact id
  | ok b ρ1 => exact fun h b H1 hl1 vi R1 => k _ _ (h b H1 hl1 vi R1)
theorem tIfV_of {f : Rho → Res Ell.Val} {ea : Rho → Res Ell.Val} {b : Bool} {Q : VK} {t : Bool → Hp → Prop} (h : tG K Z (fun (b b' : Bool) _ => b = b') (fun _ _ => []) (fun ρ => kB (ea ρ)) σ H t) (k : ∀ c H, t c H → Q (.bl c) H) :
    tG K Z VIs ents ea σ H fun x H1 => ∃ c, x = .bl c ∧ t c H1 := tB_of h
/-- behind a test as a test -/
theorem tIfT_of {f g : Rho → Res Ell.Val} {t : Rho → Res Bool} {Q : Bool → Hp → Prop} (h : tG K Z (fun (b b' : Bool) _ => b = b') (fun _ _ => []) (fun ρ => kB (iteR f g (t ρ))) σ H Q) :
    tG K Z (fun (b b' : Bool) _ => b = b') (fun _ _ => []) t σ H fun b H1 => if b = true then tG K Z (fun (b b' : Bool) _ => b = b') (fun _ _ => []) (fun ρ => kB (f ρ)) σ H1 Q else tG K Z (fun (b b' : Bool) _ => b = b') (fun _ _ => []) (fun ρ => kB (g ρ)) σ H1 Q := by
  obtain ⟨ρ, fr, hl, R, h⟩ := h
  refine ⟨ρ, fr, hl, R, ?_⟩
  dsimp only at h ⊢
  cases qa : t ρ with
  | stuck => rw [qa] at h; exact h
  | err c ρ1 => rw [qa] at h; exact h
  | ok b ρ1 =>
    rw [qa] at h
    intro b' H1 hl1 eb R1
    subst eb
    cases b with
    | true => rw [if_pos rfl]; exact ⟨ρ1, fr, hl1, R1, h⟩
    | false => rw [if_neg Bool.false_ne_true]; exact ⟨ρ1, fr, hl1, R1, h⟩
theorem vB_T {b : Bool} {Q : Bool → Hp → Prop} (h : tG K Z (fun (b b' : Bool) _ => b = b') (fun _ _ => []) (fun ρ => kB (vB b ρ)) σ H Q) : Q b H := by
  obtain ⟨ρ, fr, hl, R, h⟩ := h
  exact h b H hl rfl R
theorem vB_V {b : Bool} {Q : VK} (h : tG K Z VIs ents (vB b) σ H Q) : Q (.bl b) H := by
  obtain ⟨H', q, e⟩ := vB_val h
  rw [← e]
  exact q
end
section
variable {X : Cx} {Z : Cf} {e a b c : Expr} {es rest : List Expr} {pos : Pos} {ca cb cc : CE} {k : Nat}
theorem d_one {op} (h : PE X a (tE X.K Z ca)) : PE X (.BoolOp op [a] pos) (tE X.K Z ca) := pe_one h
theorem d_and (ha : PE X a (tE X.K Z ca)) (hb : PE X (.BoolOp .And (b :: rest) pos) (tE X.K Z cb)) : PE X (.BoolOp .And (a :: b :: rest) pos) (tE X.K Z (.and_ ca cb)) := by
  refine PE.imp (pe_and ha hb) fun σ H Q h => ?_
  refine (tB_of (tIf_of h)).mono fun x H1 ⟨k, e, q⟩ => ⟨k, e, ?_⟩
  cases k with
  | true => rw [if_pos rfl] at q ⊢; exact q
  | false => rw [if_neg Bool.false_ne_true] at q ⊢; exact vB_V q
theorem d_or (ha : PE X a (tE X.K Z ca)) (hb : PE X (.BoolOp .Or (b :: rest) pos) (tE X.K Z cb)) : PE X (.BoolOp .Or (a :: b :: rest) pos) (tE X.K Z (.or_ ca cb)) := by
  refine PE.imp (pe_or ha hb) fun σ H Q h => ?_
  refine (tB_of (tIf_of h)).mono fun x H1 ⟨k, e, q⟩ => ⟨k, e, ?_⟩
  cases k with
  | true => rw [if_pos rfl] at q ⊢; exact vB_V q
  | false => rw [if_neg Bool.false_ne_true] at q ⊢; exact q
theorem d_not (ha : PE X a (tE X.K Z ca)) : PE X (.UnaryOp .Not a pos) (tE X.K Z (.not_ ca)) := by
  refine PE.imp (pe_not ha) fun σ H Q h => ?_
  refine (tB_of (tIf_of h)).mono fun x H1 ⟨k, e, q⟩ => ⟨k, e, ?_⟩
  cases k with
  | true => rw [if_pos rfl] at q; exact vB_V q
  | false => rw [if_neg Bool.false_ne_true] at q; exact vB_V q
theorem w_and1 (h : PT X a (tT X.K Z ca)) : PW X (.BoolOp .And [a] pos) (tT X.K Z ca) := pw_and1 h
theorem w_or1 (h : PT X a (tT X.K Z ca)) : PW X (.BoolOp .Or [a] pos) (tT X.K Z ca) := pw_or1 h
theorem PW.imp {u u' : TT} (h : PW X e u) (k : ∀ σ H Q, u' σ H Q → u σ H Q) : PW X e u' := ⟨fun w pins s σ H Q I q => h.run w pins s σ H Q I (k σ H Q q)⟩
theorem w_and (ha : PT X a (tT X.K Z ca)) (hb : PW X (.BoolOp .And (b :: rest) pos) (tT X.K Z cb)) : PW X (.BoolOp .And (a :: b :: rest) pos) (tT X.K Z (.and_ ca cb)) := by
  refine PW.imp (pw_and ha hb) fun σ H Q h => ?_
  refine (tIfT_of h).mono fun k H1 q => ?_
  cases k with
  | true => rw [if_pos rfl] at q ⊢; exact q
  | false => rw [if_neg Bool.false_ne_true] at q ⊢; exact vB_T q
theorem w_or (ha : PT X a (tT X.K Z ca)) (hb : PW X (.BoolOp .Or (b :: rest) pos) (tT X.K Z cb)) : PW X (.BoolOp .Or (a :: b :: rest) pos) (tT X.K Z (.or_ ca cb)) := by
  refine PW.imp (pw_or ha hb) fun σ H Q h => ?_
  refine (tIfT_of h).mono fun k H1 q => ?_
  cases k with
  | true => rw [if_pos rfl] at q ⊢; exact vB_T q
  | false => rw [if_neg Bool.false_ne_true] at q ⊢; exact q
theorem d_ife (hc : PT X c (tT X.K Z cc)) (ha : PE X a (tE X.K Z ca)) (hb : PE X b (tE X.K Z cb)) : PE X (.IfExp c a b pos) (tE X.K Z (.ife cc ca cb)) := by
  refine PE.imp (pe_ifExp hc ha hb) fun σ H Q h => ?_
  exact tIf_of h
/-! ### chains -/
theorem tChain_of {K : PySem.W.Frag} {σ : L2.St} {H : Hp} {o1 o2 : COp} {r1 r2 : R2} {Q : VK} (h1 : OpOk K r1 (fun d e => dB (cmpop o1 d e))) (h2 : OpOk K r2 (fun d e => dB (cmpop o2 d e))) (h : tE K Z (.chn o1 o2 ca cb cc) σ H Q) :
    tChain r1 r2 (tE K Z ca) (tE K Z cb) (tE K Z cc) σ H Q := by
  obtain ⟨ρ, fr, hl, R, h⟩ := h
  refine ⟨ρ, fr, hl, R, ?_⟩
  have h : Post K Z σ fr VIs ents Q (chn o1 o2 (evP cb) (evP cc) (evP ca ρ)) := h
  cases qa : evP ca ρ with
  | stuck => rw [qa] at h; exact h
  | err c ρ1 => rw [qa] at h; exact h
  | ok x ρ1 =>
    rw [qa] at h
    intro v H1 hl1 vi R1
    refine ⟨ρ1, ents x v ++ fr, hl1, R1.perm (List.perm_append_comm_assoc _ _ _), ?_⟩
    have h : Post K Z σ fr VIs ents Q (chnA x o1 o2 (evP cc) (evP cb ρ1)) := h
    cases qb : evP cb ρ1 with
    | stuck => rw [qb] at h; exact h
    | err c ρ2 => rw [qb] at h; exact fun H2 hl2 R2 => h H2 hl2 (drop_mid R2)
    | ok y ρ2 =>
      rw [qb] at h
      have h : Post K Z σ fr VIs ents Q (chnB y o2 (evP cc) ρ2 ((x.view ρ2).bind fun d => (y.view ρ2).bind fun e => cmpop o1 d e)) := h
      intro w H2 hl2 wi R2
      cases ed : x.view ρ2 with
      | none => rw [ed] at h; exact False.elim h
      | some d =>
        rw [ed, Option.bind_some] at h
        cases ee : y.view ρ2 with
        | none => rw [ee] at h; exact False.elim h
        | some e =>
          rw [ee, Option.bind_some] at h
          cases es : cmpop o1 d e with
          | none => rw [es] at h; exact False.elim h
          | some k =>
            rw [es] at h
            obtain ⟨G, g2⟩ := id R2
            have wx := vw_at (ρ := ρ2) (σ := σ) g2 (fun p hp => List.mem_append_right _ (mem_l hp)) (fun p hp => mem_l hp) vi ed
            have wy := vw_at (ρ := ρ2) (σ := σ) g2 (fun p hp => List.mem_append_left _ hp) (fun p hp => mem_l hp) wi ee
            refine h1 _ G _ H2 v w d e (.dat (.bool k)) _ g2 wx wy (by dsimp only; rw [es]; rfl) fun u H3 R3 => ?_
            obtain ⟨G3, g3⟩ := id R3
            obtain ⟨u', eu, wu⟩ := g3.good _ List.mem_cons_self
            cases eu
            cases wu
            refine ⟨k, rfl, ?_⟩
            have R4 : Rep K Z.T (ents y w ++ (ρ2.zip σ ++ (ents x v ++ fr))) H3 := R3.subl (List.sublist_cons_self _ _)
            cases k with
            | false =>
              rw [if_neg Bool.false_ne_true]
              refine h (.bl false) H3 hl2 trivial ?_
              show Rep K Z.T ((.dat (.bool false), some (.bl false)) :: (ρ2.zip σ ++ fr)) H3
              exact R3.subl ((((List.sublist_append_right _ _).append_left _).trans (List.sublist_append_right _ _)).cons_cons _)
            | true =>
              rw [if_pos rfl]
              refine ⟨ρ2, ents y w ++ fr, hl2, (R4.subl (((List.sublist_append_right _ _).append_left _).append_left _)).perm (List.perm_append_comm_assoc _ _ _), ?_⟩
              have h : Post K Z σ fr VIs ents Q (chnC y o2 (evP cc ρ2)) := h
              cases qc : evP cc ρ2 with
              | stuck => rw [qc] at h; exact h
              | err c ρ3 => rw [qc] at h; exact fun H2 hl2 R2 => h H2 hl2 (drop_mid R2)
              | ok z ρ3 =>
                rw [qc] at h
                have h : Post K Z σ fr VIs ents Q (opt ((y.view ρ3).bind fun e => (z.view ρ3).bind fun g => (dB (cmpop o2 e g)).map Val.tmp) ρ3) := h
                intro t H4 hl4 ti R5
                cases ed : y.view ρ3 with
                | none => rw [ed] at h; exact False.elim h
                | some e' =>
                  rw [ed, Option.bind_some] at h
                  cases ee : z.view ρ3 with
                  | none => rw [ee] at h; exact False.elim h
                  | some g =>
                    rw [ee, Option.bind_some] at h
                    cases es2 : cmpop o2 e' g with
                    | none => rw [es2] at h; exact False.elim h
                    | some m =>
                      rw [es2] at h
                      have h : Post K Z σ fr VIs ents Q (.ok (.tmp (.dat (.bool m))) ρ3) := h
                      obtain ⟨G5, g5⟩ := id R5
                      have wx := vw_at (ρ := ρ3) (σ := σ) g5 (fun p hp => List.mem_append_right _ (mem_l hp)) (fun p hp => mem_l hp) wi ed
                      have wy := vw_at (ρ := ρ3) (σ := σ) g5 (fun p hp => List.mem_append_left _ hp) (fun p hp => mem_l hp) ti ee
                      refine h2 _ G5 _ H4 w t e' g (.dat (.bool m)) _ g5 wx wy (by dsimp only; rw [es2]; rfl) fun u H6 R6 => h u H6 hl4 trivial ?_
                      show Rep K Z.T ((.dat (.bool m), some u) :: (ρ3.zip σ ++ fr)) H6
                      exact R6.subl ((((List.sublist_append_right _ _).append_left _).trans (List.sublist_append_right _ _)).cons_cons _)
theorem d_chn {op1 op2 : CmpOp} {o1 o2 : COp} (h1 : OpOk X.K (wide X (compareOp op1)) (fun d e => dB (cmpop o1 d e))) (h2 : OpOk X.K (wide X (compareOp op2)) (fun d e => dB (cmpop o2 d e))) (ha : PE X a (tE X.K Z ca)) (hb : PE X b (tE X.K Z cb)) (hc : PE X c (tE X.K Z cc))
    (hm : lastMarks [op1, op2] [b, c] = false := by with_unfolding_all rfl) : PE X (.Compare a [op1, op2] [b, c] pos) (tE X.K Z (.chn o1 o2 ca cb cc)) :=
  PE.imp (pe_chain (op_wide _) (op_wide _) ha hb hc hm) fun _ _ _ h => tChain_of h1 h2 h
theorem t_chn {op1 op2 : CmpOp} {o1 o2 : COp} (h1 : OpOk X.K (wide X (compareOp op1)) (fun d e => dB (cmpop o1 d e))) (h2 : OpOk X.K (wide X (compareOp op2)) (fun d e => dB (cmpop o2 d e))) (ha : PE X a (tE X.K Z ca)) (hb : PE X b (tE X.K Z cb)) (hc : PE X c (tE X.K Z cc))
    (hm : lastMarks [op1, op2] [b, c] = false := by with_unfolding_all rfl) : PT X (.Compare a [op1, op2] [b, c] pos) (tT X.K Z (.chn o1 o2 ca cb cc)) :=
  PT.imp (pt_chain (op_wide _) (op_wide _) ha hb hc hm) fun _ _ _ h => tChain_of h1 h2 (tB_of (ev := evP (.chn o1 o2 ca cb cc)) h)
/-! ### slices -/
def tO (K : PySem.W.Frag) (Z : Cf) (c : CE) : TO := tG K Z (fun (o o' : Option Int) _ => o = o') (fun _ _ => []) (evQ c)
theorem PO.imp {o : Option Expr} {u u' : TO} (h : PO X o u) (k : ∀ σ H Q, u' σ H Q → u σ H Q) : PO X o u' := ⟨fun pins s σ H Q I q => h.run pins s σ H Q I (k σ H Q q)⟩
theorem p_none : PO X none (tO X.K Z .nil) := by
  refine PO.imp po_none fun σ H Q h => ?_
  obtain ⟨ρ, fr, hl, R, h⟩ := h
  exact h none H hl rfl R
theorem p_some (he : PE X e (tE X.K Z ca)) : PO X (some e) (tO X.K Z (.cons ca .nil)) := by
  refine PO.imp (po_some (pe_D he)) fun σ H Q h => ?_
  obtain ⟨ρ, fr, hl, R, h⟩ := h
  refine ⟨ρ, fr, hl, R, ?_⟩
  have h : Post X.K Z σ fr (fun (o o' : Option Int) _ => o = o') (fun _ _ => []) Q (kO (kD (evP ca ρ))) := h
  dsimp only
  cases q : kD (evP ca ρ) with
  | stuck => rw [q] at h; exact h
  | err c ρ1 => rw [q] at h; exact h
  | ok d ρ1 =>
    rw [q] at h
    have h : Post X.K Z σ fr (fun (o o' : Option Int) _ => o = o') (fun _ _ => []) Q (opt (optI d) ρ1) := h
    intro v H1 hl1 _ R1
    cases d with
    | int i =>
      obtain ⟨G, g⟩ := id R1
      obtain ⟨v', ev, w⟩ := g.good _ List.mem_cons_self
      cases ev
      cases w
      exact ⟨i, rfl, h (some i) H1 hl1 rfl (R1.subl (List.sublist_cons_self _ _))⟩
    | _ => exact False.elim h
/-- the widest reading of a slice -/
def wsl (X : Cx) : V → Option Int → Option Int → Hp → VK → Prop := fun x lo hi H Q => ∀ (pins : List (Addr × Obj)) (s : Shared) (σ : L2.St) (v vl vu : Value) (sl : Addr), Inv X pins σ H s → RelV x v → s.heap.IsSliceOf sl vl vu .none → IsPart vl lo → IsPart vu hi →
    ∃ T id, typeLookup (.type T) "__getitem__" = pure (some (.builtin id)) ∧ s.TypeIs v T ∧ wpAny (model X.prog X.w) X.A (getItem v (.ref sl)) (EP X pins σ Q) X.xe s
theorem sl_wide : SlR X (wsl X) := fun pins s σ H x v vl vu lo hi sl Q I rx hs pl pu h => h pins s σ v vl vu sl I rx hs pl pu
theorem wsl_of {r : V → Option Int → Option Int → Hp → VK → Prop} (o : SlR X r) {x : V} {lo hi : Option Int} {H : Hp} {Q : VK} (h : r x lo hi H Q) : wsl X x lo hi H Q := fun pins s σ v vl vu sl I rx hs pl pu => o pins s σ H x v vl vu lo hi sl Q I rx hs pl pu h
/-- what a slice reads: data, or a list that is only read -/
theorem ro_at {K : PySem.W.Frag} {G H : Hp} {T : List (Addr × Str)} {l : List Ent} {ρ : Rho} {σ : L2.St} {x : Ell.Val} {v : V} {d : D} (R : RepG K T G l H) (hm : ∀ p ∈ ents x v, p ∈ l) (hz : ∀ p ∈ ρ.zip σ, p ∈ l) (vi : VIs x v σ) (e : roV ρ x = some d) :
    Vw K G H v d ∨ ∃ a xs ds, v = .ref a ∧ d = .list ds ∧ SqL K H a xs ∧ Iss K G xs ds := by
  cases x with
  | tmp s => exact .inl (vw_at (ρ := ρ) (σ := σ) (x := .tmp s) R hm hz vi e)
  | ref i =>
    cases q : ρ[i]? with
    | none =>
      rw [roV, q] at e
      cases e
    | some s =>
      cases s with
      | ro ds =>
        rw [roV, q] at e
        cases e
        obtain ⟨a, xs, e1, h1, w⟩ := R.good _ (hz _ (List.mem_of_getElem? (zat q (show σ[i]? = some (some v) from vi))))
        cases e1
        exact .inr ⟨a, xs, ds, rfl, rfl, Evl.ex_l R.sub h1, w⟩
      | _ =>
        refine .inl (vw_at (ρ := ρ) (σ := σ) (x := .ref i) R hm hz vi ?_)
        rw [roV, q] at e
        show (ρ[i]?).bind Ell.view = some d
        rw [q]
        exact e
theorem d_slc {lo hi : Option Expr} {cl ch : CE} {p2 : Pos} (ha : PE X a (tE X.K Z ca)) (hl : PO X lo (tO X.K Z cl)) (hh : PO X hi (tO X.K Z ch)) : PE X (.Subscript a (.Slice lo hi none p2) pos) (tE X.K Z (.slc ca cl ch)) := by
  refine PE.imp (pe_slice sl_wide ha hl hh) fun σ H Q h => ?_
  obtain ⟨ρ, fr, hl, R, h⟩ := h
  refine ⟨ρ, fr, hl, R, ?_⟩
  have h : Post X.K Z σ fr VIs ents Q (slc (evQ cl) (evQ ch) (evP ca ρ)) := h
  cases qa : evP ca ρ with
  | stuck => rw [qa] at h; exact h
  | err c ρ1 => rw [qa] at h; exact h
  | ok x ρ1 =>
    rw [qa] at h
    intro v H1 hl1 vi R1
    refine ⟨ρ1, ents x v ++ fr, hl1, R1.perm (List.perm_append_comm_assoc _ _ _), ?_⟩
    have h : Post X.K Z σ fr VIs ents Q (slcA x (evQ ch) (evQ cl ρ1)) := h
    cases qb : evQ cl ρ1 with
    | stuck => rw [qb] at h; exact h
    | err c ρ2 => rw [qb] at h; exact fun H2 hl2 R2 => h H2 hl2 (drop_mid R2)
    | ok lo ρ2 =>
      rw [qb] at h
      have h : Post X.K Z σ fr VIs ents Q (slcB x lo (evQ ch ρ2)) := h
      intro lo' H2 hl2 el R2
      subst el
      refine ⟨ρ2, ents x v ++ fr, hl2, R2, ?_⟩
      cases qc : evQ ch ρ2 with
      | stuck => rw [qc] at h; exact h
      | err c ρ3 => rw [qc] at h; exact fun H2 hl2 R2 => h H2 hl2 (drop_mid R2)
      | ok hi ρ3 =>
        rw [qc] at h
        have h : Post X.K Z σ fr VIs ents Q (opt ((roV ρ3 x).bind fun d => (slice d lo hi).map Val.tmp) ρ3) := h
        intro hi' H3 hl3 eh R3
        subst eh
        have R3 : Rep X.K Z.T (ρ3.zip σ ++ (ents x v ++ fr)) H3 := R3
        cases ed : roV ρ3 x with
        | none => rw [ed] at h; exact False.elim h
        | some d =>
          rw [ed, Option.bind_some] at h
          obtain ⟨G, g⟩ := id R3
          have wx := ro_at (ρ := ρ3) (σ := σ) g (fun p hp => mem_l hp) (fun p hp => List.mem_append_left _ hp) vi ed
          have gd : RepG X.K Z.T G (ρ3.zip σ ++ fr) H3 := g.subl ((List.sublist_append_right _ _).append_left _)
          have lst : ∀ ds aa xs, d = .list ds → v = .ref aa → SqL X.K H3 aa xs → Iss X.K G xs ds → wsl X v lo hi H3 Q := fun ds aa xs ed ev h1 w => by
            subst ed
            have h : Post X.K Z σ fr VIs ents Q (.ok (.tmp (.own (.lst (cut ds lo hi)))) ρ3) := h
            exact wsl_of sl_list ⟨aa, xs, ev, h1, fun p hp => h (.ref p) _ hl3 trivial (gd.newL hp (w.cut lo hi))⟩
          rcases wx with wx | ⟨aa, xs, ds, ev, ed, h1, w⟩
          · cases d with
            | list ds =>
              obtain ⟨aa, xs, ev, h1, w⟩ := wx.lst g.sub
              exact lst ds aa xs rfl ev (SqL.of h1) w
            | tuple ds =>
              obtain ⟨aa, xs, ev, h1, w⟩ := wx.tup g.sub
              have h : Post X.K Z σ fr VIs ents Q (.ok (.tmp (.dat (.tuple (cut ds lo hi)))) ρ3) := h
              refine wsl_of sl_tupA ⟨aa, xs, ev, h1, fun z => h _ _ hl3 trivial ?_, fun _ p hp => h (.ref p) _ hl3 trivial (gd.newT hp (w.cut lo hi))⟩
              have whole : cut ds lo hi = ds := by
                unfold cut
                rw [six_eq, six_eq, ← w.len, z.1, z.2, List.drop_zero, Nat.sub_zero, w.len, List.take_length]
              rw [whole]
              subst ev
              rcases wx with wx | ⟨_, o, _, e, _⟩
              · exact gd.rep wx
              · cases o <;> cases e
            | _ => exact False.elim h
          · exact lst ds aa xs ed ev h1 w
/-! ### built-in functions -/
structure Bi (mg : Str → Option Value) : Prop where
  len : mg "len" = none
  abs : mg "abs" = none
  int : mg "int" = none
  max : mg "max" = none
  min : mg "min" = none
  sum : mg "sum" = none
  all : mg "all" = none
  any : mg "any" = none
  sorted : mg "sorted" = none
  tuple : mg "tuple" = none
  list : mg "list" = none
  repr : mg "repr" = none
  set : mg "set" = none
  range : mg "range" = none
  enumerate : mg "enumerate" = none
  zip : mg "zip" = none
  reversed : mg "reversed" = none
  isinstance : mg "isinstance" = none
  bool : mg "bool" = none
  str : mg "str" = none
  dict : mg "dict" = none
def Vws (K : PySem.W.Frag) (G H : Hp) : List V → List D → Prop
  | [], [] => True
  | v :: vs, d :: ds => Vw K G H v d ∧ Vws K G H vs ds
  | _, _ => False
theorem vws_at {K : PySem.W.Frag} {G H : Hp} {T : List (Addr × Str)} {l : List Ent} {ρ : Rho} {σ : L2.St} (R : RepG K T G l H) (hz : ∀ p ∈ ρ.zip σ, p ∈ l) : ∀ {xs : List Ell.Val} {vs : List V} {ds : List D}, (∀ p ∈ entss xs vs, p ∈ l) → VsIs xs vs σ → views ρ xs = some ds → Vws K G H vs ds
  | [], vs, ds, _, e, h => by
    have e' : vs = [] := e
    subst e'
    cases h
    trivial
  | x :: xs, vs, ds, hm, e, h => by
    obtain ⟨v, r, ev, vi, vr⟩ := e
    subst ev
    cases q : x.view ρ with
    | none => rw [views, q] at h; cases h
    | some d =>
      rw [views, q, Option.bind_some] at h
      cases q2 : views ρ xs with
      | none => rw [q2] at h; cases h
      | some es =>
        rw [q2] at h
        cases h
        exact ⟨vw_at R (fun p hp => hm p (List.mem_append_left _ hp)) hz vi q, vws_at R hz (fun p hp => hm p (List.mem_append_right _ hp)) vr q2⟩
def BfOk (K : PySem.W.Frag) (r : List V → Hp → VK → Prop) (f : BF) : Prop :=
  ∀ (T : List (Addr × Str)) (G : Hp) (l : List Ent) (H : Hp) (xs : List V) (ds : List D) (s : Slot) (Q : VK), RepG K T G l H → Vws K G H xs ds → bfun f ds = some s → (∀ u H', Rep K T ((s, some u) :: l) H' → Q u H') → r xs H Q
def wcall (X : Cx) (f : Value) : List V → Hp → VK → Prop := fun xs H Q => ∀ (pins : List (Addr × Obj)) (s : Shared) (σ : L2.St) (us : List Value), Inv X pins σ H s → Vals xs us → wpAny (model X.prog X.w) X.A (call f us) (EP X pins σ Q) X.xe s
theorem call_wide (f : Value) : CallR X f (wcall X f) := fun pins s σ H xs us Q I r h => h pins s σ us I r
theorem wcall_of {f : Value} {r : List V → Hp → VK → Prop} (o : CallR X f r) {xs : List V} {H : Hp} {Q : VK} (h : r xs H Q) : wcall X f xs H Q := fun pins s σ us I rv => o pins s σ H xs us Q I rv h
theorem tBlt_of {K : PySem.W.Frag} {σ : L2.St} {H : Hp} {f : BF} {r : List V → Hp → VK → Prop} {Q : VK} (hr : BfOk K r f) (h : tE K Z (.blt f ca) σ H Q) : tCB r (tCs K Z ca) σ H Q := by
  obtain ⟨ρ, fr, hl, R, h⟩ := h
  refine ⟨ρ, fr, hl, R, ?_⟩
  have h : Post K Z σ fr VIs ents Q (bltR f (evC ca ρ)) := h
  cases qa : evC ca ρ with
  | stuck => rw [qa] at h; exact h
  | err c ρ1 => rw [qa] at h; exact h
  | ok xs ρ1 =>
    rw [qa] at h
    have h : Post K Z σ fr VIs ents Q (opt ((views ρ1 xs).bind fun ds => (bfun f ds).map Val.tmp) ρ1) := h
    intro vs H1 hl1 e1 R1
    cases q : views ρ1 xs with
    | none => rw [q] at h; exact False.elim h
    | some ds =>
      rw [q, Option.bind_some] at h
      cases es : bfun f ds with
      | none => rw [es] at h; exact False.elim h
      | some s =>
        rw [es] at h
        have h : Post K Z σ fr VIs ents Q (.ok (.tmp s) ρ1) := h
        obtain ⟨G, g⟩ := id R1
        refine hr _ G _ H1 vs ds s Q g (vws_at (ρ := ρ1) (σ := σ) g (fun p hp => mem_l hp) (fun p hp => List.mem_append_left _ hp) e1 q) es fun u H' R' => h u H' hl1 trivial ?_
        show Rep K Z.T ((s, some u) :: (ρ1.zip σ ++ fr)) H'
        exact R'.subl ((List.sublist_append_right _ _).cons_cons _)
theorem d_bltB {f : BF} {id : String} {x : Str} {p : Pos} (hr : BfOk X.K (wcall X (.builtin id)) f) (hm : X.mg x = none) (ha : PA X (e :: es) (tCs X.K Z ca)) (hv : bootBuiltins x = some (.builtin id) := by decide +kernel) (hg : Gl X x := by rfl) (hn : x ≠ "__name__" := by decide) (hdb : (x == ("__debug__" : Str)) = false := by decide)
    (he : starEach (e :: es) X.env = (false, eval e X.env) :: starEach es X.env := by rfl) (hpl : (backTo pos (starEach es X.env)).any (·.1) = false := by rfl) : PE X (.Call (.Name x p) (e :: es) [] pos) (tE X.K Z (.blt f ca)) :=
  PE.imp (pe_callB (call_wide _) hg hm hv ha hn hdb he hpl) fun _ _ _ h => tBlt_of hr h
theorem d_bltT {f : BF} {id : String} {x : Str} {p : Pos} (hr : BfOk X.K (wcall X (.type id)) f) (hm : X.mg x = none) (ha : PA X (e :: es) (tCs X.K Z ca)) (hv : bootBuiltins x = some (.type id) := by decide +kernel) (hg : Gl X x := by rfl) (hn : x ≠ "__name__" := by decide) (hdb : (x == ("__debug__" : Str)) = false := by decide)
    (he : starEach (e :: es) X.env = (false, eval e X.env) :: starEach es X.env := by rfl) (hpl : (backTo pos (starEach es X.env)).any (·.1) = false := by rfl) : PE X (.Call (.Name x p) (e :: es) [] pos) (tE X.K Z (.blt f ca)) :=
  PE.imp (pe_callTy (call_wide _) hg hm hv ha hn hdb he hpl) fun _ _ _ h => tBlt_of hr h
end
end Ell
set_option autoImplicit false
/-! Ell5: what the built-in functions tell. -/
namespace Ell
open PySem PySem.Spec PyProof.Rows L2
open Evl (Ex)
/-! ### a text of data is short enough -/
theorem strOk_le {x : Str} (h : PyData.strOk x = true) : ∀ c ∈ x.cps.toList, c < 16 ^ 8 := fun c hc => by
  have q : x.cps.all (fun c => decide (c < 0x110000)) = true := h
  rw [Array.all_eq_true'] at q
  have := of_decide_eq_true (q c (by simpa using hc))
  omega
theorem textFrom_le : ∀ (ts : List Str) (k : Nat) (acc : Str), (textFrom k acc ts).length ≤ acc.length + piled ts := by
  intro ts
  induction ts with
  | nil => intro k acc; exact Nat.le_add_right _ _
  | cons t r ih =>
    intro k acc
    have h := ih (k + 1) (acc ++ (if k > 0 then ", " else "" : String) ++ t)
    rw [strLen_append, strLen_append] at h
    have e : ((if k > 0 then ", " else "" : String) : Str).length ≤ 2 := by split <;> decide
    rw [piled_cons]
    show (textFrom (k + 1) (acc ++ (if k > 0 then ", " else "" : String) ++ t) r).length ≤ _
    omega

theorem tupleText_le (ts : List Str) : (tupleText ts).length ≤ piled ts + 3 := by
  unfold tupleText
  rw [strLen_append, strLen_append]
  have e1 : ((("(" : String) : Str)).length = 1 := rfl
  have e3 : (((if ts.length == 1 then ",)" else ")" : String) : Str)).length ≤ 2 := by split <;> decide
  by_cases h : ts = []
  · subst h
    have e : (Str.join ", " ([] : List Str)).length = 0 := rfl
    rw [e, e1]; omega
  · have := join_length_add ts h
    rw [e1]; omega
theorem listText_le (ts : List Str) : (listText ts).length ≤ piled ts + 2 := by
  unfold listText
  rw [strLen_append]
  have h := textFrom_le ts 0 "["
  have e1 : ((("[" : String) : Str)).length = 1 := rfl
  have e2 : ((("]" : String) : Str)).length = 1 := rfl
  rw [e2]; rw [e1] at h; omega
mutual
theorem shown_le : ∀ d : D, PyData.showable d = true → PyData.canLay0 d = true → (PyData.shown d).length ≤ rsz d
  | .none, _, _ => by show ((("None" : String) : Str)).length ≤ 4; decide
  | .bool b, _, _ => by cases b <;> (show _ ≤ 5; decide)
  | .int i, h, _ => by
    have e := int_text_length_le (k := 1920) (by decide) (of_decide_eq_true h)
    show (Str.ofString (toString i)).length ≤ 1921
    rw [PySem.ofString_length]; omega
  | .str x, _, c => by
    have := StrLaws.reprText_len x (strOk_le c)
    show (reprText x).length ≤ 12 * x.length + 2
    omega
  | .list xs, h, c => by
    have := showns_le xs h c
    have h2 := listText_le (PyData.shownAll xs)
    show (listText (PyData.shownAll xs)).length ≤ rsz.rszs xs + 2
    omega
  | .tuple xs, h, c => by
    have := showns_le xs h c
    have h2 := tupleText_le (PyData.shownAll xs)
    show (tupleText (PyData.shownAll xs)).length ≤ rsz.rszs xs + 3
    omega
  | .dict _, _, c => by cases c
theorem showns_le : ∀ ds : List D, PyData.showableAll ds = true → PyData.canLayAll0 ds = true → piled (PyData.shownAll ds) ≤ rsz.rszs ds
  | [], _, _ => Nat.le_refl _
  | d :: ds, h, c => by
    have h : (PyData.showable d && PyData.showableAll ds) = true := h
    rw [Bool.and_eq_true] at h
    rw [cl_cons, Bool.and_eq_true] at c
    have h1 := shown_le d h.1 c.1
    have h2 := showns_le ds h.2 c.2
    show piled (PyData.shown d :: PyData.shownAll ds) ≤ rsz d + 2 + rsz.rszs ds
    rw [piled_cons]; omega
end
/-! ### repr of data at an address -/
section
variable {X : Cx} {k : Nat}
theorem repr_data (g : XG X k) {pins : List (Addr × Obj)} {s : Shared} {σ : L2.St} {H : Hp} {a : Addr} {d : D} {Q : VK} (I : Inv X pins σ H s) (h : Dp X.K H (.ref a) d) (hs : d.showable = true) (hc : d.canLay0 = true) (hd : d.depth ≤ 32) (hz : rsz d ≤ sizeLine) (q : Q (.str d.shown) H) :
    wpAny (model X.prog X.w) X.A (call (.builtin "repr") [.ref a]) (EP X pins σ Q) X.xe s := by
  obtain ⟨as, r⟩ := Dp.reads I d _ _ h (show RelV (.ref a) (Value.ref a) from rfl)
  refine repr_of_reads' (h₀ := s.heap) r hs (PyData.noDict_hsm (PyData.hasDict_of_canLay d hc)) g.grd (by have := g.room.un; omega) (fun _ _ e => e) (fun h' u tk kk => ?_) (Nat.le_trans (shown_le d hs hc) hz)
  exact ⟨.str d.shown, H, I.kept (t' := tk) kk, ⟨u, rfl⟩, q⟩
theorem vw1 {K : PySem.W.Frag} {G H : Hp} {vs : List V} {d : D} (h : Vws K G H vs [d]) : ∃ v, vs = [v] ∧ Vw K G H v d := by
  cases vs with
  | nil => exact h.elim
  | cons v r =>
    cases r with
    | nil => exact ⟨v, rfl, h.1⟩
    | cons _ _ => exact h.2.elim
theorem vw2 {K : PySem.W.Frag} {G H : Hp} {vs : List V} {d e : D} (h : Vws K G H vs [d, e]) : ∃ v w, vs = [v, w] ∧ Vw K G H v d ∧ Vw K G H w e := by
  cases vs with
  | nil => exact h.elim
  | cons v r =>
    obtain ⟨w, e1, h2⟩ := vw1 h.2
    exact ⟨v, w, by rw [e1], h.1, h2⟩
theorem Vw.reDp {K : PySem.W.Frag} {G H : Hp} {v : V} {ds : List D} (h : Vw K G H v (.list ds)) (x : Ex G H) : ∃ a, v = .ref a := by
  obtain ⟨a, _, e, _⟩ := h.lst x
  exact ⟨a, e⟩
theorem call_lenR : CallR X (.builtin "len") (fun xs H Q => ∃ (a : Addr) (kvs : List (Key × V)), xs = [V.ref a] ∧ Rd H a (.dK kvs) ∧ Q (.int kvs.length) H) := by
  intro pins s σ H xs us Q I rv q
  obtain ⟨a, kvs, e, h, q⟩ := q
  subst e
  cases rv with
  | cons r1 r2 =>
    cases r2
    obtain rfl := (show _ = Value.ref a from r1)
    exact d_len I h fun t s' I' => ⟨.int _, H, I', ⟨t, rfl⟩, q⟩
theorem zip_fst' {α β : Type} : ∀ {ks : List α} {xs : List β}, ks.length = xs.length → (ks.zip xs).map (·.1) = ks
  | [], [], _ => rfl
  | k :: ks, x :: xs, h => by rw [List.zip_cons_cons, List.map_cons, zip_fst' (by simpa using h)]
  | [], x :: xs, h => by simp at h
  | k :: ks, [], h => by simp at h
theorem zip_snd' {α β : Type} : ∀ {ks : List α} {xs : List β}, ks.length = xs.length → (ks.zip xs).map (·.2) = xs
  | [], [], _ => rfl
  | k :: ks, x :: xs, h => by rw [List.zip_cons_cons, List.map_cons, zip_snd' (by simpa using h)]
  | [], x :: xs, h => by simp at h
  | k :: ks, [], h => by simp at h
theorem keys_is {K : PySem.W.Frag} {G : Hp} : ∀ ks : List Ky, Iss K G (ks.map kV) (ks.map kyD)
  | [] => .nil
  | .inl i :: ks => .cons (.int i) (keys_is ks)
  | .inr x :: ks => .cons (.str x) (keys_is ks)
theorem keys_map {K : PySem.W.Frag} {G : Hp} {ks : List Ky} {xs : List V} {ds : List D} (hl : ks.length = xs.length) (hi : Iss K G xs ds) : Iss K G ((ks.zip xs).map fun kv => kV kv.1) ((ks.zip ds).map fun p => kyD p.1) := by
  have e1 : ((ks.zip xs).map fun kv => kV kv.1) = ks.map kV := by rw [← zip_fst' hl, List.map_map, zip_fst' hl]; rfl
  have e2 : ((ks.zip ds).map fun p => kyD p.1) = ks.map kyD := by rw [← zip_fst' (hl.trans hi.len), List.map_map, zip_fst' (hl.trans hi.len)]; rfl
  rw [e1, e2]
  exact keys_is ks
theorem bf_len : BfOk X.K (wcall X (.builtin "len")) .len := by
  intro T G l H xs ds s Q R w es hq
  match ds, w, es with
  | [.list ys], w, es =>
    obtain ⟨v, e, w⟩ := vw1 w
    rw [f_lenl] at es; cases es
    obtain ⟨a, zs, ev, h1, i1⟩ := w.lst R.sub
    refine wcall_of call_len_seq ⟨a, zs, by rw [e, ev], .inl (SqL.of h1), ?_⟩
    rw [i1.len]
    exact hq _ _ (R.rep (.int _))
  | [.tuple ys], w, es =>
    obtain ⟨v, e, w⟩ := vw1 w
    rw [f_lent] at es; cases es
    obtain ⟨a, zs, ev, h1, i1⟩ := w.tup R.sub
    refine wcall_of call_len_seq ⟨a, zs, by rw [e, ev], .inr h1, ?_⟩
    rw [i1.len]
    exact hq _ _ (R.rep (.int _))
  | [.dict kvs], w, es =>
    obtain ⟨v, e, w⟩ := vw1 w
    rw [f_lend] at es
    obtain ⟨a, ks, zs, ds, ev, hr, hl, hi, ek⟩ := w.dic R.sub
    rw [ek, kvD_zip] at es
    cases es
    refine wcall_of call_lenR ⟨a, _, by rw [e, ev], hr, ?_⟩
    have el : (ks.zip zs).length = (ks.zip ds).length := by rw [List.length_zip, List.length_zip, hi.len]
    rw [el]
    exact hq _ _ (R.rep (.int _))
  | [.str x], w, es =>
    obtain ⟨v, e, w⟩ := vw1 w
    rw [f_lens] at es
    obtain ⟨h, rfl⟩ := if_some es
    exact wcall_of call_len_str ⟨x, by rw [e, w.str], h, hq _ _ (R.rep (.int _))⟩
theorem bf_abs : BfOk X.K (wcall X (.builtin "abs")) .abs := by
  intro T G l H xs ds s Q R w es hq
  match ds, w, es with
  | [.int i], w, es =>
    obtain ⟨v, e, w⟩ := vw1 w
    rw [f_abs] at es; cases es
    refine wcall_of call_abs ⟨i, by rw [e, w.int], ?_⟩
    rw [show (if i < 0 then -i else i) = ((i.natAbs : Nat) : Int) by split <;> omega]
    exact hq _ _ (R.rep (.int _))
theorem bf_int : BfOk X.K (wcall X (.type "int")) .int := by
  intro T G l H xs ds s Q R w es hq
  match ds, w, es with
  | [.int i], w, es =>
    obtain ⟨v, e, w⟩ := vw1 w
    rw [f_int] at es; cases es
    exact wcall_of call_int1 (.inl ⟨i, by rw [e, w.int], hq _ _ (R.rep (.int _))⟩)
  | [.bool i], w, es =>
    obtain ⟨v, e, w⟩ := vw1 w
    rw [f_intb] at es; cases es
    exact wcall_of call_int1 (.inr ⟨i, by rw [e, w.bl], hq _ _ (R.rep (.int _))⟩)
theorem bf_max2 (g : XG X k) : BfOk X.K (wcall X (.builtin "max")) .max2 := by
  intro T G l H xs ds s Q R w es hq
  match ds, w, es with
  | [.int i, .int j], w, es =>
    obtain ⟨v, v2, e, w, w2⟩ := vw2 w
    rw [f_max] at es; cases es
    refine wcall_of (call_max2 g.calm) ⟨i, j, by rw [e, w.int, w2.int], ?_⟩
    rw [show (if j > i then j else i) = max i j by split <;> omega]
    exact hq _ _ (R.rep (.int _))
theorem bf_min2 (g : XG X k) : BfOk X.K (wcall X (.builtin "min")) .min2 := by
  intro T G l H xs ds s Q R w es hq
  match ds, w, es with
  | [.int i, .int j], w, es =>
    obtain ⟨v, v2, e, w, w2⟩ := vw2 w
    rw [f_min] at es; cases es
    refine wcall_of (call_min2 g.calm) ⟨i, j, by rw [e, w.int, w2.int], ?_⟩
    rw [show (if j < i then j else i) = min i j by split <;> omega]
    exact hq _ _ (R.rep (.int _))
theorem map_some {α β : Type} {o : Option α} {f : α → β} {b : β} (h : o.map f = some b) : ∃ a, o = some a ∧ f a = b := by
  cases o with
  | none => cases h
  | some a => exact ⟨a, rfl, Option.some.inj h⟩
section
variable {prog : Program} {w : World} {A : Around} {E : Value → Shared → Prop} {s : Shared} {l : Addr} {xs : Array (Int × Tok)} {its : List Value} {ns : List Int}
theorem iter_intTup {Q : Value → Shared → Prop} (hl : s.heap.IsTuple l (intItems xs))
    (h : ∀ s₂ : Shared, s₂ = { s with heap := s.heap.push { cls := .type "tuple_iterator", data := .fields #[.ref l, .int 0 0] } } →
      (s₂.heap.IsTupleIter s.heap.objs.size l 0 ∧ s₂.heap.IsTuple l (intItems xs)) → (∀ b ∈ [s.heap.objs.size, l], b < s₂.heap.objs.size) → l ≠ s.heap.objs.size → Q (.ref s.heap.objs.size) s₂) :
    wpAny (model prog w) A (pyIter (.ref l)) Q E s := by
  have hlt : l < s.heap.objs.size := by obtain ⟨_, e, _⟩ := hl; exact Heap.lt_size e
  refine wpAny_pyIter_tuple hl (h _ rfl ⟨⟨_, Heap.get?_push_size _ rfl, rfl, rfl⟩, hl.push _⟩ (fun b hb => ?_) (Nat.ne_of_lt hlt))
  show b < (s.heap.push _).objs.size
  rw [Heap.size_push]
  rcases List.mem_cons.mp hb with rfl | hb
  · exact Nat.lt_succ_self _
  · rcases List.mem_cons.mp hb with rfl | hb
    · exact Nat.lt_succ_of_lt hlt
    · cases hb
theorem old_keptT {h' : Heap} (hk : ∀ b o, b ∉ [s.heap.objs.size] → (s.heap.push { cls := .type "tuple_iterator", data := .fields #[.ref l, .int 0 0] }).get? b = some o → h'.get? b = some o) :
    ∀ b o, s.heap.get? b = some o → h'.get? b = some o := fun b o e => by
  refine hk b o (fun hm => ?_) (Heap.get?_push_of_some _ e)
  rcases List.mem_cons.mp hm with e1 | hm
  · exact absurd (e1 ▸ Heap.lt_size e) (Nat.lt_irrefl _)
  · cases hm
theorem sum_rawT {Q : Value → Shared → Prop} (hh : A.handled = none) (hl : s.heap.IsTuple l its.toArray) (hi : IntsAre its ns)
    (h : ∀ h' tk t', (∀ b o, s.heap.get? b = some o → h'.get? b = some o) → Q (.int ns.sum t') { s with heap := h', toks := tk }) : wpAny (model prog w) A (call (.builtin "sum") [.ref l]) Q E s := by
  obtain ⟨xs, e⟩ := hi.allInts.items
  have hn : numsOf (intItems xs).toList = ns := by rw [← e]; exact hi.numsOf
  rw [nums_intItems] at hn
  rw [e] at hl
  refine call_sum_walkG (iter_intTup hl fun s₂ e st hfp hlI => ?_)
  subst e
  refine ⟨_, _, _, _, _, _, numAt xs, rfl, Walks.tuple (A := A.in1) hh _ l hlI (intItems xs), st, hfp, (fun _ _ => intItems_at), fun h' tk t' hk => ?_⟩
  have := h h' tk t' (old_keptT hk)
  have e3 : preSum (numAt xs) (intItems xs).size = ns.sum := by
    rw [show (intItems xs).size = xs.size by simp [intItems], preSum_eq, List.take_of_length_le (by simp), hn]
  rw [e3]
  exact this
theorem max_rawT {Q : Value → Shared → Prop} (hh : A.handled = none) (hl : s.heap.IsTuple l its.toArray) (hi : IntsAre its ns) (hne : 0 < ns.length)
    (h : ∀ h' tk M t', (∀ b o, s.heap.get? b = some o → h'.get? b = some o) → M ∈ ns → (∀ a, a ∈ ns → a ≤ M) → Q (.int M t') { s with heap := h', toks := tk }) : wpAny (model prog w) A (call (.builtin "max") [.ref l]) Q E s := by
  obtain ⟨xs, e⟩ := hi.allInts.items
  have hn : numsOf (intItems xs).toList = ns := by rw [← e]; exact hi.numsOf
  rw [nums_intItems] at hn
  subst hn
  rw [e] at hl
  have hsz : 0 < xs.size := by simpa using hne
  refine call_max_walk (iter_intTup hl fun s₂ e st hfp hlI => ?_)
  subst e
  refine ⟨_, _, _, _, _, _, _, rfl, Walks.tuple (A := A.in1) hh _ l hlI (intItems xs), st, hfp, by simpa [intItems] using hsz, CmpOf.ints_gt (numAt xs) (fun _ _ => intItems_at), fun v h' tk hP hk => ?_⟩
  have hP' : (intItems xs)[argBest (fun i j => decide (numAt xs i > numAt xs j)) (xs.size - 1)]? = some v := by simpa [intItems] using hP
  obtain ⟨t, rfl⟩ := intItems_at hP'
  obtain ⟨h1, h2⟩ := argBest_gt (numAt xs) (xs.size - 1)
  refine h h' tk _ t (old_keptT hk) ?_ fun a ha => ?_
  · rw [numAt_eq]; exact PySem.getD_mem (by rw [List.length_map, Array.length_toList]; omega)
  · obtain ⟨j, hj, rfl⟩ := mem_getD ha
    rw [List.length_map, Array.length_toList] at hj
    rw [← numAt_eq]; exact h2 j (by omega)
theorem min_rawT {Q : Value → Shared → Prop} (hh : A.handled = none) (hl : s.heap.IsTuple l its.toArray) (hi : IntsAre its ns) (hne : 0 < ns.length)
    (h : ∀ h' tk M t', (∀ b o, s.heap.get? b = some o → h'.get? b = some o) → M ∈ ns → (∀ a, a ∈ ns → M ≤ a) → Q (.int M t') { s with heap := h', toks := tk }) : wpAny (model prog w) A (call (.builtin "min") [.ref l]) Q E s := by
  obtain ⟨xs, e⟩ := hi.allInts.items
  have hn : numsOf (intItems xs).toList = ns := by rw [← e]; exact hi.numsOf
  rw [nums_intItems] at hn
  subst hn
  rw [e] at hl
  have hsz : 0 < xs.size := by simpa using hne
  refine call_min_walk (iter_intTup hl fun s₂ e st hfp hlI => ?_)
  subst e
  refine ⟨_, _, _, _, _, _, _, rfl, Walks.tuple (A := A.in1) hh _ l hlI (intItems xs), st, hfp, by simpa [intItems] using hsz, CmpOf.ints_lt (numAt xs) (fun _ _ => intItems_at), fun v h' tk hP hk => ?_⟩
  have hP' : (intItems xs)[argBest (fun i j => decide (numAt xs i < numAt xs j)) (xs.size - 1)]? = some v := by simpa [intItems] using hP
  obtain ⟨t, rfl⟩ := intItems_at hP'
  obtain ⟨h1, h2⟩ := argBest_lt (numAt xs) (xs.size - 1)
  refine h h' tk _ t (old_keptT hk) ?_ fun a ha => ?_
  · rw [numAt_eq]; exact PySem.getD_mem (by rw [List.length_map, Array.length_toList]; omega)
  · obtain ⟨j, hj, rfl⟩ := mem_getD ha
    rw [List.length_map, Array.length_toList] at hj
    rw [← numAt_eq]; exact h2 j (by omega)
end
theorem cr_sumT (hc : X.calm = true) : CallR X (.builtin "sum") (fun vs H Q => ∃ (a : Addr) (ns : List Int), vs = [V.ref a] ∧ SqT X.K H a (ns.map V.int) ∧ Q (.int ns.sum) H) := by
  intro pins s σ H vs us Q I r h
  obtain ⟨a, ns, rfl, hs, q⟩ := h
  obtain ⟨its, rv, hl, _⟩ := I.tuple hs
  rw [Vals.ref1 r]
  exact sum_rawT (I.ok.hd hc) hl rv.ints fun h' tk t' hk => ⟨.int _, H, I.kept hk, ⟨_, rfl⟩, q⟩
theorem cr_maxT (hc : X.calm = true) : CallR X (.builtin "max") (fun vs H Q => ∃ (a : Addr) (ns : List Int), vs = [V.ref a] ∧ SqT X.K H a (ns.map V.int) ∧ 0 < ns.length ∧ ∀ m, m ∈ ns → (∀ y, y ∈ ns → y ≤ m) → Q (.int m) H) := by
  intro pins s σ H vs us Q I r h
  obtain ⟨a, ns, rfl, hs, hne, q⟩ := h
  obtain ⟨its, rv, hl, _⟩ := I.tuple hs
  rw [Vals.ref1 r]
  exact max_rawT (I.ok.hd hc) hl rv.ints hne fun h' tk m t' hk h1 h2 => ⟨.int _, H, I.kept hk, ⟨_, rfl⟩, q m h1 h2⟩
theorem cr_minT (hc : X.calm = true) : CallR X (.builtin "min") (fun vs H Q => ∃ (a : Addr) (ns : List Int), vs = [V.ref a] ∧ SqT X.K H a (ns.map V.int) ∧ 0 < ns.length ∧ ∀ m, m ∈ ns → (∀ y, y ∈ ns → m ≤ y) → Q (.int m) H) := by
  intro pins s σ H vs us Q I r h
  obtain ⟨a, ns, rfl, hs, hne, q⟩ := h
  obtain ⟨its, rv, hl, _⟩ := I.tuple hs
  rw [Vals.ref1 r]
  exact min_rawT (I.ok.hd hc) hl rv.ints hne fun h' tk m t' hk h1 h2 => ⟨.int _, H, I.kept hk, ⟨_, rfl⟩, q m h1 h2⟩
theorem bf_sum (g : XG X k) : BfOk X.K (wcall X (.builtin "sum")) .sum := by
  intro T G l H xs ds s Q R w es hq
  match ds, w, es with
  | [.list ys], w, es =>
    obtain ⟨v, e, w⟩ := vw1 w
    rw [f_sum] at es
    obtain ⟨ns, en, rfl⟩ := map_some es
    obtain ⟨a, zs, ev, h1, i1⟩ := w.lst R.sub
    exact wcall_of (cr_sum g.calm) ⟨a, ns, by rw [e, ev], by rw [← i1.ints en]; exact SqL.of h1, hq _ _ (R.rep (.int _))⟩
  | [.tuple ys], w, es =>
    obtain ⟨v, e, w⟩ := vw1 w
    rw [f_sumt] at es
    obtain ⟨ns, en, rfl⟩ := map_some es
    obtain ⟨a, zs, ev, h1, i1⟩ := w.tup R.sub
    exact wcall_of (cr_sumT g.calm) ⟨a, ns, by rw [e, ev], by rw [← i1.ints en]; exact h1, hq _ _ (R.rep (.int _))⟩
theorem bf_all (g : XG X k) : BfOk X.K (wcall X (.builtin "all")) .all := by
  intro T G l H xs ds s Q R w es hq
  match ds, w, es with
  | [.list ys], w, es =>
    obtain ⟨v, e, w⟩ := vw1 w
    rw [f_all] at es
    obtain ⟨ns, en, rfl⟩ := map_some es
    obtain ⟨a, zs, ev, h1, i1⟩ := w.lst R.sub
    exact wcall_of (cr_all g.calm) ⟨a, ns, by rw [e, ev], by rw [← i1.bools en]; exact SqL.of h1, hq _ _ (R.rep (.bl _))⟩
theorem bf_any (g : XG X k) : BfOk X.K (wcall X (.builtin "any")) .any := by
  intro T G l H xs ds s Q R w es hq
  match ds, w, es with
  | [.list ys], w, es =>
    obtain ⟨v, e, w⟩ := vw1 w
    rw [f_any] at es
    obtain ⟨ns, en, rfl⟩ := map_some es
    obtain ⟨a, zs, ev, h1, i1⟩ := w.lst R.sub
    exact wcall_of (cr_any g.calm) ⟨a, ns, by rw [e, ev], by rw [← i1.bools en]; exact SqL.of h1, hq _ _ (R.rep (.bl _))⟩
theorem bf_tuple : BfOk X.K (wcall X (.type "tuple")) .tuple := by
  intro T G l H xs ds s Q R w es hq
  match ds, w, es with
  | [.list ys], w, es =>
    obtain ⟨v, e, w⟩ := vw1 w
    rw [f_tupl] at es; cases es
    obtain ⟨a, zs, ev, h1, i1⟩ := w.lst R.sub
    exact wcall_of call_tuple_of ⟨a, zs, by rw [e, ev], .inl ⟨SqL.of h1, fun p hp => hq _ _ (R.newT hp i1)⟩⟩
  | [.tuple ys], w, es =>
    obtain ⟨v, e, w⟩ := vw1 w
    rw [f_tupt] at es; cases es
    obtain ⟨a, zs, ev, h1, i1⟩ := w.tup R.sub
    refine wcall_of call_tuple_of ⟨a, zs, by rw [e, ev], .inr ⟨h1, hq _ _ ?_⟩⟩
    rcases w with w | ⟨_, o, _, e, _⟩
    · rw [ev] at w; exact R.rep w
    · cases o <;> cases e
theorem bf_list (g : XG X k) : BfOk X.K (wcall X (.type "list")) .list := by
  intro T G l H xs ds s Q R w es hq
  match ds, w, es with
  | [.list ys], w, es =>
    obtain ⟨v, e, w⟩ := vw1 w
    rw [f_lstl] at es; cases es
    obtain ⟨a, zs, ev, h1, i1⟩ := w.lst R.sub
    exact wcall_of call_list_of ⟨a, zs, by rw [e, ev], .inl (SqL.of h1), fun p hp => hq _ _ (R.newL hp i1)⟩
  | [.tuple ys], w, es =>
    obtain ⟨v, e, w⟩ := vw1 w
    rw [f_lstt] at es; cases es
    obtain ⟨a, zs, ev, h1, i1⟩ := w.tup R.sub
    exact wcall_of call_list_of ⟨a, zs, by rw [e, ev], .inr h1, fun p hp => hq _ _ (R.newL hp i1)⟩
  | [.dict kvs], w, es =>
    obtain ⟨v, e, w⟩ := vw1 w
    rw [f_lstd] at es
    obtain ⟨a, ks, zs, ds, ev, hr, hl, hi, ek⟩ := w.dic R.sub
    rw [ek, kvD_zip] at es
    cases es
    exact wcall_of (call_listD g.calm) ⟨a, _, by rw [e, ev], hr, fun p hp => hq _ _ (R.newL hp (keys_map hl hi))⟩
theorem bf_repr (g : XG X k) : BfOk X.K (wcall X (.builtin "repr")) .repr := by
  intro T G l H xs ds s Q R w es hq
  have go : ∀ (d : D) (a : Addr), xs = [.ref a] → Vw X.K G H (.ref a) d → (PyData.showable d = true ∧ PyData.canLay0 d = true ∧ PyData.depth d ≤ 32 ∧ rsz d ≤ sizeLine) → .dat (.str (PyData.shown d)) = s → wcall X (.builtin "repr") xs H Q := fun d a e wd h es => by
    subst e
    subst es
    intro pins s σ us I rv
    cases rv with
    | cons r1 r2 =>
      cases r2
      cases r1
      exact repr_data g I (wd.dp R.sub h.2.1) h.1 h.2.1 h.2.2.1 h.2.2.2 (hq _ _ (R.rep (.str _)))
  match ds, w, es with
  | [.list ys], w, es =>
    obtain ⟨v, e, w⟩ := vw1 w
    rw [f_reprl] at es
    obtain ⟨h, es⟩ := if_some es
    obtain ⟨a, zs, ev, h1, i1⟩ := w.lst R.sub
    subst ev
    exact go _ a e w h es
  | [.tuple ys], w, es =>
    obtain ⟨v, e, w⟩ := vw1 w
    rw [f_reprt] at es
    obtain ⟨h, es⟩ := if_some es
    obtain ⟨a, zs, ev, h1, i1⟩ := w.tup R.sub
    subst ev
    exact go _ a e w h es
end
end Ell
set_option autoImplicit false
/-! Ell6: what is walked, comprehensions. -/
namespace Ell
open PySem PySem.Spec PyProof.Rows L2
open Evl (Ex)
/-- an iterator that yields the data ds, while what stands at l0 is known -/
def JOk (K : PySem.W.Frag) (T : List (Addr × Str)) (J : It) (ds : List D) (l0 : List Ent) : Prop :=
  ∀ i l H, Rep K T (l0 ++ l) H → (∀ d, ds[i]? = some d → J.go i H ∧ ∀ x H', J.yld i H x H' → Rep K T ((.dat d, some x) :: (l0 ++ l)) H') ∧ (ds.length ≤ i → J.stop i H)
def PostI (K : PySem.W.Frag) (Z : Cf) (σ : L2.St) (fr : List Ent) (R : It → Hp → Prop) : Res (List D) → Prop
  | .ok ds ρ => ∀ J l0 H, ρ.length = σ.length → JOk K Z.T J ds l0 → Rep K Z.T (l0 ++ (ρ.zip σ ++ fr)) H → R J H
  | .err c ρ => ∀ H, ρ.length = σ.length → Rep K Z.T (ρ.zip σ ++ fr) H → Z.W (.ref (Z.cl c)) none σ H
  | .stuck => False
def tI (K : PySem.W.Frag) (Z : Cf) (c : CE) : TI := fun σ H R => ∃ ρ fr, ρ.length = σ.length ∧ Rep K Z.T (ρ.zip σ ++ fr) H ∧ PostI K Z σ fr R (evI c ρ)
section
variable {K : PySem.W.Frag} {Z : Cf} {σ : L2.St} {H : Hp} {fr l : List Ent} {ρ : Rho} {G : Hp} {T : List (Addr × Str)}
theorem jok_lst {a : Addr} {ds : List D} : JOk K T (Itl K a) ds [(.dat (.list ds), some (.ref a))] := by
  intro i l H R
  obtain ⟨G, g⟩ := id R
  obtain ⟨v, ev, w⟩ := g.good _ List.mem_cons_self
  cases ev
  cases w with
  | lst h t =>
    rename_i xs
    have hs : SqL K H a xs := SqL.of (g.sub _ _ h)
    refine ⟨fun d hd => ?_, fun hi => ⟨xs, hs, by rw [t.len]; exact hi⟩⟩
    obtain ⟨x, hx, wx⟩ := t.get hd
    refine ⟨⟨xs, x, hs, hx⟩, fun y H' q => ?_⟩
    obtain ⟨e, q⟩ := q
    subst e
    have e2 := (q xs hs).symm.trans hx
    cases e2
    exact g.rep wx
theorem jok_tup {a : Addr} {ds : List D} : JOk K T (Itt K a) ds [(.dat (.tuple ds), some (.ref a))] := by
  intro i l H R
  obtain ⟨G, g⟩ := id R
  obtain ⟨v, ev, w⟩ := g.good _ List.mem_cons_self
  cases ev
  cases w with
  | tup h t =>
    rename_i xs
    have hs : SqT K H a xs := Evl.ex_t g.sub h
    refine ⟨fun d hd => ?_, fun hi => ⟨xs, hs, by rw [t.len]; exact hi⟩⟩
    obtain ⟨x, hx, wx⟩ := t.get hd
    refine ⟨⟨xs, x, hs, hx⟩, fun y H' q => ?_⟩
    obtain ⟨e, q⟩ := q
    subst e
    have e2 := (q xs hs).symm.trans hx
    cases e2
    exact g.rep wx
theorem key_is (k : Ky) : Is K G (kV k) (kyD k) := by
  cases k with
  | inl i => exact .int i
  | inr x => exact .str x
/-- a value that stands for data has a sign -/
theorem Is.pv {v : V} {d : D} (h : Is K G v d) : ∃ p, v = toV p := by
  cases h with
  | non => exact ⟨.non, rfl⟩
  | bl b => exact ⟨.bl b, rfl⟩
  | int i => exact ⟨.int i, rfl⟩
  | str x => exact ⟨.str x, rfl⟩
  | lst _ _ => exact ⟨.ref _, rfl⟩
  | tup _ _ => exact ⟨.ref _, rfl⟩
  | dic _ _ _ => exact ⟨.ref _, rfl⟩
theorem Iss.pvs : ∀ {vs : List V} {ds : List D} (ks : List Ky), Iss K G vs ds → ∃ m : List (Ky × PV), ks.zip vs = m.map fun p => (p.1, toV p.2)
  | _, _, [], _ => ⟨[], by simp⟩
  | _, _, k :: ks, .nil => ⟨[], rfl⟩
  | _, _, k :: ks, .cons h t => by
    obtain ⟨p, e⟩ := h.pv
    obtain ⟨m, e2⟩ := t.pvs ks
    exact ⟨(k, p) :: m, by rw [List.zip_cons_cons, e2, e]; rfl⟩
theorem jok_keys {a : Addr} {od : Obj} {m : List (Ky × PV)} : JOk K T (Itk a od (m.map fun p => (p.1, toV p.2))) (m.map fun p => kyD p.1) [(.pin od m, some (.ref a))] := by
  intro i l H R
  obtain ⟨G, g⟩ := id R
  obtain ⟨a', ea, ga⟩ := g.good _ List.mem_cons_self
  cases ea
  have ha := g.sub _ _ ga
  refine ⟨fun d hd => ?_, fun hi => ⟨ha, by simpa using hi⟩⟩
  rw [List.getElem?_map] at hd
  cases q : m[i]? with
  | none => rw [q] at hd; cases hd
  | some p =>
    rw [q] at hd
    cases hd
    have hi : i < m.length := (List.getElem?_eq_some_iff.mp q).1
    refine ⟨⟨ha, by simpa using hi⟩, fun y H' r => ?_⟩
    obtain ⟨e, k, v, ek, ey⟩ := r
    subst e
    subst ey
    rw [List.getElem?_map, q] at ek
    cases ek
    exact g.rep (key_is _)
theorem RepG.pinned {a : Addr} {od : Obj} {m : List (Ky × PV)} (R : RepG K T G l H) (h : G a = some (.frz od (.dK (m.map fun p => (p.1, toV p.2))))) : RepG K T G ((.pin od m, some (.ref a)) :: l) H :=
  ⟨R.sub, R.notb, fun q hq => (List.mem_cons.mp hq).elim (fun z => by subst z; exact ⟨a, rfl, h⟩) (R.good q), by show (([] : List Addr) ++ l.flatMap adr).Nodup; exact R.nd, R.tabs⟩
theorem rngD_get {lo : Int} {n i : Nat} : (rngD lo n)[i]? = if i < n then some (.int (lo + i)) else none := by
  unfold rngD
  rw [List.getElem?_map]
  by_cases h : i < n
  · rw [if_pos h, List.getElem?_range h]; rfl
  · rw [if_neg h, List.getElem?_eq_none (by simpa using h)]; rfl
theorem jok_rng {lo : Int} {n : Nat} : JOk K T (Itr lo n) (rngD lo n) [] := by
  intro i l H R
  obtain ⟨G, g⟩ := id R
  refine ⟨fun d hd => ?_, fun hi => by rw [rngD_len] at hi; exact hi⟩
  rw [rngD_get] at hd
  by_cases h : i < n
  · rw [if_pos h] at hd
    cases hd
    refine ⟨h, fun y H' q => ?_⟩
    obtain ⟨e, q⟩ := q
    subst e
    subst q
    exact g.rep (.int _)
  · rw [if_neg h] at hd
    cases hd
end
theorem add_dents {K : PySem.W.Frag} {T : List (Addr × Str)} {G H : Hp} {l : List Ent} : ∀ {xs : List V} {ds : List D}, Iss K G xs ds → RepG K T G l H → RepG K T G (dents ds xs ++ l) H
  | _, _, .nil, R => R
  | _, _, .cons h t, R => (add_dents t R).dat h
section
variable {X : Cx} {Z : Cf} {e a b tg : Expr} {es : List Expr} {pos p : Pos} {ca cb : CE} {k : Nat}
theorem d_star (ha : PE X e (tE X.K Z ca)) (hb : PA X es (tAs X.K Z cb)) (hs : starEach (.Starred e p :: es) X.env = (true, eval e X.env) :: starEach es X.env := by rfl) : PA X (.Starred e p :: es) (tAs X.K Z (.star ca cb)) := by
  refine PA.imp (StX.pa_star (pe_D ha) hb hs) fun σ H Q h => ?_
  obtain ⟨ρ, fr, hl, R, h⟩ := h
  refine ⟨ρ, fr, hl, R, ?_⟩
  have h : Post X.K Z σ fr (fun ds (vs : List V) _ => vs.length = ds.length) dents Q (argsS (evA cb) (kI itemsOf (kD (evP ca ρ)))) := h
  dsimp only
  cases qa : kD (evP ca ρ) with
  | stuck => rw [qa] at h; exact h
  | err c ρ1 => rw [qa] at h; exact h
  | ok d ρ1 =>
    rw [qa] at h
    have h : Post X.K Z σ fr (fun ds (vs : List V) _ => vs.length = ds.length) dents Q (argsS (evA cb) (opt (itemsOf d) ρ1)) := h
    intro v H1 hl1 _ R1
    cases qi : itemsOf d with
    | none => rw [qi] at h; exact False.elim h
    | some ds0 =>
      rw [qi] at h
      have h : Post X.K Z σ fr (fun ds (vs : List V) _ => vs.length = ds.length) dents Q (appR ds0 (evA cb ρ1)) := h
      have R1 : Rep X.K Z.T ((.dat d, some v) :: (ρ1.zip σ ++ fr)) H1 := R1
      obtain ⟨G, g⟩ := id R1
      obtain ⟨v', ev, w⟩ := g.good _ List.mem_cons_self
      cases ev
      have go : ∀ xs, Iss X.K G xs ds0 → tAs X.K Z cb σ H1 fun ys H2 => Q (xs ++ ys) H2 := fun xs wi => by
        have g1 : RepG X.K Z.T G (dents ds0 xs ++ (ρ1.zip σ ++ fr)) H1 := add_dents wi (g.subl (List.sublist_cons_self _ _))
        refine ⟨ρ1, dents ds0 xs ++ fr, hl1, ⟨G, g1.perm (List.perm_append_comm_assoc _ _ _)⟩, ?_⟩
        cases qb : evA cb ρ1 with
        | stuck => rw [qb] at h; exact h
        | err c ρ2 => rw [qb] at h; exact fun H2 hl2 R2 => h H2 hl2 (drop_mid R2)
        | ok es ρ2 =>
          rw [qb] at h
          intro ys H2 hl2 e2 R2
          refine h (xs ++ ys) H2 hl2 (by show (xs ++ ys).length = (ds0 ++ es).length; rw [List.length_append, List.length_append, wi.len, e2]) ?_
          have ed : dents (ds0 ++ es) (xs ++ ys) = dents ds0 xs ++ dents es ys := by
            unfold dents
            rw [List.map_append, List.map_append, List.zip_append (by rw [List.length_map, List.length_map, wi.len])]
          show Rep X.K Z.T (dents (ds0 ++ es) (xs ++ ys) ++ (ρ2.zip σ ++ fr)) H2
          rw [ed, List.append_assoc]
          refine R2.perm ?_
          have p1 : (dents es ys ++ (ρ2.zip σ ++ (dents ds0 xs ++ fr))).Perm (dents es ys ++ (dents ds0 xs ++ (ρ2.zip σ ++ fr))) := (List.perm_append_comm_assoc _ _ _).append_left _
          exact p1.trans (List.perm_append_comm_assoc _ _ _)
      cases w with
      | lst h1 t => cases qi; exact ⟨_, _, rfl, .inr (SqL.of (g.sub _ _ h1)), go _ t⟩
      | tup h1 t => cases qi; exact ⟨_, _, rfl, .inl (Evl.ex_t g.sub h1), go _ t⟩
      | _ => cases qi
theorem PI.imp {wi wi' : TI} (h : PI X tg e wi) (k : ∀ σ H R, wi' σ H R → wi σ H R) : PI X tg e wi' := ⟨fun pins s σ H R I q => h.run pins s σ H R I (k σ H R q)⟩
/-- over a list or a tuple -/
theorem i_over (ha : PE X e (tE X.K Z ca)) : PI X tg e (tI X.K Z (.over ca)) := by
  have hd : PE X e (tD X.K Z (evP ca)) := pe_D ha
  refine ⟨fun pins s σ H R I h => ?_⟩
  obtain ⟨ρ, fr, hl, Rp, h⟩ := h
  have h : PostI X.K Z σ fr R (kI overD (kD (evP ca ρ))) := h
  cases qa : kD (evP ca ρ) with
  | stuck => rw [qa] at h; exact False.elim h
  | err c ρ1 =>
    rw [qa] at h
    exact (pi_list hd).run pins s σ H R I ⟨ρ, fr, hl, Rp, by dsimp only; rw [qa]; exact h⟩
  | ok d ρ1 =>
    rw [qa] at h
    have h : PostI X.K Z σ fr R (opt (overD d) ρ1) := h
    cases d with
    | dict kvs =>
      refine (pi_keys hd).run pins s σ H R I ⟨ρ, fr, hl, Rp, ?_⟩
      dsimp only
      rw [qa]
      intro v H1 hl1 _ R1
      have R1 : Rep X.K Z.T ((.dat (.dict kvs), some v) :: (ρ1.zip σ ++ fr)) H1 := R1
      obtain ⟨G, g⟩ := id R1
      obtain ⟨v', ev, w⟩ := g.good _ List.mem_cons_self
      cases ev
      cases w with
      | @dic a od ks xs ds h1 hlen t =>
        have h : PostI X.K Z σ fr R (opt ((kvD ((ks.map kyD).zip ds)).map fun m => m.map fun p => kyD p.1) ρ1) := h
        rw [kvD_zip] at h
        obtain ⟨m, em⟩ := t.pvs ks
        have hm := g.sub _ _ h1
        rw [em] at hm h1
        have ek : ((ks.zip ds).map fun p => kyD p.1) = m.map fun p => kyD p.1 := by
          have e1 : ((ks.zip ds).map fun p => p.1) = ks := zip_fst' (hlen.trans t.len)
          have e2 : (m.map fun p => p.1) = ks := by
            have := congrArg (List.map fun p : Key × V => p.1) em
            rw [zip_fst' hlen, List.map_map] at this
            exact this.symm
          have e3 := congrArg (List.map kyD) (e1.trans e2.symm)
          rw [List.map_map, List.map_map] at e3
          exact e3
        have h : PostI X.K Z σ fr R (.ok ((ks.zip ds).map fun p => kyD p.1) ρ1) := h
        rw [ek] at h
        exact ⟨_, od, rfl, .inl ⟨_, hm, h _ [(.pin od m, some (.ref a))] H1 hl1 jok_keys ⟨G, (g.subl (List.sublist_cons_self _ _)).pinned h1⟩⟩⟩
    | list ds =>
      refine (pi_list hd).run pins s σ H R I ⟨ρ, fr, hl, Rp, ?_⟩
      dsimp only
      rw [qa]
      intro v H1 hl1 _ R1
      have R1 : Rep X.K Z.T ((.dat (.list ds), some v) :: (ρ1.zip σ ++ fr)) H1 := R1
      obtain ⟨G, g⟩ := id R1
      obtain ⟨v', ev, w⟩ := g.good _ List.mem_cons_self
      cases ev
      cases w with
      | lst h1 t => exact ⟨_, rfl, ⟨_, SqL.of (g.sub _ _ h1)⟩, h _ [(.dat (.list ds), some _)] H1 hl1 jok_lst R1⟩
    | tuple ds =>
      refine (pi_tup hd).run pins s σ H R I ⟨ρ, fr, hl, Rp, ?_⟩
      dsimp only
      rw [qa]
      intro v H1 hl1 _ R1
      have R1 : Rep X.K Z.T ((.dat (.tuple ds), some v) :: (ρ1.zip σ ++ fr)) H1 := R1
      obtain ⟨G, g⟩ := id R1
      obtain ⟨v', ev, w⟩ := g.good _ List.mem_cons_self
      cases ev
      cases w with
      | tup h1 t => exact ⟨_, rfl, ⟨_, Evl.ex_t g.sub h1⟩, h _ [(.dat (.tuple ds), some _)] H1 hl1 jok_tup R1⟩
    | _ => exact False.elim h
theorem i_rng1 (hm : X.mg "range" = none) (ha : PE X a (tE X.K Z ca)) (hg : Gl X "range" := by rfl) (hs : starEach [a] X.env = [(false, eval a X.env)] := by rfl) : PI X tg (.Call (.Name "range" p) [a] [] pos) (tI X.K Z (.rng1 ca)) := by
  have hd : PE X a (tD X.K Z (evP ca)) := pe_D ha
  refine PI.imp (pi_range1 hg hm (pa_cons hd pa_nil (by rw [hs]; rfl)) hs) fun σ H R h => ?_
  obtain ⟨ρ, fr, hl, Rp, h⟩ := h
  have h : PostI X.K Z σ fr R (kI rng1D (kD (evP ca ρ))) := h
  refine ⟨ρ, fr, hl, Rp, ?_⟩
  dsimp only
  cases qa : kD (evP ca ρ) with
  | stuck => rw [qa] at h; exact False.elim h
  | err c ρ1 => rw [qa] at h; exact h
  | ok d ρ1 =>
    rw [qa] at h
    have h : PostI X.K Z σ fr R (opt (rng1D d) ρ1) := h
    intro v H1 hl1 _ R1
    cases d with
    | int n =>
      have h : PostI X.K Z σ fr R (opt (if leI (-(2 ^ 62)) n ∧ ltI n (2 ^ 62) then some (rngD 0 n.toNat) else none) ρ1) := h
      by_cases hb : leI (-(2 ^ 62)) n ∧ ltI n (2 ^ 62)
      · rw [if_pos hb] at h
        obtain ⟨G, g⟩ := id R1
        obtain ⟨v', ev, w⟩ := g.good _ List.mem_cons_self
        cases ev
        cases w
        exact ⟨n, rfl, hb.1, hb.2, h _ [] H1 hl1 jok_rng (R1.subl (List.sublist_cons_self _ _))⟩
      · rw [if_neg hb] at h; exact False.elim h
    | _ => exact False.elim h
theorem i_rng2 (hm : X.mg "range" = none) (ha : PE X a (tE X.K Z ca)) (hb : PE X b (tE X.K Z cb)) (hg : Gl X "range" := by rfl) (hs : starEach [a, b] X.env = [(false, eval a X.env), (false, eval b X.env)] := by rfl) (hs2 : starEach [b] X.env = [(false, eval b X.env)] := by rfl) :
    PI X tg (.Call (.Name "range" p) [a, b] [] pos) (tI X.K Z (.rng2 ca cb)) := by
  have hda : PE X a (tD X.K Z (evP ca)) := pe_D ha
  have hdb : PE X b (tD X.K Z (evP cb)) := pe_D hb
  refine PI.imp (pi_range2 hg hm (pa_cons hda (pa_cons hdb pa_nil (by rw [hs2]; rfl)) (by rw [hs, hs2])) hs hs2) fun σ H R h => ?_
  obtain ⟨ρ, fr, hl, Rp, h⟩ := h
  have h : PostI X.K Z σ fr R (kI2 rng2D (evP cb) (kD (evP ca ρ))) := h
  refine ⟨ρ, fr, hl, Rp, ?_⟩
  dsimp only
  cases qa : kD (evP ca ρ) with
  | stuck => rw [qa] at h; exact False.elim h
  | err c ρ1 => rw [qa] at h; exact h
  | ok d ρ1 =>
    rw [qa] at h
    have h : PostI X.K Z σ fr R (kI2b rng2D d (kD (evP cb ρ1))) := h
    intro v H1 hl1 _ R1
    refine ⟨ρ1, [(.dat d, some v)] ++ fr, hl1, R1.perm (List.perm_append_comm_assoc _ _ _), ?_⟩
    dsimp only
    cases qb : kD (evP cb ρ1) with
    | stuck => rw [qb] at h; exact False.elim h
    | err c ρ2 => rw [qb] at h; exact fun H2 hl2 R2 => h H2 hl2 (drop_mid R2)
    | ok e ρ2 =>
      rw [qb] at h
      have h : PostI X.K Z σ fr R (opt (rng2D d e) ρ2) := h
      intro w H2 hl2 _ R2
      cases d with
      | int m =>
        cases e with
        | int n =>
          have h : PostI X.K Z σ fr R (opt (if leI (-(2 ^ 62)) m ∧ ltI m (2 ^ 62) ∧ leI (-(2 ^ 62)) n ∧ ltI n (2 ^ 62) then some (rngD m (n - m).toNat) else none) ρ2) := h
          by_cases hb : leI (-(2 ^ 62)) m ∧ ltI m (2 ^ 62) ∧ leI (-(2 ^ 62)) n ∧ ltI n (2 ^ 62)
          · rw [if_pos hb] at h
            obtain ⟨G, g⟩ := id R2
            obtain ⟨v', ev, wy⟩ := g.good _ List.mem_cons_self
            cases ev
            cases wy
            obtain ⟨v', ev, wx⟩ := g.good (.dat (.int m), some v) (List.mem_append_right _ (mem_l (by simp)))
            cases ev
            cases wx
            have R3 : Rep X.K Z.T (ρ2.zip σ ++ ([(.dat (.int m), some (.int m))] ++ fr)) H2 := R2.subl (List.sublist_cons_self _ _)
            exact ⟨m, n, rfl, hb, h _ [] H2 hl2 jok_rng (show Rep X.K Z.T (ρ2.zip σ ++ fr) H2 from drop_mid R3)⟩
          · rw [if_neg hb] at h; exact False.elim h
        | _ => exact False.elim h
      | _ => exact False.elim h
/-! ### targets -/
/-- whose own objects stand, stand at the same addresses -/
def Keep (ρ : Rho) (σ' σ : L2.St) : Prop := ∀ (i : Nat) (o : O), ρ[i]? = some (Slot.io o) → σ'[i]? = σ[i]?
theorem Keep.refl (ρ : Rho) (σ : L2.St) : Keep ρ σ σ := fun _ _ _ => rfl
theorem Keep.trans {ρ1 ρ2 : Rho} {σ σ1 σ2 : L2.St} (k : Kp ρ1 ρ2) (a : Keep ρ1 σ1 σ) (b : Keep ρ2 σ2 σ1) : Keep ρ2 σ2 σ := fun i o h => by
  obtain ⟨o', h'⟩ := k.io i o h
  exact (b i o h).trans (a i o' h')
def tgG (K : PySem.W.Frag) (Z : Cf) (t : Tgt) : TG := fun v σ H Q => ∃ d ρ fr ρ', ρ.length = σ.length ∧ Rep K Z.T ((.dat d, some v) :: (ρ.zip σ ++ fr)) H ∧ bindT t d ρ = some ρ' ∧
  ∀ σ', σ'.length = σ.length → Keep ρ' σ' σ → (∀ i, i ∉ tsl t → σ'[i]? = σ[i]?) → Rep K Z.T (ρ'.zip σ' ++ fr) H → Q σ' H
def tgGs (K : PySem.W.Frag) (Z : Cf) (t : Tgt) : TGs := fun vs σ H Q => ∃ ds ρ fr ρ', vs.length = ds.length ∧ ρ.length = σ.length ∧ Rep K Z.T (dents ds vs ++ (ρ.zip σ ++ fr)) H ∧ bindT.bindTs t ds ρ = some ρ' ∧
  ∀ σ', σ'.length = σ.length → Keep ρ' σ' σ → (∀ i, i ∉ tsl t → σ'[i]? = σ[i]?) → Rep K Z.T (ρ'.zip σ' ++ fr) H → Q σ' H
theorem PG.imp {u u' : TG} (h : PG X tg u) (k : ∀ v σ H Q, u' v σ H Q → u v σ H Q) : PG X tg u' := ⟨fun pins s σ H v w Q I r q => h.run pins s σ H v w Q I r (k v σ H Q q)⟩
theorem PGs.imp {u u' : TGs} (h : PGs X es u) (k : ∀ v σ H Q, u' v σ H Q → u v σ H Q) : PGs X es u' := ⟨fun pins s σ H v w Q I r q => h.run pins s σ H v w Q I r (k v σ H Q q)⟩
theorem g_nm {i : Nat} {x : Str} (g : X.N.Nodup) (hi : X.N[i]? = some x := by rfl) (hx : Loc X.env.scope x := by first | exact Or.inl rfl | exact Or.inr rfl) (hf : X.fn x = true ∨ X.env.scope.names.lookup x = some .local := by first | exact .inl rfl | exact .inr rfl) : PG X (.Name x pos) (tgG X.K Z (.nm i)) := by
  refine PG.imp (pg_name (i := i) g hi hx hf) fun v σ H Q h => ?_
  obtain ⟨d, ρ, fr, ρ', hl, R, hb, q⟩ := h
  have hb : (match ρ[i]? with | some s => if isIo s = true then none else some (ρ.set i (.dat d)) | none => none) = some ρ' := hb
  have fin : i < ρ.length → ρ' = ρ.set i (.dat d) → Q (σ.set i (some v)) H := fun hi e => by
    subst e
    refine q _ (List.length_set ..) (fun j o e => ?_) (fun j hj => List.getElem?_set_ne fun z => hj (by rw [z]; simp)) (R.store hl hi)
    by_cases hj : i = j
    · subst hj
      rw [List.getElem?_set_self hi] at e
      cases e
    · rw [List.getElem?_set_ne hj]
  cases e : ρ[i]? with
  | none => rw [e] at hb; cases hb
  | some s =>
    have hi : i < ρ.length := (List.getElem?_eq_some_iff.mp e).1
    rw [e] at hb
    dsimp only at hb
    by_cases hz : isIo s = true
    · rw [if_pos hz] at hb; cases hb
    · rw [if_neg hz] at hb
      exact fin hi (Option.some.inj hb).symm
theorem gs_nil : PGs X [] (tgGs X.K Z .nil) := by
  refine PGs.imp pgs_nil fun vs σ H Q h => ?_
  obtain ⟨ds, ρ, fr, ρ', hv, hl, R, hb, q⟩ := h
  have e := tlen_of hb
  have e' : ds = [] := List.eq_nil_of_length_eq_zero e
  subst e'
  have ev : vs = [] := List.eq_nil_of_length_eq_zero hv
  subst ev
  cases hb
  exact ⟨rfl, q σ rfl (Keep.refl _ _) (fun _ _ => rfl) R⟩
theorem gs_cons {t u : Tgt} (h1 : PG X e (tgG X.K Z t)) (h2 : PGs X es (tgGs X.K Z u)) (hs : (assignEach (e :: es) X.env).map (·.2) = assign e X.env :: (assignEach es X.env).map (·.2) := by rfl) : PGs X (e :: es) (tgGs X.K Z (.cons t u)) := by
  refine PGs.imp (pgs_cons h1 h2 hs) fun vs σ H Q h => ?_
  obtain ⟨ds, ρ, fr, ρ', hv, hl, R, hb, q⟩ := h
  cases ds with
  | nil => cases hb
  | cons d ds =>
    cases vs with
    | nil => cases hv
    | cons v vs =>
      have hb : (bindT t d ρ).bind (fun ρ' => bindT.bindTs u ds ρ') = some ρ' := hb
      cases e1 : bindT t d ρ with
      | none => rw [e1] at hb; cases hb
      | some ρ1 =>
        rw [e1, Option.bind_some] at hb
        have k1 := kp_bindT _ _ _ _ e1
        have k2 := kp_bindTs _ _ _ _ hb
        refine ⟨v, vs, rfl, d, ρ, dents ds vs ++ fr, ρ1, hl, ?_, e1, fun σ1 hl1 kk ag R1 => ?_⟩
        · have R : Rep X.K Z.T ((.dat d, some v) :: (dents ds vs ++ (ρ.zip σ ++ fr))) H := R
          exact R.perm ((List.perm_append_comm_assoc _ _ _).cons _)
        · refine ⟨ds, ρ1, fr, ρ', by simpa using hv, by rw [k1.len, hl, hl1], R1.perm (List.perm_append_comm_assoc _ _ _), hb, fun σ2 hl2 kk2 ag2 R2 => ?_⟩
          exact q σ2 (hl2.trans hl1) (Keep.trans k2 kk kk2) (fun i hi => (ag2 i fun z => hi (List.mem_append_right _ z)).trans (ag i fun z => hi (List.mem_append_left _ z))) R2
theorem g_tp {t : Tgt} {n : Nat} {kk : Nat} (g : X.calm = true) (h : PGs X es (tgGs X.K Z t)) (ht : tlen t = n := by rfl) (hn : (assignEach es X.env).length = n := by rfl) (hst : (assignEach es X.env).findIdx? (·.1) = none := by rfl) : PG X (.Tuple es kk pos) (tgG X.K Z (.tp t)) := by
  refine ⟨fun pins s σ H v w Q I r q => ?_⟩
  obtain ⟨d, ρ, fr, ρ', hl, R, hb, q⟩ := q
  obtain ⟨G, gg⟩ := id R
  obtain ⟨v', ev, wd⟩ := gg.good _ List.mem_cons_self
  cases ev
  have go : ∀ {xs : List V} {ds : List D}, Iss X.K G xs ds → bindT.bindTs t ds ρ = some ρ' → tgGs X.K Z t xs σ H Q := fun {xs ds} wi hb =>
    ⟨ds, ρ, fr, ρ', wi.len, hl, ⟨G, add_dents wi (gg.subl (List.sublist_cons_self _ _))⟩, hb, q⟩
  cases wd with
  | lst h1 wi => exact (pg_lst g h hn hst).run pins s σ H _ w Q I r ⟨_, _, rfl, SqL.of (gg.sub _ _ h1), by rw [wi.len, tlen_of hb, ht], go wi hb⟩
  | tup h1 wi => exact (pg_tup g h hn hst).run pins s σ H _ w Q I r ⟨_, _, rfl, Evl.ex_t gg.sub h1, by rw [wi.len, tlen_of hb, ht], go wi hb⟩
  | _ => cases hb
end
end Ell
set_option autoImplicit false
/-! Ell7: comprehensions. -/
namespace Ell
open PySem PySem.Spec PyProof.Rows L2
open Evl (Ex)
/-- nothing is wanted of an error -/
abbrev Cf.no (Z : Cf) : Cf := { Z with W := fun _ _ _ _ => False }
theorem wipe_get {σ : L2.St} : ∀ {own : List Nat} {i : Nat}, (wipe σ own)[i]? = if i ∈ own then (if i < σ.length then some none else none) else σ[i]?
  | [], i => by simp [wipe]
  | j :: r, i => by
    show ((wipe σ r).set j none)[i]? = _
    by_cases hj : j = i
    · subst hj
      rw [if_pos List.mem_cons_self]
      by_cases hl : j < σ.length
      · rw [List.getElem?_set_self (by rw [wipe_length]; exact hl), if_pos hl]
      · rw [List.getElem?_eq_none (by rw [List.length_set, wipe_length]; omega), if_neg hl]
    · rw [List.getElem?_set_ne hj, wipe_get]
      have e : (i ∈ j :: r) = (i ∈ r) := by
        rw [List.mem_cons]
        exact propext ⟨fun z => z.elim (fun z => absurd z.symm hj) id, .inr⟩
      simp only [e]
theorem wipe_agree {σ σ' : L2.St} {own : List Nat} (hl : σ'.length = σ.length) (h : ∀ i, i ∉ own → σ'[i]? = σ[i]?) : wipe σ' own = wipe σ own := by
  refine List.ext_getElem? fun i => ?_
  rw [wipe_get, wipe_get, hl]
  by_cases hi : i ∈ own
  · rw [if_pos hi, if_pos hi]
  · rw [if_neg hi, if_neg hi, h i hi]
theorem wip_len (ρ : Rho) : ∀ own : List Nat, (wip ρ own).length = ρ.length
  | [] => rfl
  | i :: r => by show ((wip ρ r).set i .un).length = _; rw [List.length_set, wip_len ρ r]
theorem wip_get (ρ : Rho) {i : Nat} : ∀ own : List Nat, i ∉ own → (wip ρ own)[i]? = ρ[i]?
  | [], _ => rfl
  | j :: r, h => by
    show ((wip ρ r).set j .un)[i]? = _
    rw [List.getElem?_set_ne (fun z => h (by rw [z]; simp)), wip_get ρ r (fun z => h (List.mem_cons_of_mem _ z))]
theorem wip_set (ρ : Rho) {i : Nat} {s : Slot} : ∀ own : List Nat, i ∉ own → wip (ρ.set i s) own = (wip ρ own).set i s
  | [], _ => rfl
  | j :: r, h => by
    show (wip (ρ.set i s) r).set j .un = ((wip ρ r).set j .un).set i s
    rw [wip_set ρ r (fun z => h (List.mem_cons_of_mem _ z)), List.set_comm _ _ (fun z => h (by rw [z]; simp))]
def saved (ρ : Rho) (σ : L2.St) (own : List Nat) : List Ent := own.map fun i => ((ρ[i]?).getD .un, (σ[i]?).getD none)
section
variable {K : PySem.W.Frag} {Z : Cf} {σ : L2.St} {H : Hp} {fr l : List Ent} {ρ : Rho} {G : Hp} {T : List (Addr × Str)}
theorem Rep.save : ∀ {own : List Nat} {fr : List Ent}, own.Nodup → (∀ i ∈ own, i < σ.length) → ρ.length = σ.length → Rep K T (ρ.zip σ ++ fr) H → Rep K T ((wip ρ own).zip (wipe σ own) ++ (saved ρ σ own ++ fr)) H
  | [], fr, _, _, _, R => R
  | i :: r, fr, nd, lt, hl, R => by
    have ni := (List.nodup_cons.mp nd).1
    have ih := Rep.save (fr := fr) (List.nodup_cons.mp nd).2 (fun j hj => lt j (List.mem_cons_of_mem _ hj)) hl R
    have hi := lt i List.mem_cons_self
    have e1 : (wip ρ r)[i]? = some ρ[i] := by rw [wip_get ρ r ni]; exact List.getElem?_eq_getElem (by omega)
    have e2 : (wipe σ r)[i]? = some σ[i] := by rw [wipe_get, if_neg ni]; exact List.getElem?_eq_getElem hi
    show Rep K T (((wip ρ r).set i .un).zip ((wipe σ r).set i none) ++ (((ρ[i]?).getD .un, (σ[i]?).getD none) :: (saved ρ σ r ++ fr))) H
    rw [zset, List.getElem?_eq_getElem (show i < ρ.length by omega), List.getElem?_eq_getElem hi]
    have hz : i < ((wip ρ r).zip (wipe σ r)).length := by rw [List.length_zip, wip_len, wipe_length]; omega
    have p1 := (at_perm (zat e1 e2)).append_right (saved ρ σ r ++ fr)
    have p2 := (set_perm (x := (Slot.un, (none : Option V))) hz).append_right ((ρ[i], σ[i]) :: (saved ρ σ r ++ fr))
    obtain ⟨G, g⟩ := ih.perm p1
    refine ⟨G, ((g.un none).perm ?_).perm p2.symm⟩
    refine List.Perm.cons _ ?_
    exact (List.perm_middle (l₁ := ((wip ρ r).zip (wipe σ r)).eraseIdx i)).symm
theorem Rep.back {ρ0 : Rho} : ∀ {own : List Nat} {ρ : Rho} {fr : List Ent}, own.Nodup → (∀ i ∈ own, i < σ.length) → ρ.length = σ.length → ρ0.length = σ.length → Rep K T ((wip ρ own).zip (wipe σ own) ++ (saved ρ0 σ own ++ fr)) H → Rep K T ((restore ρ0 ρ own).zip σ ++ fr) H
  | [], ρ, fr, _, _, _, _, R => R
  | i :: r, ρ, fr, nd, lt, hl, hl0, R => by
    have ni := (List.nodup_cons.mp nd).1
    have hi := lt i List.mem_cons_self
    refine Rep.back (own := r) (ρ := ρ.set i ((ρ0[i]?).getD .un)) (List.nodup_cons.mp nd).2 (fun j hj => lt j (List.mem_cons_of_mem _ hj)) (by rw [List.length_set]; exact hl) hl0 ?_
    have R : Rep K T (((wip ρ r).set i .un).zip ((wipe σ r).set i none) ++ (((ρ0[i]?).getD .un, (σ[i]?).getD none) :: (saved ρ0 σ r ++ fr))) H := R
    rw [zset] at R
    have hz : i < ((wip ρ r).zip (wipe σ r)).length := by rw [List.length_zip, wip_len, wipe_length]; omega
    have e2 : (wipe σ r)[i]? = some ((σ[i]?).getD none) := by rw [wipe_get, if_neg ni, List.getElem?_eq_getElem hi]; rfl
    rw [wip_set ρ r ni]
    have e3 : ((wip ρ r).set i ((ρ0[i]?).getD .un)).zip (wipe σ r) = ((wip ρ r).zip (wipe σ r)).set i ((ρ0[i]?).getD .un, (σ[i]?).getD none) := by rw [← zset, set_same e2]
    rw [e3]
    have p1 := (set_perm (x := (Slot.un, (none : Option V))) hz).append_right (((ρ0[i]?).getD .un, (σ[i]?).getD none) :: (saved ρ0 σ r ++ fr))
    have p2 := (set_perm (x := ((ρ0[i]?).getD .un, (σ[i]?).getD none)) hz).append_right (saved ρ0 σ r ++ fr)
    exact (((R.perm p1).subl (List.sublist_cons_self _ _)).perm List.perm_middle).perm p2.symm
theorem wipe_idem {own : List Nat} : wipe (wipe σ own) own = wipe σ own := by
  refine List.ext_getElem? fun i => ?_
  rw [wipe_get]
  by_cases hi : i ∈ own
  · rw [if_pos hi, wipe_get, if_pos hi, wipe_length]
  · rw [if_neg hi]
theorem appR_cons {acc : List D} {d : D} {r : Res (List D)} : appR acc (consR d r) = appR (acc ++ [d]) r := by
  cases r <;> simp
theorem appR_nil {r : Res (List D)} : appR [] r = r := by cases r <;> simp
theorem Rep.wiped {own : List Nat} {σ2 : L2.St} (nd : own.Nodup) (lt : ∀ i ∈ own, i < σ.length) (hl2 : σ2.length = σ.length) (hw : wipe σ2 own = wipe σ own) (hl : ρ.length = σ2.length) (R : Rep K T (ρ.zip σ2 ++ fr) H) : Rep K T ((wip ρ own).zip (wipe σ own) ++ fr) H := by
  have R2 := Rep.save (σ := σ2) (own := own) nd (fun i hi => by rw [hl2]; exact lt i hi) hl R
  rw [hw] at R2
  exact R2.subl ((List.sublist_append_right _ _).append_left _)
/-- behind i turns -/
def LcI (K : PySem.W.Frag) (Z : Cf) (σ : L2.St) (fr : List Ent) (Q : VK) (f : D → Rho → Res (Option D)) (xs : List D) (own : List Nat) (ρ1 : Rho) (l0 : List Ent) (D : Addr) (i : Nat) (H : Hp) : Prop :=
  ∃ ρ2 acc, acc.length ≤ i ∧ i ≤ xs.length ∧ ρ2.length = σ.length ∧ Rep K Z.T ((wip ρ2 own).zip (wipe σ own) ++ (saved ρ1 σ own ++ ((Slot.own (.lst acc), some (.ref D)) :: (l0 ++ fr)))) H ∧
    Post K Z σ fr VIs ents Q (lcFin ρ1 own (appR acc (lcL f (xs.drop i) ρ2)))
theorem tLc_of {tg : Tgt} {it cond elt : CE} {own : List Nat} {Q : VK} (nd : own.Nodup) (ht : ∀ i ∈ tsl tg, i ∈ own) (lt : ∀ i ∈ own, i < σ.length) (h : tE K Z (.lc tg it cond elt own) σ H Q) :
    tLc (tI K Z it) (tgG K Z.no tg) (tT K Z.no cond) (tD K Z.no (evP elt)) own σ H Q := by
  obtain ⟨ρ, fr, hl, R, h⟩ := h
  refine ⟨ρ, fr, hl, R, ?_⟩
  have h : Post K Z σ fr VIs ents Q (lcAll (lcStep tg own (evP cond) (evP elt)) own (evI it ρ)) := h
  cases qa : evI it ρ with
  | stuck => rw [qa] at h; exact h
  | err c ρ1 => rw [qa] at h; exact h
  | ok xs ρ1 =>
    rw [qa] at h
    have h : Post K Z σ fr VIs ents Q (if leN xs.length sizeLine then lcFin ρ1 own (lcL (lcStep tg own (evP cond) (evP elt)) xs ρ1) else .stuck) := h
    by_cases hz0 : leN xs.length sizeLine
    · have hz : xs.length ≤ sizeLine := hz0
      rw [if_pos hz0] at h
      intro J l0 H1 hl1 hJ R1 D hD
      generalize hf : lcStep tg own (evP cond) (evP elt) = f at h
      refine ⟨fun i m H => m = xs.length - i ∧ LcI K Z σ fr Q f xs own ρ1 l0 D i H, ⟨xs.length, rfl, ρ1, [], Nat.zero_le _, Nat.zero_le _, hl1, ?_, ?_⟩, ?_⟩
      · obtain ⟨G, g⟩ := R1
        have g2 := g.newO (u := .lst []) (o := .lst []) hD (show ∃ ys, _ from ⟨[], upd_same, .nil⟩)
        have R2 : Rep K Z.T (ρ1.zip σ ++ ((Slot.own (.lst []), some (.ref D)) :: (l0 ++ fr))) (upd H1 D (.lst [])) := by
          refine Rep.perm ⟨G, g2⟩ ?_
          exact ((List.perm_append_comm_assoc l0 (ρ1.zip σ) fr).cons _).trans List.perm_middle.symm
        exact Rep.save nd lt hl1 R2
      · rw [List.drop_zero, appR_nil]; exact h
      · rintro i m H2 ⟨em, ρ2, acc, ha, hi, hl2, R2, h2⟩
        have R3 : Rep K Z.T (l0 ++ ((wip ρ2 own).zip (wipe σ own) ++ (saved ρ1 σ own ++ ((Slot.own (.lst acc), some (.ref D)) :: fr)))) H2 := by
          refine R2.perm ?_
          have p := List.perm_append_comm_assoc ((wip ρ2 own).zip (wipe σ own) ++ (saved ρ1 σ own ++ [(Slot.own (.lst acc), some (V.ref D))])) l0 fr
          simpa [List.append_assoc] using p
        have hJ2 := hJ i _ H2 R3
        by_cases hlt : i < xs.length
        · obtain ⟨jg, jy⟩ := hJ2.1 xs[i] (List.getElem?_eq_getElem hlt)
          refine .inr ⟨jg, fun H' => LcI K Z σ fr Q f xs own ρ1 l0 D (i + 1) H', fun H' nx => ⟨xs.length - (i + 1), by omega, rfl, nx⟩, fun x H3 y3 => ?_⟩
          have R4 := jy x H3 y3
          rw [List.drop_eq_getElem_cons hlt] at h2
          have h2 : Post K Z σ fr VIs ents Q (lcFin ρ1 own (appR acc (lcK (lcL f (xs.drop (i + 1))) (f xs[i] ρ2)))) := h2
          have hf' : f xs[i] ρ2 = lcGo (evP cond) (evP elt) (bindT tg xs[i] (wip ρ2 own)) := by rw [← hf]; rfl
          rw [hf'] at h2
          cases qb : bindT tg xs[i] (wip ρ2 own) with
          | none => rw [qb] at h2; exact False.elim h2
          | some ρ3 =>
            rw [qb] at h2
            have h2 : Post K Z σ fr VIs ents Q (lcFin ρ1 own (appR acc (lcK (lcL f (xs.drop (i + 1))) (lcIf (evP elt) (kB (evP cond ρ3)))))) := h2
            have k3 := kp_bindT _ _ _ _ qb
            refine ⟨xs[i], wip ρ2 own, saved ρ1 σ own ++ ((Slot.own (.lst acc), some (.ref D)) :: (l0 ++ fr)), ρ3, by rw [wip_len, wipe_length]; exact hl2, ?_, qb, fun σ2 hs2 _ ag R5 => ?_⟩
            · refine R4.perm (List.Perm.cons _ ?_)
              have p := List.perm_append_comm_assoc l0 ((wip ρ2 own).zip (wipe σ own) ++ (saved ρ1 σ own ++ [(Slot.own (.lst acc), some (V.ref D))])) fr
              simpa [List.append_assoc] using p
            · have hw : wipe σ2 own = wipe σ own := by
                rw [← wipe_idem (σ := σ)]
                exact wipe_agree hs2 fun j hj => ag j fun z => hj (ht j z)
              have hs2' : σ2.length = σ.length := by rw [hs2, wipe_length]
              refine ⟨hw, ρ3, _, by rw [k3.len, wip_len, hl2, hs2'], R5, ?_⟩
              dsimp only
              cases qc : kB (evP cond ρ3) with
              | stuck => rw [qc] at h2; exact False.elim h2
              | err c ρ4 => rw [qc] at h2; exact False.elim h2
              | ok b ρ4 =>
                rw [qc] at h2
                intro b' H4 hl4 eb R6
                subst eb
                have R6 : Rep K Z.T (ρ4.zip σ2 ++ (saved ρ1 σ own ++ ((Slot.own (.lst acc), some (.ref D)) :: (l0 ++ fr)))) H4 := R6
                cases b with
                | false =>
                  rw [if_neg Bool.false_ne_true]
                  exact ⟨ρ4, acc, Nat.le_succ_of_le ha, hlt, by rw [hl4, hs2'], R6.wiped nd lt hs2' hw hl4, h2⟩
                | true =>
                  rw [if_pos rfl]
                  refine ⟨ρ4, _, hl4, R6, ?_⟩
                  have h2 : Post K Z σ fr VIs ents Q (lcFin ρ1 own (appR acc (lcK (lcL f (xs.drop (i + 1))) (lcEnd (kD (evP elt ρ4)))))) := h2
                  dsimp only
                  cases qd : kD (evP elt ρ4) with
                  | stuck => rw [qd] at h2; exact False.elim h2
                  | err c ρ5 => rw [qd] at h2; exact False.elim h2
                  | ok dy ρ5 =>
                    rw [qd] at h2
                    have h2 : Post K Z σ fr VIs ents Q (lcFin ρ1 own (appR acc (consR dy (lcL f (xs.drop (i + 1)) ρ5)))) := h2
                    rw [appR_cons] at h2
                    intro y H5 hl5 _ R7
                    have R7 : Rep K Z.T ((Slot.dat dy, some y) :: (ρ5.zip σ2 ++ (saved ρ1 σ own ++ ((Slot.own (.lst acc), some (.ref D)) :: (l0 ++ fr))))) H5 := R7
                    have p : ((Slot.dat dy, some y) :: (ρ5.zip σ2 ++ (saved ρ1 σ own ++ ((Slot.own (.lst acc), some (V.ref D)) :: (l0 ++ fr))))).Perm ((Slot.own (.lst acc), some (V.ref D)) :: (Slot.dat dy, some y) :: (ρ5.zip σ2 ++ (saved ρ1 σ own ++ (l0 ++ fr)))) := by
                      have p := List.perm_middle (a := (Slot.own (.lst acc), some (V.ref D))) (l₁ := (Slot.dat dy, some y) :: (ρ5.zip σ2 ++ saved ρ1 σ own)) (l₂ := l0 ++ fr)
                      simpa [List.append_assoc] using p
                    obtain ⟨G, g⟩ := R7.perm p
                    obtain ⟨c, ec, gn, oa⟩ := g.good _ List.mem_cons_self
                    cases ec
                    obtain ⟨v', ev, wy⟩ := g.good (Slot.dat dy, some y) (List.mem_cons_of_mem _ List.mem_cons_self)
                    cases ev
                    obtain ⟨ys, hys, iy⟩ := (show ∃ ys, H5 D = some (.lst ys) ∧ Iss K G ys acc from oa)
                    refine ⟨ys, hys, by rw [iy.len]; omega, ρ5, acc ++ [dy], by simp; omega, hlt, by rw [hl5, hs2'], ?_, h2⟩
                    have g2 := g.wr (s' := .own (.lst (acc ++ [dy]))) (u := .lst (ys ++ [y])) rfl rfl ⟨D, rfl, gn, (show ∃ zs, _ from ⟨_, upd_same, iy.app (.cons wy .nil)⟩)⟩
                    have R8 : Rep K Z.T (ρ5.zip σ2 ++ (saved ρ1 σ own ++ ((Slot.own (.lst (acc ++ [dy])), some (V.ref D)) :: (l0 ++ fr)))) (upd H5 D (.lst (ys ++ [y]))) := by
                      refine (Rep.subl ⟨G, g2⟩ ((List.sublist_cons_self _ _).cons_cons _)).perm ?_
                      have p := List.perm_middle (a := (Slot.own (.lst (acc ++ [dy])), some (V.ref D))) (l₁ := ρ5.zip σ2 ++ saved ρ1 σ own) (l₂ := l0 ++ fr)
                      simpa [List.append_assoc] using p.symm
                    exact R8.wiped nd lt hs2' hw hl5
        · have ei : i = xs.length := by omega
          refine .inl ⟨hJ2.2 (by omega), ?_⟩
          rw [ei, List.drop_length] at h2
          have h2 : Post K Z σ fr VIs ents Q (.ok (.tmp (.own (.lst (acc ++ [])))) (restore ρ1 ρ2 own)) := h2
          rw [List.append_nil] at h2
          have R4 : Rep K Z.T ((wip ρ2 own).zip (wipe σ own) ++ (saved ρ1 σ own ++ ((Slot.own (.lst acc), some (.ref D)) :: fr))) H2 := R3.subl (List.sublist_append_right _ _)
          have R5 := Rep.back (ρ0 := ρ1) nd lt hl2 hl1 R4
          have len : (restore ρ1 ρ2 own).length = σ.length := by
            have : ∀ (own : List Nat) (ρ2 : Rho), (restore ρ1 ρ2 own).length = ρ2.length := by
              intro own
              induction own with
              | nil => exact fun _ => rfl
              | cons i r ih => intro ρ2; show (restore ρ1 (ρ2.set i _) r).length = _; rw [ih, List.length_set]
            rw [this, hl2]
          exact h2 (.ref D) H2 len trivial (R5.perm List.perm_middle)
    · rw [if_neg hz0] at h; exact False.elim h
end
end Ell
set_option autoImplicit false
/-! Ell8: statements. -/
namespace Ell
open PySem PySem.Spec PyProof.Rows L2
open Evl (Ex)
/-! ### comprehensions as values -/
section
variable {X : Cx} {Z : Cf} {tg iter elt : Expr} {ifs : List Expr} {scope : Scope} {own : List (Str × Nat)} {pos : Pos} {ci cc ce : CE} {t : Tgt} {k : Nat}
/-- inside a comprehension's block -/
abbrev Bk (X : Cx) (scope : Scope) (P : Cx → Prop) : Prop := ∀ (s : Shared) (H : Hp) (C : Addr) (cl : List (Str × Addr)) (fp : List Addr), P (X.blk s H scope (compEnvC scope cl C X.env) fp)
theorem pts_yes : PTs X [] (tT X.K Z (.lit (.bool true))) := ⟨fun pins s σ H Q I h => by
  obtain ⟨ρ, fr, hl, R, h⟩ := h
  exact wpAny_tests_nil ⟨H, I, h true H hl rfl R⟩⟩
theorem lc_len {own : List (Str × Nat)} {N : List Str} {sc scope : Scope} {σ : L2.St} (ok : BlkOk N sc scope own) (hl : N.length ≤ σ.length) : ∀ i ∈ own.map (·.2), i < σ.length := fun i hi => by
  obtain ⟨p, hp, e⟩ := List.mem_map.mp hi
  have := (List.getElem?_eq_some_iff.mp (ok.ix p hp)).1
  omega
/-- the reading of a comprehension, given that every name has a slot -/
theorem tLc_of' {K : PySem.W.Frag} {σ : L2.St} {H : Hp} {Q : VK} {N : List Str} {sc : Scope} (ok : BlkOk N sc scope own) (hN : N.length ≤ σ.length) (nd : (own.map (·.2)).Nodup) (ht : ∀ i ∈ tsl t, i ∈ own.map (·.2)) (h : tE K Z (.lc t ci cc ce (own.map (·.2))) σ H Q) :
    tLc (tI K Z ci) (tgG K Z.no t) (tT K Z.no cc) (tD K Z.no (evP ce)) (own.map (·.2)) σ H Q := tLc_of nd ht (lc_len ok hN) h
end
/-! ### statements -/
def PostS (K : PySem.W.Frag) (Z : Cf) (σ0 : L2.St) (fr : List Ent) (D : Ends) : Out → Prop
  | .next ρ => ∀ σ H, σ.length = ρ.length → Keep ρ σ σ0 → Rep K Z.T (ρ.zip σ ++ fr) H → D.nx σ H
  | .ret s ρ => ∀ σ v H, σ.length = ρ.length → Keep ρ σ σ0 → Rep K Z.T ((s, some v) :: (ρ.zip σ ++ fr)) H → D.rt v H
  | .brk ρ => ∀ σ H, σ.length = ρ.length → Keep ρ σ σ0 → Rep K Z.T (ρ.zip σ ++ fr) H → D.bk σ H
  | .cont ρ => ∀ σ H, σ.length = ρ.length → Keep ρ σ σ0 → Rep K Z.T (ρ.zip σ ++ fr) H → D.ct σ H
  | .err c ρ => ∀ σ H, σ.length = ρ.length → Keep ρ σ σ0 → Rep K Z.T (ρ.zip σ ++ fr) H → Z.W (.ref (Z.cl c)) none σ H
  | .stuck => False
/-- n: how many names the def has -/
def tS (K : PySem.W.Frag) (Z : Cf) (n : Nat) (c : CS) : TS := fun D σ H => ∃ ρ fr, n ≤ ρ.length ∧ ρ.length = σ.length ∧ Rep K Z.T (ρ.zip σ ++ fr) H ∧ PostS K Z σ fr D (evS c ρ)
section
variable {K : PySem.W.Frag} {Z : Cf} {σ σ0 σ1 : L2.St} {H : Hp} {fr l : List Ent} {ρ ρ1 : Rho} {D D' : Ends} {n : Nat}
/-- seen from a later state -/
theorem PostS.base {o : Out} (ok : OK ρ1 o) (k : Keep ρ1 σ1 σ0) (h : PostS K Z σ0 fr D o) : PostS K Z σ1 fr D o := by
  cases o with
  | next ρ => exact fun σ H hl kk R => h σ H hl (Keep.trans ok k kk) R
  | ret s ρ => exact fun σ v H hl kk R => h σ v H hl (Keep.trans ok k kk) R
  | brk ρ => exact fun σ H hl kk R => h σ H hl (Keep.trans ok k kk) R
  | cont ρ => exact fun σ H hl kk R => h σ H hl (Keep.trans ok k kk) R
  | err c ρ => exact fun σ H hl kk R => h σ H hl (Keep.trans ok k kk) R
  | stuck => exact h
theorem OK.len_next {ρ ρ1 : Rho} (h : OK ρ (.next ρ1)) : ρ1.length = ρ.length := Kp.len h
/-- a statement behind which another comes -/
theorem tS_seq {s r : CS} (h : tS K Z n (.seq s r) D σ H) : tS K Z n s { D with nx := tS K Z n r D } σ H := by
  obtain ⟨ρ, fr, hn, hl, R, h⟩ := h
  refine ⟨ρ, fr, hn, hl, R, ?_⟩
  have h : PostS K Z σ fr D (seqO (evS r) (evS s ρ)) := h
  have k := ok_ev s ρ
  revert k h
  cases evS s ρ with
  | next ρ1 =>
    intro h k σ1 H1 hl1 kk R1
    exact ⟨ρ1, fr, by rw [OK.len_next k]; exact hn, hl1.symm, R1, PostS.base (ok_ev r ρ1) kk h⟩
  | _ => exact fun h _ => h
/-- behind an expression: the ends of the statement by what it makes -/
theorem ex_D {ev : Rho → Res Ell.Val} {f : Res Ell.D → Out} {Q : VK} (hR : ρ.length = σ.length) (R : Rep K Z.T (ρ.zip σ ++ fr) H) (he : ∀ c ρ, f (.err c ρ) = .err c ρ) (hs : f .stuck = .stuck) (h : PostS K Z σ fr D (f (kD (ev ρ))))
    (go : ∀ d ρ1 v H1, ρ1.length = σ.length → Rep K Z.T ((.dat d, some v) :: (ρ1.zip σ ++ fr)) H1 → PostS K Z σ fr D (f (.ok d ρ1)) → Q v H1) : tD K Z ev σ H Q := by
  refine ⟨ρ, fr, hR, R, ?_⟩
  dsimp only
  cases q : kD (ev ρ) with
  | stuck => rw [q, hs] at h; exact h
  | err c ρ1 =>
    rw [q, he] at h
    exact fun H1 hl1 R1 => h σ H1 hl1.symm (Keep.refl _ _) R1
  | ok d ρ1 =>
    rw [q] at h
    exact fun v H1 hl1 _ R1 => go d ρ1 v H1 hl1 R1 h
theorem ex_M {ev : Rho → Res Ell.Val} {f : Res Slot → Out} {Q : VK} (hR : ρ.length = σ.length) (R : Rep K Z.T (ρ.zip σ ++ fr) H) (he : ∀ c ρ, f (.err c ρ) = .err c ρ) (hs : f .stuck = .stuck) (h : PostS K Z σ fr D (f (kS (ev ρ))))
    (go : ∀ d ρ1 v H1, ρ1.length = σ.length → Rep K Z.T ((d, some v) :: (ρ1.zip σ ++ fr)) H1 → PostS K Z σ fr D (f (.ok d ρ1)) → Q v H1) : tM K Z ev σ H Q := by
  refine ⟨ρ, fr, hR, R, ?_⟩
  dsimp only
  cases q : kS (ev ρ) with
  | stuck => rw [q, hs] at h; exact h
  | err c ρ1 =>
    rw [q, he] at h
    exact fun H1 hl1 R1 => h σ H1 hl1.symm (Keep.refl _ _) R1
  | ok d ρ1 =>
    rw [q] at h
    exact fun v H1 hl1 _ R1 => go d ρ1 v H1 hl1 R1 h
theorem ex_B {ev : Rho → Res Ell.Val} {f : Res Bool → Out} {Q : Bool → Hp → Prop} (hR : ρ.length = σ.length) (R : Rep K Z.T (ρ.zip σ ++ fr) H) (he : ∀ c ρ, f (.err c ρ) = .err c ρ) (hs : f .stuck = .stuck) (h : PostS K Z σ fr D (f (kB (ev ρ))))
    (go : ∀ b ρ1 H1, ρ1.length = σ.length → Rep K Z.T (ρ1.zip σ ++ fr) H1 → PostS K Z σ fr D (f (.ok b ρ1)) → Q b H1) : tG K Z (fun (b b' : Bool) _ => b = b') (fun _ _ => []) (fun ρ => kB (ev ρ)) σ H Q := by
  refine ⟨ρ, fr, hR, R, ?_⟩
  dsimp only
  cases q : kB (ev ρ) with
  | stuck => rw [q, hs] at h; exact h
  | err c ρ1 =>
    rw [q, he] at h
    exact fun H1 hl1 R1 => h σ H1 hl1.symm (Keep.refl _ _) R1
  | ok d ρ1 =>
    rw [q] at h
    intro v H1 hl1 e R1
    subst e
    exact go _ ρ1 H1 hl1 R1 h
theorem keep_set {i : Nat} {u : Option V} {s : Slot} (h : ∀ o, s ≠ .io o) (hi : i < ρ.length) : Keep (ρ.set i s) (σ.set i u) σ := fun j o e => by
  by_cases hj : i = j
  · subst hj
    rw [List.getElem?_set_self hi] at e
    exact absurd (Option.some.inj e) (h o)
  · rw [List.getElem?_set_ne hj]
/-- a name takes what an expression makes -/
theorem asg_of {i : Nat} {ce : CE} (h : tS K Z n (.set i ce) D σ H) : tM K Z (evP ce) σ H fun x H1 => gName i x σ H1 D.nx := by
  obtain ⟨ρ, fr, hn, hl, R, h⟩ := h
  refine ex_M (f := setO i) hl R (fun _ _ => rfl) rfl h fun s ρ1 v H1 hl1 R1 h => ?_
  have h : PostS K Z σ fr D (storeAt i s ρ1 ρ1[i]?) := h
  show D.nx (σ.set i (some v)) H1
  cases e : ρ1[i]? with
  | none => rw [e] at h; exact False.elim h
  | some t =>
    have hi : i < ρ1.length := (List.getElem?_eq_some_iff.mp e).1
    have fin : ∀ s', (∀ o, s' ≠ .io o) → s = s' → PostS K Z σ fr D (.next (ρ1.set i s')) → D.nx (σ.set i (some v)) H1 := fun s' hs es h => by
      subst es
      exact h _ H1 (by rw [List.length_set, List.length_set, hl1]) (keep_set hs hi) (R1.store hl1 hi)
    rw [e] at h
    have h : PostS K Z σ fr D (if isIo t = true then .stuck else storeS i ρ1 s) := h
    by_cases hz : isIo t = true
    · rw [if_pos hz] at h; exact False.elim h
    · rw [if_neg hz] at h
      cases s with
      | dat d => exact fin (.dat d) (fun _ z => nomatch z) rfl h
      | own o => exact fin (.own o) (fun _ z => nomatch z) rfl h
      | _ => exact False.elim h
/-- an own object is changed where it stands -/
theorem chg_of {a : Nat} {f : O → Option O} (h : PostS K Z σ fr D (chg a ρ f ρ[a]?)) (hl : ρ.length = σ.length) (R : Rep K Z.T (l ++ (ρ.zip σ ++ fr)) H) :
    ∃ p o o', σ[a]? = some (some (.ref p)) ∧ f o = some o' ∧ ∃ G, RepG K Z.T G (l ++ (ρ.zip σ ++ fr)) H ∧ G p = none ∧ OAt K G H p o ∧ ∀ u, (∀ ps, u ≠ .tbl ps) → OAt K G (upd H p u) p o' → D.nx σ (upd H p u) := by
  cases e : ρ[a]? with
  | none => rw [e] at h; exact False.elim h
  | some s =>
    obtain ⟨u, rest, hu, pm, pset⟩ := zopen (fr := fr) hl e
    obtain ⟨G, g⟩ := id R
    have ha : a < ρ.length := (List.getElem?_eq_some_iff.mp e).1
    have go : ∀ (s' : O → Slot) (o : O), s = s' o → (∀ o p, adr (s' o, some (V.ref p)) = [p]) → (∀ o v G H, Good K G H (s' o, v) ↔ ∃ a, v = some (.ref a) ∧ G a = none ∧ OAt K G H a o) →
        ((s' = .io) ∨ (s' = .own)) → PostS K Z σ fr D (toO ((f o).map fun o' => ρ.set a (s' o'))) →
        ∃ p o o', σ[a]? = some (some (.ref p)) ∧ f o = some o' ∧ ∃ G, RepG K Z.T G (l ++ (ρ.zip σ ++ fr)) H ∧ G p = none ∧ OAt K G H p o ∧ ∀ u, (∀ ps, u ≠ .tbl ps) → OAt K G (upd H p u) p o' → D.nx σ (upd H p u) := fun s' o es hadr hgood hio h => by
      subst es
      have g2 := (g.subl (List.sublist_append_right _ _)).perm pm
      obtain ⟨p, ep, gn, oa⟩ := (hgood _ _ _ _).mp (g2.good _ List.mem_cons_self)
      subst ep
      cases q : f o with
      | none => rw [q] at h; exact False.elim h
      | some o' =>
        rw [q] at h
        have h : PostS K Z σ fr D (.next (ρ.set a (s' o'))) := h
        refine ⟨p, o, o', hu, q, G, g, gn, oa, fun w hw oa' => ?_⟩
        have g3 := g2.wr (s' := s' o') (u := w) (hadr _ _) (hadr _ _) ((hgood _ _ _ _).mpr ⟨p, rfl, gn, oa'⟩)
        refine h σ _ (by rw [List.length_set]; exact hl.symm) (Keep.refl _ _) ⟨G, g3.perm (pset _).symm⟩
    rw [e] at h
    cases s with
    | own o => exact go .own o rfl (fun _ _ => rfl) (fun _ _ _ _ => Iff.rfl) (.inr rfl) h
    | io o => exact go .io o rfl (fun _ _ => rfl) (fun _ _ _ _ => Iff.rfl) (.inl rfl) h
    | _ => exact False.elim h
end
section
variable {X : Cx} {Z : Cf} {e a b tg : Expr} {st : Stmt} {rest : List Stmt} {pos p : Pos} {c ca cb : CE} {k n : Nat} {s r : CS}
theorem PS.imp {t u : TS} (h : PS X st t) (k : ∀ D σ H, u D σ H → t D σ H) : PS X st u := ⟨fun pins s σ H D I q => h.run pins s σ H D I (k D σ H q)⟩
theorem PSs.imp {t u : TS} (h : PSs X rest t) (k : ∀ D σ H, u D σ H → t D σ H) : PSs X rest u := ⟨fun pins s σ H D I q => h.run pins s σ H D I (k D σ H q)⟩
theorem s_nil : PSs X [] (tS X.K Z n .done) := PSs.imp pss_nil fun D σ H h => by
  obtain ⟨ρ, fr, hn, hl, R, h⟩ := h
  exact h σ H hl.symm (Keep.refl _ _) R
theorem s_cons (h1 : PS X st (tS X.K Z n s)) (h2 : PSs X rest (tS X.K Z n r)) : PSs X (st :: rest) (tS X.K Z n (.seq s r)) := PSs.imp (pss_cons h1 h2) fun D σ H h => tS_seq h
theorem kill_at {K : PySem.W.Frag} {T : List (Addr × Str)} {ρ : Rho} {σ : L2.St} {H : Hp} {fr : List Ent} {i : Nat} {s : Slot} (hl : ρ.length = σ.length) (R : Rep K T (ρ.zip σ ++ fr) H) (e : ρ[i]? = some s) : Rep K T ((ρ.set i .un).zip σ ++ fr) H := by
  obtain ⟨u, rest, hu, pm, pset⟩ := zopen (fr := fr) hl e
  obtain ⟨G, g⟩ := R
  exact ⟨G, (((g.perm pm).subl (List.sublist_cons_self _ _)).un u).perm (pset .un).symm⟩
theorem kill_of {K : PySem.W.Frag} {σ : L2.St} {H : Hp} {D : Ends} : ∀ (is : List Nat) {ρ : Rho} {fr : List Ent}, n ≤ ρ.length → ρ.length = σ.length → Rep K Z.T (ρ.zip σ ++ fr) H → PostS K Z σ fr D (seqO (evS r) (killO is ρ)) → tS K Z n r D σ H
  | [], ρ, fr, hn, hl, R, h => ⟨ρ, fr, hn, hl, R, h⟩
  | i :: is, ρ, fr, hn, hl, R, h => by
    have h : PostS K Z σ fr D (seqO (evS r) (killA (killO is) i ρ ρ[i]?)) := h
    cases e : ρ[i]? with
    | none => rw [e] at h; exact False.elim h
    | some s =>
      rw [e] at h
      have h : PostS K Z σ fr D (seqO (evS r) (if isIo s = true then .stuck else killO is (ρ.set i .un))) := h
      by_cases hz : isIo s = true
      · rw [if_pos hz] at h; exact False.elim h
      · rw [if_neg hz] at h
        exact kill_of is (by rw [List.length_set]; exact hn) (by rw [List.length_set]; exact hl) (kill_at hl R e) h
/-- names that are not read any more -/
theorem s_kill {is : List Nat} (h : PSs X rest (tS X.K Z n r)) : PSs X rest (tS X.K Z n (.seq (.kill is) r)) := PSs.imp h fun D σ H h => by
  obtain ⟨ρ, fr, hn, hl, R, h⟩ := h
  exact kill_of is hn hl R h
theorem frz_at {pins : List (Addr × Obj)} {sh : Shared} {T : List (Addr × Str)} {ρ : Rho} {σ : L2.St} {H : Hp} {fr : List Ent} {i : Nat} (I : Inv X pins σ H sh) (hl : ρ.length = σ.length) (R : Rep X.K T (ρ.zip σ ++ fr) H) : ∃ H', Inv X pins σ H' sh ∧ Rep X.K T ((frz1 i ρ ρ[i]?).zip σ ++ fr) H' := by
  cases e : ρ[i]? with
  | none => exact ⟨H, I, R⟩
  | some s =>
    cases s with
    | own o =>
      obtain ⟨u, rest, hu, pm, pset⟩ := zopen (fr := fr) hl e
      obtain ⟨G, g⟩ := R
      have g2 := g.perm pm
      obtain ⟨a, ea, _, oa⟩ := g2.good _ List.mem_cons_self
      dsimp only at ea
      subst ea
      cases o with
      | lst ds => exact ⟨H, I, (g2.freeze).perm (pset (.dat (frz (.lst ds)))).symm⟩
      | dic m =>
        obtain ⟨xs, e, _⟩ := oa
        obtain ⟨od, J⟩ := I.lock e trivial
        exact ⟨_, J, (g2.freezeAt (od := od) e rfl).perm (pset (.dat (frz (.dic m)))).symm⟩
    | _ => exact ⟨H, I, R⟩
theorem frz_of {pins : List (Addr × Obj)} {sh : Shared} {T : List (Addr × Str)} {σ : L2.St} {fr : List Ent} : ∀ (is : List Nat) {ρ : Rho} {H : Hp}, Inv X pins σ H sh → ρ.length = σ.length → Rep X.K T (ρ.zip σ ++ fr) H → ∃ H', Inv X pins σ H' sh ∧ Rep X.K T ((frzO is ρ).zip σ ++ fr) H'
  | [], ρ, H, I, _, R => ⟨H, I, R⟩
  | i :: is, ρ, H, I, hl, R => by
    obtain ⟨H1, I1, R1⟩ := frz_at (i := i) I hl R
    exact frz_of is I1 (by rw [(kp_frz1 i ρ ρ[i]?).len, hl]) R1
/-- names whose objects are not changed any more -/
theorem s_frz {is : List Nat} (h : PSs X rest (tS X.K Z n r)) : PSs X rest (tS X.K Z n (.seq (.frzs is) r)) := ⟨fun pins s σ H D I q => by
  obtain ⟨ρ, fr, hn, hl, R, q⟩ := q
  obtain ⟨H', I', R'⟩ := frz_of is I hl R
  exact h.run pins s σ H' D I' ⟨frzO is ρ, fr, by rw [(kp_frzO is ρ).len]; exact hn, by rw [(kp_frzO is ρ).len]; exact hl, R', q⟩⟩
theorem s_pass : PS X (.Pass pos) (tS X.K Z n .pass) := PS.imp ps_pass fun D σ H h => by
  obtain ⟨ρ, fr, hn, hl, R, h⟩ := h
  exact h σ H hl.symm (Keep.refl _ _) R
theorem s_brk : PS X (.Break pos) (tS X.K Z n .brk) := PS.imp ps_break fun D σ H h => by
  obtain ⟨ρ, fr, hn, hl, R, h⟩ := h
  exact h σ H hl.symm (Keep.refl _ _) R
theorem s_cont : PS X (.Continue pos) (tS X.K Z n .cont) := PS.imp ps_continue fun D σ H h => by
  obtain ⟨ρ, fr, hn, hl, R, h⟩ := h
  exact h σ H hl.symm (Keep.refl _ _) R
theorem s_doc {x j p1 p2} : PS X (.Expr (.Constant (.str x) j p1) p2) (tS X.K Z n .pass) := PS.imp ps_doc fun D σ H h => by
  obtain ⟨ρ, fr, hn, hl, R, h⟩ := h
  exact h σ H hl.symm (Keep.refl _ _) R
theorem s_set {i : Nat} {x : Str} {pos' : Pos} (hN : X.N.Nodup) (he : PE X e (tE X.K Z c)) (hi : X.N[i]? = some x := by rfl) (hx : Loc X.env.scope x := by first | exact Or.inl rfl | exact Or.inr rfl) (hs : swapsWith e (some (.Name x pos')) pos.line X.env = pure false := by rfl)
    (hf : X.fn x = true ∨ X.env.scope.names.lookup x = some .local := by first | exact .inl rfl | exact .inr rfl) : PS X (.Assign [.Name x pos'] e pos) (tS X.K Z n (.set i c)) :=
  PS.imp (ps_set hN hi hx he hs hf) fun D σ H h => tM_of (asg_of h)
theorem s_unp {t : Tgt} (he : PE X e (tE X.K Z c)) (hg : PG X tg (tgG X.K Z t)) (hs : swapsWithSole [tg] e pos.line X.env = pure false := by rfl) (hw : swappedStores [tg] e X.env = pure none := by rfl)
    (h1 : (assignEach [tg] X.env).map (·.2) = [assign tg X.env] := by rfl) : PS X (.Assign [tg] e pos) (tS X.K Z n (.unp t c)) := by
  refine PS.imp (ps_asg (pe_D he) hg hs hw h1) fun D σ H h => ?_
  obtain ⟨ρ, fr, hn, hl, R, h⟩ := h
  refine (ex_D (f := unpO t) hl R (fun _ _ => rfl) rfl h fun d ρ1 v H1 hl1 R1 h => ?_)
  have h : PostS X.K Z σ fr D (toO (bindT t d ρ1)) := h
  cases q : bindT t d ρ1 with
  | none => rw [q] at h; exact False.elim h
  | some ρ2 =>
    rw [q] at h
    exact ⟨d, ρ1, fr, ρ2, hl1, R1, q, fun σ' hl' kk _ R' => h σ' H1 (by rw [(kp_bindT _ _ _ _ q).len, hl1, hl']) kk R'⟩
/-- a, b = x, y: plain local names -/
theorem s_par {i j : Nat} {x y : Str} {px py pt : Pos} {kt k2 pt2} (g : XG X k) (ha : PE X a (tE X.K Z ca)) (hb : PE X b (tE X.K Z cb)) (hi : X.N[i]? = some x := by rfl) (hj : X.N[j]? = some y := by rfl) (hij : i ≠ j := by decide)
    (hx : X.env.scope.names.lookup x = some .local := by rfl) (hy : X.env.scope.names.lookup y = some .local := by rfl)
    (hw : swappedStores [.Tuple [.Name x px, .Name y py] kt pt] (.Tuple [a, b] k2 pt2) X.env = pure (some [x, y]) := by rfl)
    (hs : swapsWithSole [.Tuple [.Name x px, .Name y py] kt pt] (.Tuple [a, b] k2 pt2) pos.line X.env = pure false := by rfl) (h2 : starEach [a, b] X.env = (false, eval a X.env) :: starEach [b] X.env := by rfl) (h3 : starEach [b] X.env = (false, eval b X.env) :: starEach [] X.env := by rfl) :
    PS X (.Assign [.Tuple [.Name x px, .Name y py] kt pt] (.Tuple [a, b] k2 pt2) pos) (tS X.K Z n (.unp (.tp (.cons (.nm i) (.cons (.nm j) .nil))) (.tup (.cons ca (.cons cb .nil))))) := by
  refine PS.imp (ps_par g.calm g.nd hi hj hij hx hy (d_cons ha (d_cons hb d_nil h3) h2) hw hs) fun D σ H h => ?_
  obtain ⟨ρ, fr, hn, hl, R, h⟩ := h
  refine ⟨ρ, fr, hl, R, ?_⟩
  have h : PostS X.K Z σ fr D (unpO (.tp (.cons (.nm i) (.cons (.nm j) .nil))) (kD (tupR (evA (.cons ca (.cons cb .nil)) ρ)))) := h
  generalize evA (.cons ca (.cons cb .nil)) ρ = r at h ⊢
  cases r with
  | stuck => exact h
  | err c ρ1 => exact fun H1 hl1 R1 => h σ H1 hl1.symm (Keep.refl _ _) R1
  | ok ds ρ1 =>
    intro vs H1 hl1 e1 R1
    have h : PostS X.K Z σ fr D (unpO (.tp (.cons (.nm i) (.cons (.nm j) .nil))) (kD (if leN ds.length sizeLine then .ok (.tmp (.dat (.tuple ds))) ρ1 else .stuck))) := h
    by_cases hz : leN ds.length sizeLine
    · rw [if_pos hz] at h
      have h : PostS X.K Z σ fr D (toO (bindT.bindTs (.cons (.nm i) (.cons (.nm j) .nil)) ds ρ1)) := h
      cases q : bindT.bindTs (.cons (.nm i) (.cons (.nm j) .nil)) ds ρ1 with
      | none => rw [q] at h; exact False.elim h
      | some ρ3 =>
        rw [q] at h
        have e2 := tlen_of q
        match ds, e2, vs, e1 with
        | [d1, d2], _, [v1, v2], _ =>
          refine ⟨v1, v2, rfl, ?_⟩
          have q : (bindT (.nm i) d1 ρ1).bind (fun ρ' => (bindT (.nm j) d2 ρ').bind fun ρ'' => some ρ'') = some ρ3 := q
          have nm : ∀ {m : Nat} {d : Ell.D} {ρ ρ' : Rho}, bindT (.nm m) d ρ = some ρ' → m < ρ.length ∧ ρ' = ρ.set m (.dat d) := fun {m d ρ ρ'} q => by
            have q : (match ρ[m]? with | some s => if isIo s = true then none else some (ρ.set m (.dat d)) | none => none) = some ρ' := q
            cases e : ρ[m]? with
            | none => rw [e] at q; cases q
            | some s =>
              rw [e] at q
              refine ⟨(List.getElem?_eq_some_iff.mp e).1, ?_⟩
              dsimp only at q
              by_cases hz : isIo s = true
              · rw [if_pos hz] at q; cases q
              · rw [if_neg hz] at q
                cases q
                rfl
          cases q1 : bindT (.nm i) d1 ρ1 with
          | none => rw [q1] at q; cases q
          | some ρ2 =>
            rw [q1, Option.bind_some] at q
            cases q2 : bindT (.nm j) d2 ρ2 with
            | none => rw [q2] at q; cases q
            | some ρ4 =>
              rw [q2] at q
              cases q
              obtain ⟨i1, rfl⟩ := nm q1
              obtain ⟨j1, rfl⟩ := nm q2
              have R1 : Rep X.K Z.T ((.dat d1, some v1) :: (.dat d2, some v2) :: (ρ1.zip σ ++ fr)) H1 := R1
              have R2 := Rep.store (fr := (.dat d2, some v2) :: fr) (R1.perm (List.Perm.cons _ List.perm_middle.symm)) hl1 i1
              have R3 := Rep.store (fr := fr) (R2.perm List.perm_middle) (by rw [List.length_set, List.length_set, hl1]) j1
              refine h _ H1 (by simp [hl1]) (fun m o em => ?_) R3
              have a1 := keep_set (ρ := ρ1) (σ := σ) (i := i) (u := some v1) (s := .dat d1) (fun _ z => nomatch z) i1
              have a2 := keep_set (ρ := ρ1.set i (.dat d1)) (σ := σ.set i (some v1)) (i := j) (u := some v2) (s := .dat d2) (fun _ z => nomatch z) j1
              have em' : (ρ1.set i (.dat d1))[m]? = some (.io o) := by
                by_cases hj : j = m
                · subst hj; rw [List.getElem?_set_self j1] at em; cases em
                · rw [List.getElem?_set_ne hj] at em; exact em
              exact (a2 m o em).trans (a1 m o em')
        | [_, _], _, [], e1 => cases e1
        | [_, _], _, [_], e1 => cases e1
        | [_, _], _, _ :: _ :: _ :: _, e1 => simp at e1
        | [], e2, _, _ => cases e2
        | [_], e2, _, _ => cases e2
        | _ :: _ :: _ :: _, e2, _, _ => simp at e2
    · rw [if_neg hz] at h; exact False.elim h
theorem s_ret (he : PE X e (tE X.K Z c)) : PS X (.Return (some e) pos) (tS X.K Z n (.ret c)) := by
  refine PS.imp (ps_ret he) fun D σ H h => ?_
  obtain ⟨ρ, fr, hn, hl, R, h⟩ := h
  exact tM_of (ex_M (f := retO) hl R (fun _ _ => rfl) rfl h fun s ρ1 v H1 hl1 R1 h => h σ v H1 hl1.symm (Keep.refl _ _) R1)
theorem s_ex (he : PE X e (tE X.K Z c)) (hs : swapsWith e none pos.line X.env = pure false := by rfl) : PS X (.Expr e pos) (tS X.K Z n (.ex c)) := by
  refine PS.imp (ps_expr he hs) fun D σ H h => ?_
  obtain ⟨ρ, fr, hn, hl, R, h⟩ := h
  refine ⟨ρ, fr, hl, R, ?_⟩
  have h : PostS X.K Z σ fr D (dropO (evP c ρ)) := h
  cases q : evP c ρ with
  | stuck => rw [q] at h; exact h
  | err c ρ1 => rw [q] at h; exact fun H1 hl1 R1 => h σ H1 hl1.symm (Keep.refl _ _) R1
  | ok x ρ1 => rw [q] at h; exact fun v H1 hl1 _ R1 => h σ H1 hl1.symm (Keep.refl _ _) (R1.subl (List.sublist_append_right _ _))
theorem s_if {c' : Expr} {sa sb : List Stmt} (hc : PT X c' (tT X.K Z c)) (ha : PSs X sa (tS X.K Z n s)) (hb : PSs X sb (tS X.K Z n r)) : PS X (.If c' sa sb pos) (tS X.K Z n (.ite c s r)) := by
  refine PS.imp (ps_if hc ha hb) fun D σ H h => ?_
  obtain ⟨ρ, fr, hn, hl, R, h⟩ := h
  have k1 := rk_kB ((rk_ev c).1 ρ)
  refine ⟨ρ, fr, hl, R, ?_⟩
  have h : PostS X.K Z σ fr D (iteO (evS s) (evS r) (kB (evP c ρ))) := h
  dsimp only
  revert k1 h
  cases kB (evP c ρ) with
  | stuck => exact fun _ h => h
  | err c ρ1 => exact fun _ h H1 hl1 R1 => h σ H1 hl1.symm (Keep.refl _ _) R1
  | ok b ρ1 =>
    intro k1 h b' H1 hl1 eb R1
    subst eb
    have hn1 : n ≤ ρ1.length := by rw [Kp.len k1]; exact hn
    cases b with
    | true => rw [if_pos rfl]; exact ⟨ρ1, fr, hn1, hl1, R1, h⟩
    | false => rw [if_neg Bool.false_ne_true]; exact ⟨ρ1, fr, hn1, hl1, R1, h⟩
theorem s_while {c' : Expr} {body : List Stmt} {m : Nat} (hp : PassesOwn (model X.prog X.w) X.A X.env X.xe) (hc : PT X c' (tT X.K Z c)) (hb : PSs X body (tS X.K Z n s)) : PS X (.While c' body [] pos) (tS X.K Z n (.whl m c s)) := by
  refine PS.imp (ps_while hp hc hb) fun D σ0 H0 h => ?_
  have h : ∃ (ρ : Rho) (fr : List Ent), n ≤ ρ.length ∧ ρ.length = σ0.length ∧ Rep X.K Z.T (ρ.zip σ0 ++ fr) H0 ∧ PostS X.K Z σ0 fr D (whlL (evP c) (evS s) m ρ) := h
  refine ⟨fun m σ H => ∃ (ρ : Rho) (fr : List Ent), n ≤ ρ.length ∧ ρ.length = σ.length ∧ Rep X.K Z.T (ρ.zip σ ++ fr) H ∧ PostS X.K Z σ fr D (whlL (evP c) (evS s) m ρ), ⟨m, h⟩, fun m σ H h => ?_⟩
  obtain ⟨ρ, fr, hn, hl, R, h⟩ := h
  cases m with
  | zero => exact False.elim h
  | succ m =>
    have h : PostS X.K Z σ fr D (iteO (fun ρ1 => turnO (whlL (evP c) (evS s) m) (evS s ρ1)) nextO (kB (evP c ρ))) := h
    have k1 := rk_kB ((rk_ev c).1 ρ)
    refine ⟨ρ, fr, hl, R, ?_⟩
    dsimp only
    revert k1 h
    cases kB (evP c ρ) with
    | stuck => exact fun h _ => h
    | err c ρ1 => exact fun h _ H1 hl1 R1 => h σ H1 hl1.symm (Keep.refl _ _) R1
    | ok b ρ1 =>
      intro h k1 b' H1 hl1 eb R1
      subst eb
      have R1 : Rep X.K Z.T (ρ1.zip σ ++ fr) H1 := R1
      have hn1 : n ≤ ρ1.length := by rw [Kp.len k1]; exact hn
      cases b with
      | false => rw [if_neg Bool.false_ne_true]; exact h σ H1 hl1.symm (Keep.refl _ _) R1
      | true =>
        rw [if_pos rfl]
        have h : PostS X.K Z σ fr D (turnO (whlL (evP c) (evS s) m) (evS s ρ1)) := h
        refine ⟨fun σ' H' => ∃ ρ fr, n ≤ ρ.length ∧ ρ.length = σ'.length ∧ Rep X.K Z.T (ρ.zip σ' ++ fr) H' ∧ PostS X.K Z σ' fr D (whlL (evP c) (evS s) m ρ), fun σ' H' q => ⟨m, Nat.lt_succ_self m, q⟩, ρ1, fr, hn1, hl1, R1, ?_⟩
        have k := ok_ev s ρ1
        revert h k
        cases evS s ρ1 with
        | next ρ2 => exact fun h k σ2 H2 hl2 kk R2 => ⟨ρ2, fr, by rw [Kp.len k]; exact hn1, hl2.symm, R2, PostS.base (ok_whlL (rk_ev c).1 (ok_ev s) m ρ2) kk h⟩
        | cont ρ2 => exact fun h k σ2 H2 hl2 kk R2 => ⟨ρ2, fr, by rw [Kp.len k]; exact hn1, hl2.symm, R2, PostS.base (ok_whlL (rk_ev c).1 (ok_ev s) m ρ2) kk h⟩
        | brk ρ2 => exact fun h _ => h
        | ret s ρ2 => exact fun h _ => h
        | err c ρ2 => exact fun h _ => h
        | stuck => exact fun h _ => h
theorem s_for {iter : Expr} {body : List Stmt} {t : Tgt} (g : XG X k) (hp : PassesOwn (model X.prog X.w) X.A X.env X.xe) (hi : PI X tg iter (tI X.K Z c)) (hg : PG X tg (tgG X.K Z t)) (hb : PSs X body (tS X.K Z n s))
    (hs : ∀ x, foldedSetIterable iter X.env x = pure x := by intro _; rfl) : PS X (.For tg iter body [] pos) (tS X.K Z n (.for_ t c s)) := by
  refine PS.imp (ps_for hp g.calm hi hg hb hs) fun D σ0 H0 h => ?_
  obtain ⟨ρ, fr, hn, hl, R, h⟩ := h
  have k1 := (rk_ev c).2.2.2.1 ρ
  refine ⟨ρ, fr, hl, R, ?_⟩
  have h : PostS X.K Z σ0 fr D (forO (forStep t (evS s)) (evI c ρ)) := h
  revert k1 h
  cases evI c ρ with
  | stuck => exact fun _ h => h
  | err c ρ1 => exact fun _ h H1 hl1 R1 => h σ0 H1 hl1.symm (Keep.refl _ _) R1
  | ok xs ρ1 =>
    intro k1 h J l0 H1 hl1 hJ R1
    have h : PostS X.K Z σ0 fr D (forL (forStep t (evS s)) xs ρ1) := h
    have hn1 : n ≤ ρ1.length := by rw [Kp.len k1]; exact hn
    generalize hf : forStep t (evS s) = f at h
    refine ⟨fun i m σ H => m = xs.length - i ∧ i ≤ xs.length ∧ ∃ ρ, n ≤ ρ.length ∧ ρ.length = σ.length ∧ Rep X.K Z.T (l0 ++ (ρ.zip σ ++ fr)) H ∧ PostS X.K Z σ fr D (forL f (xs.drop i) ρ), ⟨xs.length, rfl, Nat.zero_le _, ρ1, hn1, hl1, R1, h⟩, ?_⟩
    rintro i m σ H2 ⟨em, hi, ρ2, hn2, hl2, R2, h2⟩
    have hJ2 := hJ i _ H2 R2
    by_cases hlt : i < xs.length
    · obtain ⟨jg, jy⟩ := hJ2.1 xs[i] (List.getElem?_eq_getElem hlt)
      refine .inr ⟨jg, fun σ' H' => ∃ ρ, n ≤ ρ.length ∧ ρ.length = σ'.length ∧ Rep X.K Z.T (l0 ++ (ρ.zip σ' ++ fr)) H' ∧ PostS X.K Z σ' fr D (forL f (xs.drop (i + 1)) ρ), fun σ' H' q => ⟨xs.length - (i + 1), by omega, rfl, hlt, q⟩, fun x H3 y3 => ?_⟩
      have R4 := jy x H3 y3
      rw [List.drop_eq_getElem_cons hlt] at h2
      have h2 : PostS X.K Z σ fr D (turnO (forL f (xs.drop (i + 1))) (f xs[i] ρ2)) := h2
      have hf' : f xs[i] ρ2 = goO (evS s) (bindT t xs[i] ρ2) := by rw [← hf]; rfl
      rw [hf'] at h2
      cases qb : bindT t xs[i] ρ2 with
      | none => rw [qb] at h2; exact False.elim h2
      | some ρ3 =>
        rw [qb] at h2
        have h2 : PostS X.K Z σ fr D (turnO (forL f (xs.drop (i + 1))) (evS s ρ3)) := h2
        have k3 := kp_bindT _ _ _ _ qb
        refine ⟨xs[i], ρ2, l0 ++ fr, ρ3, hl2, ?_, qb, fun σ3 hl3 kk3 _ R5 => ?_⟩
        · exact R4.perm ((List.perm_append_comm_assoc _ _ _).cons _)
        · refine ⟨ρ3, l0 ++ fr, by rw [k3.len]; exact hn2, by rw [k3.len, hl2, hl3], R5, ?_⟩
          have k := ok_ev s ρ3
          have okL : ∀ ρ, OK ρ (forL f (xs.drop (i + 1)) ρ) := fun ρ => by rw [← hf]; exact ok_forL (ok_forStep (ok_ev s)) _ ρ
          have nx : ∀ ρ4, OK ρ3 (.next ρ4) → PostS X.K Z σ fr D (forL f (xs.drop (i + 1)) ρ4) → ∀ σ4 H4, σ4.length = ρ4.length → Keep ρ4 σ4 σ3 → Rep X.K Z.T (ρ4.zip σ4 ++ (l0 ++ fr)) H4 →
              ∃ ρ, n ≤ ρ.length ∧ ρ.length = σ4.length ∧ Rep X.K Z.T (l0 ++ (ρ.zip σ4 ++ fr)) H4 ∧ PostS X.K Z σ4 fr D (forL f (xs.drop (i + 1)) ρ) := fun ρ4 k h σ4 H4 hl4 kk R4 =>
            ⟨ρ4, by rw [Kp.len k, k3.len]; exact hn2, hl4.symm, R4.perm (List.perm_append_comm_assoc _ _ _), PostS.base (okL ρ4) (Keep.trans k kk3 kk) h⟩
          revert h2 k
          cases evS s ρ3 with
          | next ρ4 => exact fun h k => nx ρ4 k h
          | cont ρ4 => exact fun h k => nx ρ4 k h
          | brk ρ4 => exact fun h k σ4 H4 hl4 kk R4 => h σ4 H4 hl4 (Keep.trans k kk3 kk) ((R4.perm (List.perm_append_comm_assoc _ _ _)).subl (List.sublist_append_right _ _))
          | ret s ρ4 =>
            exact fun h k σ4 v H4 hl4 kk R4 => h σ4 v H4 hl4 (Keep.trans k kk3 kk) ((R4.perm ((List.perm_append_comm_assoc _ _ _).cons _)).subl ((List.sublist_append_right _ _).cons_cons _))
          | err c ρ4 => exact fun h k σ4 H4 hl4 kk R4 => h σ4 H4 hl4 (Keep.trans k kk3 kk) ((R4.perm (List.perm_append_comm_assoc _ _ _)).subl (List.sublist_append_right _ _))
          | stuck => exact fun h _ => h
    · have ei : i = xs.length := by omega
      refine .inl ⟨hJ2.2 (by omega), ?_⟩
      rw [ei, List.drop_length] at h2
      exact h2 σ H2 hl2.symm (Keep.refl _ _) (R2.subl (List.sublist_append_right _ _))
end
end Ell
set_option autoImplicit false
/-! Ell9: changes of own objects, errors, calls of defs. -/
namespace Ell
open PySem PySem.Spec PyProof.Rows L2
open Evl (Ex)
section
variable {K : PySem.W.Frag} {Z : Cf} {σ : L2.St} {H : Hp} {fr l : List Ent} {ρ : Rho} {DD : Ends} {a : Nat}
theorem gate_of {b : Bool} {o : Out} (h : PostS K Z σ fr DD (gate b o)) : b = true ∧ PostS K Z σ fr DD o := by
  cases b with
  | true => exact ⟨rfl, h⟩
  | false => exact False.elim h
/-- where a name's own list stands -/
theorem lst_at (hl : ρ.length = σ.length) (R : Rep K Z.T (ρ.zip σ ++ fr) H) (e : lstAt ρ[a]? = true) : ∃ p ds xs, σ[a]? = some (some (.ref p)) ∧ (ρ[a]? = some (.own (.lst ds)) ∨ ρ[a]? = some (.io (.lst ds))) ∧ H p = some (.lst xs) := by
  cases q : ρ[a]? with
  | none => rw [q] at e; cases e
  | some s =>
    rw [q] at e
    obtain ⟨u, rest, hu, pm, _⟩ := zopen (fr := fr) hl q
    obtain ⟨G, g⟩ := R
    have w := (g.perm pm).good _ List.mem_cons_self
    cases s with
    | own o =>
      cases o with
      | lst ds => obtain ⟨p, ep, _, xs, hx, _⟩ := w; exact ⟨p, ds, xs, by rw [hu]; exact congrArg some ep, .inl rfl, hx⟩
      | dic _ => cases e
    | io o =>
      cases o with
      | lst ds => obtain ⟨p, ep, _, xs, hx, _⟩ := w; exact ⟨p, ds, xs, by rw [hu]; exact congrArg some ep, .inr rfl, hx⟩
      | dic _ => cases e
    | _ => cases e
theorem own_at (hl : ρ.length = σ.length) (R : Rep K Z.T (ρ.zip σ ++ fr) H) (e : ownAt ρ[a]? = true) : ∃ p, σ[a]? = some (some (.ref p)) := by
  cases q : ρ[a]? with
  | none => rw [q] at e; cases e
  | some s =>
    rw [q] at e
    obtain ⟨u, rest, hu, pm, _⟩ := zopen (fr := fr) hl q
    obtain ⟨G, g⟩ := R
    have w := (g.perm pm).good _ List.mem_cons_self
    cases s with
    | own o => obtain ⟨p, ep, _⟩ := w; exact ⟨p, by rw [hu]; exact congrArg some ep⟩
    | io o => obtain ⟨p, ep, _⟩ := w; exact ⟨p, by rw [hu]; exact congrArg some ep⟩
    | _ => cases e
/-- a pair is put -/
theorem put_is {G : Hp} {k : Ky} {v : V} {d : Ell.D} (w : Is K G v d) : ∀ {m : List (Ky × Ell.D)} {xs : List V}, Iss K G xs (m.map (·.2)) →
    ∃ xs', putK ((m.map (·.1)).zip xs) k v = ((kput m k d).map (·.1)).zip xs' ∧ xs'.length = (kput m k d).length ∧ Iss K G xs' ((kput m k d).map (·.2)) := by
  intro m xs h
  have hl := h.len
  rw [List.length_map] at hl
  have any_eq : ∀ {m : List (Ky × Ell.D)} {xs : List V}, xs.length = m.length → (((m.map (·.1)).zip xs).any fun kv => decide (kv.1 = k)) = m.any fun kv => decide (kv.1 = k) := by
    intro m
    induction m with
    | nil => intro xs _; simp
    | cons p m ih =>
      intro xs hx
      cases xs with
      | nil => simp at hx
      | cons x xs => simp only [List.map_cons, List.zip_cons_cons, List.any_cons]; rw [ih (by simpa using hx)]
  unfold putK kput
  rw [any_eq hl]
  by_cases c : (m.any fun kv => decide (kv.1 = k)) = true
  · rw [if_pos c, if_pos c]
    clear c
    induction m generalizing xs with
    | nil => cases h; exact ⟨[], rfl, rfl, .nil⟩
    | cons p m ih =>
      cases h with
      | @cons x xs _ _ h1 t =>
        obtain ⟨ys, e, l, i⟩ := ih t (by simpa using hl)
        simp only [List.map_cons, List.zip_cons_cons]
        by_cases q : p.1 = k
        · refine ⟨v :: ys, ?_, by simp [l], ?_⟩
          · rw [if_pos q, if_pos q, List.zip_cons_cons, e]
          · rw [if_pos q]; exact .cons w i
        · refine ⟨x :: ys, ?_, by simp [l], ?_⟩
          · rw [if_neg q, if_neg q, List.zip_cons_cons, e]
          · rw [if_neg q]; exact .cons h1 i
  · rw [if_neg c, if_neg c]
    refine ⟨xs ++ [v], ?_, by simp [hl], ?_⟩
    · rw [List.map_append, List.zip_append (by rw [List.length_map, hl])]; rfl
    · rw [List.map_append]; exact h.app (.cons w .nil)
theorem oat_lst {G : Hp} {p : Addr} {ds : List Ell.D} (h : OAt K G H p (.lst ds)) : ∃ xs, H p = some (.lst xs) ∧ Iss K G xs ds := h
theorem lst_oat {G : Hp} {p : Addr} {ds : List Ell.D} {xs : List V} (h : H p = some (.lst xs)) (w : Iss K G xs ds) : OAt K G H p (.lst ds) := (show ∃ xs, _ from ⟨xs, h, w⟩)
theorem ixn_eq (n : Nat) (i : Int) : ixn n i = ixN n i := rfl
end
section
variable {X : Cx} {Z : Cf} {e i : Expr} {st : Stmt} {pos p p1 p2 p3 : Pos} {c ca cb : CE} {k n a : Nat} {x : Str}
theorem v_of {σ : L2.St} {H : Hp} {Q : VK} {v : V} {j : Nat} (h : σ[j]? = some (some v)) (q : Q v H) : tVar j σ H Q := ⟨v, h, q⟩
/-- x.append(e) -/
theorem s_app (he : PE X e (tE X.K Z c)) (hN : X.N[a]? = some x := by rfl) (hv : Vis X.env.scope x := by first | exact Or.inl rfl | exact Or.inr (Or.inl rfl) | exact Or.inr (Or.inr rfl)) (hd : (x == ("__debug__" : Str)) = false := by decide) (hcd : (x == ("__classdict__" : Str)) = false := by decide)
    (hb1 : attributeBase (.Name x p1) "append" X.env (eval (.Name x p1) X.env) = eval (.Name x p1) X.env := by rfl)
    (hb2 : ((backTo p3 (starEach [e] X.env)).all (fun x => !x.1) && (backToKw p3 (keywordEach [] X.env)).all (fun x => x.1.isSome) && decide ([e].length + ([] : List Keyword).length + (if ([] : List Keyword).isEmpty then 0 else 1) < 30)) = true := by rfl)
    (hb3 : (p2.endLine == p3.line) = true := by rfl) (hs : starEach [e] X.env = (false, eval e X.env) :: starEach [] X.env := by rfl)
    (hsw : swapsWith (.Call (.Attribute (.Name x p1) "append" p2) [e] [] p3) none pos.line X.env = pure false := by rfl) :
    PS X (.Expr (.Call (.Attribute (.Name x p1) "append" p2) [e] [] p3) pos) (tS X.K Z n (.app a c)) := by
  refine PS.imp (ps_expr (pe_bm PySem.F.plainAttrs_list PySem.F.slot_list_append PySem.F.type_list_append mt_append (pe_var (i := a) hN hv hd hcd) (pa_cons (pe_D he) pa_nil hs) hb1 hb2 hb3 hs (by rfl)) hsw) fun DD σ H h => ?_
  obtain ⟨ρ, fr, hn, hl, R, h⟩ := h
  obtain ⟨hg, h⟩ := gate_of h
  obtain ⟨q, ds, xs, hq, hr, hx⟩ := lst_at hl R hg
  refine ⟨.ref q, hq, .inl ⟨rfl, _, SqL.of hx⟩, ex_D (f := chgO a appF) hl R (fun _ _ => rfl) rfl h fun d ρ1 v H1 hl1 R1 h => ?_⟩
  obtain ⟨q', o, o', hq', ho, G, g, gn, oa, fin⟩ := chg_of (a := a) (f := appF d) (l := [(.dat d, some v)]) h hl1 R1
  have e1 : q' = q := by rw [hq] at hq'; cases hq'; rfl
  subst e1
  cases o with
  | dic _ => cases ho
  | lst es =>
    obtain ⟨hz, rfl⟩ := if_some (show (if ltN es.length sizeLine then some (O.lst (es ++ [d])) else none) = some o' from ho)
    obtain ⟨v', ev, w⟩ := g.good (.dat d, some v) List.mem_cons_self
    cases ev
    obtain ⟨ys, hy, iy⟩ := oat_lst oa
    exact ⟨q', ys, v, rfl, rfl, hy, by rw [iy.len]; exact hz, fin _ (fun _ z => nomatch z) (lst_oat upd_same (iy.app (.cons w .nil)))⟩
/-- x.extend(e) -/
theorem s_ext (he : PE X e (tE X.K Z c)) (hN : X.N[a]? = some x := by rfl) (hv : Vis X.env.scope x := by first | exact Or.inl rfl | exact Or.inr (Or.inl rfl) | exact Or.inr (Or.inr rfl)) (hd : (x == ("__debug__" : Str)) = false := by decide) (hcd : (x == ("__classdict__" : Str)) = false := by decide)
    (hb1 : attributeBase (.Name x p1) "extend" X.env (eval (.Name x p1) X.env) = eval (.Name x p1) X.env := by rfl)
    (hb2 : ((backTo p3 (starEach [e] X.env)).all (fun x => !x.1) && (backToKw p3 (keywordEach [] X.env)).all (fun x => x.1.isSome) && decide ([e].length + ([] : List Keyword).length + (if ([] : List Keyword).isEmpty then 0 else 1) < 30)) = true := by rfl)
    (hb3 : (p2.endLine == p3.line) = true := by rfl) (hs : starEach [e] X.env = (false, eval e X.env) :: starEach [] X.env := by rfl)
    (hsw : swapsWith (.Call (.Attribute (.Name x p1) "extend" p2) [e] [] p3) none pos.line X.env = pure false := by rfl) :
    PS X (.Expr (.Call (.Attribute (.Name x p1) "extend" p2) [e] [] p3) pos) (tS X.K Z n (.ext a c)) := by
  refine PS.imp (ps_expr (pe_bm PySem.F.plainAttrs_list PySem.F.slot_list_extend PySem.F.type_list_extend mt_extend (pe_var (i := a) hN hv hd hcd) (pa_cons (pe_D he) pa_nil hs) hb1 hb2 hb3 hs (by rfl)) hsw) fun DD σ H h => ?_
  obtain ⟨ρ, fr, hn, hl, R, h⟩ := h
  obtain ⟨hg, h⟩ := gate_of h
  obtain ⟨q, ds, xs, hq, hr, hx⟩ := lst_at hl R hg
  refine ⟨.ref q, hq, .inl ⟨rfl, _, SqL.of hx⟩, ex_D (f := chgO a extF) hl R (fun _ _ => rfl) rfl h fun d ρ1 v H1 hl1 R1 h => ?_⟩
  obtain ⟨q', o, o', hq', ho, G, g, gn, oa, fin⟩ := chg_of (a := a) (f := extF d) (l := [(.dat d, some v)]) h hl1 R1
  have e1 : q' = q := by rw [hq] at hq'; cases hq'; rfl
  subst e1
  cases o with
  | dic _ => cases ho
  | lst es =>
    cases d with
    | list fs =>
      obtain ⟨hz, rfl⟩ := if_some (show (if leN (es.length + fs.length) sizeLine then some (O.lst (es ++ fs)) else none) = some o' from ho)
      obtain ⟨v', ev, w⟩ := g.good (.dat (.list fs), some v) List.mem_cons_self
      cases ev
      obtain ⟨ys, hy, iy⟩ := oat_lst oa
      cases w with
      | lst h1 t =>
        exact ⟨q', _, ys, _, rfl, rfl, hy, g.sub _ _ h1, by rw [iy.len, t.len]; exact hz, fin _ (fun _ z => nomatch z) (lst_oat upd_same (iy.app t))⟩
    | _ => cases ho
theorem PSet.or {t t' : TSet} (h : PSet X t) (h' : PSet X t') : PSet X (fun o i v H Q => t o i v H Q ∨ t' o i v H Q) := by
  intro pins s σ H o i v ov iv u Q I ro ri rv q
  rcases q with q | q
  · exact h pins s σ H o i v ov iv u Q I ro ri rv q
  · exact h' pins s σ H o i v ov iv u Q I ro ri rv q
/-- x[i] = e, x an own list or dict -/
theorem s_seti (xg : XG X k) (he : PE X e (tE X.K Z c)) (hi : PE X i (tE X.K Z ca)) (hN : X.N[a]? = some x := by rfl) (hv : Vis X.env.scope x := by first | exact Or.inl rfl | exact Or.inr (Or.inl rfl) | exact Or.inr (Or.inr rfl)) (hd : (x == ("__debug__" : Str)) = false := by decide) (hcd : (x == ("__classdict__" : Str)) = false := by decide)
    (ha : ∀ v, assign (.Subscript (.Name x p1) i p2) X.env v = (do
      let ov ← holding [v] (eval (.Name x p1) X.env)
      let iv ← holding [v, ov] (eval i X.env)
      standAt p2
      holding [v, ov, iv] (setItem ov iv v)
      release [v, ov, iv] []) := by intro _; rfl)
    (hs : swapsWithSole [.Subscript (.Name x p1) i p2] e pos.line X.env = pure false := by rfl) (hw : swappedStores [.Subscript (.Name x p1) i p2] e X.env = pure none := by rfl)
    (h1 : (assignEach [.Subscript (.Name x p1) i p2] X.env).map (·.2) = [assign (.Subscript (.Name x p1) i p2) X.env] := by rfl) :
    PS X (.Assign [.Subscript (.Name x p1) i p2] e pos) (tS X.K Z n (.seti a ca c)) := by
  refine PS.imp (ps_asg (pe_D he) (pg_sub (pe_var (i := a) hN hv hd hcd) (pe_D hi) (PSet.or set_list (set_dict (by have := xg.room.un; omega))) ha) hs hw h1) fun DD σ H h => ?_
  obtain ⟨ρ, fr, hn, hl, R, h⟩ := h
  obtain ⟨hg, h⟩ := gate_of h
  obtain ⟨q, hq⟩ := own_at hl R hg
  refine ex_D (f := setA setF a (evP ca)) hl R (fun _ _ => rfl) rfl h fun d ρ1 v H1 hl1 R1 h => v_of hq ?_
  have h : PostS X.K Z σ fr DD (setB setF a d (kD (evP ca ρ1))) := h
  refine ⟨ρ1, [(Slot.dat d, some v)] ++ fr, hl1, Rep.perm R1 (List.perm_append_comm_assoc [(Slot.dat d, some v)] (ρ1.zip σ) fr), ?_⟩
  dsimp only
  cases qk : kD (evP ca ρ1) with
  | stuck => rw [qk] at h; exact h
  | err c ρ2 => rw [qk] at h; exact fun H2 hl2 R2 => h σ H2 hl2.symm (Keep.refl _ _) (drop_mid R2)
  | ok kd ρ2 =>
    rw [qk] at h
    have h : PostS X.K Z σ fr DD (chg a ρ2 (setF kd d) ρ2[a]?) := h
    intro y H2 hl2 _ R2
    have R2 : Rep X.K Z.T ([(.dat kd, some y), (.dat d, some v)] ++ (ρ2.zip σ ++ fr)) H2 := (Rep.perm R2 ((List.perm_append_comm_assoc (ρ2.zip σ) [(Slot.dat d, some v)] fr).cons _))
    obtain ⟨q', o, o', hq', ho, G, g, gn, oa, fin⟩ := chg_of (a := a) (f := setF kd d) (l := [(.dat kd, some y), (.dat d, some v)]) h hl2 R2
    have e1 : q' = q := by rw [hq] at hq'; cases hq'; rfl
    subst e1
    cases o with
    | dic m =>
      have ho : (dKy kd).bind (fun ky => if ltN m.length sizeLine then some (O.dic (kput m ky d)) else none) = some o' := ho
      cases qk : dKy kd with
      | none => rw [qk] at ho; cases ho
      | some ky =>
        rw [qk] at ho
        obtain ⟨hz, rfl⟩ := if_some (show (if ltN m.length sizeLine then some (O.dic (kput m ky d)) else none) = some o' from ho)
        obtain ⟨v', ev, w⟩ := g.good (.dat d, some v) (List.mem_cons_of_mem _ List.mem_cons_self)
        cases ev
        obtain ⟨v', ev, wk⟩ := g.good (.dat kd, some y) List.mem_cons_self
        cases ev
        have wk : Is X.K G y kd := wk
        obtain ⟨xs, hy, hl3, iy⟩ := (show ∃ xs, H2 q' = some (.dK ((m.map (·.1)).zip xs)) ∧ xs.length = m.length ∧ Iss X.K G xs (m.map (·.2)) from oa)
        obtain ⟨ys, e1, e2, e3⟩ := put_is (k := ky) w iy
        refine .inr ⟨q', _, rfl, .inl ⟨_, ky, hy, vw_key (.inl wk : Vw X.K G H2 y kd) qk, by rw [List.length_zip, List.length_map, hl3, Nat.min_self]; exact hz, rfl⟩, ?_⟩
        rw [e1]
        exact fin _ (fun _ z => nomatch z) (show ∃ zs, _ from ⟨ys, upd_same, e2, e3⟩)
    | lst es =>
      cases kd with
      | int j =>
        have ho : (ixn es.length j).map (fun m => O.lst (es.set m d)) = some o' := ho
        cases qm : ixn es.length j with
        | none => rw [qm] at ho; cases ho
        | some m =>
          rw [qm] at ho
          cases ho
          obtain ⟨v', ev, w⟩ := g.good (.dat d, some v) (List.mem_cons_of_mem _ List.mem_cons_self)
          cases ev
          obtain ⟨v', ev, wk⟩ := g.good (.dat (.int j), some y) List.mem_cons_self
          cases ev
          cases wk
          obtain ⟨ys, hy, iy⟩ := oat_lst oa
          refine .inl ⟨q', ys, j, m, rfl, rfl, hy, by rw [iy.len]; exact qm, fin _ (fun _ z => nomatch z) (lst_oat upd_same (Iss.set w m iy))⟩
      | _ => cases ho
/-- x += e, x -= e: ints -/
theorem s_aug {op : Operator} {bo : BOp} {f : Int → Int → Int} (ho : PIp X op (ipI f)) (hf : ∀ i j : Int, augI bo i j = some (f i j))
    (g : X.N.Nodup) (he : PE X e (tE X.K Z c)) (hN : X.N[a]? = some x := by rfl) (hx : Loc X.env.scope x := by first | exact Or.inl rfl | exact Or.inr rfl)
    (hfn : X.fn x = true ∨ X.env.scope.names.lookup x = some .local := by first | exact .inl rfl | exact .inr rfl) : PS X (.AugAssign (.Name x p1) op e pos) (tS X.K Z n (.aug a bo c)) := by
  refine PS.imp (ps_aug g hN hx (pe_D he) ho hfn) fun DD σ H h => ?_
  obtain ⟨ρ, fr, hn, hl, R, h⟩ := h
  obtain ⟨hg, h⟩ := gate_of h
  have hv : ∃ v, σ[a]? = some (some v) := by
    cases q : ρ[a]? with
    | none => rw [q] at hg; cases hg
    | some s =>
      rw [q] at hg
      obtain ⟨u, rest, hu, pm, _⟩ := zopen (fr := fr) hl q
      obtain ⟨G, gg⟩ := R
      have w := (gg.perm pm).good _ List.mem_cons_self
      cases s with
      | dat d => obtain ⟨v, ev, _⟩ := w; exact ⟨v, by rw [hu]; exact congrArg some ev⟩
      | _ => cases hg
  obtain ⟨v0, hv0⟩ := hv
  refine ⟨v0, hv0, ex_D (f := augO a bo) hl R (fun _ _ => rfl) rfl h fun d ρ1 v H1 hl1 R1 h => ?_⟩
  have h : PostS X.K Z σ fr DD (augF bo d a ρ1 ρ1[a]?) := h
  cases q : ρ1[a]? with
  | none => rw [q] at h; exact False.elim h
  | some s =>
    rw [q] at h
    obtain ⟨u, rest, hu, pm, pset⟩ := zopen (fr := fr) hl1 q
    cases s with
    | dat z =>
      have h : PostS X.K Z σ fr DD (toO ((augX bo z d).map fun y => ρ1.set a (.dat (.int y)))) := h
      obtain ⟨G, gg⟩ := id R1
      obtain ⟨vd, evd, wd⟩ := gg.good (.dat d, some v) List.mem_cons_self
      cases evd
      have g1 : RepG X.K Z.T G (ρ1.zip σ ++ fr) H1 := gg.subl (List.sublist_cons_self _ _)
      obtain ⟨vz, evz, wz⟩ := (g1.perm pm).good _ List.mem_cons_self
      dsimp only at evz
      subst evz
      rw [hv0] at hu
      cases hu
      cases z with
      | int i =>
        cases d with
        | int j =>
          have h : PostS X.K Z σ fr DD (toO ((augI bo i j).map fun y => ρ1.set a (.dat (.int y)))) := h
          rw [hf] at h
          have h : PostS X.K Z σ fr DD (.next (ρ1.set a (.dat (.int (f i j))))) := h
          cases wz
          cases wd
          have ha : a < ρ1.length := (List.getElem?_eq_some_iff.mp q).1
          exact ⟨i, j, rfl, rfl, h _ H1 (by rw [List.length_set, List.length_set, hl1]) (keep_set (fun _ z => nomatch z) ha) (Rep.store ⟨G, g1.dat (.int _)⟩ hl1 ha)⟩
        | _ => exact False.elim h
      | _ => exact False.elim h
    | _ => exact False.elim h
/-- raise C('..') -/
theorem s_raise {ex : Exc} (hc : X.calm = true) (tk : L2N.Takes X Z.W) (hp : L2N.PMk X e (fun _ H Q => Q (.ref (Z.cl ex)) none H)) : PS X (.Raise (some e) none pos) (tS X.K Z n (.raise ex)) := by
  refine PS.imp (L2N.ps_raise hc tk hp) fun DD σ H h => ?_
  obtain ⟨ρ, fr, hn, hl, R, h⟩ := h
  exact h σ H hl.symm (Keep.refl _ _) R
end
end Ell
set_option autoImplicit false
/-! Ell10: defs: what they promise, their calls, their bodies. -/
namespace Ell
open PySem PySem.Spec PyProof.Rows L2
open Evl (Ex)
/-- a def's promise: what its core form makes of the arguments -/
def spOf (K : PySem.W.Frag) (T : List (Addr × Str)) (cl : Exc → Addr) (F : Fn) : Sp := fun vs H Q E => ∃ (args : Rho) (fr : List Ent), vs.length = F.arity ∧ args.length = F.arity ∧ Rep K T (args.zip (vs.map some) ++ fr) H ∧
  match F.run args with
  | .ok r os => ∀ v H', Rep K T ((r, some v) :: (os.zip (vs.map some) ++ fr)) H' → Q v H'
  | .err c os => ∀ H', Rep K T (os.zip (vs.map some) ++ fr) H' → E (.ref (cl c)) none H'
  | .stuck => False
/-- a def keeps its promise wherever nothing is being shown -/
structure FOk (P : Program) (w : World) (K : PySem.W.Frag) (mg : Str → Option Value) (base : Heap) (k : Nat) (f : Addr) (fd : FuncData) (ps : List Str) (sp : Sp) : Prop where
  many : ∀ zs H0 QQ EE, sp zs H0 QQ EE → zs.length = ps.length
  does : ∀ (A : Around) (up : List Env) (s0 : Shared) (H0 : Hp) (args : Args) (ws : List Value) (zs : List V) (QQ : VK) (EE : XK), Room k A → A.guards = some [] → Env0 P w K mg base A up s0 H0 → BindsTo s0 fd args (ps.zip ws) → Vals zs ws → sp zs H0 QQ EE →
    codeAny (model P w) A (.call (.ref f) args) (CR (L2N.CX P w) up P w H0 s0 QQ EE) s0
theorem FOk.up {P : Program} {w : World} {K : PySem.W.Frag} {mg : Str → Option Value} {base : Heap} {j k : Nat} {f : Addr} {fd : FuncData} {ps : List Str} {sp : Sp} (F : FOk P w K mg base j f fd ps sp) (h : j ≤ k) : FOk P w K mg base k f fd ps sp :=
  ⟨F.many, fun A up s0 H0 args ws zs QQ EE hr => F.does A up s0 H0 args ws zs QQ EE (hr.mono h)⟩
/-! ### operands as arguments -/
section
variable {K : PySem.W.Frag} {Z : Cf} {σ : L2.St} {H : Hp} {fr l : List Ent} {ρ ρ0 : Rho} {T : List (Addr × Str)}
theorem lend : ∀ {os : List Ell.Val} {vs : List V} {ρ : Rho} {p : Rho × Rho} {fr : List Ent}, argSs os ρ = some p → VsIs os vs σ → ρ.length = σ.length → Rep K T (entss os vs ++ (ρ.zip σ ++ fr)) H →
    vs.length = os.length ∧ p.1.length = os.length ∧ p.2.length = σ.length ∧ Rep K T (p.1.zip (vs.map some) ++ (p.2.zip σ ++ fr)) H
  | [], vs, ρ, p, fr, h, e, hl, R => by
    have e' : vs = [] := e
    subst e'
    cases h
    exact ⟨rfl, rfl, hl, R⟩
  | x :: os, vs, ρ, p, fr, h, e, hl, R => by
    obtain ⟨v, r, ev, vi, vr⟩ := e
    subst ev
    obtain ⟨s, ρ1, q, h1, h2, e2⟩ := argSs_cons h
    subst e2
    have R : Rep K T (ents x v ++ entss os r ++ (ρ.zip σ ++ fr)) H := R
    rw [List.append_assoc] at R
    -- the first operand's entry, as an argument
    have key : ρ1.length = σ.length ∧ Rep K T ((s, some v) :: (ρ1.zip σ ++ (entss os r ++ fr))) H := by
      cases x with
      | tmp t =>
        have h1 : (frA t).map (fun d => (Slot.dat d, ρ)) = some (s, ρ1) := h1
        have R : Rep K T ((t, some v) :: (entss os r ++ (ρ.zip σ ++ fr))) H := R
        cases t with
        | dat d => cases h1; exact ⟨hl, R.perm ((List.perm_append_comm_assoc _ _ _).cons _)⟩
        | own o =>
          cases o with
          | dic m => cases h1
          | lst ds =>
          cases h1
          obtain ⟨G, g⟩ := R
          obtain ⟨a, ea, _⟩ := g.good _ List.mem_cons_self
          cases ea
          exact ⟨hl, g.freeze.perm ((List.perm_append_comm_assoc _ _ _).cons _)⟩
        | _ => cases h1
      | ref i =>
        have h1 : argT i ρ ρ[i]? = some (s, ρ1) := h1
        have vi : σ[i]? = some (some v) := vi
        have R : Rep K T (entss os r ++ (ρ.zip σ ++ fr)) H := R
        have R : Rep K T (ρ.zip σ ++ (entss os r ++ fr)) H := R.perm (List.perm_append_comm_assoc _ _ _)
        cases qi : ρ[i]? with
        | none => rw [qi] at h1; cases h1
        | some t =>
          rw [qi] at h1
          obtain ⟨u, rest, hu, pm, pset⟩ := zopen (fr := entss os r ++ fr) hl qi
          rw [vi] at hu
          cases hu
          have lent : ∀ (o : O), Good K = Good K → (∀ G H, Good K G H (t, some v) → Good K G H (.own o, some v)) → adr (t, some v) = adr (.own o, some v) → (s, ρ1) = (Slot.own o, ρ.set i .un) → ρ1.length = σ.length ∧ Rep K T ((s, some v) :: (ρ1.zip σ ++ (entss os r ++ fr))) H := fun o _ hg ha e => by
            cases e
            refine ⟨by rw [List.length_set]; exact hl, ?_⟩
            obtain ⟨G, g⟩ := R.perm pm
            have g1 : RepG K T G ((.own o, some v) :: rest) H := ⟨g.sub, g.notb, fun q hq => (List.mem_cons.mp hq).elim (fun z => by rw [z]; exact hg _ _ (g.good _ List.mem_cons_self)) (fun z => g.good _ (List.mem_cons_of_mem _ z)), by
              have := g.nd
              rw [List.flatMap_cons] at this ⊢
              rw [← ha]; exact this, g.tabs⟩
            exact ⟨G, ((g1.un (some v)).perm (List.Perm.swap _ _ _)).perm ((pset .un).symm.cons _)⟩
          cases t with
          | un => cases h1
          | own o => exact lent o rfl (fun _ _ z => z) (by cases v <;> rfl) (Option.some.inj h1).symm
          | io o => exact lent o rfl (fun _ _ z => z) (by cases v <;> rfl) (Option.some.inj h1).symm
          | dat d =>
            cases h1
            obtain ⟨G, g⟩ := R
            obtain ⟨v', ev, w⟩ := (g.perm pm).good _ List.mem_cons_self
            cases ev
            exact ⟨hl, G, g.dat w⟩
          | ro ds =>
            cases h1
            obtain ⟨G, g⟩ := R
            have w := (g.perm pm).good _ List.mem_cons_self
            exact ⟨hl, G, g.sub, g.notb, fun q hq => (List.mem_cons.mp hq).elim (fun z => by rw [z]; exact w) (g.good q), by show (([] : List Addr) ++ List.flatMap adr _).Nodup; exact g.nd, g.tabs⟩
          | fn y => cases h1
          | pin o kvs => cases h1
          | fns xs => cases h1
          | gh G0 => cases h1
    obtain ⟨hl1, R1⟩ := key
    have R2 : Rep K T (entss os r ++ (ρ1.zip σ ++ ((s, some v) :: fr))) H := by
      refine R1.perm ?_
      have p1 := (List.perm_append_comm_assoc (ρ1.zip σ) (entss os r) fr).cons (s, some v)
      refine p1.trans ?_
      have p2 := List.perm_middle (a := (s, some v)) (l₁ := entss os r ++ ρ1.zip σ) (l₂ := fr)
      simpa [List.append_assoc] using p2.symm
    obtain ⟨a1, a2, a3, R3⟩ := lend h2 vr hl1 R2
    refine ⟨by simp [a1], by simp [a2], a3, ?_⟩
    show Rep K T ((s, some v) :: (q.1.zip (r.map some) ++ (q.2.zip σ ++ fr))) H
    refine R3.perm ?_
    have p2 := List.perm_middle (a := (s, some v)) (l₁ := q.1.zip (r.map some) ++ q.2.zip σ) (l₂ := fr)
    simpa [List.append_assoc] using p2
/-- an own entry stands for an io one and the other way round -/
theorem RepG.toIo {G : Hp} {o : O} {u : Option V} (g : RepG K T G ((.own o, u) :: l) H) : RepG K T G ((.io o, u) :: l) H :=
  ⟨g.sub, g.notb, fun q hq => (List.mem_cons.mp hq).elim (fun z => by rw [z]; exact g.good (.own o, u) List.mem_cons_self) (fun z => g.good _ (List.mem_cons_of_mem _ z)), by have := g.nd; rw [List.flatMap_cons] at this ⊢; cases u with | none => exact this | some v => cases v <;> exact this, g.tabs⟩
theorem RepG.toOwn {G : Hp} {o : O} {u : Option V} (g : RepG K T G ((.io o, u) :: l) H) : RepG K T G ((.own o, u) :: l) H :=
  ⟨g.sub, g.notb, fun q hq => (List.mem_cons.mp hq).elim (fun z => by rw [z]; exact g.good (.io o, u) List.mem_cons_self) (fun z => g.good _ (List.mem_cons_of_mem _ z)), by have := g.nd; rw [List.flatMap_cons] at this ⊢; cases u with | none => exact this | some v => cases v <;> exact this, g.tabs⟩
/-- what was lent comes back -/
theorem unlend : ∀ {os : List Ell.Val} {vs : List V} {ss ρ : Rho} {fr : List Ent}, VsIs os vs σ → ρ.length = σ.length → Rep K T (ss.zip (vs.map some) ++ (ρ.zip σ ++ fr)) H →
    (putBacks ρ0 ρ os ss).length = σ.length ∧ Rep K T ((putBacks ρ0 ρ os ss).zip σ ++ fr) H
  | [], vs, ss, ρ, fr, e, hl, R => by
    have : putBacks ρ0 ρ [] ss = ρ := by cases ss <;> rfl
    rw [this]
    exact ⟨hl, R.subl (List.sublist_append_right _ _)⟩
  | x :: os, vs, [], ρ, fr, e, hl, R => ⟨hl, R.subl (List.sublist_append_right _ _)⟩
  | x :: os, vs, s :: ss, ρ, fr, e, hl, R => by
    obtain ⟨v, r, ev, vi, vr⟩ := e
    subst ev
    have R : Rep K T ((s, some v) :: (ss.zip (r.map some) ++ (ρ.zip σ ++ fr))) H := R
    show (putBacks ρ0 (putBack ρ0 ρ x s) os ss).length = _ ∧ Rep K T ((putBacks ρ0 (putBack ρ0 ρ x s) os ss).zip σ ++ fr) H
    have drop := R.subl (List.sublist_cons_self _ _)
    have same : putBack ρ0 ρ x s = ρ → (putBacks ρ0 (putBack ρ0 ρ x s) os ss).length = σ.length ∧ Rep K T ((putBacks ρ0 (putBack ρ0 ρ x s) os ss).zip σ ++ fr) H := fun e => by
      rw [e]
      exact unlend vr hl drop
    cases x with
    | tmp t => exact same (by cases s <;> rfl)
    | ref i =>
      cases s with
      | own o =>
        have vi : σ[i]? = some (some v) := vi
        have put : ∀ s' : Slot, putBack ρ0 ρ (.ref i) (.own o) = ρ.set i s' → (∀ l, Rep K T ((.own o, some v) :: l) H → Rep K T ((s', some v) :: l) H) → (putBacks ρ0 (putBack ρ0 ρ (.ref i) (.own o)) os ss).length = σ.length ∧ Rep K T ((putBacks ρ0 (putBack ρ0 ρ (.ref i) (.own o)) os ss).zip σ ++ fr) H := fun s' e hs => by
          rw [e]
          refine unlend vr (by rw [List.length_set]; exact hl) ?_
          have R1 := hs _ R
          have hi : i < ρ.length := by rw [hl]; exact (List.getElem?_eq_some_iff.mp vi).1
          have R2 : Rep K T ((s', some v) :: (ρ.zip σ ++ (ss.zip (r.map some) ++ fr))) H := R1.perm ((List.perm_append_comm_assoc _ _ _).cons _)
          have R3 := R2.store hl hi
          rw [set_same vi] at R3
          exact R3.perm (List.perm_append_comm_assoc _ _ _)
        have eb : putBack ρ0 ρ (.ref i) (.own o) = backS i o ρ ρ0[i]? := rfl
        cases q : ρ0[i]? with
        | none => exact same (by rw [eb, q]; rfl)
        | some t =>
          cases t with
          | own o' => exact put (.own o) (by rw [eb, q]; rfl) (fun _ z => z)
          | io o' => exact put (.io o) (by rw [eb, q]; rfl) (fun _ ⟨G, g⟩ => ⟨G, g.toIo⟩)
          | _ => exact same (by rw [eb, q]; rfl)
      | _ => exact same rfl
/-- the reading of a call -/
theorem tCall_of {F : Fn} {ca : CE} {cl : Exc → Addr} {W : WX} {Q : VK} (h : tE K ⟨T, cl, W⟩ (.call F ca) σ H Q) : tCallS (spOf K T cl F) (WE W) (tCs K ⟨T, cl, W⟩ ca) σ H Q := by
  obtain ⟨ρ, fr, hl, R, h⟩ := h
  refine ⟨ρ, fr, hl, R, ?_⟩
  have h : Post K ⟨T, cl, W⟩ σ fr VIs ents Q (callR F (evC ca ρ)) := h
  cases qa : evC ca ρ with
  | stuck => rw [qa] at h; exact h
  | err c ρ1 => rw [qa] at h; exact h
  | ok os ρ1 =>
    rw [qa] at h
    have h : Post K ⟨T, cl, W⟩ σ fr VIs ents Q (callG F ρ1 os (argSs os ρ1)) := h
    intro vs H1 hl1 e1 R1
    cases qs : argSs os ρ1 with
    | none => rw [qs] at h; exact False.elim h
    | some p =>
      rw [qs] at h
      have h : Post K ⟨T, cl, W⟩ σ fr VIs ents Q (if p.1.length = F.arity then callF ρ1 p.2 os (F.run p.1) else .stuck) := h
      by_cases har : p.1.length = F.arity
      · rw [if_pos har] at h
        obtain ⟨a1, a2, a3, R2⟩ := lend qs e1 hl1 R1
        refine ⟨p.1, p.2.zip σ ++ fr, by rw [a1, ← a2, har], har, R2, ?_⟩
        cases qr : F.run p.1 with
        | stuck => rw [qr] at h; exact False.elim h
        | err c outs =>
          rw [qr] at h
          intro H' R'
          obtain ⟨b1, b2⟩ := unlend (ρ0 := ρ1) e1 a3 R'
          exact h H' b1 b2
        | ok r outs =>
          rw [qr] at h
          intro v H' R'
          have R3 : Rep K T (outs.zip (vs.map some) ++ (p.2.zip σ ++ ((r, some v) :: fr))) H' := by
            refine Rep.perm R' ?_
            have p2 := List.perm_middle (a := (r, some v)) (l₁ := outs.zip (vs.map some) ++ p.2.zip σ) (l₂ := fr)
            simpa [List.append_assoc] using p2.symm
          obtain ⟨b1, b2⟩ := unlend (ρ0 := ρ1) e1 a3 R3
          exact h v H' b1 trivial (b2.perm List.perm_middle)
      · rw [if_neg har] at h; exact False.elim h
end
/-! ### calls -/
section
variable {X : Cx} {k : Nat} {f : Addr} {fd : FuncData} {ps : List Str} {sp : Sp} {E : L2.St → XK} {x : Str} {p pos : Pos} {e : Expr} {es : List Expr} {t : TA}
theorem fok_run {pn : List (Addr × Obj)} {σ : L2.St} {H : Hp} {s : Shared} {Q : VK} {ws : List Value} {zs : List V} (F : FOk X.prog X.w X.K X.mg X.base k f fd ps sp) (room : Room k X.A) (gd : X.A.guards = some []) (bd : Binds X.K fd ps []) (out : PassesAt (L2N.CX X.prog X.w) X σ (E σ))
    (J : Inv X pn σ H s) (rv : Vals zs ws) (h : sp zs H Q (E σ)) : wpAny (model X.prog X.w) X.A (call (.ref f) ws) (EP X pn σ Q) X.xe s := by
  have many : ws.length = ps.length := by rw [← rv.length]; exact F.many _ _ _ _ h
  have bt := bd s ws J.kIn (by rw [List.append_nil]; exact many)
  rw [List.append_nil] at bt
  refine wpAny_call (codeAny_mono (F.does X.A X.stack s H ⟨ws, []⟩ ws zs Q (E σ) room gd J.env0 bt rv h) fun res s2 got => ?_)
  cases res with
  | error er => exact out pn H s er s2 J got
  | ok flow =>
    cases flow with
    | ret u => exact J.after got
    | next => exact False.elim got
    | brk => exact False.elim got
    | cont => exact False.elim got
theorem fok_call (F : FOk X.prog X.w X.K X.mg X.base k f fd ps sp) (room : Room k X.A) (gd : X.A.guards = some []) (hg : Gl X x) (at_ : X.mg x = some (.ref f)) (kept : PySem.W.keepIn X.K (.ref f) = true) (bd : Binds X.K fd ps []) (out : ∀ σ, PassesAt (L2N.CX X.prog X.w) X σ (E σ))
    (ha : PA X (e :: es) t) (hdb : (x == ("__debug__" : Str)) = false := by decide) (st1 : starEach (e :: es) X.env = (false, eval e X.env) :: starEach es X.env := by rfl) (st2 : (backTo pos (starEach es X.env)).any (·.1) = false := by rfl) : PE X (.Call (.Name x p) (e :: es) [] pos) (tCallS sp E t) := by
  refine ⟨fun pn s σ H Q J h => wpAny_Call_Name_kw (ld_glob J hg at_ ?_ hdb)⟩
  exact PySem.W.callWith_K (h₀ := X.base) J.ok.mod.kin kept (thn (ha.run pos pn s σ H _ J h) fun ws s1 ⟨zs, H1, J1, rv, q⟩ => ⟨J1.kIn, fok_run F room gd bd (out σ) J1 rv q⟩) st1 st2
theorem fok_call0 (F : FOk X.prog X.w X.K X.mg X.base k f fd ps sp) (room : Room k X.A) (gd : X.A.guards = some []) (hg : Gl X x) (at_ : X.mg x = some (.ref f)) (kept : PySem.W.keepIn X.K (.ref f) = true) (bd : Binds X.K fd ps []) (out : ∀ σ, PassesAt (L2N.CX X.prog X.w) X σ (E σ))
    (hdb : (x == ("__debug__" : Str)) = false := by decide) : PE X (.Call (.Name x p) [] [] pos) (tCallS sp E tNil) := by
  refine ⟨fun pn s σ H Q J h => wpAny_Call_Name_kw (ld_glob J hg at_ ?_ hdb)⟩
  exact PySem.W.callWith_K0 J.kIn kept (fok_run (ws := []) F room gd bd (out σ) J .nil h)
/-- what may be raised is what X takes -/
theorem pass_of {W : WX} (tk : L2N.Takes X W) (σ : L2.St) : PassesAt (L2N.CX X.prog X.w) X σ (WE W σ) := fun _ _ _ er s2 J c => tk er s2 (L2N.XE.of_call J (fun _ _ _ h => h) c)
/-- the def x, as its callers see it -/
structure Def (P : Program) (w : World) (K : PySem.W.Frag) (mg : Str → Option Value) (base : Heap) (T : List (Addr × Str)) (cl : Exc → Addr) (k : Nat) (x : Str) (F : Fn) : Prop where
  has : ∃ (f : Addr) (fd : FuncData) (ps : List Str), mg x = some (.ref f) ∧ PySem.W.keepIn K (.ref f) = true ∧ Binds K fd ps [] ∧ FOk P w K mg base k f fd ps (spOf K T cl F) ∧ PySem.W.nsIn K mainGlobals x = some (some (.ref f))
theorem Def.up {P : Program} {w : World} {K : PySem.W.Frag} {mg : Str → Option Value} {base : Heap} {T : List (Addr × Str)} {cl : Exc → Addr} {j : Nat} {x : Str} {F : Fn} (D : Def P w K mg base T cl j x F) (h : j ≤ k) : Def P w K mg base T cl k x F := by
  obtain ⟨f, fd, ps, a, b, c, d, e⟩ := D.has
  exact ⟨f, fd, ps, a, b, c, d.up h, e⟩
theorem d_call {Z : Cf} {F : Fn} {ca : CE} (D : Def X.prog X.w X.K X.mg X.base Z.T Z.cl k x F) (g : XG X k) (tk : L2N.Takes X Z.W) (ha : PA X (e :: es) (tCs X.K Z ca)) (hg : Gl X x := by rfl) (hdb : (x == ("__debug__" : Str)) = false := by decide)
    (st1 : starEach (e :: es) X.env = (false, eval e X.env) :: starEach es X.env := by rfl) (st2 : (backTo pos (starEach es X.env)).any (·.1) = false := by rfl) : PE X (.Call (.Name x p) (e :: es) [] pos) (tE X.K Z (.call F ca)) := by
  obtain ⟨f, fd, ps, a1, a2, a3, a4, _⟩ := D.has
  exact PE.imp (fok_call a4 g.room g.grd hg a1 a2 a3 (fun σ => pass_of tk σ) ha hdb st1 st2) fun _ _ _ h => tCall_of h
theorem d_call0 {Z : Cf} {F : Fn} (D : Def X.prog X.w X.K X.mg X.base Z.T Z.cl k x F) (g : XG X k) (tk : L2N.Takes X Z.W) (hg : Gl X x := by rfl) (hdb : (x == ("__debug__" : Str)) = false := by decide) : PE X (.Call (.Name x p) [] [] pos) (tE X.K Z (.call F .nil)) := by
  obtain ⟨f, fd, ps, a1, a2, a3, a4, _⟩ := D.has
  refine PE.imp (fok_call0 a4 g.room g.grd hg a1 a2 a3 (fun σ => pass_of tk σ) hdb) fun σ H Q h => ?_
  have h := tCall_of h
  exact tCs_nil h
end
/-! ### bodies -/
section
variable {K : PySem.W.Frag} {T : List (Addr × Str)} {H : Hp} {fr l : List Ent}
theorem enter_len : ∀ args : Rho, (enter args).length = args.length
  | [] => rfl
  | s :: r => by cases s <;> simp [enter, enter_len r]
/-- at the entry -/
theorem rep_enter : ∀ {args : Rho} {us : L2.St} {fr : List Ent}, Rep K T (args.zip us ++ fr) H → Rep K T ((enter args).zip us ++ fr) H
  | [], us, fr, R => R
  | s :: r, [], fr, R => by
    have : (enter (s :: r)).zip ([] : L2.St) = [] := by cases s <;> simp [enter]
    rw [this]
    exact R
  | s :: r, u :: us, fr, R => by
    have R : Rep K T ((s, u) :: (r.zip us ++ fr)) H := R
    have R1 : Rep K T (r.zip us ++ ((s, u) :: fr)) H := R.perm List.perm_middle.symm
    have R2 := (rep_enter R1).perm List.perm_middle
    cases s with
    | own o => obtain ⟨G, g⟩ := R2; exact ⟨G, g.toIo⟩
    | _ => exact R2
theorem rep_un : ∀ {m : Nat} {l : List Ent}, Rep K T l H → Rep K T ((List.replicate m Slot.un).zip (List.replicate m (none : Option V)) ++ l) H
  | 0, l, R => R
  | m + 1, l, R => by
    obtain ⟨G, g⟩ := rep_un (m := m) R
    exact ⟨G, g.un none⟩
/-- what the caller gets back of its own objects -/
theorem rep_outs : ∀ {args ρ : Rho} {us σ : L2.St} {L : List Ent}, us.length = args.length → σ.length = ρ.length → (∀ j o, ρ[j]? = some (.io o) → j < us.length → σ[j]? = us[j]?) → Rep K T (ρ.zip σ ++ L) H → Rep K T ((outs args ρ).zip us ++ L) H
  | [], ρ, us, σ, L, hu, hs, hk, R => R.subl (List.sublist_append_right _ _)
  | s :: r, ρ, [], σ, L, hu, hs, hk, R => by cases hu
  | s :: r, [], u :: us, σ, L, hu, hs, hk, R => by
    have ih := rep_outs (args := r) (ρ := []) (us := us) (σ := []) (L := L) (by simpa using hu) rfl (fun j o e => by simp at e) (R.subl (List.sublist_append_right _ _))
    obtain ⟨G, g⟩ := ih
    have e : outS s none = .un := by cases s <;> rfl
    show Rep K T ((outS s none, u) :: ((outs r []).zip us ++ L)) H
    rw [e]
    exact ⟨G, g.un u⟩
  | s :: r, t :: ρ, u :: us, [], L, hu, hs, hk, R => by cases hs
  | s :: r, t :: ρ, u :: us, v :: σ, L, hu, hs, hk, R => by
    have R : Rep K T ((t, v) :: (ρ.zip σ ++ L)) H := R
    have ih := rep_outs (args := r) (ρ := ρ) (us := us) (σ := σ) (L := (t, v) :: L) (by simpa using hu) (by simpa using hs) (fun j o e hj => by
      have := hk (j + 1) o (by simpa using e) (by simpa using hj)
      simpa using this) (R.perm List.perm_middle.symm)
    have ih := ih.perm List.perm_middle
    show Rep K T ((outS s (some t), u) :: ((outs r ρ).zip us ++ L)) H
    have no : Rep K T ((Slot.un, u) :: ((outs r ρ).zip us ++ L)) H := by
      obtain ⟨G, g⟩ := ih
      exact ⟨G, (g.subl (List.sublist_cons_self _ _)).un u⟩
    cases s with
    | own o =>
      cases t with
      | io o' =>
        have e := hk 0 o' rfl (by simp)
        have e : v = u := by simpa using e
        subst e
        obtain ⟨G, g⟩ := ih
        exact ⟨G, g.toOwn⟩
      | _ => exact no
    | _ => exact no
end
/-- THE RULE of a def, by its body's core form -/
theorem fok_of {P : Program} {w : World} {K : PySem.W.Frag} {mg : Str → Option Value} {base : Heap} {T : List (Addr × Str)} {cl : Exc → Addr} {k : Nat} {f : Addr} {name qual : Str} {params : Arguments} {body : List Stmt} {scope : Scope} {dV kV doc pm cdv ct oc : Value} {an od : Option Addr}
    {osl : Array (Option Value)} {N ps : List Str} {F : Fn} {b : CS} (lk : K.lookup f = some ⟨oc, od, .func (PySem.W.fnOf name qual params body scope dV kV doc pm an cdv ct), osl⟩) (code : PySem.W.codeIn K cdv qual = true) (S : FnScope N ps scope) (har : F.arity = ps.length)
    (hrun : ∀ args, args.length = F.arity → F.run args = .stuck ∨ F.run args = runB N.length b args)
    (hb : ∀ (A : Around) (up : List Env) (s0 : Shared) (H0 : Hp) (EE : XK), XG (cxOf (L2N.CX P w) P w K mg base N qual scope f cdv A up s0 H0 EE) k → L2N.Takes (cxOf (L2N.CX P w) P w K mg base N qual scope f cdv A up s0 H0 EE) (fun cls d _ H => EE cls d H) →
      PassesOwn (model P w) (A.deeper (envOfC qual scope s0.heap.objs.size f cdv)) (envOfC qual scope s0.heap.objs.size f cdv) (cxOf (L2N.CX P w) P w K mg base N qual scope f cdv A up s0 H0 EE).xe →
      PSs (cxOf (L2N.CX P w) P w K mg base N qual scope f cdv A up s0 H0 EE) body (tS K ⟨T, cl, fun cls d _ H => EE cls d H⟩ N.length b)) :
    FOk P w K mg base (k + 1) f (PySem.W.fnOf name qual params body scope dV kV doc pm an cdv ct) ps (spOf K T cl F) := by
  refine ⟨fun zs H0 QQ EE ⟨_, _, e, _⟩ => e.trans har, fun A up s0 H0 args ws zs QQ EE room gd en bt rv promise => ?_⟩
  obtain ⟨as, fr, lz, la, R, promise⟩ := promise
  have lzs := lz.trans har
  have kin0 : K.In s0.heap := en.mod.kin.keeps fun b o e => (en.bs b o e).1
  have free0 : s0.heap.NoLimit := en.mod.nolimit.keeps fun b o e => (en.bs b o e).1
  have kinds : ∀ y ∈ ps.zip ws, scope.names.lookup y.1 = some .local ∨ (scope.names.lookup y.1 = some .cell ∧ ((cellsFrom (s0.heap.objs.size + 1) scope.names []).lookup y.1).isSome = true) := by
    rintro ⟨n, v⟩ hy
    exact (S.par n (List.of_mem_zip hy).1).imp id fun z => ⟨z, PySem.W.cellsFrom_some _ _ _ (.inl z)⟩
  refine codeAny_call_function room.depth (kin0 _ _ lk) rfl S.co S.gen rfl (PySem.W.codeRec_of kin0 code) (bt _ _ _ _ ?_)
  refine wpAny_newFunctionEnv_cells S.kind kinds fun env eqn s1 entry => ?_
  subst eqn
  refine ⟨free0.keeps entry.toInCall.keep, codeAny_func ?_⟩
  have J : Inv (cxOf (L2N.CX P w) P w K mg base N qual scope f cdv A up s0 H0 EE) [] (L2.start N zs) H0 s1 := inv_start S room.hd en lzs rv entry
  have g : XG (cxOf (L2N.CX P w) P w K mg base N qual scope f cdv A up s0 H0 EE) k := ⟨rfl, room.deeper _, gd, S.nd⟩
  have tk : L2N.Takes (cxOf (L2N.CX P w) P w K mg base N qual scope f cdv A up s0 H0 EE) (fun cls d _ H => EE cls d H) := L2N.takes_of rfl rfl rfl rfl
  have hN : ps.length ≤ N.length := by have := congrArg List.length S.pre; rw [List.length_take] at this; omega
  have lst : (L2.start N zs).length = N.length := by unfold L2.start; rw [List.length_append, List.length_map, List.length_replicate]; omega
  have reading : tS K ⟨T, cl, fun cls d _ H => EE cls d H⟩ N.length b { nx := fun _ H' => QQ .non H', rt := QQ } (L2.start N zs) H0 := by
    have lr : (enter as ++ List.replicate (N.length - as.length) Slot.un).length = N.length := by rw [List.length_append, enter_len, List.length_replicate, la, har]; omega
    refine ⟨enter as ++ List.replicate (N.length - as.length) .un, fr, Nat.le_of_eq lr.symm, lr.trans lst.symm, ?_, ?_⟩
    · unfold L2.start
      rw [List.zip_append (by rw [enter_len, List.length_map, la, lz]), la, ← lz, List.append_assoc]
      have R1 := rep_un (m := N.length - zs.length) (rep_enter R)
      refine R1.perm ?_
      exact List.perm_append_comm_assoc _ _ _
    · have fits : ∀ {ρ : Rho} {σ : L2.St}, Keep ρ σ (L2.start N zs) → ∀ j o, ρ[j]? = some (.io o) → j < (zs.map some).length → σ[j]? = (zs.map some)[j]? := fun {ρ σ} kk j o e hj => by
        rw [kk j o e]
        unfold L2.start
        exact List.getElem?_append_left hj
      have lz2 : (zs.map (some : V → Option V)).length = as.length := by rw [List.length_map, lz, la]
      rcases hrun as la with er | er
      · rw [er] at promise; exact False.elim promise
      · rw [er] at promise
        have er : runB N.length b as = endB as (evS b (enter as ++ List.replicate (N.length - as.length) .un)) := rfl
        rw [er] at promise
        generalize evS b (enter as ++ List.replicate (N.length - as.length) .un) = o at promise
        cases o with
        | next ρ =>
          intro σ H' hl kk R'
          refine promise .non H' ?_
          obtain ⟨G, gg⟩ := rep_outs (args := as) lz2 hl (fits kk) R'
          exact ⟨G, gg.dat .non⟩
        | ret r ρ =>
          intro σ v H' hl kk R'
          refine promise v H' ?_
          have R2 := rep_outs (args := as) (L := (r, some v) :: fr) lz2 hl (fits kk) (R'.perm List.perm_middle.symm)
          exact R2.perm List.perm_middle
        | err c ρ => exact fun σ H' hl kk R' => promise H' (rep_outs (args := as) lz2 hl (fits kk) R')
        | brk ρ => exact False.elim promise
        | cont ρ => exact False.elim promise
        | stuck => exact False.elim promise
  refine wpAny_mono ((hb A up s0 H0 EE g tk PassesOwn.leaving).run [] s1 (L2.start N zs) H0 _ J reading) (fun flow s2 got => ?_) fun er s2 got => got
  cases flow with
  | ret u =>
    obtain ⟨v, σ2, H2, J2, rv2, q⟩ := got
    exact ⟨v, H2, J2.os, J2.bare, J2.base, J2.hok, rv2, q⟩
  | next =>
    obtain ⟨σ2, H2, J2, q⟩ := got
    exact ⟨.non, H2, J2.os, J2.bare, J2.base, J2.hok, rfl, q⟩
  | brk =>
    obtain ⟨σ2, H2, J2, q⟩ := got
    exact False.elim q
  | cont =>
    obtain ⟨σ2, H2, J2, q⟩ := got
    exact False.elim q
end Ell
set_option autoImplicit false
/-! Ell11: a comprehension while an error is handled. -/
namespace Ell
open PySem PySem.Spec PyProof.Rows L2
open Evl (Ex)
/-- the block of a comprehension in a suite: the handled error p stays pinned -/
abbrev Cx.bh (X : Cx) (p : Addr × Obj) (s : Shared) (H : Hp) (scope : Scope) (cenv : Env) (fp : List Addr) : Cx := (X.blk s H scope cenv fp).tr [p] fun _ _ => False
section
variable {X : Cx}
theorem bh_start {pn : List (Addr × Obj)} {σ : L2.St} {H : Hp} {s : Shared} {p : Addr × Obj} {scope : Scope} {own : List (Str × Nat)} {fp : List Addr} (J : Inv X pn σ H s) (hp : p ∈ X.pn) (ok : BlkOk X.N X.env.scope scope own) (hN : X.N.Nodup) (hfp : ∀ b ∈ fp, FpOk X pn H b ∧ b < s.heap.objs.size) :
    Inv (Cx.bh X p s H scope (compEnvC scope (cellsFrom (s.heap.objs.size + 1) scope.names (cloFrom X.env.cells scope.names [])) s.heap.objs.size X.env) fp) [] (wipe σ (own.map (·.2))) H { s with heap := pushCells (s.heap.push { cls := .type "dict", data := .dict #[] }) scope.names } := by
  have B := block_start J ok hN hfp
  have P := J.pin p (List.mem_append_left _ hp)
  refine ⟨B.ok.toTry _ _, B.os, B.bare, B.base, B.loc, B.cell, B.free, B.freeC, fun q hq => ?_, B.hok, B.len⟩
  have eq : q = p := by simpa using hq
  subst eq
  refine ⟨pushCells_keeps _ _ _ _ (Heap.get?_push_of_some _ P.1), P.2.1, Nat.ne_of_lt (Heap.lt_size P.1), fun hm => ?_, P.2.2.2.2⟩
  exact (List.mem_cons.mp (J.stkSub q.1 hm)).elim P.2.2.1 P.2.2.2.1
theorem hot_core {pn : List (Addr × Obj)} {σs : Shared} {σ : L2.St} {H : Hp} {Q : VK} {use : Option (Value → Sem Unit)} {Qf : Value → Shared → Prop} {elt tg iter : Expr} {ifs : List Expr} {scope : Scope} {own : List (Str × Nat)} {pos pos' : Pos} {wi : TI} {g : TG} {tt : TT} {te : TE} {p : Addr × Obj} (hot : L2H.Hot1 X.A p) (hp : p ∈ X.pn) (hN : X.N.Nodup) (J : Inv X pn σ H σs) (hi : L2H.PIH X tg iter wi) (ok : BlkOk X.N X.env.scope scope own)
    (hg : ∀ (s : Shared) (H : Hp) (C : Addr) (cl : List (Str × Addr)) (fp : List Addr), PG (Cx.bh X p s H scope (compEnvC scope cl C X.env) fp) tg g) (ht : ∀ (s : Shared) (H : Hp) (C : Addr) (cl : List (Str × Addr)) (fp : List Addr), PTs (Cx.bh X p s H scope (compEnvC scope cl C X.env) fp) ifs tt)
    (he : ∀ (s : Shared) (H : Hp) (C : Addr) (cl : List (Str × Addr)) (fp : List Addr), PE (Cx.bh X p s H scope (compEnvC scope cl C X.env) fp) elt te) (hs : ∀ x, foldedSetIterable iter X.env x = pure x)
    (h : tLc wi g tt te (own.map (·.2)) σ H Q)
    (after : ∀ L C s' m H', Inv X pn σ H' s' → Q (.ref L) H' → s'.heap.Ns C m → FpOk X pn H' C → compPost (model X.prog X.w) X.A X.xe use Qf (.ref L) C (.ok .next) s') :
    wpAny (model X.prog X.w) X.A (comprehension (.ListComp elt [⟨tg, iter, ifs, 0⟩] scope pos) scope X.env pos' (newList []) false (eval iter X.env) use) Qf X.xe σs := by
  have open_ : ∀ y ∈ scope.names, y.2 = .free → ∃ c, X.env.cells.lookup y.1 = some c := fun y hy e => (ok.free y hy e).elim (fun k => J.ok.has _ (.inl k)) (fun k => J.ok.has _ (.inr k))
  refine wpAny_comprehension_free (use := use) rfl hs (closure_ok open_) ok.kind (fun y hy e => by rw [ok.uniq y hy, e])
    (thn (hi.run pn σs σ H _ J h) fun src sa ha => thn ha fun walker sb hb => ?_)
  obtain ⟨it, fp, turnAt, IT, Hb, ew, Jb, TH, ready, kept, q⟩ := hb
  subst ew
  refine wpAny_newObj_type (newEnv_comp ?_) (by show 0 ≤ sizeLine; decide)
  generalize hL : sb.heap.objs.size = L
  have Lnone : Hb L = none := Jb.hok.fresh (Nat.le_of_eq hL)
  obtain ⟨W, ⟨m0, w0⟩, turn⟩ := q L Lnone
  generalize hsc : ({ sb with heap := sb.heap.push { cls := .type "list", data := .seq ([] : List Value).toArray } } : Shared) = sc
  have Jc : Inv X pn σ (upd Hb L (.lst [])) sc := by
    rw [← hsc]
    refine Jb.laid (t' := sb.toks) (fun b o e => Heap.get?_push_of_some _ e) (Nat.le_of_eq hL) ⟨Nat.zero_le _, [], 0, .nil, ?_⟩
    rw [← hL]
    exact Heap.get?_push_size _ rfl
  have hc : sc.heap = sb.heap.push { cls := .type "list", data := .seq ([] : List Value).toArray } := by rw [← hsc]
  have keptC : ∀ b ∈ fp, FpOk X pn (upd Hb L (.lst [])) b ∧ b < sc.heap.objs.size := fun b hb => by
    obtain ⟨o, eo, _⟩ := TH.obj _ _ ready b hb
    have lt := Heap.lt_size eo
    refine ⟨⟨?_, (kept b hb).2⟩, by rw [hc, Heap.size_push]; exact Nat.lt_succ_of_lt lt⟩
    rw [upd_ne (by rw [← hL]; exact Nat.ne_of_lt lt)]
    exact (kept b hb).1
  have readyC : turnAt 0 sc.heap := TH.keep _ _ _ ready fun b _ o e => by rw [hc]; exact Heap.get?_push_of_some _ e
  have Jd := bh_start Jc hp ok hN keptC
  have rg := hg sc (upd Hb L (.lst [])) sc.heap.objs.size (cellsFrom (sc.heap.objs.size + 1) scope.names (cloFrom X.env.cells scope.names [])) fp
  have rt := ht sc (upd Hb L (.lst [])) sc.heap.objs.size (cellsFrom (sc.heap.objs.size + 1) scope.names (cloFrom X.env.cells scope.names [])) fp
  have re := he sc (upd Hb L (.lst [])) sc.heap.objs.size (cellsFrom (sc.heap.objs.size + 1) scope.names (cloFrom X.env.cells scope.names [])) fp
  show codeAny _ _ (.compStart (.ListComp elt [⟨tg, iter, ifs, 0⟩] scope pos) 0 (.ref it) (.ref L) (compEnvC scope (cellsFrom (sc.heap.objs.size + 1) scope.names (cloFrom X.env.cells scope.names [])) sc.heap.objs.size X.env))
    (compPost (model X.prog X.w) X.A X.xe use Qf (.ref L) sc.heap.objs.size) { sc with heap := pushCells (sc.heap.push { cls := .type "dict", data := .dict #[] }) scope.names }
  have offC : ∀ b ∈ fp, (upd Hb L (.lst [])) b = none := fun b hb => (keptC b hb).1.1
  generalize hen : compEnvC scope (cellsFrom (sc.heap.objs.size + 1) scope.names (cloFrom X.env.cells scope.names [])) sc.heap.objs.size X.env = en at Jd rg rt re ⊢
  have enL : en.locals = sc.heap.objs.size := by subst hen; rfl
  generalize hHc : upd Hb L (.lst []) = Hc at Jc Jd rg rt re w0 offC keptC
  generalize hsd : ({ sc with heap := pushCells (sc.heap.push { cls := .type "dict", data := .dict #[] }) scope.names } : Shared) = sd at Jd ⊢
  have readyD : turnAt 0 sd.heap := TH.keep _ _ _ readyC fun b _ o e => by rw [← hsd]; exact pushCells_keeps _ _ _ _ (Heap.get?_push_of_some _ e)
  have XB : L2H.HotC (Cx.bh X p sc Hc scope en fp) := ⟨p, hot, by simp⟩
  have foot : ∀ {σ' : L2.St} {H' : Hp} {s' : Shared}, Inv (Cx.bh X p sc Hc scope en fp) [] σ' H' s' → (∀ b ∈ fp, H' b = none) → ∀ b ∈ fp, FpOk (Cx.bh X p sc Hc scope en fp) [] H' b := fun {σ' H' s'} J' hn b hb => by
    refine ⟨hn b hb, (J'.ok.exf b hb).1, J'.ok.exfs b hb, .inl hb, fun x c e => (J'.ok.exf b hb).2 x c e, fun r hr => ?_⟩
    have er : r = p := by simpa using (show r ∈ [p] ++ ([] : List (Addr × Obj)) from hr)
    subst er
    exact (kept b hb).2.2.2.2.2 r (List.mem_append_left _ hp)
  have loop : codeAny (model X.prog X.w) X.A (.compLoop (.ListComp elt [⟨tg, iter, ifs, 0⟩] scope pos) 0 (.ref it) (.ref L) en) (compPost (model X.prog X.w) X.A X.xe use Qf (.ref L) sc.heap.objs.size) sd := by
    refine compLoop_any (fun n s' => ∃ i H', Inv (Cx.bh X p sc Hc scope en fp) [] (wipe σ (own.map (·.2))) H' s' ∧ turnAt i s'.heap ∧ (∀ b ∈ fp, H' b = none) ∧ W i n H') ?_ m0 ⟨0, Hc, Jd, readyD, offC, w0⟩
    rintro n se ⟨i, He, Je, readyE, offE, we⟩
    rcases turn i n He we with ⟨stop, fin⟩ | ⟨go, Nx, hNx, step⟩
    · have over := TH.done (Cx.bh X p sc Hc scope en fp) rfl rfl rfl XB i [] se _ He (fun _ _ => False) Je (foot Je offE) readyE stop
      refine thnF over fun r sf ⟨hr, Jf⟩ => ?_
      subst hr
      have Jg : Inv X pn σ He sf := Jc.call' (ch := fp) Jf.os Jf.base Jf.hok Jf.bare fun b hb => ⟨(keptC b hb).1.2.2.2.1, (keptC b hb).1.2.1, (keptC b hb).1.2.2.2.2.1, (keptC b hb).1.2.2.2.2.2⟩
      have offN : He sc.heap.objs.size = none := by
        have z : He en.locals = none := Jf.free
        rw [enL] at z
        exact z
      obtain ⟨m, hn, _⟩ := Jf.loc
      have hn : sf.heap.Ns en.locals m := hn
      rw [enL] at hn
      exact after L sc.heap.objs.size sf m He Jg fin hn (Jc.fpOk (Nat.le_refl _) offN)
    · have one := TH.item (Cx.bh X p sc Hc scope en fp) rfl rfl rfl XB i [] se _ He (fun _ _ => False) Je (foot Je offE) readyE go
      refine thnF one fun r sf ⟨u, hr, hf⟩ => ?_
      subst hr
      refine thnF hf fun _ sg ⟨x, Hg, Jg, rx, yx, readyG, offG⟩ => ?_
      have Jp := Jg.pinned (foot Jg offG) (TH.obj _ _ readyG)
      refine thnF (rg.run _ sg _ Hg x u _ Jp rx (step x Hg yx)) fun _ sh ⟨σh, Hh, Jh, wh, qh⟩ => ?_
      refine thnF (rt.run _ sh σh Hh _ Jh qh) fun b si ⟨Hi, Ji, qi⟩ => ?_
      have next : ∀ {s' : Shared} {H' : Hp}, Inv (Cx.bh X p sc Hc scope en fp) ([] ++ pinsAt fp sg.heap) σh H' s' → Nx H' → ∃ m, m < n ∧ ∃ i H', Inv (Cx.bh X p sc Hc scope en fp) [] (wipe σ (own.map (·.2))) H' s' ∧ turnAt i s'.heap ∧ (∀ b ∈ fp, H' b = none) ∧ W i m H' := fun {s' H'} J' nx => by
        obtain ⟨m', less, w'⟩ := hNx H' nx
        have pinned : ∀ b ∈ fp, ∀ o, sg.heap.get? b = some o → s'.heap.get? b = some o ∧ H' b = none := fun b hb o e =>
          let z := J'.pin (b, o) (List.mem_append_right _ (List.mem_append_right _ (mem_pinsAt hb e)))
          ⟨z.1, z.2.1⟩
        have len : (wipe σ (own.map (·.2))).length = σh.length := by rw [← wh, wipe_length]
        refine ⟨m', less, i + 1, H', (J'.unpinned (pins := [])).weak len (fun j v e => ?_), TH.keep _ _ _ readyG fun b hb o e => (pinned b hb o e).1, fun b hb => ?_, w'⟩
        · rw [← wh] at e
          exact (wipe_some e).1
        · obtain ⟨o, e, _⟩ := TH.obj _ _ readyG b hb
          exact (pinned b hb o e).2
      cases b with
      | false =>
        simp only [Bool.false_eq_true, if_false] at qi ⊢
        exact next Ji qi
      | true =>
        simp only [if_true] at qi ⊢
        refine thnF (re.run _ si σh Hi _ Ji qi) fun z sj ⟨yv, Hj, Jj, ry, acc, here, room, nx⟩ => ?_
        exact app_ok (X := Cx.bh X p sc Hc scope en fp) Jj here room ry fun sk Jk => next Jk nx
  exact codeAny_compStart_list loop (TH.self X.A 0 _ _ _ readyD loop)
/-- name = [..] on one line, the name a local -/
theorem hot_set {i : Nat} {y : Str} {py : Pos} {elt tg iter : Expr} {ifs : List Expr} {scope : Scope} {own : List (Str × Nat)} {pos spos : Pos} {wi : TI} {g : TG} {tt : TT} {te : TE} {p : Addr × Obj} (hot : L2H.Hot1 X.A p) (hp : p ∈ X.pn) (hN : X.N.Nodup) (at_ : X.N[i]? = some y) (loc : X.env.scope.names.lookup y = some .local)
    (swaps : swapsWith (.ListComp elt [⟨tg, iter, ifs, 0⟩] scope pos) (some (.Name y py)) spos.line X.env = pure true) (hi : L2H.PIH X tg iter wi) (ok : BlkOk X.N X.env.scope scope own)
    (hg : ∀ (s : Shared) (H : Hp) (C : Addr) (cl : List (Str × Addr)) (fp : List Addr), PG (Cx.bh X p s H scope (compEnvC scope cl C X.env) fp) tg g) (ht : ∀ (s : Shared) (H : Hp) (C : Addr) (cl : List (Str × Addr)) (fp : List Addr), PTs (Cx.bh X p s H scope (compEnvC scope cl C X.env) fp) ifs tt)
    (he : ∀ (s : Shared) (H : Hp) (C : Addr) (cl : List (Str × Addr)) (fp : List Addr), PE (Cx.bh X p s H scope (compEnvC scope cl C X.env) fp) elt te) (hs : ∀ x, foldedSetIterable iter X.env x = pure x := by intro _; rfl) :
    PS X (.Assign [.Name y py] (.ListComp elt [⟨tg, iter, ifs, 0⟩] scope pos) spos) (tAsg (tLc wi g tt te (own.map (·.2))) (gName i)) := by
  refine ⟨fun pn ss σ H DD J h => ?_⟩
  rw [exec_Assign_Name_used _ _ _ _ swaps]
  refine wpAny_bind (wpAny_standAt (wpAny_bind ?_))
  have h : tLc wi g tt te (own.map (·.2)) σ H (fun x H1 => gName i x σ H1 DD.nx) := h
  show wpAny _ X.A (do let _ ← comprehension (.ListComp elt [⟨tg, iter, ifs, 0⟩] scope pos) scope X.env (firstIterPos [⟨tg, iter, ifs, 0⟩] pos) (newList []) false (eval iter X.env) (some (assign (.Name y py) X.env))) _ _ ss
  refine wpAny_bind (thn (hot_core (Qf := fun _ s' => SP X pn DD .next s') hot hp hN J hi ok hg ht he hs h fun L C s' m H' J' q hn foot => ?_) fun _ s' got => wpAny_pure (wpAny_pure got))
  show wpAny _ _ (assign (.Name y py) X.env (.ref L)) _ _ _
  refine wpAny_assign_Name (store_ok2 (v := V.ref L) J' hN at_ (.inl loc) rfl (fun s2 J2 ⟨a, same, ha⟩ => ?_) (.inr loc))
  obtain ⟨f0, f1, f2, f3, f4, f5⟩ := foot
  have apart : C ≠ a := ha.elim (fun z => by rw [z]; exact f1) (fun z e => f4 y a z e.symm)
  exact ⟨m, hn.sameBut same apart, fun h3 same3 => ⟨_, H', J2.turned (t' := s2.toks) (fun b o hb e => (same3.2 b hb).trans e) f0 f1 f3 f4 f5, q⟩⟩
end
end Ell
set_option autoImplicit false
/-! Ell12: _law_told(lambda: e). -/
namespace Ell
open PySem PySem.Spec PyProof.Rows L2 LamX
open Evl (Ex)
/-- the lambda's context; what it lets out has the context None -/
abbrev lamN (X : Cx) (A : Around) (outer : List Env) (s : Shared) (H : Hp) (E : XK) (scope : Scope) (f c' : Addr) : Cx :=
  { lamCx X A outer s H E scope f c' with xe := fun e s' => wpAny (model X.prog X.w) (A.deeper (lamEnv X scope s.heap.objs.size f c')) (leaving (lamEnv X scope s.heap.objs.size f c') e) (fun _ s'' => L2N.CX X.prog X.w outer H s E e s'') (fun e' s'' => L2N.CX X.prog X.w outer H s E e' s'') s' }
/-- the context of the def that gets it -/
abbrev gotCx (X : Cx) (Ng : List Str) (qg : Str) (sg : Scope) (g : Addr) (cdg : Value) (s : Shared) (H : Hp) : Cx := cxOf C8.CX0 X.prog X.w X.K X.mg X.base Ng qg sg g cdg X.A X.stack s H C8.E0
section
variable {X : Cx} {pn : List (Addr × Obj)} {σ : L2.St} {H HZ : Hp} {s s1 : Shared}
/-- a() in the def that got the lambda -/
theorem act {Ng : List Str} {qg : Str} {sg : Scope} {g f c' : Addr} {cdg pm ctv : Value} {params : Arguments} {body : Expr} {scope : Scope} {k i : Nat} {a : Str} {pt : List (Addr × Obj)} {xe : Value → Shared → Prop} {W : WX} {E : XK} {tb : TE} {p1 p2 : Pos}
    (J : Inv X pn σ H s) (L : LamS X.env.scope scope) (isF : s.heap.get? f = some (PySem.W.kla_obj "<lambda>" (X.env.qual ++ "<lambda>") params body scope (cloFrom X.env.cells scope.names []) pm c' ctv)) (noF : H f = none) (offF : f ∉ frs X.stack)
    (bind0 : bindArgs (PySem.W.kla_fn "<lambda>" (X.env.qual ++ "<lambda>") params body scope (cloFrom X.env.cells scope.names []) pm (.ref c') ctv) ⟨[], []⟩ = pure [])
    (tk : L2N.Takes ((gotCx X Ng qg sg g cdg s H).tr pt xe) W) (hW : ∀ cls d σ' H', E cls d H' → W cls d σ' H') (room : Room (k + 1) (X.A.deeper (envOfC qg sg s.heap.objs.size g cdg))) (gd : X.A.guards = some [])
    (hb : ∀ (A : Around) (outer : List Env) (s : Shared) (H : Hp), Room k (A.deeper (lamEnv X scope s.heap.objs.size f c')) → A.guards = some [] → PE (lamN X A outer s H E scope f c') body tb)
    (at_ : Ng[i]? = some a) (vis : Vis sg a) (hd : (a == ("__debug__" : Str)) = false := by decide) (hcd : (a == ("__classdict__" : Str)) = false := by decide) :
    PE ((gotCx X Ng qg sg g cdg s H).tr pt xe) (.Call (.Name a p1) [] [] p2) (fun σZ HZ Q => σZ[i]? = some (some (.ref f)) ∧ HZ c' = some (CodeO c' (X.env.qual ++ "<lambda>")) ∧ tb σ HZ Q) := by
  refine ⟨fun pz sz σZ HZ Q JZ ⟨slot, code, want⟩ => ?_⟩
  refine wpAny_Call_Name_kw (thn ((pe_var (pos := p1) (i := i) at_ vis hd hcd).run pz sz σZ HZ (fun v H1 => v = .ref f ∧ H1 = HZ) JZ ⟨.ref f, slot, rfl, rfl⟩) fun u s1 ⟨v, H1, J1, rv, ev, eH⟩ => ?_)
  subst ev
  rw [eH] at J1
  obtain rfl : u = Value.ref f := rv
  have f1 := J1.base.keep f _ isF noF offF (fun z => nomatch (show f ∈ ([] : List Addr) from z))
  refine PySem.W.callWith_F0 ⟨_, _, _, _, f1⟩ ?_
  obtain ⟨⟨oc, vs, t, hoc, hdc, hvc⟩, _, _⟩ := J1.hok c' _ code
  have run : codeAny (model X.prog X.w) (X.A.deeper (envOfC qg sg s.heap.objs.size g cdg)) (.call (.ref f) ⟨[], []⟩) (CR (L2N.CX X.prog X.w) (envOfC qg sg s.heap.objs.size g cdg :: X.stack) X.prog X.w HZ s1 Q E) s1 := by
    refine PySem.W.kla_callFunE room.depth f1 rfl L.co L.gen rfl ⟨c', oc, vs, t, rfl, hoc, hdc, hvc⟩ ?_
    rw [bind0]
    refine wpAny_pure (wpAny_newFunctionEnv (fun y hy => (L.own y hy).2) (fun y hy => absurd hy (by simp)) (fun h₁ hns same => ⟨J1.nolimit.fresh _ same, ?_⟩) L.kind)
    show codeAny _ _ (.expr body (lamEnv X scope s1.heap.objs.size f c')) _ _
    have grown : ∀ b o, s1.heap.get? b = some o → h₁.get? b = some o := fun b o e => same.extBut b o (Nat.ne_of_lt (Heap.lt_size e)) (Heap.get?_push_of_some _ e)
    have JL := (lam_start2 (tk := s1.toks + ([] : List (Str × Value)).length) (E := E) (f := f) (c' := c') J L J1.env0 room.hd J1.base hns grown).wish (lamN X (X.A.deeper (envOfC qg sg s.heap.objs.size g cdg)) (envOfC qg sg s.heap.objs.size g cdg :: X.stack) s1 HZ E scope f c').xe
    refine PySem.W.kla_codeExpr (wpAny_mono ((hb _ _ s1 HZ (room.deeper _) gd).run [] _ _ HZ Q JL want) (fun v s' ⟨w', H', J', rv, q⟩ => ?_) fun e s' z => z)
    exact ⟨w', H', J'.os, J'.bare, J'.base, J'.hok, rv, q⟩
  refine wpAny_call (codeAny_mono run fun r s' got => ?_)
  cases r with
  | error er => exact tk er s' (L2N.XE.of_call J1 (fun cls d H' h => hW cls d σZ H' h) got)
  | ok flow =>
    cases flow with
    | ret u => exact J1.after got
    | next => exact False.elim got
    | brk => exact False.elim got
    | cont => exact False.elim got
/-- what _law_told makes of the lambda's reading -/
def TTold (K : PySem.W.Frag) (T : List (Addr × Str)) (cl : Exc → Addr) : (XK → Hp → VK → Prop) → Hp → VK → Prop := fun tl H Q =>
  tl (fun cls d H' => ∃ c L, cls = .ref (cl c) ∧ d = none ∧ Rep K T L H' ∧ ∀ v H2, Rep K T ((.dat (.tuple [.str (excKind c)]), some v) :: L) H2 → Q v H2) H
    fun v H' => ([V.str "told", v] : List V).length ≤ sizeLine ∧ ∀ p, H' p = none → Q (.ref p) (upd H' p (.tup [.str "told", v]))
def Gives (X : Cx) (Ng : List Str) (x : Str) (sg : Scope) (g : Addr) (cdg : Value) (bg : List Stmt) (a : Str) (q : Str) (TT : (XK → Hp → VK → Prop) → Hp → VK → Prop) : Prop :=
  ∀ (f c' : Addr) (s : Shared) (H : Hp) (Q : VK) (tl : XK → Hp → VK → Prop), Room 0 (X.A.deeper (envOfC x sg s.heap.objs.size g cdg)) →
    (∀ (W : WX) (pt : List (Addr × Obj)) (xe : Value → Shared → Prop) (E : XK) (p1 p2 : Pos), L2N.Takes ((gotCx X Ng x sg g cdg s H).tr pt xe) W → (∀ cls d σ' H', E cls d H' → W cls d σ' H') →
      PE ((gotCx X Ng x sg g cdg s H).tr pt xe) (.Call (.Name a p1) [] [] p2) (fun σZ HZ Q => σZ[0]? = some (some (.ref f)) ∧ HZ c' = some (CodeO c' q) ∧ tl E HZ Q)) →
    H c' = some (CodeO c' q) → TT tl H Q → ∃ t, PSs (gotCx X Ng x sg g cdg s H).nox bg t ∧ t { nx := fun _ H' => Q .non H', rt := Q } (L2.start Ng [.ref f]) H
def tLamN (T : List (Addr × Str)) (TT : (XK → Hp → VK → Prop) → Hp → VK → Prop) (t : XK → TE) : TE := fun σ H Q => Tabs T H ∧ ∀ H1, ExtN H H1 → Tabs T H1 → TT (fun E H' Q' => t E σ H' Q') H1 Q
/-- x(lambda: body) -/
theorem lamcall {T : List (Addr × Str)} {TT : (XK → Hp → VK → Prop) → Hp → VK → Prop} {x a : Str} {g c P : Addr} {k : Nat} {pg : Arguments} {bg : List Stmt} {sg : Scope} {dV kV doc pm cdv ct oc : Value} {an od : Option Addr} {osl : Array (Option Value)} {Ng : List Str}
    {params : Arguments} {body : Expr} {scope : Scope} {t : XK → TE} {p lpos pos : Pos} (hg : Gl X x) (mgx : X.mg x = some (.ref g)) (kept : PySem.W.keepIn X.K (.ref g) = true)
    (lk : X.K.lookup g = some ⟨oc, od, .func (PySem.W.fnOf x x pg bg sg dV kV doc pm an cdv ct), osl⟩) (codeG : PySem.W.codeIn X.K cdv x = true) (bd : L2.Binds X.K (PySem.W.fnOf x x pg bg sg dV kV doc pm an cdv ct) [a] []) (Sg : FnScope Ng [a] sg) (at0 : Ng[0]? = some a) (vis : Vis sg a)
    (gives : Gives X Ng x sg g cdv bg a (X.env.qual ++ "<lambda>") TT)
    (TB : TabB X.base X.mg c P) (code : X.env.code = .ref c) (inT : (P, X.env.qual ++ "<lambda>") ∈ T) (uniq : ∀ r ∈ T, r.1 = P → r.2 = X.env.qual ++ "<lambda>") (room : Room (k + 2) X.A) (gd : X.A.guards = some []) (L : LamS X.env.scope scope) (nodef : defaultsOf params X.env = ([], []))
    (bind0 : ∀ (q : Str) (cl : List (Str × Addr)) (pm cv ctv : Value), bindArgs (PySem.W.kla_fn "<lambda>" q params body scope cl pm cv ctv) ⟨[], []⟩ = pure [])
    (hb : ∀ (A : Around) (outer : List Env) (s : Shared) (H : Hp) (E : XK) (f c' : Addr), Room k (A.deeper (lamEnv X scope s.heap.objs.size f c')) → A.guards = some [] → PE (lamN X A outer s H E scope f c') body (t E))
    (hdb : (x == ("__debug__" : Str)) = false := by decide) (hd : (a == ("__debug__" : Str)) = false := by decide) (hcd : (a == ("__classdict__" : Str)) = false := by decide) :
    PE X (.Call (.Name x p) [.Lambda params body scope lpos] [] pos) (tLamN T TT t) := by
  refine ⟨fun pn s σ H Q J ⟨tabs, want⟩ => wpAny_Call_Name_kw (ld_glob J hg mgx ?_ hdb)⟩
  refine PySem.W.callWith_K (h₀ := X.base) J.ok.mod.kin kept ?_ (by rfl) (by rfl)
  show wpAny _ _ (spliced ((false, eval (.Lambda params body scope lpos) X.env) :: backTo pos (starEach [] X.env))) _ _ s
  refine Calls.spliced_cons (lam_make2 J TB code inT uniq tabs nodef (L.has J.ok) fun f c' pm' ctv H1 s' J1 grown tabs1 isF noF offF isC => Calls.spliced_nil ⟨J1.kIn, ?_⟩)
  have run : codeAny (model X.prog X.w) X.A (.call (.ref g) ⟨[.ref f], []⟩) (CR C8.CX0 X.stack X.prog X.w H1 s' Q C8.E0) s' := by
    refine run_ofS (N := Ng) (ps := [a]) (us := [.ref f]) (vs := [.ref f]) lk codeG Sg room J1.env0 (bd s' [.ref f] J1.kIn rfl) (.cons rfl .nil) rfl fun room1 => ?_
    obtain ⟨t', ht', hq'⟩ := gives f c' s' H1 Q (fun E H' Q' => t E σ H' Q') (room1.mono (Nat.zero_le _)) (fun W pt xe E p1 p2 tk hW => act (i := 0) J1 L isF noF offF (bind0 _ _ _ _ _) tk hW room1 gd (fun A outer s H r2 g2 => hb A outer s H E f c' r2 g2) at0 vis hd hcd) isC (want H1 grown tabs1)
    exact ⟨t', ht'.nox, hq'⟩
  refine wpAny_call (codeAny_mono run fun r s2 got => ?_)
  cases r with
  | error er => exact (show False from got).elim
  | ok flow =>
    cases flow with
    | ret u => exact J1.after got
    | next => exact False.elim got
    | brk => exact False.elim got
    | cont => exact False.elim got
end
/-- all but the tables stay: what is held stays -/
theorem RepG.extN {K : PySem.W.Frag} {T : List (Addr × Str)} {G H H1 : Hp} {l : List Ent} (g : RepG K T G l H) (e : ExtN H H1) (t : Tabs T H1) : RepG K T G l H1 := by
  refine ⟨fun b o q => e b o (g.sub b o q) fun ps z => g.notb b ps (by rw [q, z]), g.notb, fun q hq => ?_, g.nd, t⟩
  refine (g.good q hq).mono (Ex.refl G) fun b hb => ⟨(adr_mem hb (g.good q hq)).1, ?_⟩
  obtain ⟨_, o, oa⟩ := adr_mem hb (g.good q hq)
  obtain ⟨u, eu, n1, _⟩ := oa.some
  rw [eu]
  exact e b u eu n1
/-- the reading of told -/
theorem tTold_of {K : PySem.W.Frag} {T : List (Addr × Str)} {cl : Exc → Addr} {W : WX} {ca : CE} {σ : L2.St} {H : Hp} {Q : VK} (h : tE K ⟨T, cl, W⟩ (.told ca) σ H Q) : tLamN T (TTold K T cl) (fun E => tE K ⟨T, cl, fun cls d _ H => E cls d H⟩ ca) σ H Q := by
  obtain ⟨ρ, fr, hl, R, h⟩ := h
  obtain ⟨G, g⟩ := R
  have h : Post K ⟨T, cl, W⟩ σ fr VIs ents Q (toldR (kD (evP ca ρ))) := h
  refine ⟨g.tabs, fun H1 e t => tD_ofL (ρ := ρ) (fr := fr) hl ⟨G, g.extN e t⟩ ?_ fun d ρ1 q => ?_⟩
  case refine_2 =>
    rw [q] at h
    cases qd : isDic d with
    | false => rfl
    | true =>
      have h : Post K ⟨T, cl, W⟩ σ fr VIs ents Q (if isDic d = true then .stuck else .ok (.tmp (.dat (.tuple [.str "told", d]))) ρ1) := h
      rw [if_pos qd] at h
      exact False.elim h
  dsimp only
  cases q : kD (evP ca ρ) with
  | stuck => rw [q] at h; exact h
  | err c ρ1 =>
    rw [q] at h
    have h : Post K ⟨T, cl, W⟩ σ fr VIs ents Q (.ok (.tmp (.dat (.tuple [.str (excKind c)]))) ρ1) := h
    exact fun H2 hl2 R2 => ⟨c, _, rfl, rfl, R2, fun v H3 R3 => h v H3 hl2 trivial R3⟩
  | ok d ρ1 =>
    rw [q] at h
    have h : Post K ⟨T, cl, W⟩ σ fr VIs ents Q (if isDic d = true then .stuck else .ok (.tmp (.dat (.tuple [.str "told", d]))) ρ1) := h
    have qd : ¬ isDic d = true := fun qd => by rw [if_pos qd] at h; exact h
    rw [if_neg qd] at h
    have h : Post K ⟨T, cl, W⟩ σ fr VIs ents Q (.ok (.tmp (.dat (.tuple [.str "told", d]))) ρ1) := h
    intro v H2 hl2 _ R2
    refine ⟨by show 2 ≤ sizeLine; decide, fun p hp => ?_⟩
    have R2 : Rep K T ((.dat d, some v) :: (ρ1.zip σ ++ fr)) H2 := R2
    obtain ⟨G2, g2⟩ := R2
    obtain ⟨v', ev, w⟩ := g2.good _ List.mem_cons_self
    cases ev
    exact h (.ref p) _ hl2 trivial ((g2.subl (List.sublist_cons_self _ _)).newT hp (.cons (.str "told") (.cons w .nil)))
end Ell
set_option autoImplicit false
/-! Ell13: the body of _law_told. -/
namespace Ell
open PySem PySem.Spec PyProof.Rows L2 LamX
open Evl (Ex)
/-- the classes of errors as the text has them -/
structure Errs (K : PySem.W.Frag) (mg : Str → Option Value) (cl : Exc → Addr) : Prop where
  top : ∃ E0, mg "EllError" = some (.ref E0) ∧ ∀ c, PySem.W.exmOne K (.ref (cl c)) (.ref E0) = some true
  ec : ∀ c, ExcC K (cl c)
  m0 : mg "NotAllowed" = some (.ref (cl .notAllowed))
  m1 : mg "TooLarge" = some (.ref (cl .tooLarge))
  m2 : mg "Missing" = some (.ref (cl .missing))
  m3 : mg "BadPaper" = some (.ref (cl .badPaper))
  kit : ∀ c d, PySem.W.kitOne K (.ref (cl c)) (.ref (cl d)) = some (decide (c = d))
  m4 : ∃ C, mg "BadForm" = some (.ref C) ∧ ∀ c, PySem.W.kitOne K (.ref (cl c)) (.ref C) = some false
  m5 : ∃ C, mg "Broken" = some (.ref C) ∧ ∀ c, PySem.W.kitOne K (.ref (cl c)) (.ref C) = some false
abbrev toldN : List Str := ["call", "e", "kinds", "names", "k"]
abbrev toldSc : Scope := ⟨.function, [("call", .local), ("e", .local), ("kinds", .cell), ("names", .local), ("EllError", .globalImplicit), ("isinstance", .globalImplicit), ("NotAllowed", .globalImplicit), ("TooLarge", .globalImplicit), ("Missing", .globalImplicit), ("BadPaper", .globalImplicit),
  ("BadForm", .globalImplicit), ("Broken", .globalImplicit), ("range", .globalImplicit), ("int", .globalImplicit), ("len", .globalImplicit)], false, false, [("fast", .str "call"), ("fast", .str "e"), ("fast", .str "kinds"), ("fast", .str "k"), ("fast", .str "names")]⟩
abbrev listSc : Scope := ⟨.function, [(".0", .local), ("k", .local), ("kinds", .free)], false, false, []⟩
abbrev isoE (x : Str) (a b c d : Pos) : Expr := .Call (.Name "isinstance" a) [.Name "e" b, .Name x c] [] d
abbrev kindNames (a b c d e f : Pos) : List Expr := [.Constant (.str "refused") 0 a, .Constant (.str "large") 0 b, .Constant (.str "missing") 0 c, .Constant (.str "paper") 0 d, .Constant (.str "form") 0 e, .Constant (.str "broken") 0 f]
/-! the core forms of the suite's last two statements -/
def cNames : CS := .set 3 (.lc (.nm 4) (.rng1 (.lit (.int 6))) (.idx (.var 2) (.var 4)) (.idx (.lst (.cons (.lit (.str "refused")) (.cons (.lit (.str "large")) (.cons (.lit (.str "missing")) (.cons (.lit (.str "paper")) (.cons (.lit (.str "form")) (.cons (.lit (.str "broken")) .nil))))))) (.var 4)) [4])
def cTell : CS := .ret (.tup (.cons (.idx (.lst (.cons (.lit (.str "odd")) (.cons (.idx (.bin .add (.var 3) (.lst (.cons (.lit (.str "")) .nil))) (.lit (.int 0))) .nil))) (.blt .int (.cons (.cmp .eq (.blt .len (.cons (.var 3) .nil)) (.lit (.int 1))) .nil))) .nil))
def kindsOf (c : Exc) : List Ell.D := [.bool (decide (c = .notAllowed)), .bool (decide (c = .tooLarge)), .bool (decide (c = .missing)), .bool (decide (c = .badPaper)), .bool false, .bool false]
theorem suite_run (c : Exc) : ∃ ρ, evS (.seq cNames (.seq cTell .done)) [.un, .un, .own (.lst (kindsOf c)), .un, .un] = .ret (.dat (.tuple [.str (excKind c)])) ρ := by
  have hr : rngD 0 6 = [.int 0, .int 1, .int 2, .int 3, .int 4, .int 5] := rfl
  have n5 : ∀ {α : Type} {l : List α}, nth l 5 = l[5]? := fun {α l} => nth_nat (n := 5)
  have e : sizeLine = 16777216 := rfl
  refine ⟨[.un, .un, .own (.lst (kindsOf c)), .own (.lst [.str (excKind c)]), .un], ?_⟩
  cases c <;> simp [cNames, cTell, kindsOf, hr, n5, e]
section
variable {K : PySem.W.Frag} {Z : Cf} {σ : L2.St} {H : Hp}
theorem rng1_of {ca : CE} {R : It → Hp → Prop} (h : tI K Z (.rng1 ca) σ H R) : iRng1 (tCons (tD K Z (evP ca)) tNil) σ H R := by
  obtain ⟨ρ, fr, hl, Rp, h⟩ := h
  refine ⟨ρ, fr, hl, Rp, ?_⟩
  have h : PostI K Z σ fr R (kI rng1D (kD (evP ca ρ))) := h
  dsimp only
  cases qa : kD (evP ca ρ) with
  | stuck => rw [qa] at h; exact False.elim h
  | err c ρ1 => rw [qa] at h; exact h
  | ok d ρ1 =>
    rw [qa] at h
    have h : PostI K Z σ fr R (opt (rng1D d) ρ1) := h
    intro v H1 hl1 _ R1
    cases d with
    | int n =>
      have h : PostI K Z σ fr R (opt (if leI (-(2 ^ 62)) n ∧ ltI n (2 ^ 62) then some (rngD 0 n.toNat) else none) ρ1) := h
      by_cases hb : leI (-(2 ^ 62)) n ∧ ltI n (2 ^ 62)
      · rw [if_pos hb] at h
        obtain ⟨G, g⟩ := id R1
        obtain ⟨v', ev, w⟩ := g.good _ List.mem_cons_self
        cases ev
        cases w
        exact ⟨n, rfl, hb.1, hb.2, h _ [] H1 hl1 jok_rng (R1.subl (List.sublist_cons_self _ _))⟩
      · rw [if_neg hb] at h; exact False.elim h
    | _ => exact False.elim h
end
section
variable {X : Cx} {T : List (Addr × Str)} {cl : Exc → Addr}
/-- what the suite is to reach for the error c at a -/
def tSuite (K : PySem.W.Frag) (T : List (Addr × Str)) (cl : Exc → Addr) (a : Addr) (cls : Value) (d : Option Addr) : TS := fun DD σ H => ∃ (c : Exc) (L : List Ent) (σ0 : L2.St), cls = .ref (cl c) ∧ d = none ∧ σ = σ0.set 1 (some (.ref a)) ∧ Rep K T L H ∧ ∀ v H2, Rep K T ((.dat (.tuple [.str (excKind c)]), some v) :: L) H2 → DD.rt v H2
theorem iso_rd {K : PySem.W.Frag} {D a Ck : Addr} {b : Bool} {σ : L2.St} {H : Hp} {Q : VK} (hs : σ[1]? = some (some (.ref a))) (kit : PySem.W.kitOne K (.ref D) (.ref Ck) = some b) (q : Q (.bl b) H) : tCB (rIsE K D a) (tCons (tVar 1) (tCons (tC (.ref Ck)) tNil)) σ H Q :=
  ⟨.ref a, hs, .ref Ck, .ref Ck, b, rfl, fun u r => by cases r; rfl, kit, q⟩
theorem suite_ok {qg : Str} {g a : Addr} {cdg : Value} {s : Shared} {H0 : Hp} {oe : Obj} {cls : Value} {d : Option Addr} {pn : List (Addr × Obj)} (er : Errs X.K X.mg cl) (bi : Bi X.mg) (hu : X.A.units + 3 + 64 < cLine) (hz : L2N.Zn cls d oe) (hf : ∃ vs, oe.data = .fields vs)
    {a1 a2 a3 a4 b1 b2 b3 b4 c1 c2 c3 c4 d1 d2 d3 d4 e1 e2 e3 e4 f1 f2 f3 f4 q1 q2 q3 r1 r2 r3 r4 r5 r6 r7 r8 r9 s1 s2 s3 s4 s5 s6 t1 t2 t3 t4 t5 t6 t7 t8 t9 u1 u2 u3 u4 u5 u6 u7 u8 u9 w1 w2 w3 w4 : Pos} (hline : (t1.line == t2.line) = true) :
    PSs ((gotCx X toldN qg toldSc g cdg s H0).nox.suite a ((a, oe) :: pn)) [.Assign [.Name "kinds" q1] (.List [isoE "NotAllowed" a1 a2 a3 a4, isoE "TooLarge" b1 b2 b3 b4, isoE "Missing" c1 c2 c3 c4, isoE "BadPaper" d1 d2 d3 d4, isoE "BadForm" e1 e2 e3 e4, isoE "Broken" f1 f2 f3 f4] q2) q3,
      .Assign [.Name "names" t1] (.ListComp (.Subscript (.List (kindNames s1 s2 s3 s4 s5 s6) r1) (.Name "k" r2) r3) [⟨.Name "k" r4, .Call (.Name "range" r5) [.Constant (.int 6) 0 r6] [] r7, [.Subscript (.Name "kinds" r8) (.Name "k" r9) t4], 0⟩] listSc t2) t3,
      .Return (some (.Tuple [.Subscript (.List [.Constant (.str "odd") 0 u1, .Subscript (.BinOp (.Name "names" u2) .Add (.List [.Constant (.str "") 0 u3] u4) u5) (.Constant (.int 0) 0 u6) u7] u8) (.Call (.Name "int" u9) [.Compare (.Call (.Name "len" t5) [.Name "names" t6] [] t7) [.Eq] [.Constant (.int 1) 0 t8] t9] [] w1) w2] 0 w3)) w4] (tSuite X.K T cl a cls d) := by
  refine ⟨fun pins sh σ H DD I h => ?_⟩
  obtain ⟨c, L, σ0, ec, ed, eσ, R, fin⟩ := h
  subst ec
  subst ed
  have l5 : σ.length = 5 := I.len
  have hs1 : σ[1]? = some (some (.ref a)) := by
    rw [eσ, List.getElem?_set_self]
    rw [eσ, List.length_set] at l5
    omega
  obtain ⟨C4, m4, k4⟩ := er.m4
  obtain ⟨C5, m5, k5⟩ := er.m5
  have nd : toldN.Nodup := by decide
  have iso : ∀ {x : Str} {Ck : Addr} {p1 p2 p3 p4 : Pos}, Gl ((gotCx X toldN qg toldSc g cdg s H0).nox.suite a ((a, oe) :: pn)) x → X.mg x = some (.ref Ck) → (x == ("__debug__" : Str)) = false → PE ((gotCx X toldN qg toldSc g cdg s H0).nox.suite a ((a, oe) :: pn)) (isoE x p1 p2 p3 p4) (tCB (rIsE X.K (cl c) a) (tCons (tVar 1) (tCons (tC (.ref Ck)) tNil))) :=
    fun hg hm hd => pe_callB (call_isE (X := (gotCx X toldN qg toldSc g cdg s H0).nox) (er.ec c) hz.zc hf) rfl bi.isinstance (by decide +kernel) (pa_cons (pe_var (i := 1) rfl (.inl rfl)) (pa_cons (pe_glob hg hm rfl hd) pa_nil))
  have st1 := ps_set (i := 2) (pos' := q1) (pos := q3) (X := (gotCx X toldN qg toldSc g cdg s H0).nox.suite a ((a, oe) :: pn)) nd rfl (.inr rfl) (pe_lst (pos := q2) (pa_cons (iso (x := "NotAllowed") (p1 := a1) (p2 := a2) (p3 := a3) (p4 := a4) rfl er.m0 (by decide)) (pa_cons (iso (x := "TooLarge") (p1 := b1) (p2 := b2) (p3 := b3) (p4 := b4) rfl er.m1 (by decide)) (pa_cons (iso (x := "Missing") (p1 := c1) (p2 := c2) (p3 := c3) (p4 := c4) rfl er.m2 (by decide))
    (pa_cons (iso (x := "BadPaper") (p1 := d1) (p2 := d2) (p3 := d3) (p4 := d4) rfl er.m3 (by decide)) (pa_cons (iso (x := "BadForm") (p1 := e1) (p2 := e2) (p3 := e3) (p4 := e4) rfl m4 (by decide)) (pa_cons (iso (x := "Broken") (p1 := f1) (p2 := f2) (p3 := f3) (p4 := f4) rfl m5 (by decide)) pa_nil)))))))
  have hot : L2H.Hot1 ((gotCx X toldN qg toldSc g cdg s H0).nox.suite a ((a, oe) :: pn)).A (a, oe) := ⟨rfl, let ⟨vs, hv⟩ := hf; ⟨vs, hv, hz.2.2 vs hv⟩⟩
  let Z : Cf := ⟨T, cl, fun _ _ _ _ => False⟩
  have ok : BlkOk toldN toldSc listSc [("k", 4)] := blkOk_by (by decide)
  have st2 : PS ((gotCx X toldN qg toldSc g cdg s H0).nox.suite a ((a, oe) :: pn)) (.Assign [.Name "names" t1] (.ListComp (.Subscript (.List (kindNames s1 s2 s3 s4 s5 s6) r1) (.Name "k" r2) r3) [⟨.Name "k" r4, .Call (.Name "range" r5) [.Constant (.int 6) 0 r6] [] r7, [.Subscript (.Name "kinds" r8) (.Name "k" r9) t4], 0⟩] listSc t2) t3) (tS X.K Z 0 cNames) := by
    refine ⟨fun pz sz σz Hz Dz Iz hz' => (hot_set (i := 3) hot List.mem_cons_self nd rfl rfl (sw_true rfl rfl hline (by rfl)) (L2H.pi_range1H rfl bi.range (pa_cons (pe_D (d_int (Z := Z))) pa_nil)) ok (g := tgG X.K Z.no (.nm 4)) (tt := tT X.K Z.no (.idx (.var 2) (.var 4)))
      (te := tD X.K Z.no (evP (.idx (.lst (.cons (.lit (.str "refused")) (.cons (.lit (.str "large")) (.cons (.lit (.str "missing")) (.cons (.lit (.str "paper")) (.cons (.lit (.str "form")) (.cons (.lit (.str "broken")) .nil))))))) (.var 4))))
      (fun _ _ _ _ _ => g_nm nd) (fun _ _ _ _ _ => pts_one (t_val (d_idxU hu d_var d_var)))
      (fun _ _ _ _ _ => pe_D (d_idxU hu (d_lst (d_cons d_str (d_cons d_str (d_cons d_str (d_cons d_str (d_cons d_str (d_cons d_str d_nil))))))) d_var))).run pz sz σz Hz Dz Iz ?_⟩
    have h2 := asg_of hz'
    have h3 : tE X.K Z (.lc (.nm 4) (.rng1 (.lit (.int 6))) (.idx (.var 2) (.var 4)) (.idx (.lst (.cons (.lit (.str "refused")) (.cons (.lit (.str "large")) (.cons (.lit (.str "missing")) (.cons (.lit (.str "paper")) (.cons (.lit (.str "form")) (.cons (.lit (.str "broken")) .nil))))))) (.var 4)) [4]) σz Hz fun x H1 => gName 3 x σz H1 Dz.nx := tM_of h2
    have lz : σz.length = 5 := Iz.len
    have h4 := tLc_of (by simp) (by simp) (by simp [lz]) h3
    exact rng1_of h4
  have st3 : PS ((gotCx X toldN qg toldSc g cdg s H0).nox.suite a ((a, oe) :: pn)) (.Return (some (.Tuple [.Subscript (.List [.Constant (.str "odd") 0 u1, .Subscript (.BinOp (.Name "names" u2) .Add (.List [.Constant (.str "") 0 u3] u4) u5) (.Constant (.int 0) 0 u6) u7] u8) (.Call (.Name "int" u9) [.Compare (.Call (.Name "len" t5) [.Name "names" t6] [] t7) [.Eq] [.Constant (.int 1) 0 t8] t9] [] w1) w2] 0 w3)) w4) (tS X.K Z 0 cTell) :=
    s_ret (d_tup (d_cons (d_idxU hu (d_lst (d_cons d_str (d_cons (d_idxU hu (d_bin ob_add d_var (d_lst (d_cons d_str d_nil))) d_int) d_nil))) (d_bltT bf_int bi.int (o_cons (d_cmp (oc_eqU hu) (d_bltB bf_len bi.len (o_cons d_var o_nil)) d_int) o_nil))) d_nil))
  refine (pss_cons st1 (s_cons st2 (s_cons st3 s_nil))).run pins sh σ H DD I ?_
  -- the list of kinds
  refine iso_rd hs1 (er.kit c .notAllowed) (iso_rd hs1 (er.kit c .tooLarge) (iso_rd hs1 (er.kit c .missing) (iso_rd hs1 (er.kit c .badPaper) (iso_rd hs1 (k4 c) (iso_rd hs1 (k5 c) ⟨by show 6 ≤ sizeLine; decide, fun p hp => ?_⟩)))))
  obtain ⟨G, gg⟩ := R
  obtain ⟨ρ', run⟩ := suite_run c
  have g1 := gg.newO (u := .lst [.bl (decide (c = .notAllowed)), .bl (decide (c = .tooLarge)), .bl (decide (c = .missing)), .bl (decide (c = .badPaper)), .bl false, .bl false]) (o := .lst (kindsOf c)) hp (lst_oat upd_same (.cons (.bl _) (.cons (.bl _) (.cons (.bl _) (.cons (.bl _) (.cons (.bl _) (.cons (.bl _) .nil)))))))
  match σ, l5 with
  | [v0, v1, v2, v3, v4], _ =>
    have g2 := (((g1.un v4).un v3).perm ((List.Perm.cons _ (List.Perm.swap _ _ _)).trans (List.Perm.swap _ _ _)))
    refine ⟨[.un, .un, .own (.lst (kindsOf c)), .un, .un], L, Nat.zero_le _, rfl, ⟨G, (g2.un v1).un v0⟩, ?_⟩
    rw [run]
    intro σ2 v H2 _ _ R2
    exact fin v H2 (R2.subl ((List.sublist_append_right _ _).cons_cons _))
theorem told_gives {qg q : Str} {g : Addr} {cdg : Value} (er : Errs X.K X.mg cl) (bi : Bi X.mg)
    {a1 a2 a3 a4 b1 b2 b3 b4 c1 c2 c3 c4 d1 d2 d3 d4 e1 e2 e3 e4 f1 f2 f3 f4 q1 q2 q3 r1 r2 r3 r4 r5 r6 r7 r8 r9 s1 s2 s3 s4 s5 s6 t1 t2 t3 t4 t5 t6 t7 t8 t9 u1 u2 u3 u4 u5 u6 u7 u8 u9 w1 w2 w3 w4 x1 x2 x3 x4 x5 x6 x7 x8 : Pos} (hline : (t1.line == t2.line) = true) :
    Gives X toldN qg toldSc g cdg [.Try [.Return (some (.Tuple [.Constant (.str "told") 0 x1, .Call (.Name "call" x2) [] [] x3] 0 x4)) x5] [.ExceptHandler (some (.Name "EllError" x6)) (some "e")
      [.Assign [.Name "kinds" q1] (.List [isoE "NotAllowed" a1 a2 a3 a4, isoE "TooLarge" b1 b2 b3 b4, isoE "Missing" c1 c2 c3 c4, isoE "BadPaper" d1 d2 d3 d4, isoE "BadForm" e1 e2 e3 e4, isoE "Broken" f1 f2 f3 f4] q2) q3,
      .Assign [.Name "names" t1] (.ListComp (.Subscript (.List (kindNames s1 s2 s3 s4 s5 s6) r1) (.Name "k" r2) r3) [⟨.Name "k" r4, .Call (.Name "range" r5) [.Constant (.int 6) 0 r6] [] r7, [.Subscript (.Name "kinds" r8) (.Name "k" r9) t4], 0⟩] listSc t2) t3,
      .Return (some (.Tuple [.Subscript (.List [.Constant (.str "odd") 0 u1, .Subscript (.BinOp (.Name "names" u2) .Add (.List [.Constant (.str "") 0 u3] u4) u5) (.Constant (.int 0) 0 u6) u7] u8) (.Call (.Name "int" u9) [.Compare (.Call (.Name "len" t5) [.Name "names" t6] [] t7) [.Eq] [.Constant (.int 1) 0 t8] t9] [] w1) w2] 0 w3)) w4] x7] [] [] x8] "call" q (TTold X.K T cl) := by
  intro f c' s H Q tl room call code want
  obtain ⟨E0, mE, top⟩ := er.top
  have nd : toldN.Nodup := by decide
  have never : L2N.Takes (gotCx X toldN qg toldSc g cdg s H).nox (fun _ _ _ _ => False) := fun u s' x => by
    obtain ⟨_, _, _, _, _, _, _, _, _, _, _, _, _, _, _, _, z⟩ := x
    exact z
  let Ech : XK := fun cls d H' => ∃ c L, cls = .ref (cl c) ∧ d = none ∧ Rep X.K T L H' ∧ ∀ v H2, Rep X.K T ((.dat (.tuple [.str (excKind c)]), some v) :: L) H2 → Q v H2
  refine ⟨_, pss_one (L2N.ps_try_as (X := (gotCx X toldN qg toldSc g cdg s H).nox) (i := 1) (c := .ref E0) (Wout := fun _ _ _ _ => False)
    (tb := fun W DD σ H => (∀ cls d σ' H', Ech cls d H' → W cls d σ' H') ∧ σ[0]? = some (some (.ref f)) ∧ H c' = some (CodeO c' q) ∧ tl Ech H fun v H1 => ([V.str "told", v] : List V).length ≤ sizeLine ∧ ∀ p, H1 p = none → DD.rt (.ref p) (upd H1 p (.tup [.str "told", v])))
    (ts := fun a cls d => tSuite X.K T cl a cls d) rfl rfl nd rfl rfl ⟨rfl, by decide, .inl mE⟩ never (fun W pn xe tk _ => ?_) (fun a oe cls d pn hz hf => suite_ok er bi room.units hz hf hline)), ?_⟩
  · refine ⟨fun pins s' σ H' DD I h' => ?_⟩
    obtain ⟨hW, h1, h2, h3⟩ := h'
    have hp := call W pn xe Ech x2 x3 tk hW
    exact (pss_one (ps_ret (pos := x5) (pe_tup (x1 := 0) (pos := x4) (pa_cons (pe_str (pos := x1)) (pa_cons hp pa_nil))))).run pins s' σ H' DD I ⟨h1, h2, h3⟩
  · exact ⟨fun cls d σ' H' ⟨c, L, e1, e2, R, fin⟩ => ⟨true, by rw [e1]; exact top c, fun _ a _ => ⟨c, L, σ', e1, e2, rfl, R, fin⟩, fun z => nomatch z⟩, rfl, code, want⟩
end
end Ell
set_option autoImplicit false
/-! Ell14: told at its place; the law's entry. -/
namespace Ell
open PySem PySem.Spec PyProof.Rows L2 LamX
open Evl (Ex)
/-- the def _law_told -/
structure ToldD (K : PySem.W.Frag) (mg : Str → Option Value) (T : List (Addr × Str)) (cl : Exc → Addr) : Prop where
  has : ∃ (g : Addr) (oc : Value) (od an : Option Addr) (osl : Array (Option Value)) (pg : Arguments) (bg : List Stmt) (dV kV doc pm cdv ct : Value), mg "_law_told" = some (.ref g) ∧ PySem.W.keepIn K (.ref g) = true ∧
    K.lookup g = some ⟨oc, od, .func (PySem.W.fnOf "_law_told" "_law_told" pg bg toldSc dV kV doc pm an cdv ct), osl⟩ ∧ PySem.W.codeIn K cdv "_law_told" = true ∧ L2.Binds K (PySem.W.fnOf "_law_told" "_law_told" pg bg toldSc dV kV doc pm an cdv ct) ["call"] [] ∧
    ∀ (X : Cx) (q : Str), X.K = K → X.mg = mg → Gives X toldN "_law_told" toldSc g cdv bg "call" q (TTold X.K T cl)
/-- the maker's code object and its table -/
structure Maker (X : Cx) (T : List (Addr × Str)) : Prop where
  has : ∃ c P, TabB X.base X.mg c P ∧ X.env.code = .ref c ∧ (P, X.env.qual ++ "<lambda>") ∈ T ∧ ∀ r ∈ T, r.1 = P → r.2 = X.env.qual ++ "<lambda>"
theorem told_scope : FnScope toldN ["call"] toldSc := ⟨rfl, rfl, rfl, by decide, rfl, by decide, by decide⟩
theorem d_told {X : Cx} {Z : Cf} {k : Nat} {params : Arguments} {body : Expr} {scope : Scope} {ca : CE} {p lpos pos : Pos} (g : XG X (k + 2)) (td : ToldD X.K X.mg Z.T Z.cl) (mk : Maker X Z.T) 
    (hb : ∀ (A : Around) (up : List Env) (s : Shared) (H : Hp) (EE : XK) (f c' : Addr), XG (lamN X A up s H EE scope f c') k → L2N.Takes (lamN X A up s H EE scope f c') (fun cls d _ H => EE cls d H) → PE (lamN X A up s H EE scope f c') body (tE X.K ⟨Z.T, Z.cl, fun cls d _ H => EE cls d H⟩ ca))
    (L : LamS X.env.scope scope := by exact lamS_by (by rfl)) (hg : Gl X "_law_told" := by rfl) (nodef : defaultsOf params X.env = ([], []) := by rfl)
    (bind0 : ∀ (q : Str) (cl : List (Str × Addr)) (pm cv ctv : Value), bindArgs (PySem.W.kla_fn "<lambda>" q params body scope cl pm cv ctv) ⟨[], []⟩ = pure [] := by intros; rfl) :
    PE X (.Call (.Name "_law_told" p) [.Lambda params body scope lpos] [] pos) (tE X.K Z (.told ca)) := by
  obtain ⟨gA, oc, od, an, osl, pg, bg, dV, kV, doc, pm, cdv, ct, h1, h2, h3, h4, h5, h6⟩ := td.has
  obtain ⟨c, P, m1, m2, m3, m4⟩ := mk.has
  refine PE.imp (lamcall (T := Z.T) (TT := TTold X.K Z.T Z.cl) (k := k) hg h1 h2 h3 h4 h5 told_scope rfl (.inl rfl) (h6 X _ rfl rfl) m1 m2 m3 m4 g.room g.grd L nodef bind0 (t := fun E => tE X.K ⟨Z.T, Z.cl, fun cls d _ H => E cls d H⟩ ca) (fun A up s H EE f c' room gd => ?_)) fun σ H Q h => tTold_of h
  exact hb A up s H EE f c' ⟨rfl, room, gd, g.nd⟩ (L2N.takes_of rfl rfl rfl rfl)
/-! ### the law's entry -/
section
variable {P : Program} {w : World} {K : PySem.W.Frag} {mg mb : Str → Option Value} {k : Nat} {f a c tb : Addr} {fd : FuncData} {x : Str} {sp : Sp} {s : Shared} {us : List Value} {ns : List Int}
/-- what is tracked: the table; the script, where the module doesn't hold it -/
def hp0 (K : PySem.W.Frag) (tb a : Addr) (us : List Value) (ns : List Int) : Hp := fun b => if b = tb then some (.tbl #[]) else if b = a ∧ (K.lookup a).isNone = true then some (.frz { cls := .type "list", data := .seq us.toArray } (.lst (ns.map V.int))) else none
theorem enter_law (kin : K.In s.heap) (nsM : s.heap.Ns mainGlobals mg) (nsB : s.heap.Ns builtinsNs mb) (std : ∀ y : Str, y ≠ "__name__" → mb y = bootBuiltins y) (free : s.heap.NoLimit) (gens : s.gens = #[])
    (tab : s.heap.get? tb = some { cls := .none, data := .fields #[] }) (tabK : K.lookup tb = none) (code : PySem.W.CodeHd s.heap c tb)
    (mod : ∃ (bm : Addr) (ob : Obj), mg "__builtins__" = some (.ref bm) ∧ bm ≠ builtinsNs ∧ s.heap.get? bm = some ob ∧ ob.cls = .type "module" ∧ ob.dict = some builtinsNs ∧ ob.data = .plain)
    (scr : s.heap.get? a = some { cls := .type "list", data := .seq us.toArray }) (nums : IntsAre us ns) (short : ns.length ≤ sizeLine) (room : Room k callerA)
    (F : ∀ base : Heap, K.In base → base.Ns mainGlobals mg → TabB base mg c tb → FOk P w K mg base k f fd [x] sp) (bd : ∀ u : Value, BindsTo s fd ⟨[u], []⟩ [(x, u)])
    (want : ∀ H : Hp, H tb = some (.tbl #[]) → SqL K H a (ns.map V.int) → a ≠ tb → (∀ b o, H b = some o → b = tb ∨ ∀ ps, o ≠ .tbl ps) → sp [.ref a] H (fun v _ => v = .bl true) fun _ _ _ => False) :
    codeAny (model P w) callerA (.call (.ref f) ⟨[.ref a], []⟩) (fun r s' => r = .ok (.ret (.bool true)) ∧ OldK s.heap s'.heap ∧ s'.os = s.os ∧ AllBare s'.gens) s := by
  have vals := vals_ints nums
  have many := nums.length
  have apart : a ≠ tb := fun z => by
    rw [z, tab] at scr
    cases scr
  generalize hH : hp0 K tb a us ns = H
  have atT : H tb = some (.tbl #[]) := by rw [← hH]; exact if_pos rfl
  have atA : (K.lookup a).isNone = true → H a = some (.frz { cls := .type "list", data := .seq us.toArray } (.lst (ns.map V.int))) := fun z => by rw [← hH]; exact (if_neg apart).trans (if_pos ⟨rfl, z⟩)
  have only : ∀ b o, H b = some o → (b = tb ∧ o = .tbl #[]) ∨ (b = a ∧ (K.lookup a).isNone = true ∧ o = .frz { cls := .type "list", data := .seq us.toArray } (.lst (ns.map V.int))) := fun b o e => by
    rw [← hH] at e
    by_cases h1 : b = tb
    · exact .inl ⟨h1, (Option.some.inj ((if_pos h1).symm.trans e)).symm⟩
    · have e := (if_neg h1).symm.trans e
      by_cases h2 : b = a ∧ (K.lookup a).isNone = true
      · exact .inr ⟨h2.1, h2.2, (Option.some.inj ((if_pos h2).symm.trans e)).symm⟩
      · exact nomatch (if_neg h2).symm.trans e
  -- what is no list and no empty record isn't tracked
  have loose : ∀ {b : Addr} {o : Obj}, s.heap.get? b = some o → (∀ vs n, o.data ≠ .seq vs n) → o.data ≠ .fields #[] → H b = none := fun {b o} e n1 n2 => by
    cases q : H b with
    | none => rfl
    | some u =>
      rcases only b u q with ⟨z, _⟩ | ⟨z, _⟩
      · rw [z, tab] at e; cases e; exact absurd rfl n2
      · rw [z, scr] at e; cases e; exact absurd rfl (n1 _ _)
  have dicts : ∀ {b : Addr} {m : Str → Option Value}, s.heap.Ns b m → (hidT s.heap H).Ns b m := fun {b m} ⟨o, es, ep, e, d, r⟩ => ⟨o, es, ep, hidT_get e (loose e (fun _ _ z => by rw [d] at z; cases z) fun z => by rw [d] at z; cases z), d, r⟩
  have kinB : K.In (hidT s.heap H) := fun b o e => hidT_get (kin b o e) (by
    cases q : H b with
    | none => rfl
    | some u =>
      rcases only b u q with ⟨z, _⟩ | ⟨z, z2, _⟩
      · rw [z, tabK] at e; cases e
      · rw [z] at e; rw [e] at z2; cases z2)
  have modB : L2.Mod K mg (hidT s.heap H) := ⟨kinB, dicts nsM, ⟨mb, dicts nsB, std⟩, let ⟨mc, h1, h2⟩ := free; ⟨mc, dicts h1, h2⟩⟩
  have tabB : TabB (hidT s.heap H) mg c tb := by
    refine ⟨?_, ?_, fun z => ?_⟩
    · obtain ⟨o, vs, file, tf, flags, tg, inF, text, tt, e1, r1, r2, r3, r4, r5, r6, r7, r8, hne⟩ := code
      refine ⟨o, vs, file, tf, flags, tg, inF, text, tt, hidT_get e1 (loose e1 (fun _ _ z => by rw [r2] at z; cases z) fun z => by rw [r2] at z; cases z; simp at r3), r1, r2, r3, r4, r5, r6, r7, r8, hne⟩
    · obtain ⟨bm, ob, m1, m2, m3, m4, m5, m6⟩ := mod
      refine ⟨bm, ob, m1, m2, fun q => ?_, fun q => ?_, hidT_get m3 (loose m3 (fun _ _ z => by rw [m6] at z; cases z) fun z => by rw [m6] at z; cases z), m4, m5, m6⟩
      · obtain ⟨o, es, ep, e, hd, _⟩ := nsM
        rw [q, e] at m3; cases m3
        rw [hd] at m6; cases m6
      · rw [q, tab] at m3; cases m3
        cases m6
    · obtain ⟨o, es, ep, e, hd, _⟩ := nsM
      rw [z, tab] at e; cases e
      cases hd
  have hok : HOk P w H s.heap := fun b u e => by
    rcases only b u e with ⟨z, z2⟩ | ⟨z, _, z2⟩
    · subst z; subst z2; exact tab
    · subst z; subst z2; exact ⟨scr, by rw [List.length_map]; exact short, us, _, vals, scr⟩
  have seq : SqL K H a (ns.map V.int) := by
    cases q : K.lookup a with
    | none => exact .inl (.inr ⟨_, atA (by rw [q]; rfl)⟩)
    | some o =>
      have e := kin a o q
      rw [scr] at e; cases e
      exact .inr ⟨_, us.toArray, _, q, rfl, rfl, rfl, by rw [List.size_toArray, many]; exact short, by simpa using vals⟩
  have env : Env0 P w K mg (hidT s.heap H) callerA [] s H := ⟨rfl, modB, fun b o e => of_hidT e, Nat.le_of_eq (hidT_size _ _), trivial, fun b hb => absurd (show b ∈ ([] : List Addr) from hb) (by simp), hok, .of_eq gens⟩
  refine codeAny_mono ((F _ kinB (dicts nsM) tabB).does callerA [] s H ⟨[.ref a], []⟩ [.ref a] [.ref a] _ _ room rfl env (bd _) (.cons rfl .nil) (want H atT seq apart fun b o e => (only b o e).imp (·.1) fun z ps z2 => by rw [z.2.2] at z2; cases z2)) fun r s2 got => ?_
  cases r with
  | error e =>
    obtain ⟨_, _, _, _, _, _, _, _, _, _, _, _, z⟩ := got
    exact z.elim
  | ok flow =>
    cases flow with
    | next => exact False.elim got
    | brk => exact False.elim got
    | cont => exact False.elim got
    | ret u =>
      obtain ⟨v, H2, os, bare, un, hok2, rv, q⟩ := got
      have q : v = .bl true := q
      subst q
      obtain rfl : u = Value.bool true := rv
      obtain ⟨more, grew⟩ : ∃ more : Array Value, s2.heap.get? tb = some { cls := .none, data := .fields more } := by
        obtain ⟨more, z⟩ := un.tbls tb #[] atT
        exact ⟨_, hok2 tb _ z⟩
      have stays : ∀ b o, b ≠ tb → s.heap.get? b = some o → s2.heap.get? b = some o := fun b o nb e => by
        cases q : H b with
        | none => exact un.keep b o e q (fun z => absurd (show b ∈ ([] : List Addr) from z) (by simp)) (by simp)
        | some u =>
          rcases only b u q with ⟨z, _⟩ | ⟨z, z1, z2⟩
          · exact absurd z nb
          · rw [z2] at q
            have e2 := (hok2 b _ (un.frzs b _ _ q)).1
            rw [z, scr] at e
            cases e
            exact e2
      refine ⟨rfl, ⟨fun b o e => ?_, fun b o e => ?_⟩, os, bare⟩
      · by_cases hb : b = tb
        · rw [hb] at e ⊢
          rw [tab] at e
          cases e
          exact .inr (.inl ⟨(code.tab tab).isCodeTable, rfl, #[], more, rfl, by rw [Array.empty_append]; exact grew⟩)
        · exact .inl (stays b o hb e)
      · by_cases hb : b = tb
        · rw [hb]; exact ⟨_, grew⟩
        · exact ⟨o, stays b o hb e⟩
end
end Ell
set_option autoImplicit false
/-! Ell15: the defs as the head finds them; the law's walk. -/
namespace Ell
open PySem PySem.Spec PyProof.Rows L2 LamX
open Evl (Ex)
/-- a def of the text as the head has it -/
structure Has (K : PySem.W.Frag) (x : Str) (st : Stmt) : Prop where
  has : ∃ (f : Addr) (oc : Value) (od : Option Addr) (kV doc pm : Value) (an : Option Addr) (cdv ct : Value) (osl : Array (Option Value)), PySem.W.nsIn K mainGlobals x = some (some (.ref f)) ∧
    K.lookup f = some ⟨oc, od, .func (PySem.W.fnOf x x (defArgs st) (defBody st) (defScope st) .none kV doc pm an cdv ct), osl⟩ ∧ PySem.W.codeIn K cdv x = true ∧ PySem.W.keepIn K (.ref f) = true
theorem code_of {K : PySem.W.Frag} {x : Str} {f c P : Addr} {oc dV kV doc pm cdv ct : Value} {od an : Option Addr} {osl : Array (Option Value)} {q : Str} {pg : Arguments} {bg : List Stmt} {sg : Scope} (a : PySem.W.nsIn K mainGlobals x = some (some (.ref f))) (l : K.lookup f = some ⟨oc, od, .func (PySem.W.fnOf x q pg bg sg dV kV doc pm an cdv ct), osl⟩)
    (t : PySem.W.tabIn K x = some (c, P)) : cdv = .ref c := by
  unfold PySem.W.tabIn at t
  rw [a] at t
  dsimp only at t
  rw [l] at t
  revert t
  cases cdv with
  | ref c' =>
    intro t
    dsimp only [PySem.W.fnOf] at t
    split at t
    · split at t
      · cases t; rfl
      · cases t
    · cases t
  | _ => intro t; cases t
section
variable {P : Program} {w : World} {K : PySem.W.Frag} {mg : Str → Option Value} {base h : Heap} {T : List (Addr × Str)} {cl : Exc → Addr}
/-- how the parameters bind: for all positional ones -/
abbrev BindsAll (x : Str) (st : Stmt) (ps : List Str) : Prop := ∀ (kV doc pm : Value) (an : Option Addr) (cdv ct : Value) (us : List Value), us.length = ps.length → bindArgs (PySem.W.fnOf x x (defArgs st) (defBody st) (defScope st) .none kV doc pm an cdv ct) ⟨us, []⟩ = pure (ps.zip us)
/-- the context of a body -/
abbrev bodyCx (P : Program) (w : World) (K : PySem.W.Frag) (mg : Str → Option Value) (base : Heap) (N : List Str) (x : Str) (st : Stmt) (f : Addr) (cdv : Value) (A : Around) (up : List Env) (s0 : Shared) (H0 : Hp) (EE : XK) : Cx := cxOf (L2N.CX P w) P w K mg base N x (defScope st) f cdv A up s0 H0 EE
/-- the body of x has the core form b -/
def Body (P : Program) (w : World) (K : PySem.W.Frag) (mg : Str → Option Value) (base : Heap) (T : List (Addr × Str)) (cl : Exc → Addr) (k : Nat) (N : List Str) (x : Str) (st : Stmt) (b : CS) : Prop :=
  ∀ (f : Addr) (cdv : Value) (A : Around) (up : List Env) (s0 : Shared) (H0 : Hp) (EE : XK), (∀ c tb, PySem.W.tabIn K x = some (c, tb) → cdv = .ref c) → XG (bodyCx P w K mg base N x st f cdv A up s0 H0 EE) k → L2N.Takes (bodyCx P w K mg base N x st f cdv A up s0 H0 EE) (fun cls d _ H => EE cls d H) →
    PassesOwn (model P w) (bodyCx P w K mg base N x st f cdv A up s0 H0 EE).A (bodyCx P w K mg base N x st f cdv A up s0 H0 EE).env (bodyCx P w K mg base N x st f cdv A up s0 H0 EE).xe → PSs (bodyCx P w K mg base N x st f cdv A up s0 H0 EE) (defBody st) (tS K ⟨T, cl, fun cls d _ H => EE cls d H⟩ N.length b)
theorem fok_has {k : Nat} {N ps : List Str} {x : Str} {st : Stmt} {b : CS} {F : Fn} (hs : Has K x st) (kin : K.In h) (ns : h.Ns mainGlobals mg) (S : FnScope N ps (defScope st)) (bd : BindsAll x st ps) (har : F.arity = ps.length)
    (hrun : ∀ args, args.length = F.arity → F.run args = .stuck ∨ F.run args = runB N.length b args) (hb : Body P w K mg base T cl k N x st b) :
    ∃ (f : Addr) (fd : FuncData), mg x = some (.ref f) ∧ PySem.W.keepIn K (.ref f) = true ∧ Binds K fd ps [] ∧ FOk P w K mg base (k + 1) f fd ps (spOf K T cl F) ∧ PySem.W.nsIn K mainGlobals x = some (some (.ref f)) := by
  obtain ⟨f, oc, od, kV, doc, pm, an, cdv, ct, osl, h1, h2, h3, h4⟩ := hs.has
  exact ⟨f, _, PySem.W.mg_of kin ns h1, h4, .all (bd kV doc pm an cdv ct), fok_of h2 h3 S har hrun (fun A up s0 H0 EE g tk pa => hb f cdv A up s0 H0 EE (fun c tb t => code_of h1 h2 t) g tk pa), h1⟩
/-- THE RULE of a def of the text -/
theorem def_of {k : Nat} {N ps : List Str} {x : Str} {st : Stmt} {b : CS} {F : Fn} (hs : Has K x st) (kin : K.In h) (ns : h.Ns mainGlobals mg) (S : FnScope N ps (defScope st)) (bd : BindsAll x st ps) (har : F.arity = ps.length)
    (hrun : ∀ args, args.length = F.arity → F.run args = .stuck ∨ F.run args = runB N.length b args) (hb : Body P w K mg base T cl k N x st b) : Def P w K mg base T cl (k + 1) x F := by
  obtain ⟨f, fd, a, b, c, d, e⟩ := fok_has hs kin ns S bd har hrun hb
  exact ⟨f, fd, ps, a, b, c, d, e⟩
/-- a def that tells nothing keeps its word -/
theorem def_stuck {k : Nat} {ps : List Str} {x : Str} {st : Stmt} {F : Fn} (hs : Has K x st) (kin : K.In h) (ns : h.Ns mainGlobals mg) (bd : BindsAll x st ps) (hF : ∀ args, F.run args = .stuck) : Def P w K mg base T cl k x F := by
  obtain ⟨f, oc, od, kV, doc, pm, an, cdv, ct, osl, h1, h2, h3, h4⟩ := hs.has
  have no : ∀ vs H Q E, ¬ spOf K T cl F vs H Q E := fun vs H Q E z => by
    obtain ⟨args, fr, _, _, _, z⟩ := z
    rw [hF] at z
    exact z
  exact ⟨f, _, ps, PySem.W.mg_of kin ns h1, h4, .all (bd kV doc pm an cdv ct), ⟨fun zs H0 QQ EE z => absurd z (no _ _ _ _), fun A up s0 H0 args ws zs QQ EE _ _ _ _ _ z => absurd z (no _ _ _ _)⟩, h1⟩
/-- a def that calls itself, to a depth -/
theorem def_rec {L : Nat} {N ps : List Str} {x : Str} {st : Stmt} {bF : Fn → CS} {cF : Nat → Fn} (hs : Has K x st) (kin : K.In h) (ns : h.Ns mainGlobals mg) (S : FnScope N ps (defScope st)) (bd : BindsAll x st ps) (har : ∀ k, (cF k).arity = ps.length)
    (h0 : ∀ args, (cF 0).run args = .stuck) (hS : ∀ k, (cF (k + 1)).run = runB N.length (bF (cF k))) (hb : ∀ k, Def P w K mg base T cl (L + k) x (cF k) → Body P w K mg base T cl (L + k) N x st (bF (cF k))) : ∀ k, Def P w K mg base T cl (L + k) x (cF k)
  | 0 => def_stuck hs kin ns bd h0
  | k + 1 => def_of hs kin ns S bd (har (k + 1)) (fun _ _ => .inr (by rw [hS])) (hb k (def_rec hs kin ns S bd har h0 hS hb k))
/-! ### the law -/
/-- the law's def tells True of a script -/
theorem law_want {F : Fn} {a tb : Addr} {q : Str} {ns : List Int} {H : Hp} (har : F.arity = 1) (hrun : ∃ o, F.run [.ro (ns.map PyData.int)] = .ok (.dat (.bool true)) o) (atT : H tb = some (.tbl #[])) (seq : SqL K H a (ns.map V.int)) (apart : a ≠ tb) (only : ∀ b o, H b = some o → b = tb ∨ ∀ ps, o ≠ .tbl ps) :
    spOf K [(tb, q)] cl F [.ref a] H (fun v _ => v = .bl true) fun _ _ _ => False := by
  obtain ⟨o, hrun⟩ := hrun
  refine ⟨[.ro (ns.map PyData.int)], [], by rw [har]; rfl, by rw [har]; rfl, ⟨fun b => if b = tb then none else H b, fun b u e => ?_, fun b ps e => ?_, fun p hp => ?_, by simp [adr], ?_⟩, ?_⟩
  · by_cases hb : b = tb
    · have e := (if_pos hb).symm.trans e; cases e
    · exact (if_neg hb).symm.trans e
  · by_cases hb : b = tb
    · have e := (if_pos hb).symm.trans e; cases e
    · have e := (if_neg hb).symm.trans e
      exact (only b _ e).elim hb fun z => z ps rfl
  · have ep : p = (.ro (ns.map PyData.int), some (.ref a)) := by simpa using hp
    subst ep
    refine ⟨a, ns.map V.int, rfl, ?_, Iss.of_ints ns⟩
    rcases seq with (s | ⟨o, s⟩) | s
    · exact .inl (.inl ((if_neg apart).trans s))
    · exact .inl (.inr ⟨o, (if_neg apart).trans s⟩)
    · exact .inr s
  · intro p hp
    have e : p = (tb, q) := by simpa using hp
    subst e
    exact TabS.nil atT
  · rw [hrun]
    intro v H' R
    obtain ⟨G, g⟩ := R
    obtain ⟨v', ev, w⟩ := g.good _ List.mem_cons_self
    cases ev
    cases w
    rfl
end
/-- THE RULE of a law -/
theorem walk_law {l : PySem.W.OpenLaw} {n k : Nat} {q : Program} {loose : List Str} {XP : (Str → Option Value) → Heap → Prop} {YP : World → Heap → Prop} {d dd : DefRec} {K : Params → PySem.W.Frag} {x y lq : Str} {st : Stmt} {N : List Str} {b : CS}
    (most : l.most = some n) (size : n ≤ sizeLine) (nodef : d.params.defaults = []) (named : d.name = x) (room : Room (k + 1) callerA) (hY : ∀ (w : World) (h : Heap), YP w h → (K w.params).In h) (find : (recsOf q).find? (fun e => e.name == x) = some dd)
    (S : FnScope N [y] (defScope st)) (bd : BindsAll x st [y])
    (facts : ∀ (w : World) (h : Heap) (mg : Str → Option Value), (K w.params).In h → h.Ns mainGlobals mg → ∃ (c tb : Addr) (cl : Exc → Addr), PySem.W.tabIn (K w.params) x = some (c, tb) ∧ (K w.params).lookup tb = none ∧ Has (K w.params) x st ∧
      ∀ base : Heap, (K w.params).In base → base.Ns mainGlobals mg → TabB base mg c tb → Body l.prog w (K w.params) mg base [(tb, lq)] cl k N x st b)
    (pure_ : ∀ ns : List Int, ns.length ≤ n → (∀ z ∈ ns, Builtin.Int.intBits z ≤ 1048576) → ∃ o, runB N.length b [.ro (ns.map PyData.int)] = .ok (.dat (.bool true)) o) :
    PySem.W.WalkO q loose XP YP l.row.toRowW d [] (fun f vs => PySem.call f vs) := by
  refine Att.attach_callB most nodef fun w s₀ s₁ mg mb fa o pm cd doc a vs ns G Y ho hd hcd hmg hobj hnums hlen hbits hg => ?_
  have kin := hY w _ Y
  obtain ⟨c, tb, cl, t1, t2, t3, t4⟩ := facts w _ mg kin G.T.g
  obtain ⟨f, oc, od, kV, dc, pm', an, cdv, ct, osl, h1, h2, h3, h4⟩ := t3.has
  have e := hmg.symm.trans ((congrArg mg named).trans (PySem.W.mg_of kin G.T.g h1))
  cases e
  obtain ⟨code, tab⟩ := PySem.W.tab_of G.T kin find t1
  refine enter_law kin G.T.g G.T.b G.T.builtins G.T.nolimit hg tab t2 code G.T.bmain hobj hnums (Nat.le_trans hlen size) room (k := k + 1) (x := y) (sp := spOf (K w.params) [(tb, lq)] cl ⟨x, 1, runB N.length b⟩)
    (fun base kb nb tB => fok_of (F := ⟨x, 1, runB N.length b⟩) h2 h3 S rfl (fun args _ => .inr rfl) fun A up s0 H0 EE g tk pa => t4 base kb nb tB fa cdv A up s0 H0 EE (fun c' tb' t => code_of h1 h2 t) g tk pa)
    (fun u => .of_eq (bd kV dc pm' an cdv ct [u] rfl)) fun H atT seq apart only => law_want rfl (pure_ ns hlen hbits) atT seq apart only
/-- the law's body makes its lambdas by the code object at c -/
theorem maker_of {P : Program} {w : World} {K : PySem.W.Frag} {mg : Str → Option Value} {base : Heap} {N : List Str} {x lq : Str} {st : Stmt} {f c tb : Addr} {cdv : Value} {A : Around} {up : List Env} {s0 : Shared} {H0 : Hp} {EE : XK} (t : PySem.W.tabIn K x = some (c, tb)) (tB : TabB base mg c tb)
    (hc : ∀ c tb, PySem.W.tabIn K x = some (c, tb) → cdv = .ref c) (hq : (bodyCx P w K mg base N x st f cdv A up s0 H0 EE).env.qual ++ "<lambda>" = lq) : Maker (bodyCx P w K mg base N x st f cdv A up s0 H0 EE) [(tb, lq)] :=
  ⟨c, tb, tB, hc c tb t, by rw [hq]; simp, fun r hr _ => by
    have er : r = (tb, lq) := by simpa using hr
    rw [hq, er]⟩
end Ell
set_option autoImplicit false
/-! Ell16: comprehensions at their place, small helps for the printed bodies. -/
namespace Ell
open PySem PySem.Spec PyProof.Rows L2 LamX
open Evl (Ex)
section
variable {X : Cx} {Z : Cf} {k n : Nat}
theorem XG.le {j : Nat} (g : XG X k) (h : j ≤ k) : XG X j := ⟨g.calm, g.room.mono h, g.grd, g.nd⟩
theorem XG.blk (g : XG X k) {s : Shared} {H : Hp} {sc : Scope} {ce : Env} {fp : List Addr} : XG (X.blk s H sc ce fp) k := ⟨g.calm, g.room, g.grd, g.nd⟩
theorem tk_no {Y : Cx} : L2N.Takes Y (fun _ _ _ _ => False) := fun u s' x => by
  obtain ⟨_, _, _, _, _, _, _, _, _, _, _, _, _, _, _, _, z⟩ := x
  exact z.elim
theorem pts_1 {c : Expr} {cc : CE} (h : PT X c (tT X.K Z cc)) : PTs X [c] (tT X.K Z cc) := pts_one h
/-- a comprehension as a value -/
theorem d_lc {elt tg iter : Expr} {ifs : List Expr} {scope : Scope} (own : List (Str × Nat)) {pos : Pos} {t : Tgt} {ci cc ce : CE} (g : XG X k) (hi : PI X tg iter (tI X.K Z ci)) (hg : Bk X scope fun Y => PG Y tg (tgG X.K Z.no t)) (ht : Bk X scope fun Y => PTs Y ifs (tT X.K Z.no cc)) (he : Bk X scope fun Y => PE Y elt (tE X.K Z.no ce))
    (ok : blkC X.N X.env.scope scope own = true := by rfl) (nd : (own.map (·.2)).Nodup := by decide) (hts : ∀ i ∈ tsl t, i ∈ own.map (·.2) := by decide) (hs : ∀ x, foldedSetIterable iter X.env x = pure x := by intro _; rfl) :
    PE X (.ListComp elt [⟨tg, iter, ifs, 0⟩] scope pos) (tE X.K Z (.lc t ci cc ce (own.map (·.2)))) := by
  refine ⟨fun pn s σ H Q J h => (pe_lc g.calm g.nd hi (blkOk_by ok) hg ht (fun s H C cl fp => show PE _ _ (tD X.K Z.no (evP ce)) from pe_D (he s H C cl fp)) hs).run pn s σ H Q J ?_⟩
  exact tLc_of nd hts (lc_len (blkOk_by ok) (Nat.le_of_eq J.len.symm)) h
/-- name = [..] where the machine stores it by itself -/
theorem s_lc {elt tg iter : Expr} {ifs : List Expr} {scope : Scope} (own : List (Str × Nat)) {pos py spos : Pos} {i : Nat} {y : Str} {t : Tgt} {ci cc ce : CE} (g : XG X k) (hi : PI X tg iter (tI X.K Z ci)) (hg : Bk X scope fun Y => PG Y tg (tgG X.K Z.no t)) (ht : Bk X scope fun Y => PTs Y ifs (tT X.K Z.no cc)) (he : Bk X scope fun Y => PE Y elt (tE X.K Z.no ce))
    (hy : X.N[i]? = some y := by rfl) (hyl : X.env.scope.names.lookup y = some .local := by rfl) (hk : X.env.scope.kind = .function := by rfl) (hline : (py.line == pos.line) = true := by rfl) (ha : (scope.names.any fun (n, k) => n == y && (k == .local || k == .cell)) = false := by rfl)
    (ok : blkC X.N X.env.scope scope own = true := by rfl) (nd : (own.map (·.2)).Nodup := by decide) (hts : ∀ i ∈ tsl t, i ∈ own.map (·.2) := by decide) (hs : ∀ x, foldedSetIterable iter X.env x = pure x := by intro _; rfl) :
    PS X (.Assign [.Name y py] (.ListComp elt [⟨tg, iter, ifs, 0⟩] scope pos) spos) (tS X.K Z n (.set i (.lc t ci cc ce (own.map (·.2))))) := by
  refine ⟨fun pn s σ H DD J h => (ps_setLc g.calm g.nd hy hyl (sw_true hk hyl hline ha) hi (blkOk_by ok) hg ht (fun s H C cl fp => show PE _ _ (tD X.K Z.no (evP ce)) from pe_D (he s H C cl fp)) hs).run pn s σ H DD J ?_⟩
  exact tLc_of nd hts (lc_len (blkOk_by ok) (Nat.le_of_eq J.len.symm)) (tM_of (asg_of h))
theorem g_tp' {es : List Expr} {t : Tgt} {kk : Nat} {pos : Pos} (g : XG X k) (h : PGs X es (tgGs X.K Z t)) (ht : tlen t = es.length := by rfl) (hn : (assignEach es X.env).length = es.length := by rfl) (hst : (assignEach es X.env).findIdx? (·.1) = none := by rfl) : PG X (.Tuple es kk pos) (tgG X.K Z (.tp t)) := g_tp g.calm h ht hn hst
theorem s_augA {a : Nat} {x : Str} {e : Expr} {c : CE} {p1 pos : Pos} (g : XG X k) (he : PE X e (tE X.K Z c)) (hN : X.N[a]? = some x := by rfl) (hx : Loc X.env.scope x := by first | exact Or.inl rfl | exact Or.inr rfl) (hfn : X.fn x = true ∨ X.env.scope.names.lookup x = some .local := by first | exact .inl rfl | exact .inr rfl) :
    PS X (.AugAssign (.Name x p1) .Add e pos) (tS X.K Z n (.aug a .add c)) := s_aug ip_add (fun _ _ => rfl) g.nd he hN hx hfn
theorem s_augS {a : Nat} {x : Str} {e : Expr} {c : CE} {p1 pos : Pos} (g : XG X k) (he : PE X e (tE X.K Z c)) (hN : X.N[a]? = some x := by rfl) (hx : Loc X.env.scope x := by first | exact Or.inl rfl | exact Or.inr rfl) (hfn : X.fn x = true ∨ X.env.scope.names.lookup x = some .local := by first | exact .inl rfl | exact .inr rfl) :
    PS X (.AugAssign (.Name x p1) .Sub e pos) (tS X.K Z n (.aug a .sub c)) := s_aug ip_sub (fun _ _ => rfl) g.nd he hN hx hfn
/-- a class of errors without an __init__ of its own -/
structure Rz (K : PySem.W.Frag) (mg : Str → Option Value) (x : Str) (C : Addr) : Prop where
  at_ : mg x = some (.ref C)
  kp : PySem.W.keepIn K (.ref C) = true
  ex : ∃ B newId initId bmB, ExcBaseFacts B newId initId bmB ∧ PySem.W.excIn K C bmB newId = true
  sub : PySem.W.subIn K (.ref C) (.type "BaseException") = some true
  ty : PySem.W.typeIn K (.ref C) = some (.type "type")
/-- raise C('..') -/
theorem s_raiseC {ex : Exc} {x m : Str} {j : Nat} {p p2 p3 pos : Pos} (g : XG X k) (tk : L2N.Takes X Z.W) (z : Rz X.K X.mg x (Z.cl ex)) (hg : Gl X x := by rfl) (hdb : (x == ("__debug__" : Str)) = false := by decide) :
    PS X (.Raise (some (.Call (.Name x p) [.Constant (.str m) j p2] [] p3)) none pos) (tS X.K Z n (.raise ex)) := by
  obtain ⟨B, newId, initId, bmB, f, q⟩ := z.ex
  exact s_raise g.calm tk (L2N.pmk_own f q z.at_ z.kp (raises_own z.sub z.ty) hg hdb)
end
end Ell
set_option autoImplicit false
/-! Ell17: errors, constants and _law_told as the head has them. -/
namespace Ell
open PySem PySem.Spec PyProof.Rows L2 LamX
open Evl (Ex)
def clOf (C0 C1 C2 C3 : Addr) : Exc → Addr
  | .notAllowed => C0
  | .tooLarge => C1
  | .missing => C2
  | .badPaper => C3
/-- one raised class C; E0 the class that is caught; the six that are asked -/
structure Err1 (K : PySem.W.Frag) (E0 C C0 C1 C2 C3 C4 C5 : Addr) (b0 b1 b2 b3 : Bool) : Prop where
  ex : PySem.W.exmOne K (.ref C) (.ref E0) = some true
  hg : PySem.W.findIn K (.ref C) "__getattribute__" = some (some (.builtin "BaseException.__getattribute__"))
  hk : PySem.W.findIn K (.ref C) "__getattr__" = some none
  hs : PySem.W.subIn K (.ref C) (.type "BaseException") = some true
  hd : PySem.W.hasDictIn K C = true
  ha : PySem.W.findIn K (.ref C) "__class__" = some (some (.builtin "object.__class__"))
  hm : PySem.W.mroIn K C (.type "object") = some true
  kp : PySem.W.keepIn K (.ref C) = true
  ty : PySem.W.typeIn K (.ref C) = some (.type "type")
  i0 : PySem.W.kitOne K (.ref C) (.ref C0) = some b0
  i1 : PySem.W.kitOne K (.ref C) (.ref C1) = some b1
  i2 : PySem.W.kitOne K (.ref C) (.ref C2) = some b2
  i3 : PySem.W.kitOne K (.ref C) (.ref C3) = some b3
  i4 : PySem.W.kitOne K (.ref C) (.ref C4) = some false
  i5 : PySem.W.kitOne K (.ref C) (.ref C5) = some false
  xi : ∃ bmB, ExcBaseFacts "ValueError" "ValueError.__new__" "ValueError.__init__" bmB ∧ PySem.W.excIn K C bmB "ValueError.__new__" = true
structure ErrF (K : PySem.W.Frag) (E0 C0 C1 C2 C3 C4 C5 : Addr) : Prop where
  nE : PySem.W.nsIn K mainGlobals "EllError" = some (some (.ref E0))
  n0 : PySem.W.nsIn K mainGlobals "NotAllowed" = some (some (.ref C0))
  n1 : PySem.W.nsIn K mainGlobals "TooLarge" = some (some (.ref C1))
  n2 : PySem.W.nsIn K mainGlobals "Missing" = some (some (.ref C2))
  n3 : PySem.W.nsIn K mainGlobals "BadPaper" = some (some (.ref C3))
  n4 : PySem.W.nsIn K mainGlobals "BadForm" = some (some (.ref C4))
  n5 : PySem.W.nsIn K mainGlobals "Broken" = some (some (.ref C5))
  hn : PySem.W.specialIn K (.builtin "object.__class__") "__get__" = some (some (.builtin "getset_descriptor.__get__"))
  ht : PySem.W.takesIn K (.builtin "object.__class__") = some true
  e0 : Err1 K E0 C0 C0 C1 C2 C3 C4 C5 true false false false
  e1 : Err1 K E0 C1 C0 C1 C2 C3 C4 C5 false true false false
  e2 : Err1 K E0 C2 C0 C1 C2 C3 C4 C5 false false true false
  e3 : Err1 K E0 C3 C0 C1 C2 C3 C4 C5 false false false true
section
variable {K : PySem.W.Frag} {E0 C0 C1 C2 C3 C4 C5 : Addr} {mg : Str → Option Value} {h : Heap}
theorem Err1.ec {C : Addr} {b0 b1 b2 b3 : Bool} (e : Err1 K E0 C C0 C1 C2 C3 C4 C5 b0 b1 b2 b3) (F : ErrF K E0 C0 C1 C2 C3 C4 C5) : ExcC K C := ⟨e.hg, e.hk, e.hs, e.hd, e.ha, F.hn, F.ht, e.hm⟩
theorem ErrF.errs (F : ErrF K E0 C0 C1 C2 C3 C4 C5) (kin : K.In h) (ns : h.Ns mainGlobals mg) : Errs K mg (clOf C0 C1 C2 C3) where
  top := ⟨E0, PySem.W.mg_of kin ns F.nE, fun c => by cases c; exact F.e0.ex; exact F.e1.ex; exact F.e2.ex; exact F.e3.ex⟩
  ec := fun c => by cases c; exact F.e0.ec F; exact F.e1.ec F; exact F.e2.ec F; exact F.e3.ec F
  m0 := PySem.W.mg_of kin ns F.n0
  m1 := PySem.W.mg_of kin ns F.n1
  m2 := PySem.W.mg_of kin ns F.n2
  m3 := PySem.W.mg_of kin ns F.n3
  kit := fun c d => by
    cases c
    · cases d; exact F.e0.i0; exact F.e0.i1; exact F.e0.i2; exact F.e0.i3
    · cases d; exact F.e1.i0; exact F.e1.i1; exact F.e1.i2; exact F.e1.i3
    · cases d; exact F.e2.i0; exact F.e2.i1; exact F.e2.i2; exact F.e2.i3
    · cases d; exact F.e3.i0; exact F.e3.i1; exact F.e3.i2; exact F.e3.i3
  m4 := ⟨C4, PySem.W.mg_of kin ns F.n4, fun c => by cases c; exact F.e0.i4; exact F.e1.i4; exact F.e2.i4; exact F.e3.i4⟩
  m5 := ⟨C5, PySem.W.mg_of kin ns F.n5, fun c => by cases c; exact F.e0.i5; exact F.e1.i5; exact F.e2.i5; exact F.e3.i5⟩
theorem Err1.rz {C : Addr} {b0 b1 b2 b3 : Bool} {x : Str} (e : Err1 K E0 C C0 C1 C2 C3 C4 C5 b0 b1 b2 b3) (n : PySem.W.nsIn K mainGlobals x = some (some (.ref C))) (kin : K.In h) (ns : h.Ns mainGlobals mg) : Rz K mg x C :=
  ⟨PySem.W.mg_of kin ns n, e.kp, let ⟨b, f, q⟩ := e.xi; ⟨_, _, _, b, f, q⟩, e.hs, e.ty⟩
theorem ErrF.rz0 (F : ErrF K E0 C0 C1 C2 C3 C4 C5) (kin : K.In h) (ns : h.Ns mainGlobals mg) : Rz K mg "NotAllowed" (clOf C0 C1 C2 C3 .notAllowed) := F.e0.rz F.n0 kin ns
theorem ErrF.rz1 (F : ErrF K E0 C0 C1 C2 C3 C4 C5) (kin : K.In h) (ns : h.Ns mainGlobals mg) : Rz K mg "TooLarge" (clOf C0 C1 C2 C3 .tooLarge) := F.e1.rz F.n1 kin ns
theorem ErrF.rz2 (F : ErrF K E0 C0 C1 C2 C3 C4 C5) (kin : K.In h) (ns : h.Ns mainGlobals mg) : Rz K mg "Missing" (clOf C0 C1 C2 C3 .missing) := F.e2.rz F.n2 kin ns
theorem ErrF.rz3 (F : ErrF K E0 C0 C1 C2 C3 C4 C5) (kin : K.In h) (ns : h.Ns mainGlobals mg) : Rz K mg "BadPaper" (clOf C0 C1 C2 C3 .badPaper) := F.e3.rz F.n3 kin ns
/-- a module's constant -/
structure ConstIs (K : PySem.W.Frag) (x : Str) (d : Ell.D) : Prop where
  is : ∃ (v : V) (u : Value), PySem.W.nsIn K mainGlobals x = some (some u) ∧ RelV v u ∧ ∀ G, Is K G v d
theorem ConstIs.glob {x : Str} {d : Ell.D} (c : ConstIs K x d) (kin : K.In h) (ns : h.Ns mainGlobals mg) {X : Cx} (e1 : X.mg = mg) (e2 : X.K = K) : GlobIs X x d := by
  obtain ⟨v, u, a, b, r⟩ := c.is
  exact ⟨v, u, by rw [e1]; exact PySem.W.mg_of kin ns a, b, by rw [e2]; exact r⟩
theorem const_int {x : Str} {i : Int} {t : Tok} (a : PySem.W.nsIn K mainGlobals x = some (some (.int i t))) : ConstIs K x (.int i) := ⟨⟨.int i, _, a, ⟨t, rfl⟩, fun _ => .int i⟩⟩
theorem const_str {x y : Str} {t : Tok} (a : PySem.W.nsIn K mainGlobals x = some (some (.str y t))) : ConstIs K x (.str y) := ⟨⟨.str y, _, a, ⟨t, rfl⟩, fun _ => .str y⟩⟩
/-- _law_told -/
theorem told_d {T : List (Addr × Str)} {cl : Exc → Addr} {st : Stmt} (hs : Has K "_law_told" st) (kin : K.In h) (ns : h.Ns mainGlobals mg) (er : Errs K mg cl) (bi : Bi mg) (hsc : defScope st = toldSc)
    (hbind : ∀ (kV doc pm : Value) (an : Option Addr) (cdv ct : Value) (us : List Value), us.length = ["call"].length → bindArgs (PySem.W.fnOf "_law_told" "_law_told" (defArgs st) (defBody st) (defScope st) .none kV doc pm an cdv ct) ⟨us, []⟩ = pure ((["call"] : List Str).zip us))
    (gives : ∀ (X : Cx) (q : Str) (g : Addr) (cdv : Value), Errs X.K X.mg cl → Bi X.mg → Gives X toldN "_law_told" toldSc g cdv (defBody st) "call" q (TTold X.K T cl)) : ToldD K mg T cl := by
  obtain ⟨f, oc, od, kV, doc, pm, an, cdv, ct, osl, h1, h2, h3, h4⟩ := hs.has
  have hb := hbind kV doc pm an cdv ct
  rw [hsc] at h2 hb
  exact ⟨f, oc, od, an, osl, _, _, _, kV, doc, pm, cdv, ct, PySem.W.mg_of kin ns h1, h4, h2, h3, .all hb, fun X q e1 e2 => gives X q f cdv (by rw [e1, e2]; exact er) (by rw [e2]; exact bi)⟩
theorem has_mk {x : Str} {st : Stmt} {f : Addr} {oc kV doc pm cdv ct : Value} {od an : Option Addr} {osl : Array (Option Value)} (a : PySem.W.nsIn K mainGlobals x = some (some (.ref f)))
    (l : K.lookup f = some ⟨oc, od, .func (PySem.W.fnOf x x (defArgs st) (defBody st) (defScope st) .none kV doc pm an cdv ct), osl⟩) (c : PySem.W.codeIn K cdv x = true) (k : PySem.W.keepIn K (.ref f) = true) : Has K x st := ⟨f, oc, od, kV, doc, pm, an, cdv, ct, osl, a, l, c, k⟩
theorem xi_mk {C : Addr} (q : PySem.W.excIn K C [.type "ValueError", .type "Exception", .type "BaseException", .type "object"] "ValueError.__new__" = true) : ∃ bmB, ExcBaseFacts "ValueError" "ValueError.__new__" "ValueError.__init__" bmB ∧ PySem.W.excIn K C bmB "ValueError.__new__" = true := ⟨_, PySem.F.excBase_ValueError, q⟩
/-- the law's code object c, its table tb -/
theorem tab_mk {x q : Str} {f c tb : Addr} {oc dV kV doc pm ct oc2 : Value} {od an od2 : Option Addr} {osl osl2 : Array (Option Value)} {pg : Arguments} {bg : List Stmt} {sg : Scope} {vs : Array Value} (a : PySem.W.nsIn K mainGlobals x = some (some (.ref f)))
    (l : K.lookup f = some ⟨oc, od, .func (PySem.W.fnOf x q pg bg sg dV kV doc pm an (.ref c) ct), osl⟩) (d : K.lookup c = some ⟨oc2, od2, .fields vs, osl2⟩) (e : (vs[11]? : Option Value) = some (.ref tb)) : PySem.W.tabIn K x = some (c, tb) := by
  unfold PySem.W.tabIn
  rw [a]
  dsimp only
  rw [l]
  dsimp only [PySem.W.fnOf]
  rw [d]
  dsimp only
  rw [e]
end
end Ell
set_option autoImplicit false
namespace Ell
open PySem PySem.Spec PyProof.Rows L2
abbrev sO (w : World) : Obj := { cls := .type "set", dict := none, data := .set #[] 0 (.fresh 0 0 (!w.params.followText "set-order")) }
section
variable {P : Program} {w : World} {A : Around} {E : Value → Shared → Prop} {s : Shared}
/-- what is asked of the heap behind set(..) -/
def SetPost (w : World) (h0 : Heap) (S : Addr) (ns : List Int) (h' : Heap) : Prop := (∃ c, SetR w h' S (fun j => decide (j ∈ ns)) c ∧ c ≤ ns.length) ∧ ∀ b o, h0.get? b = some o → h'.get? b = some o
theorem set_of_list {l : Addr} {its : Array Value} {ns : List Int} {Q : Value → Shared → Prop} (hd : A.handled = none) (il : s.heap.IsList l its) (ii : IntsAre its.toList ns) (few : ns.length + 1 < scanBound)
    (q : ∀ (h' : Heap) (tk : Nat), SetPost w s.heap s.heap.objs.size ns h' → Q (.ref s.heap.objs.size) { s with heap := h', toks := tk }) : wpAny (model P w) A (call (.type "set") [.ref l]) Q E s := by
  have sz : its.size = ns.length := by have := IntsAre.length ii; rwa [Array.length_toList] at this
  obtain ⟨mc, mt, mr⟩ := F.called_set.mro
  have f1 := F.called_set.made
  have f2 := F.called_set.sub
  have f3 := F.called_set.notType
  have f4 := F.called_set.canCreate
  have f5 := F.typeCall_set_1 (.ref l)
  apply wpAny_call; apply codeAny_of_tree
  show wpAny _ _ (callAny (.type "set") _) _ _ _
  apply wpAny_pure
  refine ⟨Code.quiet_builtin _ (by decide +kernel), ?_⟩
  apply codeAny_builtin F.entry_type_call
  rw [Around.under_plain (weight_type_call_type "set" [.ref l] []) rfl]
  repeat (any_goals (first | wp_step | assumption))
  have made := code_set_led1 (P := P) (w := w) (A := A.in1) (E := E) (s := s) (.ref l) (Q₁ := fun o t => o = .ref s.heap.objs.size ∧ t = { s with heap := s.heap.push (sO w) }) ⟨rfl, rfl⟩
  refine codeAny_mono made fun r t hr => ?_
  match r, hr with
  | .error e, hr => exact hr
  | .ok (.ret o), hr =>
    obtain ⟨rfl, rfl⟩ := hr
    have at0 : (s.heap.push (sO w)).get? s.heap.objs.size = some (sO w) := Heap.get?_push_size _ rfl
    have ty0 : Shared.TypeIs { s with heap := s.heap.push (sO w) } (.ref s.heap.objs.size) "set" := ⟨_, at0, rfl⟩
    have f6 := F.called_set.init.lookup
    have f7 := F.called_set.init.bind (.ref s.heap.objs.size)
    repeat (any_goals (first | wp_step | assumption))
    have told : codeAny (model P w) A.in1 (.call (.builtin "set.__init__") ⟨[.ref s.heap.objs.size, .ref l], []⟩)
        (wants (fun r t => r = .none ∧ ∃ h' tk, t = { s with heap := h', toks := tk } ∧ SetPost w s.heap s.heap.objs.size ns h') E) { s with heap := s.heap.push (sO w) } := by
      apply codeAny_call_builtin F.called_set.init.plain F.entry_set_init
      apply check_set_init_1 ty0
      obtain ⟨⟨oc, od, odt, osl⟩, hat, hcl, nn, hdt⟩ := il
      dsimp only at hcl hdt
      subst hcl hdt
      have atl := Heap.get?_push_of_some (sO w) hat
      have il1 : (s.heap.push (sO w)).IsList l its := ⟨_, atl, rfl, nn, rfl⟩
      have lS : l < s.heap.objs.size := Heap.lt_size hat
      have e1 := F.sub_list_set
      have e2 := F.sub_list_frozenset
      have e3 : (Value.type "list" == Value.type "dict") = false := by decide
      unfold Builtin.«set.__init__» noKeywords Builtin.Frozenset.updateFrom
      generalize hPy : pyIter = Py
      wp_walk
      subst hPy
      apply wpAny_pyIter_list il1
      apply wpAny_bind
      apply wpAny_runValue
      have free : ∀ B : Around, B = A.in1.in1.in1 → B.handled = none := fun B e => by subst e; exact hd
      have zz : (s.heap.push (sO w)).objs.size = s.heap.objs.size + 1 := Heap.size_push ..
      refine set_update_ints ((Walks.list (free _ rfl) (s.heap.push (sO w)).objs.size l (by rw [zz]; exact Nat.ne_of_lt (Nat.lt_succ_of_lt lS)) its).toS) s.heap.objs.size
        (by rw [zz]; simp only [List.mem_cons, List.not_mem_nil, or_false, not_or]; exact ⟨Nat.ne_of_lt (Nat.lt_succ_self _), Nat.ne_of_gt lS⟩) ns sz few (fun i v hv => ?val) (its.size - 0) 0 _ rfl (Nat.zero_le _)
        ⟨⟨_, Heap.get?_push_size _ rfl, rfl, rfl⟩, il1.push _⟩ ⟨0, Nat.le_refl 0, setR_new_at (Heap.get?_push_of_some _ at0)⟩ (fun t c mv hc R => ?fin)
      case val =>
        have lt : i < ns.length := by rw [← sz]; exact (Array.getElem?_eq_some_iff.mp hv).1
        obtain ⟨tk, e⟩ := IntsAre.int_at ii i v (by rw [Array.getElem?_toList]; exact hv)
        exact ⟨ns[i], tk, List.getElem?_eq_getElem lt, by rw [e, List.getD_eq_getElem?_getD, List.getElem?_eq_getElem lt] <;> rfl⟩
      case fin =>
        obtain ⟨th, tg, td, ttk, tos⟩ := t
        have q1 : tg = s.gens := mv.gens
        have q2 : td = s.drawn := mv.drawn
        have q3 : tos = s.os := mv.os
        subst q1 q2 q3
        show wpAny _ _ _ _ _ _
        apply wpAny_pure
        show wpAny _ _ (ret Value.none) _ _ _
        refine wpAny_pure ⟨rfl, th, ttk, rfl, ⟨c, R, by omega⟩, fun b o e => ?_⟩
        have lb : b < s.heap.objs.size := Heap.lt_size e
        refine mv.heap b o ?_ (Heap.get?_push_of_some _ (Heap.get?_push_of_some _ e))
        rw [zz]
        simp only [List.mem_cons, List.not_mem_nil, or_false, not_or]
        exact ⟨Nat.ne_of_lt lb, Nat.ne_of_lt (Nat.lt_succ_of_lt lb)⟩
    refine codeAny_mono told fun r2 t2 h2 => ?_
    match r2, h2 with
    | .error e, h2 => exact h2
    | .ok (.ret z), h2 =>
      obtain ⟨rfl, h', tk, rfl, post⟩ := h2
      repeat (any_goals (first | wp_step | assumption))
      exact q _ _ post
end
end Ell
set_option autoImplicit false
namespace Ell
open PySem PySem.Spec PyProof.Rows L2
section
variable {P : Program} {w : World} {A : Around} {E : Value → Shared → Prop} {s : Shared}
/-- sorted(a set of ints), of any size -/
theorem sorted_of_set {a : Addr} {S : Int → Bool} {n : Nat} {Q : Value → Shared → Prop} (R : SetR w s.heap a S n) (hd : A.handled = none)
    (q : ∀ (t : Shared) (p : Addr) (out : Array Value) (c : Nat) (ns : List Int), (∀ b o, s.heap.get? b = some o → t.heap.get? b = some o) → t.gens = s.gens → t.os = s.os → s.heap.objs.size ≤ p →
      t.heap.get? p = some (seqObj "list" out c) → IntsAre out.toList ns → ns.Pairwise (· < ·) → (∀ k, k ∈ ns ↔ S k = true) → ns.length = n → Q (.ref p) t) :
    wpAny (model P w) A (call (.builtin "sorted") [.ref a]) Q E s := by
  obtain ⟨o, es, ep, tb, at0, exo, dat, good, nod, mem, few, fits, rfl, ris, led⟩ := R
  apply Calls.call_function_entry kind_sorted plain_sorted entry_sorted (args_sorted1 _)
  unfold Builtin.«sorted»
  apply wpAny_bind (m := checkCount "sorted" 1 1 _)
  apply wpAny_pure
  apply wpAny_bind
  refine collect_set (A := A.in1) hd ⟨o, at0, exo.1, dat⟩ fits few ris led fun s1 vs k1 z1 g1 o1 pm => ?_
  have lv : vs.length = es.size := by rw [pm.length_eq, List.length_map, Array.length_toList]
  have ii : IntsAre vs (vs.map SrtO.iv) := SrtO.ints_iv fun v hv => by
    obtain ⟨e, he, e2⟩ := List.mem_map.mp (pm.mem_iff.mp hv)
    obtain ⟨k, tk, e3, _⟩ := good e he
    exact ⟨k, tk, e2 ▸ e3⟩
  have keys : es.toList.map keyOf = es.toList.map (fun e => SrtO.iv e.2) := List.map_congr_left fun e he => by
    obtain ⟨k, tk, e3, _⟩ := good e he
    unfold keyOf
    rw [e3] <;> rfl
  have pk : (vs.map SrtO.iv).Perm (es.toList.map keyOf) := by
    rw [keys]
    have := pm.map SrtO.iv
    rwa [List.map_map] at this
  have sz : vs.length ≤ sizeLine := by rw [lv]; exact fits_of_scanBound few
  apply wpAny_bind
  refine wpAny_newList ?_ sz
  have atL : (s1.heap.push (seqObj "list" vs.toArray 0)).get? s1.heap.objs.size = some (seqObj "list" vs.toArray 0) := Heap.get?_push_size _ rfl
  apply wpAny_bind
  apply wpAny_holding
  refine wpAny_call_entry slot_list_sort ⟨_, atL, rfl⟩ entry_list_sort (SrtO.list_sort_ord SrtO.swo_int atL sz (fun h2 => SrtO.ints_sortable ii h2) fun out h1 h2 => ⟨_, rfl, ?_⟩) (args_list_sort _)
  obtain ⟨c, hc⟩ := sortedHeap_at (vs := vs) (out := out.toArray) atL
  obtain ⟨a1, a2, a3⟩ := SrtO.ints_out ii h1 h2
  have pn := a2.trans pk
  refine wpAny_pure ⟨_, rfl, q _ s1.heap.objs.size out.toArray c _ (fun b u e => ?_) g1 o1 z1 hc a1 (lt_of_le_nodup _ a3 (pn.nodup_iff.mpr nod)) (fun k => by rw [pn.mem_iff, ← mem k]) (by rw [pn.length_eq, List.length_map, Array.length_toList])⟩
  have old := k1 b u e
  have lt := Heap.lt_size old
  show (sortedHeap (s1.heap.push (seqObj "list" vs.toArray 0)) s1.heap.objs.size vs out.toArray).get? b = some u
  rw [sortedHeap_old (Nat.ne_of_lt lt) (by rw [Heap.size_push]; exact Nat.lt_succ_of_lt lt)]
  exact Heap.get?_push_of_some _ old
end
end Ell
set_option autoImplicit false
/-! S2: sorted(set(xs)), len(set(xs)), sorted(xs) of ints. -/
namespace Ell
open PySem PySem.Spec PyProof.Rows L2
open Evl (Ex)
/-! ### plain -/
theorem mem_insS {k j : Int} : ∀ {xs : List Int}, j ∈ insS k xs ↔ j = k ∨ j ∈ xs
  | [] => by simp [insS]
  | x :: r => by
    unfold insS
    split
    · simp
    · split
      · next h => subst h; simp
      · rw [List.mem_cons, mem_insS (xs := r), List.mem_cons]
        constructor
        · rintro (h | h | h) <;> simp [h]
        · rintro (h | h | h) <;> simp [h]
theorem asc_insS {k : Int} : ∀ {xs : List Int}, xs.Pairwise (· < ·) → (insS k xs).Pairwise (· < ·)
  | [], _ => by simp [insS]
  | x :: r, h => by
    obtain ⟨h1, h2⟩ := List.pairwise_cons.mp h
    unfold insS
    split
    · next c => exact List.pairwise_cons.mpr ⟨fun y hy => (List.mem_cons.mp hy).elim (fun e => e ▸ c) fun m => Int.lt_trans c (h1 y m), h⟩
    · split
      · exact h
      · refine List.pairwise_cons.mpr ⟨fun y hy => ?_, asc_insS h2⟩
        rcases mem_insS.mp hy with e | m
        · omega
        · exact h1 y m
theorem mem_ssort {j : Int} : ∀ {xs : List Int}, j ∈ ssort xs ↔ j ∈ xs
  | [] => by simp [ssort]
  | x :: r => by
    show j ∈ insS x (ssort r) ↔ _
    rw [mem_insS, mem_ssort, List.mem_cons]
theorem asc_ssort : ∀ xs : List Int, (ssort xs).Pairwise (· < ·)
  | [] => List.Pairwise.nil
  | x :: r => asc_insS (asc_ssort r)
theorem asc_eq : ∀ {xs ys : List Int}, xs.Pairwise (· < ·) → ys.Pairwise (· < ·) → (∀ k, k ∈ xs ↔ k ∈ ys) → xs = ys
  | [], [], _, _, _ => rfl
  | [], y :: _, _, _, h => absurd ((h y).mpr List.mem_cons_self) (by simp)
  | x :: _, [], _, _, h => absurd ((h x).mp List.mem_cons_self) (by simp)
  | x :: xs, y :: ys, hx, hy, h => by
    obtain ⟨x1, x2⟩ := List.pairwise_cons.mp hx
    obtain ⟨y1, y2⟩ := List.pairwise_cons.mp hy
    have e : x = y := by
      rcases List.mem_cons.mp ((h x).mp List.mem_cons_self) with e | m
      · exact e
      · rcases List.mem_cons.mp ((h y).mpr List.mem_cons_self) with e | m2
        · exact e.symm
        · have := x1 _ m2
          have := y1 _ m
          omega
    subst e
    rw [asc_eq x2 y2 fun k => ?_]
    constructor
    · intro m
      rcases List.mem_cons.mp ((h k).mp (List.mem_cons_of_mem _ m)) with e | m2
      · have := x1 _ m; omega
      · exact m2
    · intro m
      rcases List.mem_cons.mp ((h k).mpr (List.mem_cons_of_mem _ m)) with e | m2
      · have := y1 _ m; omega
      · exact m2
theorem ssort_of {xs ns : List Int} (h : ns.Pairwise (· < ·)) (m : ∀ k, k ∈ ns ↔ decide (k ∈ xs) = true) : ns = ssort xs :=
  asc_eq h (asc_ssort xs) fun k => by rw [m k, decide_eq_true_eq, mem_ssort]
theorem perm_insI {k : Int} : ∀ {xs : List Int}, (insI k xs).Perm (k :: xs)
  | [] => .refl _
  | x :: r => by
    unfold insI
    split
    · exact .refl _
    · exact (perm_insI.cons x).trans (.swap ..)
theorem le_insI {k : Int} : ∀ {xs : List Int}, xs.Pairwise (· ≤ ·) → (insI k xs).Pairwise (· ≤ ·)
  | [], _ => by simp [insI]
  | x :: r, h => by
    obtain ⟨h1, h2⟩ := List.pairwise_cons.mp h
    unfold insI
    split
    · next c => exact List.pairwise_cons.mpr ⟨fun y hy => (List.mem_cons.mp hy).elim (fun e => e ▸ c) fun m => Int.le_trans c (h1 y m), h⟩
    · refine List.pairwise_cons.mpr ⟨fun y hy => ?_, le_insI h2⟩
      rcases List.mem_cons.mp (perm_insI.mem_iff.mp hy) with e | m
      · omega
      · exact h1 y m
theorem perm_isort : ∀ xs : List Int, (isort xs).Perm xs
  | [] => .refl _
  | x :: r => perm_insI.trans ((perm_isort r).cons x)
theorem le_isort : ∀ xs : List Int, (isort xs).Pairwise (· ≤ ·)
  | [] => List.Pairwise.nil
  | x :: r => le_insI (le_isort r)
theorem le_eq : ∀ {xs ys : List Int}, xs.Pairwise (· ≤ ·) → ys.Pairwise (· ≤ ·) → xs.Perm ys → xs = ys
  | [], ys, _, _, h => h.symm.eq_nil.symm
  | x :: xs, [], _, _, h => absurd h.eq_nil (by simp)
  | x :: xs, y :: ys, hx, hy, h => by
    obtain ⟨x1, x2⟩ := List.pairwise_cons.mp hx
    obtain ⟨y1, y2⟩ := List.pairwise_cons.mp hy
    have e : x = y := by
      rcases List.mem_cons.mp (h.mem_iff.mp List.mem_cons_self) with e | m
      · exact e
      · rcases List.mem_cons.mp (h.mem_iff.mpr List.mem_cons_self) with e | m2
        · exact e.symm
        · have := x1 _ m2
          have := y1 _ m
          omega
    subst e
    rw [le_eq x2 y2 (List.perm_cons x |>.mp h)]
theorem isort_of {xs ns : List Int} (p : ns.Perm xs) (h : ns.Pairwise (· ≤ ·)) : ns = isort xs := le_eq h (le_isort xs) (p.trans (perm_isort xs).symm)
/-! ### the calls -/
section
variable {X : Cx}
def rSetI (K : PySem.W.Frag) (w : World) : List V → Hp → VK → Prop := fun vs H Q => ∃ (a : Addr) (ns : List Int), vs = [V.ref a] ∧ (SqL K H a (ns.map V.int) ∨ SqT K H a (ns.map V.int)) ∧ ns.length ≤ 4000 ∧
  ∀ (p : Addr) (c : Nat), H p = none → c ≤ ns.length → Q (.ref p) (upd H p (SetO w p (fun j => decide (j ∈ ns)) c))
theorem cr_setI (hc : X.calm = true) : CallR X (.type "set") (rSetI X.K X.w) := by
  intro pins s σ H vs us Q I r h
  obtain ⟨a, ns, rfl, hs, few, q⟩ := h
  rw [Vals.ref1 r]
  have fin : ∀ (h' : Heap) (tk c : Nat), SetR X.w h' s.heap.objs.size (fun j => decide (j ∈ ns)) c → c ≤ ns.length → (∀ b o, s.heap.get? b = some o → h'.get? b = some o) → EP X pins σ Q (.ref s.heap.objs.size) { s with heap := h', toks := tk } := fun h' tk c R hcn k =>
    ⟨.ref _, upd H s.heap.objs.size (SetO X.w s.heap.objs.size (fun j => decide (j ∈ ns)) c), I.laid k (Nat.le_refl _) (setO_new R), rfl, q _ c (I.hok.fresh (Nat.le_refl _)) hcn⟩
  rcases hs with hs | hs
  · obtain ⟨its, rv, il, _⟩ := I.list hs
    exact set_of_list (I.ok.hd hc) il.isList (by simpa using rv.ints) (by unfold scanBound; omega) fun h' tk p => by
      obtain ⟨⟨c, R, hcn⟩, k⟩ := p
      exact fin h' tk c R hcn k
  · obtain ⟨its, rv, il, _⟩ := I.tuple hs
    exact call_set_tupI ns (I.ok.hd hc) (show s.heap.IsTuple a its.toArray from il) (by simpa using rv.ints) (by unfold scanBound; omega) fun h' tk c R hcn k => fin h' tk c R hcn k
def rSortedSetI (w : World) : List V → Hp → VK → Prop := fun vs H Q => ∃ (a : Addr) (S : Int → Bool) (n : Nat), vs = [V.ref a] ∧ H a = some (SetO w a S n) ∧ n ≤ 4000 ∧
  ∀ (ns : List Int) (p : Addr), ns.Pairwise (· < ·) → (∀ k : Int, k ∈ ns ↔ S k = true) → H p = none → Q (.ref p) (upd H p (.lst (ns.map V.int)))
theorem cr_sortedSetI (hc : X.calm = true) : CallR X (.builtin "sorted") (rSortedSetI X.w) := by
  intro pins s σ H vs us Q I r h
  obtain ⟨a, S, n, rfl, ha, few, q⟩ := h
  rw [Vals.ref1 r]
  refine sorted_of_set (setO_get I ha) (I.ok.hd hc) fun t p out c ns k g o hp at' ii asc mem len => ?_
  have fits : (ns.map V.int).length ≤ sizeLine := by rw [List.length_map, len, sizeLine_eq]; omega
  have new := I.hok.fresh hp
  obtain ⟨th, tg, td, tt, tos⟩ := t
  dsimp only at k g o at' ⊢
  subst g o
  have J : Inv X pins σ (upd H p (.lst (ns.map V.int))) { s with heap := th, gens := s.gens, drawn := td, toks := tt } :=
    I.call (ch := []) (Un.laid k hp new) (I.hok.laid k hp ⟨fits, out.toList, c, vals_of_ints ii, at'⟩) I.bare (fun _ z => nomatch z)
  exact ⟨.ref p, _, J, rfl, q ns p asc mem new⟩
def rLenSetI (w : World) : List V → Hp → VK → Prop := fun vs H Q => ∃ (a : Addr) (S : Int → Bool) (n : Nat), vs = [V.ref a] ∧ H a = some (SetO w a S n) ∧ n ≤ 4000 ∧ ∀ ks : List Int, ks.Nodup → (∀ k : Int, k ∈ ks ↔ S k = true) → Q (.int ks.length) H
theorem cr_lenSetI : CallR X (.builtin "len") (rLenSetI X.w) := by
  intro pins s σ H vs us Q I r h
  obtain ⟨a, S, n, rfl, ha, few, q⟩ := h
  rw [Vals.ref1 r]
  obtain ⟨o, es, ep, tb, at0, exo, dat, good, nod, mem, _, fits, hn, _, _⟩ := setO_get I ha
  refine call_len_set at0 exo dat fits (by rw [hn]; omega) ⟨.int es.size, H, I.tok _, ⟨_, rfl⟩, ?_⟩
  have := q (es.toList.map keyOf) nod fun k => (mem k).symm
  rwa [List.length_map, Array.length_toList] at this
/-- g(f(xs)) -/
def wTwo (X : Cx) (f g : Value) : List V → Hp → VK → Prop := fun vs H Q => wcall X f vs H fun x H1 => wcall X g [x] H1 Q
theorem iss_ints {K : PySem.W.Frag} {G : Hp} : ∀ {ns : List Int}, Iss K G (ns.map V.int) (ns.map .int)
  | [] => .nil
  | n :: _ => .cons (.int n) iss_ints
variable {k : Nat}
theorem sset_inv {f : BF} {ds : List D} {s : Slot} (hf : f = .sset ∨ f = .setlen) (h : bfun f ds = some s) : ∃ ys, ds = [.list ys] ∨ ds = [.tuple ys] := by
  match ds with
  | [] => rcases hf with rfl | rfl <;> cases h
  | [d] =>
    cases d with
    | list ys => exact ⟨ys, .inl rfl⟩
    | tuple ys => exact ⟨ys, .inr rfl⟩
    | _ => rcases hf with rfl | rfl <;> cases h
  | d :: e :: r => rcases hf with rfl | rfl <;> cases d <;> cases h
theorem bf_sset (g : XG X k) : BfOk X.K (wTwo X (.type "set") (.builtin "sorted")) .sset := by
  intro T G l H xs ds s Q R w es hq
  have go : ∀ (a : Addr) (vs : List V) (ys : List D) (ns : List Int), xs = [.ref a] → (SqL X.K H a vs ∨ SqT X.K H a vs) → Iss X.K G vs ys → ints? ys = some ns → ns.length ≤ 4000 → .own (.lst ((ssort ns).map .int)) = s →
      wTwo X (.type "set") (.builtin "sorted") xs H Q := fun a vs ys ns e hs i1 en few es => by
    subst e es
    rw [i1.ints en] at hs
    refine wcall_of (cr_setI g.calm) ⟨a, ns, rfl, hs, few, fun p c hp hc => ?_⟩
    refine wcall_of (cr_sortedSetI g.calm) ⟨p, _, c, rfl, upd_same, by omega, fun ns' p' asc mem hp' => ?_⟩
    have e := ssort_of asc mem
    subst e
    exact hq _ _ ((R.new hp (fun _ z => by unfold SetO at z; cases z)).newL hp' iss_ints)
  obtain ⟨ys, rfl | rfl⟩ := sset_inv (by simp) es
  · obtain ⟨v, e, w⟩ := vw1 w
    rw [f_sset] at es
    obtain ⟨ns, en, es⟩ := Option.bind_eq_some_iff.mp es
    obtain ⟨few, es⟩ := if_some es
    obtain ⟨a, zs, ev, h1, i1⟩ := w.lst R.sub
    exact go a zs ys ns (by rw [e, ev]) (.inl (SqL.of h1)) i1 en few es
  · obtain ⟨v, e, w⟩ := vw1 w
    rw [f_ssett] at es
    obtain ⟨ns, en, es⟩ := Option.bind_eq_some_iff.mp es
    obtain ⟨few, es⟩ := if_some es
    obtain ⟨a, zs, ev, h1, i1⟩ := w.tup R.sub
    exact go a zs ys ns (by rw [e, ev]) (.inr h1) i1 en few es
theorem bf_setlen (g : XG X k) : BfOk X.K (wTwo X (.type "set") (.builtin "len")) .setlen := by
  intro T G l H xs ds s Q R w es hq
  have go : ∀ (a : Addr) (vs : List V) (ys : List D) (ns : List Int), xs = [.ref a] → (SqL X.K H a vs ∨ SqT X.K H a vs) → Iss X.K G vs ys → ints? ys = some ns → ns.length ≤ 4000 → .dat (.int (ssort ns).length) = s →
      wTwo X (.type "set") (.builtin "len") xs H Q := fun a vs ys ns e hs i1 en few es => by
    subst e es
    rw [i1.ints en] at hs
    refine wcall_of (cr_setI g.calm) ⟨a, ns, rfl, hs, few, fun p c hp hc => ?_⟩
    refine wcall_of cr_lenSetI ⟨p, _, c, rfl, upd_same, by omega, fun ks nod mem => ?_⟩
    have e : ks.length = (ssort ns).length := ((List.perm_ext_iff_of_nodup nod ((asc_ssort ns).imp fun h => Int.ne_of_lt h)).mpr fun k => by rw [mem k, decide_eq_true_eq, mem_ssort]).length_eq
    rw [e]
    exact hq _ _ ((R.new hp (fun _ z => by unfold SetO at z; cases z)).rep (.int _))
  obtain ⟨ys, rfl | rfl⟩ := sset_inv (by simp) es
  · obtain ⟨v, e, w⟩ := vw1 w
    rw [f_slen] at es
    obtain ⟨ns, en, es⟩ := Option.bind_eq_some_iff.mp es
    obtain ⟨few, es⟩ := if_some es
    obtain ⟨a, zs, ev, h1, i1⟩ := w.lst R.sub
    exact go a zs ys ns (by rw [e, ev]) (.inl (SqL.of h1)) i1 en few es
  · obtain ⟨v, e, w⟩ := vw1 w
    rw [f_slent] at es
    obtain ⟨ns, en, es⟩ := Option.bind_eq_some_iff.mp es
    obtain ⟨few, es⟩ := if_some es
    obtain ⟨a, zs, ev, h1, i1⟩ := w.tup R.sub
    exact go a zs ys ns (by rw [e, ev]) (.inr h1) i1 en few es
/-- sorted(a dict whose keys are ints), of any size -/
theorem call_sortedDn (hcalm : X.calm = true) : CallR X (.builtin "sorted") (fun xs H Q => ∃ (a : Addr) (kvs : List (Key × V)) (ks : List Int), xs = [.ref a] ∧ Rd H a (.dK kvs) ∧ kvs.map (·.1) = ks.map Sum.inl ∧
    ∀ (ys : List Int) (p : Addr), ys.Perm ks → ys.Pairwise (· ≤ ·) → H p = none → Q (.ref p) (upd H p (.lst (ys.map V.int)))) := by
  intro pins s σ H xs us Q I r q
  obtain ⟨a, kvs, ks, ex, hd, hks, q⟩ := q
  subst ex
  obtain ⟨u, eu, rx⟩ := vals1 r
  subst eu
  cases rx
  obtain ⟨z, lo, vs, rel, dd⟩ := dk_rd I.hok hd
  obtain ⟨ep, hat⟩ := dd.dictAt
  have hkeys : vs.map (·.1) = ks.map Sum.inl := rel.keys.symm.trans hks
  have hl : vs.length = ks.length := by
    have e := congrArg List.length hkeys
    rw [List.length_map, List.length_map] at e
    exact e
  have h16 : vs.length ≤ sizeLine := by rw [← rel.length]; exact z
  refine Calls.call_function_entry PyProof.Rows.kind_sorted PyProof.Rows.plain_sorted PyProof.Rows.entry_sorted (PyProof.Rows.args_sorted1 _) ?_
  unfold Builtin.«sorted»
  refine wpAny_bind (m := checkCount "sorted" 1 1 _) (wpAny_pure ?_)
  refine wpAny_bind (PySem.W.kdu_collect (A := X.A.in1) (PySem.W.kdl_dict (knd := mixKind X.prog X.w) (kvs := vs) (ep := ep) lo) (I.ok.hd hcalm) hat h16 fun h' tk acc hk hacc => ?_)
  have hal : acc.toList.length = ks.length := by rw [Array.length_toList, hacc.1, hl]
  have hS : IntsAre acc.toList ks := ints_each hal fun j v e => by
    obtain ⟨k, x, e1, e2⟩ := hacc.2 j v (by rw [← Array.getElem?_toList]; exact e)
    have e3 : (vs.map (·.1))[j]? = some k := by rw [List.getElem?_map, e1]; rfl
    rw [hkeys, List.getElem?_map] at e3
    cases e4 : ks[j]? with
    | none => rw [e4] at e3; cases e3
    | some y =>
      rw [e4] at e3
      have e5 : Sum.inl y = k := Option.some.inj e3
      subst e5
      rcases keyIs_shape (show keyIs (Sum.inl y) v = true from e2) with ⟨i, t, ek, ev⟩ | ⟨z, t, ek, ev⟩
      · cases ek
        exact ⟨y, t, rfl, ev⟩
      · cases ek
  have I1 : Inv X pins σ H { s with heap := h', toks := tk } := I.kept hk
  refine wpAny_bind (wpAny_newList ?_ (by rw [hal, ← hl]; exact h16))
  have hoL : (h'.push (seqObj "list" acc.toList.toArray 0)).get? h'.objs.size = some (seqObj "list" acc.toList.toArray 0) := Heap.get?_push_size _ rfl
  show wpAny _ _ _ _ _ { s with heap := h'.push (seqObj "list" acc.toList.toArray 0), toks := tk }
  refine wpAny_bind (wpAny_holding (wpAny_call_entry PyProof.Rows.slot_list_sort ⟨_, hoL, rfl⟩ PyProof.Rows.entry_list_sort
    (SrtO.list_sort_ord (s := { s with heap := h'.push (seqObj "list" acc.toList.toArray 0), toks := tk }) SrtO.swo_int hoL (by rw [hal, ← hl]; exact h16) (fun h2 => SrtO.ints_sortable hS h2) fun out h1 h2 => ⟨_, rfl, ?_⟩) (PyProof.Rows.args_list_sort _)))
  obtain ⟨e', he'⟩ := PyProof.Rows.sortedHeap_at (vs := acc.toList) (out := out.toArray) hoL
  obtain ⟨a1, a2, a3⟩ := SrtO.ints_out hS h1 h2
  have hlen : ((out.map SrtO.iv).map V.int).length ≤ sizeLine := by
    rw [List.length_map, a2.length_eq, ← hl]
    exact h16
  refine wpAny_pure ⟨_, rfl, .ref h'.objs.size, upd H h'.objs.size (.lst ((out.map SrtO.iv).map V.int)), I1.laid (t' := tk) (fun b u e => ?_) (Nat.le_refl _)
    (show ObjOk X.prog X.w _ _ _ (.lst ((out.map SrtO.iv).map V.int)) from ⟨hlen, out, e', vals_of_ints a1, he'⟩), rfl, q _ _ a2 a3 (I1.hok.fresh (Nat.le_refl _))⟩
  have hb : b < h'.objs.size := Heap.lt_size e
  rw [PyProof.Rows.sortedHeap_old (Nat.ne_of_lt hb) (by rw [size_push']; exact Nat.lt_succ_of_lt hb)]
  exact Heap.get?_push_of_some _ e
theorem ints_keys : ∀ {ks : List Ky} {ns : List Int}, ints? (ks.map kyD) = some ns → ks = ns.map Sum.inl
  | [], ns, h => by cases h; rfl
  | .inl i :: ks, ns, h => by
    have h : (ints? (ks.map kyD)).map (i :: ·) = some ns := h
    cases q : ints? (ks.map kyD) with
    | none => rw [q] at h; cases h
    | some m => rw [q] at h; cases h; rw [ints_keys q]; rfl
  | .inr x :: ks, ns, h => by cases h
theorem bf_sorted (g : XG X k) : BfOk X.K (wcall X (.builtin "sorted")) .sorted := by
  intro T G l H xs ds s Q R w es hq
  match ds, w, es with
  | [.list ys], w, es =>
    obtain ⟨v, e, w⟩ := vw1 w
    rw [f_srt] at es
    obtain ⟨ns, en, rfl⟩ := map_some es
    obtain ⟨a, zs, ev, h1, i1⟩ := w.lst R.sub
    refine wcall_of cr_sortedI ⟨a, ns, by rw [e, ev], by rw [← i1.ints en]; exact SqL.of h1, fun ns' p pm le hp => ?_⟩
    have e2 := isort_of pm le
    subst e2
    exact hq _ _ (R.newL hp iss_ints)
  | [.dict kvs], w, es =>
    obtain ⟨v, e, w⟩ := vw1 w
    rw [f_srtd] at es
    obtain ⟨a, ks, zs, ds, ev, hr, hl, hi, ek⟩ := w.dic R.sub
    rw [ek, kvD_zip] at es
    have es : (ints? ((ks.zip ds).map fun p => kyD p.1)).map (fun ns => Slot.own (.lst ((isort ns).map .int))) = some s := es
    obtain ⟨ns, en, rfl⟩ := map_some es
    have ek2 : ((ks.zip ds).map fun p => kyD p.1) = ks.map kyD := by rw [← zip_fst' (hl.trans hi.len), List.map_map, zip_fst' (hl.trans hi.len)]; rfl
    rw [ek2] at en
    refine wcall_of (call_sortedDn g.calm) ⟨a, _, ns, by rw [e, ev], hr, by rw [zip_fst' hl]; exact ints_keys en, fun ns' p pm le hp => ?_⟩
    have e2 := isort_of pm le
    subst e2
    exact hq _ _ (R.newL hp iss_ints)
variable {Z : Cf} {e : Expr} {es : List Expr} {ca : CE} {pos : Pos}
theorem d_two {f : BF} {id1 id2 : String} {x y : Str} {p p2 q : Pos} (hr : BfOk X.K (wTwo X (.type id1) (.builtin id2)) f) (hm : X.mg x = none) (hm2 : X.mg y = none) (ha : PA X (e :: es) (tCs X.K Z ca))
    (hv : bootBuiltins x = some (.type id1) := by decide +kernel) (hv2 : bootBuiltins y = some (.builtin id2) := by decide +kernel) (hg : Gl X x := by rfl) (hg2 : Gl X y := by rfl) (hn : x ≠ "__name__" := by decide) (hn2 : y ≠ "__name__" := by decide)
    (hb : (x == ("__debug__" : Str)) = false := by decide) (hb2 : (y == ("__debug__" : Str)) = false := by decide)
    (he : starEach (e :: es) X.env = (false, eval e X.env) :: starEach es X.env := by rfl) (hpl : (backTo q (starEach es X.env)).any (·.1) = false := by rfl) : PE X (.Call (.Name y p2) [.Call (.Name x p) (e :: es) [] q] [] pos) (tE X.K Z (.blt f ca)) :=
  PE.imp (pe_callB (call_wide (.builtin id2)) hg2 hm2 hv2 (pa_cons (pe_callTy (call_wide (.type id1)) hg hm hv ha hn hb he hpl) pa_nil rfl) hn2 hb2 rfl rfl) fun σ H Q h => show tCB (wTwo X (.type id1) (.builtin id2)) (tCs X.K Z ca) σ H Q from tBlt_of hr h
end
end Ell
set_option autoImplicit false
/-! Ell21: rows of pairs. -/
namespace Ell
open PySem PySem.Spec PyProof.Rows L2
open Evl (Ex)
section
variable {K : PySem.W.Frag} {T : List (Addr × Str)} {G H : Hp} {l : List Ent}
theorem prs2_len {xs ys : List D} : (prs2 xs ys).length = min xs.length ys.length := by simp [prs2]
theorem prs2_get {xs ys : List D} {i : Nat} {d : D} (h : (prs2 xs ys)[i]? = some d) : ∃ x y, xs[i]? = some x ∧ ys[i]? = some y ∧ d = .tuple [x, y] := by
  unfold prs2 at h
  rw [List.getElem?_map, Option.map_eq_some_iff] at h
  obtain ⟨p, hp, rfl⟩ := h
  rw [List.getElem?_zip_eq_some] at hp
  exact ⟨p.1, p.2, hp.1, hp.2, rfl⟩
theorem min_le {m n i : Nat} (h : min m n ≤ i) : m ≤ i ∨ n ≤ i := by omega
end
end Ell
set_option autoImplicit false
/-! Ell22: zip of a list with a tuple, in any mix. -/
namespace Ell
open PySem PySem.Spec PyProof.Rows L2
open Evl (Ex)
/-- a sequence of its kind: true for lists -/
def SqK (q : Bool) (K : PySem.W.Frag) (H : Hp) (a : Addr) (xs : List V) : Prop := if q then SqL K H a xs else SqT K H a xs
def SeqAtH (q : Bool) (h : Heap) (a : Addr) (items : Array Value) : Prop := if q then h.IsList a items else h.IsTuple a items
def IterAtH (q : Bool) (h : Heap) (it a : Addr) (i : Nat) : Prop := if q then h.IsListIter it a i else h.IsTupleIter it a i
def iterObj (q : Bool) (a : Addr) : Obj := if q then { cls := .type "list_iterator", data := .fields #[.ref a, .int 0 0] } else { cls := .type "tuple_iterator", data := .fields #[.ref a, .int 0 0] }
section
variable {K : PySem.W.Frag} {H : Hp} {a b : Addr} {xs ys : List V} {h h' : Heap} {it : Addr} {i : Nat} {q : Bool}
theorem IterAtH.obj (x : IterAtH q h it a i) : ∃ o, h.get? it = some o ∧ ∀ v, o.data ≠ .cell v := by
  cases q with
  | true => obtain ⟨o, e, _, d⟩ := x; exact ⟨o, e, fun v z => by rw [d] at z; cases z⟩
  | false => obtain ⟨o, e, _, d⟩ := x; exact ⟨o, e, fun v z => by rw [d] at z; cases z⟩
theorem IterAtH.at (x : IterAtH q h it a i) (k : ∀ o, h.get? it = some o → h'.get? it = some o) : IterAtH q h' it a i := by
  cases q with
  | true => obtain ⟨o, e, r⟩ := x; exact ⟨o, k o e, r⟩
  | false => obtain ⟨o, e, r⟩ := x; exact ⟨o, k o e, r⟩
theorem IterAtH.new (e : h.get? it = some (iterObj q a)) : IterAtH q h it a 0 := by
  cases q with
  | true => exact ⟨_, e, rfl, rfl⟩
  | false => exact ⟨_, e, rfl, rfl⟩
theorem draws_k {prog : Program} {w : World} {A : Around} (hh : A.handled = none) (q : Bool) (it l : Addr) (hne : l ≠ it) (items : Array Value) :
    Draws prog w A it [it, l] items.size (fun i v => items[i]? = some v) (fun i h => IterAtH q h it l i ∧ SeqAtH q h l items) := by
  cases q with
  | true => exact Draws.list hh it l hne items
  | false => exact Draws.tuple hh it l hne items
/-- an iterator at its end, or behind it -/
theorem draws_e {prog : Program} {w : World} {A : Around} (hh : A.handled = none) (q : Bool) (it l : Addr) (items : Array Value) (k : Nat) (hk : items.size ≤ k) :
    Draws prog w A it [it, l] k (fun i v => items[i]? = some v) (fun i h => i = k ∧ IterAtH q h it l i ∧ SeqAtH q h l items) where
  live := fun _ _ st => let ⟨o, ho, _⟩ := st.2.1.obj; ⟨o, ho⟩
  frame := fun _ _ _ st hk => ⟨st.1, st.2.1.at (hk it (by simp)), by
    cases q with
    | true => obtain ⟨o, e, r⟩ := st.2.2; exact ⟨o, hk l (by simp) o e, r⟩
    | false => obtain ⟨o, e, r⟩ := st.2.2; exact ⟨o, hk l (by simp) o e, r⟩⟩
  item := fun i s Q E hi st hQ => by have := st.1; omega
  done := fun s Q E st hE => by
    have e : items[k]? = none := by simp; omega
    cases q with
    | true => exact wpAny_nextOf_list_end hh st.2.1 st.2.2 e hE
    | false => exact wpAny_nextOf_tuple_end hh st.2.1 st.2.2 e hE
theorem begins_k (q : Bool) (l : Addr) (items : Array Value) : Begins (.ref l) (iterObj q l) fun h => SeqAtH q h l items := by
  cases q with
  | true => exact begins_list l items
  | false => exact begins_tuple l items
theorem seq_of {X : Cx} {pins : List (Addr × Obj)} {σ : L2.St} {s : Shared} (I : Inv X pins σ H s) (h : SqK q X.K H a xs) : ∃ its : List Value, Vals xs its ∧ SeqAtH q s.heap a its.toArray ∧ a < s.heap.objs.size := by
  cases q with
  | true => obtain ⟨its, rv, p, _⟩ := I.list h; exact ⟨its, rv, p.isList, p.lt⟩
  | false => obtain ⟨its, rv, p, _⟩ := I.tuple h; obtain ⟨o, ho, _⟩ := id p; exact ⟨its, rv, p, Heap.lt_size ho⟩
theorem seq_inj {X : Cx} {pins : List (Addr × Obj)} {σ : L2.St} {s : Shared} (I : Inv X pins σ H s) {xs ys : List V} (h : SqK q X.K H a xs) (h2 : SqK q X.K H a ys) : xs = ys := by
  cases q with
  | true => exact I.list_inj h h2
  | false => exact I.tuple_inj h h2
/-- both as they stand, the items in new pairs -/
def ItM (q r : Bool) (K : PySem.W.Frag) (a b : Addr) : It :=
  ⟨fun i H => ∃ (us ws : List V) (u w : V), SqK q K H a us ∧ SqK r K H b ws ∧ us[i]? = some u ∧ ws[i]? = some w,
    fun i H v H' => ∃ N u w, v = .ref N ∧ H N = none ∧ H' = upd H N (.tup [u, w]) ∧ (∀ us, SqK q K H a us → us[i]? = some u) ∧ ∀ ws, SqK r K H b ws → ws[i]? = some w,
    fun i H => ∃ us ws : List V, SqK q K H a us ∧ SqK r K H b ws ∧ min us.length ws.length ≤ i⟩
def zSt (q r : Bool) (z TI TO i1 i2 a b : Addr) (i : Nat) (h : Heap) : Prop := IsZip h z TI TO .none ∧ IsTupOf2 h TI (.ref i1) (.ref i2) ∧ (∃ u w, IsTupOf2 h TO u w) ∧ IterAtH q h i1 a i ∧ IterAtH r h i2 b i
theorem five {c z TI TO i1 i2 : Addr} (h : c ∈ [z, TI, TO, i1, i2]) : c = z ∨ c = TI ∨ c = TO ∨ c = i1 ∨ c = i2 := by
  simp only [List.mem_cons, List.not_mem_nil, or_false] at h
  exact h
theorem notfive {c z TI TO i1 i2 : Addr} (h : ¬ c ∈ [z, TI, TO, i1, i2]) : c ≠ z ∧ c ≠ TO ∧ c ≠ i1 ∧ c ≠ i2 := by
  simp only [List.mem_cons, List.not_mem_nil, or_false, not_or] at h
  exact ⟨h.1, h.2.2.1, h.2.2.2.1, h.2.2.2.2⟩
theorem turn_m {P : Program} {w : World} {elts : List Expr} {kk : Nat} {tpos : Pos} {z TI TO i1 i2 : Addr} {r : Bool} (S : ZipSep2 z TI TO i1 i2 [i1, a] [i2, b]) (na : a ≠ i1) (nb : b ≠ i2) (zi : z ≠ TI) :
    Turn P w K (.Tuple elts kk tpos) (ItM q r K a b) [z, TI, TO, i1, i2] z (zSt q r z TI TO i1 i2 a b) where
  mem := List.mem_cons_self
  obj := fun i h st c hc => by
    obtain ⟨hz, hTI, ⟨u, v, hTO⟩, h1, h2⟩ := st
    rcases five hc with e | e | e | e | e <;> rw [e]
    · exact ⟨_, hz, fun v q => nomatch q⟩
    · exact ⟨_, hTI, fun v q => nomatch q⟩
    · exact ⟨_, hTO, fun v q => nomatch q⟩
    · exact h1.obj
    · exact h2.obj
  keep := fun i h h' st k => by
    obtain ⟨hz, hTI, ⟨u, v, hTO⟩, h1, h2⟩ := st
    exact ⟨k _ List.mem_cons_self _ hz, k TI (by simp) _ hTI, ⟨u, v, k TO (by simp) _ hTO⟩, h1.at (k i1 (by simp)), h2.at (k i2 (by simp))⟩
  item := by
    intro X eP ew eK hc i pins s σ H E I hf st hg
    subst eP ew eK
    obtain ⟨hz, hTI, ⟨u0, v0, hTO⟩, h1, h2⟩ := st
    obtain ⟨us, ws, x, y, qx, qy, hx, hy⟩ := hg
    obtain ⟨l1, rv, p, _⟩ := seq_of I qx
    obtain ⟨l2, rv2, p2, _⟩ := seq_of I qy
    obtain ⟨u, hu, ru⟩ := rv.get hx
    obtain ⟨u2, hu2, ru2⟩ := rv2.get hy
    have hzl : z < s.heap.objs.size := Heap.lt_size hz
    have n1 : i < l1.toArray.size := by have := (List.getElem?_eq_some_iff.mp hu).1; simpa using this
    have n2 : i < l2.toArray.size := by have := (List.getElem?_eq_some_iff.mp hu2).1; simpa using this
    refine wpAny_pyNext_zipD2_item S (draws_k (A := X.A.in1) (show X.A.in1.handled = none from I.ok.hd hc) q i1 a na l1.toArray) (draws_k (A := X.A.in1) (show X.A.in1.handled = none from I.ok.hd hc) r i2 b nb l2.toArray) hz hTI hTO ⟨h1, p⟩ ⟨h2, p2⟩ n1 n2 fun x1 x2 h' tk e1 e2 z' TO' st1 st2 hT hsz hk => ?_
    have f1 : x1 = u := by
      have : l1[i]? = some x1 := by simpa using e1
      rw [hu] at this; exact (Option.some.inj this).symm
    have f2 : x2 = u2 := by
      have : l2[i]? = some x2 := by simpa using e2
      rw [hu2] at this; exact (Option.some.inj this).symm
    subst f1 f2
    refine ⟨_, rfl, wpAny_letOwnedTupleGo_zip (s := { s with heap := h', toks := tk }) z' fun h'' z'' sb => ?_⟩
    have hT2 : h''.get? s.heap.objs.size = some { cls := .type "tuple", data := .seq #[x1, x2] } := (sb.2 _ (Nat.ne_of_gt hzl)).trans hT
    have new : ObjOk X.prog X.w (upd H s.heap.objs.size (.tup [x, y])) h'' s.heap.objs.size (.tup [x, y]) := ⟨(by decide : 2 ≤ sizeLine), [x1, x2], .cons ru (.cons ru2 .nil), ⟨_, hT2, rfl, _, rfl⟩⟩
    have I1 := I.turnedNew (t' := tk) (s := s) (h' := h'') (fun c o hb e => by
      obtain ⟨c1, c2, c3, c4⟩ := notfive hb
      exact (sb.2 c c1).trans (hk c o c1 c2 c3 c4 e)) hf (Nat.le_refl _) new
    have lts : ∀ c, c ∈ [z, TI, TO, i1, i2] → c < s.heap.objs.size := fun c hcm => by
      rcases five hcm with e | e | e | e | e <;> rw [e]
      · exact hzl
      · exact Heap.lt_size hTI
      · exact Heap.lt_size hTO
      · obtain ⟨o, e1, _⟩ := h1.obj; exact Heap.lt_size e1
      · obtain ⟨o, e1, _⟩ := h2.obj; exact Heap.lt_size e1
    refine ⟨.ref s.heap.objs.size, _, I1, rfl, ⟨_, x, y, rfl, I.hok.fresh (Nat.le_refl _), rfl, fun l hl => by rw [seq_inj I hl qx]; exact hx, fun l hl => by rw [seq_inj I hl qy]; exact hy⟩, ⟨z'', ?_, ⟨x1, x2, ?_⟩, ?_, ?_⟩, fun c hcm => ?_⟩
    · exact (sb.2 TI S.TIz).trans (hk TI _ S.TIz S.TITO S.TIi1 S.TIi2 hTI)
    · exact (sb.2 TO S.TOz).trans TO'
    · exact st1.1.at fun o e => (sb.2 i1 S.zi1.symm).trans e
    · exact st2.1.at fun o e => (sb.2 i2 S.zi2.symm).trans e
    · rw [upd_ne (Nat.ne_of_lt (lts c hcm))]
      exact (hf c hcm).1
  done := by
    intro X eP ew eK hc i pins s σ H E I hf st hg
    subst eP ew eK
    obtain ⟨hz, hTI, ⟨u0, v0, hTO⟩, h1, h2⟩ := st
    obtain ⟨us, ws, qx, qy, hend⟩ := hg
    obtain ⟨l1, rv, p, _⟩ := seq_of I qx
    obtain ⟨l2, rv2, p2, _⟩ := seq_of I qy
    have e1 := rv.length
    have e2 := rv2.length
    have n1 : l1.toArray.size = us.length := by simp [e1]
    have n2 : l2.toArray.size = ws.length := by simp [e2]
    have hh : X.A.in1.handled = none := I.ok.hd hc
    have fin : ∀ (h' : Heap) (tk : Tok), (∀ c o, c ≠ z → c ≠ TO → c ≠ i1 → c ≠ i2 → s.heap.get? c = some o → h'.get? c = some o) → (none : Option Value) = none ∧ Inv X pins σ H { s with heap := h', toks := tk } := fun h' tk hk => ⟨rfl, I.turnedL (t' := tk) (ch := [z, TI, TO, i1, i2]) (fun c o hb e => by
      obtain ⟨c1, c2, c3, c4⟩ := notfive hb
      exact hk c o c1 c2 c3 c4 e) hf⟩
    by_cases a1 : l1.toArray.size ≤ i
    · by_cases a2 : l2.toArray.size ≤ i
      · exact wpAny_pyNext_zipD2_end S (draws_e hh q i1 a l1.toArray i a1) (draws_e hh r i2 b l2.toArray i a2) hz hTI hTO ⟨rfl, h1, p⟩ ⟨rfl, h2, p2⟩ (Nat.le_refl _) (Nat.le_refl _) (.inl rfl) fin
      · exact wpAny_pyNext_zipD2_end S (draws_e hh q i1 a l1.toArray i a1) (draws_k hh r i2 b nb l2.toArray) hz hTI hTO ⟨rfl, h1, p⟩ ⟨h2, p2⟩ (Nat.le_refl _) (by omega) (.inl rfl) fin
    · have a2 : l2.toArray.size ≤ i := by omega
      exact wpAny_pyNext_zipD2_end S (draws_k hh q i1 a na l1.toArray) (draws_e hh r i2 b l2.toArray i a2) hz hTI hTO ⟨h1, p⟩ ⟨rfl, h2, p2⟩ (by omega) (Nat.le_refl _) (.inr rfl) fin
  self := fun A i s Q E st h => wpAny_pyIter_zip st.1 h
def iZipM (K : PySem.W.Frag) (ta : TA) : TI := fun σ H R => ta σ H fun vs H1 => ∃ q r a b xs ys, vs = [.ref a, .ref b] ∧ SqK q K H1 a xs ∧ SqK r K H1 b ys ∧ R (ItM q r K a b) H1
theorem pi_zipM {X : Cx} {e e2 : Expr} {ta : TA} {p pos tpos : Pos} {elts : List Expr} {kk : Nat} (hg : Gl X "zip") (hm : X.mg "zip" = none) (ha : PA X [e, e2] ta)
    (hs : starEach [e, e2] X.env = (false, eval e X.env) :: starEach [e2] X.env := by rfl) (hpl : (backTo pos (starEach [e2] X.env)).any (·.1) = false := by rfl) :
    PI X (.Tuple elts kk tpos) (.Call (.Name "zip" p) [e, e2] [] pos) (iZipM X.K ta) := by
  constructor
  intro pins s σ H R I h
  refine Call_ (ld_blt I hg hm PyProof.Rows.boot_zip (PyProof.Rows.callWith_type1 (thn (ha.run pos pins s σ H _ I h) fun us s1 hx => ?_) hs hpl))
  obtain ⟨vs, H1, I1, r1, q, r, a, b, xs, ys, ex, qx, qy, hR⟩ := hx
  subst ex
  cases r1 with
  | cons ra rr =>
   cases rr with
   | cons rb rr =>
    cases rr
    cases ra
    cases rb
    obtain ⟨l1, rv, p1, la⟩ := seq_of I1 qx
    obtain ⟨l2, rv2, p2, lb⟩ := seq_of I1 qy
    refine zip_begins2 (begins_k q a l1.toArray) (begins_k r b l2.toArray) p1 p2 fun h' hz hTI hTO g1 g2 hsz hk => wpAny_pyIter_zip hz ?_
    have I2 : Inv X pins σ H1 { s1 with heap := h' } := I1.kept (t' := s1.toks) hk
    have sep := zip_sep2 (N := s1.heap.objs.size) (fp1 := [a]) (fp2 := [b]) (by simpa using la) (by simpa using lb)
    refine ⟨_, _, _, _, H1, rfl, I2, turn_m sep (Nat.ne_of_lt la) (Nat.ne_of_lt (Nat.lt_succ_of_lt lb)) sep.TIz.symm, ⟨hz, hTI, ⟨_, _, hTO⟩, IterAtH.new g1, IterAtH.new g2⟩, fun c hcm => ?_, hR⟩
    have hle : s1.heap.objs.size ≤ c := by
      rcases five hcm with e | e | e | e | e <;> rw [e]
      · exact Nat.le_add_right _ _
      · exact Nat.le_add_right _ _
      · exact Nat.le_add_right _ _
      · exact Nat.le_refl _
      · exact Nat.le_add_right _ _
    exact I1.fpOk hle (I1.hok.fresh hle)
theorem jok_zipM {T : List (Addr × Str)} {q r : Bool} {d e : D} {ds es : List D}
    (kq : ∀ G H, Is K G (.ref a) d → Ex G H → ∃ us, SqK q K H a us ∧ Iss K G us ds) (kr : ∀ G H, Is K G (.ref b) e → Ex G H → ∃ us, SqK r K H b us ∧ Iss K G us es) :
    JOk K T (ItM q r K a b) (prs2 ds es) [(.dat d, some (.ref a)), (.dat e, some (.ref b))] := by
  intro i l H R
  obtain ⟨G, g⟩ := id R
  obtain ⟨v, ev, w⟩ := g.good _ List.mem_cons_self
  cases ev
  obtain ⟨v2, ev, w2⟩ := g.good _ (List.mem_cons_of_mem _ List.mem_cons_self)
  cases ev
  obtain ⟨us, hs, t⟩ := kq G H w g.sub
  obtain ⟨us2, hs2, t2⟩ := kr G H w2 g.sub
  refine ⟨fun d hd => ?_, fun hi => ⟨us, us2, hs, hs2, by rw [t.len, t2.len, ← prs2_len]; exact hi⟩⟩
  obtain ⟨x, y, hx, hy, rfl⟩ := prs2_get hd
  obtain ⟨u, hu, wu⟩ := t.get hx
  obtain ⟨u2, hu2, wu2⟩ := t2.get hy
  refine ⟨⟨us, us2, u, u2, hs, hs2, hu, hu2⟩, fun z H' q => ?_⟩
  obtain ⟨N, p1, p2, rfl, hN, rfl, q1, q2⟩ := q
  have e1 := (q1 us hs).symm.trans hu
  have e2 := (q2 us2 hs2).symm.trans hu2
  cases e1
  cases e2
  exact g.newT hN (.cons wu (.cons wu2 .nil))
end
section
variable {X : Cx} {Z : Cf} {a b : Expr} {pos p tpos : Pos} {ca cb : CE} {elts : List Expr} {kk : Nat}
theorem zipD_some {d e : D} {zs : List D} (h : zipD d e = some zs) : ∃ xs ys, itemsOf d = some xs ∧ itemsOf e = some ys ∧ zs = prs2 xs ys := by
  cases d <;> cases e <;> first | (cases h; exact ⟨_, _, rfl, rfl, rfl⟩) | cases h
/-- a list or a tuple, at a place -/
theorem kind_of {K : PySem.W.Frag} {G H : Hp} {v : V} {d : D} {xs : List D} (w : Is K G v d) (e : itemsOf d = some xs) (x : Ex G H) : ∃ q a us, v = .ref a ∧ SqK q K H a us ∧ (∀ G H, Is K G (.ref a) d → Ex G H → ∃ us, SqK q K H a us ∧ Iss K G us xs) := by
  cases d with
  | list ds =>
    cases e
    cases w with
    | lst h t =>
      refine ⟨true, _, _, rfl, SqL.of (x _ _ h), fun G H w x => ?_⟩
      cases w with
      | lst h2 t2 => exact ⟨_, SqL.of (x _ _ h2), t2⟩
  | tuple ds =>
    cases e
    cases w with
    | tup h t =>
      refine ⟨false, _, _, rfl, Evl.ex_t x h, fun G H w x => ?_⟩
      cases w with
      | tup h2 t2 => exact ⟨_, Evl.ex_t x h2, t2⟩
  | _ => cases e
theorem i_zip (hm : X.mg "zip" = none) (ha : PE X a (tE X.K Z ca)) (hb : PE X b (tE X.K Z cb)) (hg : Gl X "zip" := by rfl) (hs : starEach [a, b] X.env = (false, eval a X.env) :: starEach [b] X.env := by rfl) (hs2 : starEach [b] X.env = [(false, eval b X.env)] := by rfl) (hpl : (backTo pos (starEach [b] X.env)).any (·.1) = false := by rfl) :
    PI X (.Tuple elts kk tpos) (.Call (.Name "zip" p) [a, b] [] pos) (tI X.K Z (.zip ca cb)) := by
  have hda : PE X a (tD X.K Z (evP ca)) := pe_D ha
  have hdb : PE X b (tD X.K Z (evP cb)) := pe_D hb
  refine PI.imp (pi_zipM hg hm (pa_cons hda (pa_cons hdb pa_nil (by rw [hs2]; rfl)) hs) hs hpl) fun σ H R h => ?_
  obtain ⟨ρ, fr, hl, Rp, h⟩ := h
  have h : PostI X.K Z σ fr R (kI2 zipD (evP cb) (kD (evP ca ρ))) := h
  refine ⟨ρ, fr, hl, Rp, ?_⟩
  dsimp only
  cases qa : kD (evP ca ρ) with
  | stuck => rw [qa] at h; exact False.elim h
  | err c ρ1 => rw [qa] at h; exact h
  | ok d ρ1 =>
    rw [qa] at h
    have h : PostI X.K Z σ fr R (kI2b zipD d (kD (evP cb ρ1))) := h
    intro v H1 hl1 _ R1
    refine ⟨ρ1, [(.dat d, some v)] ++ fr, hl1, R1.perm (List.perm_append_comm_assoc _ _ _), ?_⟩
    dsimp only
    cases qb : kD (evP cb ρ1) with
    | stuck => rw [qb] at h; exact False.elim h
    | err c ρ2 => rw [qb] at h; exact fun H2 hl2 R2 => h H2 hl2 (drop_mid R2)
    | ok e ρ2 =>
      rw [qb] at h
      have h : PostI X.K Z σ fr R (opt (zipD d e) ρ2) := h
      intro w H2 hl2 _ R2
      have R3 : Rep X.K Z.T ([(.dat d, some v), (.dat e, some w)] ++ (ρ2.zip σ ++ fr)) H2 :=
        Rep.perm (show Rep X.K Z.T ((.dat e, some w) :: (ρ2.zip σ ++ ([(.dat d, some v)] ++ fr))) H2 from R2) ((List.Perm.cons _ (List.perm_append_comm_assoc (ρ2.zip σ) [(.dat d, some v)] fr)).trans (List.Perm.swap _ _ _))
      obtain ⟨G, g⟩ := id R3
      obtain ⟨v', ev, wx⟩ := g.good _ List.mem_cons_self
      cases ev
      obtain ⟨v', ev, wy⟩ := g.good _ (List.mem_cons_of_mem _ List.mem_cons_self)
      cases ev
      cases qz : zipD d e with
      | none => rw [qz] at h; exact False.elim h
      | some zs =>
        rw [qz] at h
        obtain ⟨xs, ys, ex, ey, rfl⟩ := zipD_some qz
        obtain ⟨q, aa, us, rfl, k1, kq⟩ := kind_of wx ex g.sub
        obtain ⟨r, bb, us2, rfl, k2, kr⟩ := kind_of wy ey g.sub
        exact ⟨q, r, aa, bb, us, us2, rfl, k1, k2, h _ _ H2 hl2 (jok_zipM kq kr) R3⟩
end
end Ell
set_option autoImplicit false
/-! Ell23: comprehensions of two clauses. -/
namespace Ell
open PySem PySem.Spec PyProof.Rows L2
open Evl (Ex)
theorem wip_at (ρ : Rho) (i : Nat) : ∀ l : List Nat, (wip ρ l)[i]? = if i ∈ l ∧ i < ρ.length then some Ell.Slot.un else ρ[i]?
  | [] => by simp
  | j :: l => by
    show ((wip ρ l).set j .un)[i]? = _
    rw [List.getElem?_set, wip_len, wip_at ρ i l]
    by_cases e : j = i
    · subst e
      by_cases h : j < ρ.length <;> simp [h]
    · simp [e, Ne.symm e]
theorem wip_sub (ρ : Rho) {l l' : List Nat} (h : ∀ i ∈ l, i ∈ l') : wip (wip ρ l) l' = wip ρ l' := by
  refine List.ext_getElem? fun i => ?_
  rw [wip_at, wip_at, wip_at, wip_len]
  by_cases c : i ∈ l' ∧ i < ρ.length
  · rw [if_pos c, if_pos c]
  · rw [if_neg c, if_neg c, if_neg fun z => c ⟨h i z.1, z.2⟩]
theorem wipe_sub (σ : L2.St) {l l' : List Nat} (h : ∀ i ∈ l, i ∈ l') : wipe (wipe σ l) l' = wipe σ l' :=
  wipe_agree (wipe_length σ l) fun i hi => by rw [wipe_get, if_neg fun z => hi (h i z)]
theorem lc2K_cons {F : Rho → Res (List D)} {d : D} {r : Res (List D)} : lc2K F (consR d r) = consR d (lc2K F r) := by
  cases r with
  | ok ds ρ =>
    show appR (d :: ds) (F ρ) = consR d (appR ds (F ρ))
    cases F ρ <;> rfl
  | err c ρ => rfl
  | stuck => rfl
section
variable {K : PySem.W.Frag} {Z : Cf} {σ : L2.St} {H : Hp} {fr : List Ent} {ρ : Rho} {T : List (Addr × Str)}
theorem lc2_room {Q : VK} {ρ1 : Rho} {own : List Nat} {acc : List D} {d : D} {r : Res (List D)} (h : Post K Z σ fr VIs ents Q (lc2Fin ρ1 own (appR acc (consR d r)))) : acc.length < sizeLine := by
  cases r with
  | stuck => exact False.elim h
  | err c ρ2 => exact False.elim h
  | ok ds ρ2 =>
    have h : Post K Z σ fr VIs ents Q (if leN (acc ++ d :: ds).length sizeLine then .ok (.tmp (.own (.lst (acc ++ d :: ds)))) (restore ρ1 ρ2 own) else .stuck) := h
    by_cases hz : leN (acc ++ d :: ds).length sizeLine
    · have hz : (acc ++ d :: ds).length ≤ sizeLine := hz
      rw [List.length_append, List.length_cons] at hz
      omega
    · rw [if_neg hz] at h; exact False.elim h
/-- behind i turns of the first clause -/
def Lc2I (K : PySem.W.Frag) (Z : Cf) (σ : L2.St) (fr : List Ent) (Q : VK) (f : D → Rho → Res (List D)) (xs : List D) (own : List Nat) (ρ1 : Rho) (l0 : List Ent) (D : Addr) (i : Nat) (H : Hp) : Prop :=
  ∃ ρ2 acc, i ≤ xs.length ∧ ρ2.length = σ.length ∧ Rep K Z.T ((wip ρ2 own).zip (wipe σ own) ++ (saved ρ1 σ own ++ ((Ell.Slot.own (.lst acc), some (V.ref D)) :: (l0 ++ fr)))) H ∧
    Post K Z σ fr VIs ents Q (lc2Fin ρ1 own (appR acc (lc2L f (xs.drop i) ρ2)))
/-- behind j turns of the second one -/
def Lc2J (K : PySem.W.Frag) (Z : Cf) (σ σ2 : L2.St) (fr : List Ent) (Q : VK) (F : Rho → Res (List D)) (f1 : D → Rho → Res (Option D)) (ys : List D) (own own1 : List Nat) (ρ1 : Rho) (l0 l1 : List Ent) (D : Addr) (j : Nat) (H : Hp) : Prop :=
  ∃ ρ2 acc, j ≤ ys.length ∧ ρ2.length = σ.length ∧ Rep K Z.T ((wip ρ2 own1).zip (wipe σ2 own1) ++ (saved ρ1 σ own ++ ((Ell.Slot.own (.lst acc), some (V.ref D)) :: (l1 ++ (l0 ++ fr))))) H ∧
    Post K Z σ fr VIs ents Q (lc2Fin ρ1 own (appR acc (lc2K F (lcL f1 (ys.drop j) ρ2))))
theorem mid_perm {A B l1 R : List Ent} {e : Ent} : (l1 ++ (A ++ (B ++ (e :: R)))).Perm (A ++ (B ++ (e :: (l1 ++ R)))) := by
  have p := List.perm_append_comm_assoc (A ++ (B ++ [e])) l1 R
  simpa [List.append_assoc] using p.symm
theorem tLc2_of {tg tg1 : Tgt} {it cond it1 cond1 elt : CE} {own own1 : List Nat} {Q : VK} (nd : own.Nodup) (nd1 : own1.Nodup) (sub : ∀ i ∈ own1, i ∈ own) (ht : ∀ i ∈ tsl tg, i ∈ own) (ht1 : ∀ i ∈ tsl tg1, i ∈ own1) (lt : ∀ i ∈ own, i < σ.length) (h : tE K Z (.lc2 tg it cond tg1 it1 cond1 elt own own1) σ H Q) :
    tLc2 (tI K Z it) (tgG K Z.no tg) (tT K Z.no cond) (tI K Z.no it1) (tgG K Z.no tg1) (tT K Z.no cond1) (tD K Z.no (evP elt)) own own1 σ H Q := by
  obtain ⟨ρ, fr, hl, R, h⟩ := h
  refine ⟨ρ, fr, hl, R, ?_⟩
  have h : Post K Z σ fr VIs ents Q (lc2All (lc2Step tg own (evP cond) (fun ρ => lc2In (lcStep tg1 own1 (evP cond1) (evP elt)) (evI it1 ρ))) own (evI it ρ)) := h
  have lt1 : ∀ {σ2 : L2.St}, σ2.length = σ.length → ∀ i ∈ own1, i < σ2.length := fun e i hi => by rw [e]; exact lt i (sub i hi)
  cases qa : evI it ρ with
  | stuck => rw [qa] at h; exact h
  | err c ρ1 => rw [qa] at h; exact h
  | ok xs ρ1 =>
    rw [qa] at h
    generalize hf1 : lcStep tg1 own1 (evP cond1) (evP elt) = f1 at h
    generalize hf : lc2Step tg own (evP cond) (fun ρ => lc2In f1 (evI it1 ρ)) = f at h
    have h : Post K Z σ fr VIs ents Q (lc2Fin ρ1 own (lc2L f xs ρ1)) := h
    intro J l0 H1 hl1 hJ R1 D hD
    refine ⟨fun i m H => m = xs.length - i ∧ Lc2I K Z σ fr Q f xs own ρ1 l0 D i H, ⟨xs.length, rfl, ρ1, [], Nat.zero_le _, hl1, ?_, ?_⟩, ?_⟩
    · obtain ⟨G, g⟩ := R1
      have g2 := g.newO (u := .lst []) (o := .lst []) hD (show ∃ ys, _ from ⟨[], upd_same, .nil⟩)
      refine Rep.save nd lt hl1 (Rep.perm ⟨G, g2⟩ ?_)
      exact ((List.perm_append_comm_assoc l0 (ρ1.zip σ) fr).cons _).trans List.perm_middle.symm
    · rw [List.drop_zero, appR_nil]; exact h
    · rintro i m H2 ⟨em, ρ2, acc, hi, hl2, R2, h2⟩
      have R3 : Rep K Z.T (l0 ++ ((wip ρ2 own).zip (wipe σ own) ++ (saved ρ1 σ own ++ ((Ell.Slot.own (.lst acc), some (V.ref D)) :: fr)))) H2 := R2.perm mid_perm.symm
      have hJ2 := hJ i _ H2 R3
      by_cases hlt : i < xs.length
      · obtain ⟨jg, jy⟩ := hJ2.1 xs[i] (List.getElem?_eq_getElem hlt)
        refine .inr ⟨jg, fun H' => Lc2I K Z σ fr Q f xs own ρ1 l0 D (i + 1) H', fun H' nx => ⟨xs.length - (i + 1), by omega, rfl, nx⟩, fun x H3 y3 => ?_⟩
        have R4 := jy x H3 y3
        rw [List.drop_eq_getElem_cons hlt] at h2
        have h2 : Post K Z σ fr VIs ents Q (lc2Fin ρ1 own (appR acc (lc2K (lc2L f (xs.drop (i + 1))) (f xs[i] ρ2)))) := h2
        generalize hF : lc2L f (xs.drop (i + 1)) = F at h2
        have hf' : f xs[i] ρ2 = lc2Go (evP cond) (fun ρ => lc2In f1 (evI it1 ρ)) (bindT tg xs[i] (wip ρ2 own)) := by rw [← hf]; rfl
        rw [hf'] at h2
        cases qb : bindT tg xs[i] (wip ρ2 own) with
        | none => rw [qb] at h2; exact False.elim h2
        | some ρ3 =>
          rw [qb] at h2
          have h2 : Post K Z σ fr VIs ents Q (lc2Fin ρ1 own (appR acc (lc2K F (lc2If (fun ρ => lc2In f1 (evI it1 ρ)) (kB (evP cond ρ3)))))) := h2
          have k3 := kp_bindT _ _ _ _ qb
          refine ⟨xs[i], wip ρ2 own, saved ρ1 σ own ++ ((Ell.Slot.own (.lst acc), some (V.ref D)) :: (l0 ++ fr)), ρ3, by rw [wip_len, wipe_length]; exact hl2, R4.perm (List.Perm.cons _ mid_perm), qb, fun σ2 hs2 _ ag R5 => ?_⟩
          have hw : wipe σ2 own = wipe σ own := by
            rw [← wipe_idem (σ := σ)]
            exact wipe_agree hs2 fun j hj => ag j fun z => hj (ht j z)
          have hs2' : σ2.length = σ.length := by rw [hs2, wipe_length]
          refine ⟨hw, ρ3, _, by rw [k3.len, wip_len, hl2, hs2'], R5, ?_⟩
          dsimp only
          cases qc : kB (evP cond ρ3) with
          | stuck => rw [qc] at h2; exact False.elim h2
          | err c ρ4 => rw [qc] at h2; exact False.elim h2
          | ok b ρ4 =>
            rw [qc] at h2
            intro b' H4 hl4 eb R6
            subst eb
            have R6 : Rep K Z.T (ρ4.zip σ2 ++ (saved ρ1 σ own ++ ((Ell.Slot.own (.lst acc), some (.ref D)) :: (l0 ++ fr)))) H4 := R6
            cases b with
            | false =>
              rw [if_neg Bool.false_ne_true]
              have h2 : Post K Z σ fr VIs ents Q (lc2Fin ρ1 own (appR acc (appR [] (F ρ4)))) := h2
              rw [appR_nil, ← hF] at h2
              exact ⟨ρ4, acc, hlt, by rw [hl4, hs2'], R6.wiped nd lt hs2' hw hl4, h2⟩
            | true =>
              rw [if_pos rfl]
              have h2 : Post K Z σ fr VIs ents Q (lc2Fin ρ1 own (appR acc (lc2K F (lc2In f1 (evI it1 ρ4))))) := h2
              refine ⟨ρ4, _, hl4, R6, ?_⟩
              cases qd : evI it1 ρ4 with
              | stuck => rw [qd] at h2; exact False.elim h2
              | err c ρ5 => rw [qd] at h2; exact False.elim h2
              | ok ys ρ5 =>
                rw [qd] at h2
                have h2 : Post K Z σ fr VIs ents Q (lc2Fin ρ1 own (appR acc (lc2K F (lcL f1 ys ρ5)))) := h2
                intro J1 l1 H5 hl5 hJ1 R7
                refine ⟨fun j k H => k = ys.length - j ∧ Lc2J K Z σ σ2 fr Q F f1 ys own own1 ρ1 l0 l1 D j H, ⟨ys.length, rfl, ρ5, acc, Nat.zero_le _, by rw [hl5, hs2'], ?_, ?_⟩, ?_⟩
                · exact (R7.perm mid_perm).wiped nd1 (lt1 hs2') rfl rfl hl5
                · rw [List.drop_zero]; exact h2
                · rintro j k H6 ⟨ek, ρ6, acc6, hj, hl6, R8, h6⟩
                  have R9 : Rep K Z.T (l1 ++ ((wip ρ6 own1).zip (wipe σ2 own1) ++ (saved ρ1 σ own ++ ((Ell.Slot.own (.lst acc6), some (V.ref D)) :: (l0 ++ fr))))) H6 := R8.perm mid_perm.symm
                  have hJ3 := hJ1 j _ H6 R9
                  by_cases hlt1 : j < ys.length
                  · obtain ⟨jg1, jy1⟩ := hJ3.1 ys[j] (List.getElem?_eq_getElem hlt1)
                    refine .inr ⟨jg1, fun H' => Lc2J K Z σ σ2 fr Q F f1 ys own own1 ρ1 l0 l1 D (j + 1) H', fun H' nx => ⟨ys.length - (j + 1), by omega, rfl, nx⟩, fun x1 H7 y7 => ?_⟩
                    have R10 := jy1 x1 H7 y7
                    rw [List.drop_eq_getElem_cons hlt1] at h6
                    have h6 : Post K Z σ fr VIs ents Q (lc2Fin ρ1 own (appR acc6 (lc2K F (lcK (lcL f1 (ys.drop (j + 1))) (f1 ys[j] ρ6))))) := h6
                    have hf2 : f1 ys[j] ρ6 = lcGo (evP cond1) (evP elt) (bindT tg1 ys[j] (wip ρ6 own1)) := by rw [← hf1]; rfl
                    rw [hf2] at h6
                    cases qe : bindT tg1 ys[j] (wip ρ6 own1) with
                    | none => rw [qe] at h6; exact False.elim h6
                    | some ρ7 =>
                      rw [qe] at h6
                      have h6 : Post K Z σ fr VIs ents Q (lc2Fin ρ1 own (appR acc6 (lc2K F (lcK (lcL f1 (ys.drop (j + 1))) (lcIf (evP elt) (kB (evP cond1 ρ7))))))) := h6
                      have k7 := kp_bindT _ _ _ _ qe
                      refine ⟨ys[j], wip ρ6 own1, saved ρ1 σ own ++ ((Ell.Slot.own (.lst acc6), some (V.ref D)) :: (l1 ++ (l0 ++ fr))), ρ7, by rw [wip_len, wipe_length, hl6, hs2'], R10.perm (List.Perm.cons _ mid_perm), qe, fun σ3 hs3 _ ag3 R11 => ?_⟩
                      have hw3 : wipe σ3 own1 = wipe σ2 own1 := by
                        rw [← wipe_idem (σ := σ2)]
                        exact wipe_agree hs3 fun q hq => ag3 q fun z => hq (ht1 q z)
                      have hs3' : σ3.length = σ2.length := by rw [hs3, wipe_length]
                      refine ⟨hw3, ρ7, _, by rw [k7.len, wip_len, hl6, hs3', hs2'], R11, ?_⟩
                      dsimp only
                      cases qf : kB (evP cond1 ρ7) with
                      | stuck => rw [qf] at h6; exact False.elim h6
                      | err c ρ8 => rw [qf] at h6; exact False.elim h6
                      | ok b ρ8 =>
                        rw [qf] at h6
                        intro b' H8 hl8 eb R12
                        subst eb
                        have R12 : Rep K Z.T (ρ8.zip σ3 ++ (saved ρ1 σ own ++ ((Ell.Slot.own (.lst acc6), some (.ref D)) :: (l1 ++ (l0 ++ fr))))) H8 := R12
                        cases b with
                        | false =>
                          rw [if_neg Bool.false_ne_true]
                          exact ⟨ρ8, acc6, hlt1, by rw [hl8, hs3', hs2'], R12.wiped nd1 (lt1 hs2') hs3' hw3 hl8, h6⟩
                        | true =>
                          rw [if_pos rfl]
                          refine ⟨ρ8, _, hl8, R12, ?_⟩
                          have h6 : Post K Z σ fr VIs ents Q (lc2Fin ρ1 own (appR acc6 (lc2K F (lcK (lcL f1 (ys.drop (j + 1))) (lcEnd (kD (evP elt ρ8))))))) := h6
                          dsimp only
                          cases qg : kD (evP elt ρ8) with
                          | stuck => rw [qg] at h6; exact False.elim h6
                          | err c ρ9 => rw [qg] at h6; exact False.elim h6
                          | ok dy ρ9 =>
                            rw [qg] at h6
                            have h6 : Post K Z σ fr VIs ents Q (lc2Fin ρ1 own (appR acc6 (lc2K F (consR dy (lcL f1 (ys.drop (j + 1)) ρ9))))) := h6
                            rw [lc2K_cons] at h6
                            have room := lc2_room h6
                            rw [appR_cons] at h6
                            intro y H9 hl9 _ R13
                            have R13 : Rep K Z.T ((Ell.Slot.dat dy, some y) :: (ρ9.zip σ3 ++ (saved ρ1 σ own ++ ((Ell.Slot.own (.lst acc6), some (.ref D)) :: (l1 ++ (l0 ++ fr)))))) H9 := R13
                            have p : ((Ell.Slot.dat dy, some y) :: (ρ9.zip σ3 ++ (saved ρ1 σ own ++ ((Ell.Slot.own (.lst acc6), some (V.ref D)) :: (l1 ++ (l0 ++ fr)))))).Perm ((Ell.Slot.own (.lst acc6), some (V.ref D)) :: (Ell.Slot.dat dy, some y) :: (ρ9.zip σ3 ++ (saved ρ1 σ own ++ (l1 ++ (l0 ++ fr))))) := by
                              have p := List.perm_middle (a := (Ell.Slot.own (.lst acc6), some (V.ref D))) (l₁ := (Ell.Slot.dat dy, some y) :: (ρ9.zip σ3 ++ saved ρ1 σ own)) (l₂ := l1 ++ (l0 ++ fr))
                              simpa [List.append_assoc] using p
                            obtain ⟨G, g⟩ := R13.perm p
                            obtain ⟨c, ec, gn, oa⟩ := g.good _ List.mem_cons_self
                            cases ec
                            obtain ⟨v', ev, wy⟩ := g.good (Ell.Slot.dat dy, some y) (List.mem_cons_of_mem _ List.mem_cons_self)
                            cases ev
                            obtain ⟨zs, hzs, iz⟩ := (show ∃ zs, H9 D = some (.lst zs) ∧ Iss K G zs acc6 from oa)
                            refine ⟨zs, hzs, by rw [iz.len]; exact room, ρ9, acc6 ++ [dy], hlt1, by rw [hl9, hs3', hs2'], ?_, h6⟩
                            have g2 := g.wr (s' := .own (.lst (acc6 ++ [dy]))) (u := .lst (zs ++ [y])) rfl rfl ⟨D, rfl, gn, (show ∃ us, _ from ⟨_, upd_same, iz.app (.cons wy .nil)⟩)⟩
                            have R14 : Rep K Z.T (ρ9.zip σ3 ++ (saved ρ1 σ own ++ ((Ell.Slot.own (.lst (acc6 ++ [dy])), some (V.ref D)) :: (l1 ++ (l0 ++ fr))))) (upd H9 D (.lst (zs ++ [y]))) := by
                              refine (Rep.subl ⟨G, g2⟩ ((List.sublist_cons_self _ _).cons_cons _)).perm ?_
                              have p := List.perm_middle (a := (Ell.Slot.own (.lst (acc6 ++ [dy])), some (V.ref D))) (l₁ := ρ9.zip σ3 ++ saved ρ1 σ own) (l₂ := l1 ++ (l0 ++ fr))
                              simpa [List.append_assoc] using p.symm
                            exact R14.wiped nd1 (lt1 hs2') hs3' hw3 hl9
                  · have ej : j = ys.length := by omega
                    refine .inl ⟨hJ3.2 (by omega), ?_⟩
                    rw [ej, List.drop_length] at h6
                    have h6 : Post K Z σ fr VIs ents Q (lc2Fin ρ1 own (appR acc6 (appR [] (F ρ6)))) := h6
                    rw [appR_nil, ← hF] at h6
                    refine ⟨ρ6, acc6, hlt, hl6, ?_, h6⟩
                    have R10 := R9.subl (List.sublist_append_right _ _)
                    have R11 := R10.wiped (σ := σ) (own := own) nd lt (by rw [wipe_length, hs2']) (by rw [wipe_sub σ2 sub, hw]) (by rw [wip_len, wipe_length, hl6, hs2'])
                    rw [wip_sub ρ6 sub] at R11
                    exact R11
      · have ei : i = xs.length := by omega
        refine .inl ⟨hJ2.2 (by omega), ?_⟩
        rw [ei, List.drop_length] at h2
        have h2 : Post K Z σ fr VIs ents Q (if leN (acc ++ []).length sizeLine then .ok (.tmp (.own (.lst (acc ++ [])))) (restore ρ1 ρ2 own) else .stuck) := h2
        by_cases hz : leN (acc ++ []).length sizeLine
        · rw [if_pos hz, List.append_nil] at h2
          have h2 : Post K Z σ fr VIs ents Q (.ok (.tmp (.own (.lst acc))) (restore ρ1 ρ2 own)) := h2
          have R4 : Rep K Z.T ((wip ρ2 own).zip (wipe σ own) ++ (saved ρ1 σ own ++ ((Ell.Slot.own (.lst acc), some (.ref D)) :: fr))) H2 := R3.subl (List.sublist_append_right _ _)
          have R5 := Rep.back (ρ0 := ρ1) nd lt hl2 hl1 R4
          have len : (restore ρ1 ρ2 own).length = σ.length := by
            have : ∀ (own : List Nat) (ρ2 : Rho), (restore ρ1 ρ2 own).length = ρ2.length := by
              intro own
              induction own with
              | nil => exact fun _ => rfl
              | cons i r ih => intro ρ2; show (restore ρ1 (ρ2.set i _) r).length = _; rw [ih, List.length_set]
            rw [this, hl2]
          exact h2 (.ref D) H2 len trivial (R5.perm List.perm_middle)
        · rw [if_neg hz] at h2; exact False.elim h2
end
section
variable {X : Cx} {Z : Cf} {k n : Nat}
/-- a comprehension of two clauses as a value -/
theorem d_lc2 {elt tg iter tg1 iter1 : Expr} {ifs ifs1 : List Expr} {scope : Scope} (own : List (Str × Nat)) (own1 : List Nat) {pos : Pos} {t t1 : Tgt} {ci cc ci1 cc1 ce : CE} (g : XG X k) (hi : PI X tg iter (tI X.K Z ci)) (hg : Bk X scope fun Y => PG Y tg (tgG X.K Z.no t)) (ht : Bk X scope fun Y => PTs Y ifs (tT X.K Z.no cc))
    (hi1 : Bk X scope fun Y => PI Y tg1 iter1 (tI X.K Z.no ci1)) (hg1 : Bk X scope fun Y => PG Y tg1 (tgG X.K Z.no t1)) (ht1 : Bk X scope fun Y => PTs Y ifs1 (tT X.K Z.no cc1)) (he : Bk X scope fun Y => PE Y elt (tE X.K Z.no ce))
    (ok : blkC X.N X.env.scope scope own = true := by rfl) (nd : (own.map (·.2)).Nodup := by decide) (nd1 : own1.Nodup := by decide) (sub : ∀ i ∈ own1, i ∈ own.map (·.2) := by decide) (hts : ∀ i ∈ tsl t, i ∈ own.map (·.2) := by decide) (hts1 : ∀ i ∈ tsl t1, i ∈ own1 := by decide)
    (hs : ∀ x, foldedSetIterable iter X.env x = pure x := by intro _; rfl) (hs1 : ∀ env x, foldedSetIterable iter1 env x = pure x := by intro _ _; rfl) :
    PE X (.ListComp elt [⟨tg, iter, ifs, 0⟩, ⟨tg1, iter1, ifs1, 0⟩] scope pos) (tE X.K Z (.lc2 t ci cc t1 ci1 cc1 ce (own.map (·.2)) own1)) := by
  refine ⟨fun pn s σ H Q J h => (pe_lc2 (vs1 := own1) g.calm g.nd hi (blkOk_by ok) sub hg ht hi1 hg1 ht1 (fun s H C cl fp => show PE _ _ (tD X.K Z.no (evP ce)) from pe_D (he s H C cl fp)) hs hs1).run pn s σ H Q J ?_⟩
  exact tLc2_of nd nd1 sub hts hts1 (lc_len (blkOk_by ok) (Nat.le_of_eq J.len.symm)) h
theorem s_lc2 {elt tg iter tg1 iter1 : Expr} {ifs ifs1 : List Expr} {scope : Scope} (own : List (Str × Nat)) (own1 : List Nat) {pos py spos : Pos} {i : Nat} {y : Str} {t t1 : Tgt} {ci cc ci1 cc1 ce : CE} (g : XG X k) (hi : PI X tg iter (tI X.K Z ci)) (hg : Bk X scope fun Y => PG Y tg (tgG X.K Z.no t)) (ht : Bk X scope fun Y => PTs Y ifs (tT X.K Z.no cc))
    (hi1 : Bk X scope fun Y => PI Y tg1 iter1 (tI X.K Z.no ci1)) (hg1 : Bk X scope fun Y => PG Y tg1 (tgG X.K Z.no t1)) (ht1 : Bk X scope fun Y => PTs Y ifs1 (tT X.K Z.no cc1)) (he : Bk X scope fun Y => PE Y elt (tE X.K Z.no ce))
    (hy : X.N[i]? = some y := by rfl) (hyl : X.env.scope.names.lookup y = some .local := by rfl) (hk : X.env.scope.kind = .function := by rfl) (hline : (py.line == pos.line) = true := by rfl) (ha : (scope.names.any fun (n, k) => n == y && (k == .local || k == .cell)) = false := by rfl)
    (ok : blkC X.N X.env.scope scope own = true := by rfl) (nd : (own.map (·.2)).Nodup := by decide) (nd1 : own1.Nodup := by decide) (sub : ∀ i ∈ own1, i ∈ own.map (·.2) := by decide) (hts : ∀ i ∈ tsl t, i ∈ own.map (·.2) := by decide) (hts1 : ∀ i ∈ tsl t1, i ∈ own1 := by decide)
    (hs : ∀ x, foldedSetIterable iter X.env x = pure x := by intro _; rfl) (hs1 : ∀ env x, foldedSetIterable iter1 env x = pure x := by intro _ _; rfl) :
    PS X (.Assign [.Name y py] (.ListComp elt [⟨tg, iter, ifs, 0⟩, ⟨tg1, iter1, ifs1, 0⟩] scope pos) spos) (tS X.K Z n (.set i (.lc2 t ci cc t1 ci1 cc1 ce (own.map (·.2)) own1))) := by
  refine ⟨fun pn s σ H DD J h => (ps_setLc2 (vs1 := own1) g.calm g.nd hy hyl (sw_true hk hyl hline ha) hi (blkOk_by ok) sub hg ht hi1 hg1 ht1 (fun s H C cl fp => show PE _ _ (tD X.K Z.no (evP ce)) from pe_D (he s H C cl fp)) hs hs1).run pn s σ H DD J ?_⟩
  exact tLc2_of nd nd1 sub hts hts1 (lc_len (blkOk_by ok) (Nat.le_of_eq J.len.symm)) (tM_of (asg_of h))
end
end Ell
set_option autoImplicit false
/-! Ell24: enumerate and reversed, of lists and of tuples. -/
namespace Ell
open PySem PySem.Spec PyProof.Rows L2
open Evl (Ex)
theorem meets_enum1 {v : Value} {o : Obj} {H : Heap → Prop} (B : Begins v o H) :
    Meets (Builtin.«enumerate.__new__» ⟨[.type "enumerate", v], []⟩) (fun _ R s => H s.heap ∧
      R (.ok (.ret (.ref (s.heap.push o).objs.size))) { s with heap := (s.heap.push o).push { cls := .type "enumerate", data := .fields #[.none, .bool false, .ref s.heap.objs.size, rawInt 0, .none, .none] } }) := by
  refine .of_wp fun prog w A R s h => ?_
  obtain ⟨hp, gb, dm, tk, os⟩ := s
  obtain ⟨hH, h⟩ := h
  have hsub := sub_enumerate
  have qi : ∀ {A' : Around} {E : Value → Shared → Prop} {Q : Value → Shared → Prop}, Q (.ref hp.objs.size) ⟨hp.push o, gb, dm, tk, os⟩ → wpAny (model prog w) A' (pyIter v) Q E ⟨hp, gb, dm, tk, os⟩ := fun q => B.iter prog w _ _ ⟨hp, gb, dm, tk, os⟩ _ hH q
  wp_walk using qi
  refine wpAny_stack_any fun st => wpAny_pure ?_
  split
  · rename_i c _ _ _ _ _
    cases (c == Value.type "enumerate") <;> (wp_walk using qi; exact ⟨_, rfl, h⟩)
  · wp_walk using qi
    exact ⟨_, rfl, h⟩
theorem enum_begins1 {prog : Program} {w : World} {A : Around} {E : Value → Shared → Prop} {s : Shared} {v : Value} {o : Obj} {H : Heap → Prop} {Q : Value → Shared → Prop} (B : Begins v o H) (hH : H s.heap)
    (h : ∀ h', IsEnum h' (s.heap.objs.size + 1) s.heap.objs.size 0 .none → h'.get? s.heap.objs.size = some o → (∀ b u, s.heap.get? b = some u → h'.get? b = some u) → Q (.ref (s.heap.objs.size + 1)) { s with heap := h' }) :
    wpAny (model prog w) A (call (.type "enumerate") [v]) Q E s := by
  refine callType_new F.called_enumerate (by decide) (F.typeCall_enumerate_1 _) (F.newCall_enumerate_1 _) (fun ob => F.args_object_init_2 ob _) F.entry_enumerate_new (meets_enum1 B) ⟨hH, ?_⟩
  have n1 : (s.heap.push o).objs.size = s.heap.objs.size + 1 := Heap.size_push ..
  have he := Heap.get?_push_size (s.heap.push o) (o := { cls := .type "enumerate", data := .fields #[.none, .bool false, .ref s.heap.objs.size, rawInt 0, .none, .none] }) rfl
  rw [n1] at he
  show _ ∧ _
  rw [n1]
  exact ⟨⟨_, he, rfl⟩, h _ he (Heap.get?_push_of_some _ (Heap.get?_push_size _ B.free)) fun b u x => Heap.get?_push_of_some _ (Heap.get?_push_of_some _ x)⟩
section
variable {K : PySem.W.Frag} {H : Hp} {a : Addr} {q : Bool}
def ItE (q : Bool) (K : PySem.W.Frag) (a : Addr) : It :=
  ⟨fun i H => ∃ (us : List V) (u : V), SqK q K H a us ∧ us[i]? = some u,
    fun i H v H' => ∃ N u, v = .ref N ∧ H N = none ∧ H' = upd H N (.tup [.int (i : Nat), u]) ∧ ∀ us, SqK q K H a us → us[i]? = some u,
    fun i H => ∃ us : List V, SqK q K H a us ∧ us.length ≤ i⟩
def eSt (q : Bool) (e it a : Addr) (i : Nat) (h : Heap) : Prop := (∃ old, IsEnum h e it ((i : Nat) : Int) old) ∧ IterAtH q h it a i
theorem two {c e it : Addr} (h : c ∈ [e, it]) : c = e ∨ c = it := by
  simp only [List.mem_cons, List.not_mem_nil, or_false] at h
  exact h
theorem nottwo {c e it : Addr} (h : ¬ c ∈ [e, it]) : c ≠ e ∧ c ≠ it := by
  simp only [List.mem_cons, List.not_mem_nil, or_false, not_or] at h
  exact h
theorem turn_e {P : Program} {w : World} {elts : List Expr} {kk : Nat} {tpos : Pos} {e it : Addr} (ne : e ≠ it) (na : a ≠ it) (ea : e ≠ a) : Turn P w K (.Tuple elts kk tpos) (ItE q K a) [e, it] e (eSt q e it a) where
  mem := List.mem_cons_self
  obj := fun i h st c hc => by
    obtain ⟨⟨old, he⟩, hi⟩ := st
    rcases two hc with z | z <;> rw [z]
    · exact ⟨_, he, fun v y => nomatch y⟩
    · exact hi.obj
  keep := fun i h h' st k => by
    obtain ⟨⟨old, he⟩, hi⟩ := st
    exact ⟨⟨old, k e List.mem_cons_self _ he⟩, hi.at (k it (by simp))⟩
  item := by
    intro X eP ew eK hc i pins s σ H E I hf st hg
    subst eP ew eK
    obtain ⟨⟨old, he⟩, hi⟩ := st
    obtain ⟨us, x, qx, hx⟩ := hg
    obtain ⟨l1, rv, p, _⟩ := seq_of I qx
    obtain ⟨u, hu, ru⟩ := rv.get hx
    have hel : e < s.heap.objs.size := Heap.lt_size he
    have n1 : i < l1.toArray.size := by have := (List.getElem?_eq_some_iff.mp hu).1; simpa using this
    refine wpAny_pyNext_enum_itemD (draws_k (A := X.A.in1) (show X.A.in1.handled = none from I.ok.hd hc) q it a na l1.toArray) he ⟨hi, p⟩ n1 ne (by simp [ne, ea]) fun x1 h' tk e1 ho st1 hT hsz hk => ?_
    have f1 : x1 = u := by
      have : l1[i]? = some x1 := by simpa using e1
      rw [hu] at this; exact (Option.some.inj this).symm
    subst f1
    refine ⟨_, rfl, wpAny_letOwnedTupleGo_enum (s := { s with heap := h', toks := tk + 1 }) ho fun h'' he' sb => ?_⟩
    have hT2 : h''.get? s.heap.objs.size = some { cls := .type "tuple", data := .seq #[.int i tk, x1] } := (sb.2 _ (Nat.ne_of_gt hel)).trans hT
    have new : ObjOk X.prog X.w (upd H s.heap.objs.size (.tup [.int (i : Nat), x])) h'' s.heap.objs.size (.tup [.int (i : Nat), x]) := ⟨(by decide : 2 ≤ sizeLine), [.int i tk, x1], .cons ⟨_, rfl⟩ (.cons ru .nil), ⟨_, hT2, rfl, _, rfl⟩⟩
    have I1 := I.turnedNew (t' := tk + 1) (s := s) (h' := h'') (fun c o hb y => by
      obtain ⟨c1, c2⟩ := nottwo hb
      exact (sb.2 c c1).trans (hk c o c1 c2 y)) hf (Nat.le_refl _) new
    have lts : ∀ c, c ∈ [e, it] → c < s.heap.objs.size := fun c hcm => by
      rcases two hcm with z | z <;> rw [z]
      · exact hel
      · obtain ⟨o, e1, _⟩ := hi.obj; exact Heap.lt_size e1
    refine ⟨.ref s.heap.objs.size, _, I1, rfl, ⟨_, x, rfl, I.hok.fresh (Nat.le_refl _), rfl, fun l hl => by rw [seq_inj I hl qx]; exact hx⟩, ⟨⟨x1, ?_⟩, st1.1.at fun o y => (sb.2 it ne.symm).trans y⟩, fun c hcm => ?_⟩
    · have e1 : ((i + 1 : Nat) : Int) = (i : Int) + 1 := by omega
      rw [e1]; exact he'
    · rw [upd_ne (Nat.ne_of_lt (lts c hcm))]
      exact (hf c hcm).1
  done := by
    intro X eP ew eK hc i pins s σ H E I hf st hg
    subst eP ew eK
    obtain ⟨⟨old, he⟩, hi⟩ := st
    obtain ⟨us, qx, hend⟩ := hg
    obtain ⟨l1, rv, p, _⟩ := seq_of I qx
    have e1 := rv.length
    have n1 : l1.toArray.size ≤ i := by simp; omega
    refine wpAny_pyNext_enum_endD (n := i) (draws_e (A := X.A.in1) (show X.A.in1.handled = none from I.ok.hd hc) q it a l1.toArray i n1) he ⟨rfl, hi, p⟩ fun h' eb => ⟨rfl, ?_⟩
    exact I.turnedL (t' := s.toks) (ch := [e, it]) (fun c o hb y => eb c o (nottwo hb).2 y) hf
  self := fun A i s Q E st h => let ⟨⟨_, he⟩, _⟩ := st; wpAny_pyIter_enum he h
def iEnumM (K : PySem.W.Frag) (ta : TA) : TI := fun σ H R => ta σ H fun vs H1 => ∃ q a us, vs = [.ref a] ∧ SqK q K H1 a us ∧ R (ItE q K a) H1
theorem pi_enumM {X : Cx} {e : Expr} {ta : TA} {p pos tpos : Pos} {elts : List Expr} {kk : Nat} (hg : Gl X "enumerate") (hm : X.mg "enumerate" = none) (ha : PA X [e] ta) (hs : starEach [e] X.env = [(false, eval e X.env)] := by rfl) :
    PI X (.Tuple elts kk tpos) (.Call (.Name "enumerate" p) [e] [] pos) (iEnumM X.K ta) := by
  constructor
  intro pins s σ H R I h
  refine Call_ (ld_blt I hg hm boot_enumerate (PyProof.Rows.callWith_type1 (thn (ha.run pos pins s σ H _ I h) fun us s1 hx => ?_) hs rfl))
  obtain ⟨vs, H1, I1, r1, q, a, xs, ex, qx, hR⟩ := hx
  subst ex
  cases r1 with
  | cons ra rr =>
    cases rr
    cases ra
    obtain ⟨l1, rv, p1, la⟩ := seq_of I1 qx
    refine enum_begins1 (begins_k q a l1.toArray) p1 fun h' he g1 hk => wpAny_pyIter_enum he ?_
    have I2 : Inv X pins σ H1 { s1 with heap := h' } := I1.kept (t' := s1.toks) hk
    refine ⟨_, _, _, _, H1, rfl, I2, turn_e (Nat.succ_ne_self _) (Nat.ne_of_lt la) (Nat.ne_of_gt (Nat.lt_succ_of_lt la)), ⟨⟨_, he⟩, IterAtH.new g1⟩, fun c hcm => ?_, hR⟩
    have hle : s1.heap.objs.size ≤ c := by
      rcases two hcm with z | z <;> rw [z]
      · exact Nat.le_add_right _ _
      · exact Nat.le_refl _
    exact I1.fpOk hle (I1.hok.fresh hle)
theorem zipIdx_get {xs : List D} {i : Nat} {d : D} (h : (xs.zipIdx.map fun p => PyData.tuple [.int p.2, p.1])[i]? = some d) : ∃ x, xs[i]? = some x ∧ d = .tuple [.int i, x] := by
  rw [List.getElem?_map, Option.map_eq_some_iff] at h
  obtain ⟨p, hp, rfl⟩ := h
  rw [List.getElem?_zipIdx, Option.map_eq_some_iff] at hp
  obtain ⟨x, hx, rfl⟩ := hp
  exact ⟨x, hx, by simp⟩
theorem jok_enum {T : List (Addr × Str)} {d : D} {ds : List D} (kq : ∀ G H, Is K G (.ref a) d → Ex G H → ∃ us, SqK q K H a us ∧ Iss K G us ds) :
    JOk K T (ItE q K a) (ds.zipIdx.map fun p => PyData.tuple [.int p.2, p.1]) [(.dat d, some (.ref a))] := by
  intro i l H R
  obtain ⟨G, g⟩ := id R
  obtain ⟨v, ev, w⟩ := g.good _ List.mem_cons_self
  cases ev
  obtain ⟨us, hs, t⟩ := kq G H w g.sub
  refine ⟨fun d hd => ?_, fun hi => ⟨us, hs, by rw [t.len]; simpa using hi⟩⟩
  obtain ⟨x, hx, rfl⟩ := zipIdx_get hd
  obtain ⟨u, hu, wu⟩ := t.get hx
  refine ⟨⟨us, u, hs, hu⟩, fun z H' q => ?_⟩
  obtain ⟨N, p1, rfl, hN, rfl, q1⟩ := q
  have e1 := (q1 us hs).symm.trans hu
  cases e1
  exact g.newT hN (.cons (.int _) (.cons wu .nil))
theorem jok_revL {T : List (Addr × Str)} {ds : List D} : JOk K T (Itv K a ds.length) ds.reverse [(.dat (.list ds), some (.ref a))] := by
  intro i l H R
  obtain ⟨G, g⟩ := id R
  obtain ⟨v, ev, w⟩ := g.good _ List.mem_cons_self
  cases ev
  cases w with
  | lst h t =>
    have hs := SqL.of (K := K) (g.sub _ _ h)
    refine ⟨fun d hd => ?_, fun hi => by rw [List.length_reverse] at hi; exact hi⟩
    have hi : i < ds.length := by have := (List.getElem?_eq_some_iff.mp hd).1; simpa using this
    rw [List.getElem?_reverse hi] at hd
    obtain ⟨u, hu, wu⟩ := t.get hd
    refine ⟨⟨hi, _, u, hs, hu⟩, fun x H' y => ?_⟩
    obtain ⟨rfl, y⟩ := y
    have e := (y _ hs).symm.trans hu
    cases e
    exact ⟨G, g.dat wu⟩
theorem jok_revT {T : List (Addr × Str)} {ds : List D} : JOk K T (RT.ItvT K a ds.length) ds.reverse [(.dat (.tuple ds), some (.ref a))] := by
  intro i l H R
  obtain ⟨G, g⟩ := id R
  obtain ⟨v, ev, w⟩ := g.good _ List.mem_cons_self
  cases ev
  cases w with
  | tup h t =>
    have hs : SqT K H a _ := Evl.ex_t g.sub h
    refine ⟨fun d hd => ?_, fun hi => by rw [List.length_reverse] at hi; exact hi⟩
    have hi : i < ds.length := by have := (List.getElem?_eq_some_iff.mp hd).1; simpa using this
    rw [List.getElem?_reverse hi] at hd
    obtain ⟨u, hu, wu⟩ := t.get hd
    refine ⟨⟨hi, _, u, hs, hu⟩, fun x H' y => ?_⟩
    obtain ⟨rfl, y⟩ := y
    have e := (y _ hs).symm.trans hu
    cases e
    exact ⟨G, g.dat wu⟩
end
section
variable {X : Cx} {Z : Cf} {a tg : Expr} {pos p tpos : Pos} {ca : CE} {elts : List Expr} {kk : Nat}
theorem i_enum (hm : X.mg "enumerate" = none) (ha : PE X a (tE X.K Z ca)) (hg : Gl X "enumerate" := by rfl) (hs : starEach [a] X.env = [(false, eval a X.env)] := by rfl) :
    PI X (.Tuple elts kk tpos) (.Call (.Name "enumerate" p) [a] [] pos) (tI X.K Z (.enum ca)) := by
  have hda : PE X a (tD X.K Z (evP ca)) := pe_D ha
  refine PI.imp (pi_enumM hg hm (pa_cons hda pa_nil (by rw [hs]; rfl)) hs) fun σ H R h => ?_
  obtain ⟨ρ, fr, hl, Rp, h⟩ := h
  have h : PostI X.K Z σ fr R (kI enumD (kD (evP ca ρ))) := h
  refine ⟨ρ, fr, hl, Rp, ?_⟩
  dsimp only
  cases qa : kD (evP ca ρ) with
  | stuck => rw [qa] at h; exact False.elim h
  | err c ρ1 => rw [qa] at h; exact h
  | ok d ρ1 =>
    rw [qa] at h
    have h : PostI X.K Z σ fr R (opt ((itemsOf d).map fun xs => xs.zipIdx.map fun p => PyData.tuple [.int p.2, p.1]) ρ1) := h
    intro v H1 hl1 _ R1
    obtain ⟨G, g⟩ := id R1
    obtain ⟨v', ev, wx⟩ := g.good _ List.mem_cons_self
    cases ev
    cases qz : itemsOf d with
    | none => rw [qz] at h; exact False.elim h
    | some xs =>
      rw [qz] at h
      obtain ⟨q, aa, us, rfl, k1, kq⟩ := kind_of wx qz g.sub
      exact ⟨q, aa, us, rfl, k1, h _ [(.dat d, some (.ref aa))] H1 hl1 (jok_enum kq) R1⟩
theorem i_rev (hm : X.mg "reversed" = none) (ha : PE X a (tE X.K Z ca)) (hg : Gl X "reversed" := by rfl) (hs : starEach [a] X.env = (false, eval a X.env) :: starEach [] X.env := by rfl) :
    PI X tg (.Call (.Name "reversed" p) [a] [] pos) (tI X.K Z (.rev ca)) := by
  have hda : PE X a (tD X.K Z (evP ca)) := pe_D ha
  refine PI.imp (RT.pi_revA hg hm hda hs) fun σ H R h => ?_
  obtain ⟨ρ, fr, hl, Rp, h⟩ := h
  have h : PostI X.K Z σ fr R (kI revD (kD (evP ca ρ))) := h
  refine ⟨ρ, fr, hl, Rp, ?_⟩
  dsimp only
  cases qa : kD (evP ca ρ) with
  | stuck => rw [qa] at h; exact False.elim h
  | err c ρ1 => rw [qa] at h; exact h
  | ok d ρ1 =>
    rw [qa] at h
    have h : PostI X.K Z σ fr R (opt ((itemsOf d).map List.reverse) ρ1) := h
    intro v H1 hl1 _ R1
    obtain ⟨G, g⟩ := id R1
    obtain ⟨v', ev, wx⟩ := g.good _ List.mem_cons_self
    cases ev
    cases d with
    | list xs =>
      have h : PostI X.K Z σ fr R (.ok xs.reverse ρ1) := h
      cases wx with
      | lst h1 t =>
        refine ⟨_, _, rfl, .inl ⟨SqL.of (g.sub _ _ h1), ?_⟩⟩
        rw [t.len]
        exact h _ _ H1 hl1 jok_revL R1
    | tuple xs =>
      have h : PostI X.K Z σ fr R (.ok xs.reverse ρ1) := h
      cases wx with
      | tup h1 t =>
        refine ⟨_, _, rfl, .inr ⟨Evl.ex_t g.sub h1, ?_⟩⟩
        rw [t.len]
        exact h _ _ H1 hl1 jok_revT R1
    | _ => exact False.elim h
end
end Ell
set_option autoImplicit false
/-! Ell25: chains of three, isinstance, [::-1], max and min of a list of ints. -/
namespace Ell
open PySem PySem.Spec PyProof.Rows L2
open Evl (Ex)
/-! ### chains of three -/
section
variable {X : Cx} {a b c d : Expr} {ta tb tc td : TE} {pos : Pos}
def tChain3 (r r' r'' : R2) (ta tb tc td : TE) : TE := fun σ H Q => ta σ H fun x H1 => tb σ H1 fun y H2 => r x y H2 fun z H3 => ∃ k, z = .bl k ∧
  (if k = true then tc σ H3 fun w H4 => r' y w H4 fun z' H5 => ∃ k', z' = .bl k' ∧ (if k' = true then td σ H5 fun v H6 => r'' w v H6 Q else Q (.bl false) H5) else Q (.bl false) H3)
theorem pe_chain3 {op op' op'' : CmpOp} {r r' r'' : R2} (ho : OpR X (compareOp op) r) (ho' : OpR X (compareOp op') r') (ho'' : OpR X (compareOp op'') r'') (ha : PE X a ta) (hb : PE X b tb) (hc : PE X c tc) (hd : PE X d td)
    (hm : lastMarks [op, op', op''] [b, c, d] = false := by with_unfolding_all rfl) : PE X (.Compare a [op, op', op''] [b, c, d] pos) (tChain3 r r' r'' ta tb tc td) := by
  refine ⟨fun pins s σ H Q I h => ?_⟩
  refine Compare_chain (thn (ha.run pins s σ H _ I h) fun v s1 ⟨x, H1, I1, r1, q1⟩ => chain_link (thn (hb.run pins s1 σ H1 _ I1 q1) fun u s2 ⟨y, H2, I2, r2, q2⟩ =>
    thn (ho pins s2 σ H2 x y v u _ I2 r1 r2 q2) fun d s3 ⟨z, H3, I3, r3, k, e, q3⟩ => ?_)) hm
  subst e
  cases r3
  refine wpAny_truthy_bool ?_
  cases k with
  | false => exact ite_ff ⟨.bl false, H3, I3, rfl, q3⟩
  | true =>
    refine ite_tt (chain_link (thn (hc.run pins s3 σ H3 _ I3 q3) fun w' s4 ⟨z', H4, I4, r4, q4⟩ => thn (ho' pins s4 σ H4 y z' u w' _ I4 r2 r4 q4) fun d s5 ⟨z5, H5, I5, r5, k5, e5, q5⟩ => ?_))
    subst e5
    cases r5
    refine wpAny_truthy_bool ?_
    cases k5 with
    | false => exact ite_ff ⟨.bl false, H5, I5, rfl, q5⟩
    | true => exact ite_tt (chain_last (thn (hd.run pins s5 σ H5 _ I5 q5) fun w6 s6 ⟨z6, H6, I6, r6, q6⟩ => ho'' pins s6 σ H6 z' z6 w' w6 Q I6 r4 r6 q6))
theorem pt_chain3 {op op' op'' : CmpOp} {r r' r'' : R2} (ho : OpR X (compareOp op) r) (ho' : OpR X (compareOp op') r') (ho'' : OpR X (compareOp op'') r'') (ha : PE X a ta) (hb : PE X b tb) (hc : PE X c tc) (hd : PE X d td)
    (hm : lastMarks [op, op', op''] [b, c, d] = false := by with_unfolding_all rfl) : PT X (.Compare a [op, op', op''] [b, c, d] pos) (tTest (tChain3 r r' r'' ta tb tc td)) := by
  refine ⟨fun pins s σ H Q I h => ?_⟩
  refine isTrue_chain (thn (ha.run pins s σ H _ I h) fun v s1 ⟨x, H1, I1, r1, q1⟩ => test_link (thn (hb.run pins s1 σ H1 _ I1 q1) fun u s2 ⟨y, H2, I2, r2, q2⟩ =>
    thn (ho pins s2 σ H2 x y v u _ I2 r1 r2 q2) fun d s3 ⟨z, H3, I3, r3, k, e, q3⟩ => ?_)) hm
  subst e
  cases r3
  refine wpAny_truthy_bool ?_
  cases k with
  | false =>
    obtain ⟨k', e', q'⟩ := q3
    cases e'
    exact ite_ff ⟨H3, I3, q'⟩
  | true =>
    refine ite_tt (test_link (thn (hc.run pins s3 σ H3 _ I3 q3) fun w' s4 ⟨z', H4, I4, r4, q4⟩ => thn (ho' pins s4 σ H4 y z' u w' _ I4 r2 r4 q4) fun d s5 ⟨z5, H5, I5, r5, k5, e5, q5⟩ => ?_))
    subst e5
    cases r5
    refine wpAny_truthy_bool ?_
    cases k5 with
    | false =>
      obtain ⟨k', e', q'⟩ := q5
      cases e'
      exact ite_ff ⟨H5, I5, q'⟩
    | true =>
      refine ite_tt (test_last (thn (hd.run pins s5 σ H5 _ I5 q5) fun w6 s6 ⟨z6, H6, I6, r6, q6⟩ => thn (ho'' pins s6 σ H6 z' z6 w' w6 _ I6 r4 r6 q6) fun c s7 ⟨z7, H7, I7, r7, k7, e7, q7⟩ => ?_))
      subst e7
      cases r7
      exact wpAny_truthy_bool ⟨H7, I7, q7⟩
end
section
variable {K : PySem.W.Frag} {Z : Cf} {σ : L2.St} {H : Hp} {fr : List Ent}
theorem link_of {o : COp} {r1 : R2} {N : V → Hp → Prop} {Q : VK} {x : Ell.Val} {v : V} {ρ1 : Rho} {H1 : Hp} {cb : CE} {g : Ell.Val → Rho → Res Ell.Val} (h1 : OpOk K r1 (fun d e => dB (cmpop o d e))) (hl1 : ρ1.length = σ.length) (vi : VIs x v σ)
    (R1 : Rep K Z.T (ents x v ++ (ρ1.zip σ ++ fr)) H1) (h : Post K Z σ fr VIs ents Q (chA x o g (evP cb ρ1)))
    (nx : ∀ (y : Ell.Val) (ρ2 : Rho) (w : V) (H3 : Hp), ρ2.length = σ.length → VIs y w σ → Rep K Z.T (ents y w ++ (ρ2.zip σ ++ fr)) H3 → Post K Z σ fr VIs ents Q (g y ρ2) → N w H3) :
    tE K Z cb σ H1 fun w H2 => r1 v w H2 fun z H3 => ∃ k, z = .bl k ∧ (if k = true then N w H3 else Q (.bl false) H3) := by
  refine ⟨ρ1, ents x v ++ fr, hl1, R1.perm (List.perm_append_comm_assoc _ _ _), ?_⟩
  cases qb : evP cb ρ1 with
  | stuck => rw [qb] at h; exact h
  | err c ρ2 => rw [qb] at h; exact fun H2 hl2 R2 => h H2 hl2 (drop_mid R2)
  | ok y ρ2 =>
    rw [qb] at h
    have h : Post K Z σ fr VIs ents Q (chB g y ρ2 ((x.view ρ2).bind fun d => (y.view ρ2).bind fun e => cmpop o d e)) := h
    intro w H2 hl2 wi R2
    cases ed : x.view ρ2 with
    | none => rw [ed] at h; exact False.elim h
    | some d =>
      rw [ed, Option.bind_some] at h
      cases ee : y.view ρ2 with
      | none => rw [ee] at h; exact False.elim h
      | some e =>
        rw [ee, Option.bind_some] at h
        cases es : cmpop o d e with
        | none => rw [es] at h; exact False.elim h
        | some k =>
          rw [es] at h
          obtain ⟨G, g2⟩ := id R2
          have wx := vw_at (ρ := ρ2) (σ := σ) g2 (fun p hp => List.mem_append_right _ (mem_l hp)) (fun p hp => mem_l hp) vi ed
          have wy := vw_at (ρ := ρ2) (σ := σ) g2 (fun p hp => List.mem_append_left _ hp) (fun p hp => mem_l hp) wi ee
          refine h1 _ G _ H2 v w d e (.dat (.bool k)) _ g2 wx wy (by dsimp only; rw [es]; rfl) fun u H3 R3 => ?_
          obtain ⟨G3, g3⟩ := id R3
          obtain ⟨u', eu, wu⟩ := g3.good _ List.mem_cons_self
          cases eu
          cases wu
          refine ⟨k, rfl, ?_⟩
          have R4 : Rep K Z.T (ents y w ++ (ρ2.zip σ ++ (ents x v ++ fr))) H3 := R3.subl (List.sublist_cons_self _ _)
          cases k with
          | false =>
            rw [if_neg Bool.false_ne_true]
            refine h (.bl false) H3 hl2 trivial ?_
            show Rep K Z.T ((.dat (.bool false), some (.bl false)) :: (ρ2.zip σ ++ fr)) H3
            exact R3.subl ((((List.sublist_append_right _ _).append_left _).trans (List.sublist_append_right _ _)).cons_cons _)
          | true =>
            rw [if_pos rfl]
            exact nx y ρ2 w H3 hl2 wi (R4.subl (((List.sublist_append_right _ _).append_left _).append_left _)) h
theorem last_of {o : COp} {r1 : R2} {Q : VK} {x : Ell.Val} {v : V} {ρ1 : Rho} {H1 : Hp} {cb : CE} (h1 : OpOk K r1 (fun d e => dB (cmpop o d e))) (hl1 : ρ1.length = σ.length) (vi : VIs x v σ)
    (R1 : Rep K Z.T (ents x v ++ (ρ1.zip σ ++ fr)) H1) (h : Post K Z σ fr VIs ents Q (chnC x o (evP cb ρ1))) : tE K Z cb σ H1 fun w H2 => r1 v w H2 Q := by
  refine ⟨ρ1, ents x v ++ fr, hl1, R1.perm (List.perm_append_comm_assoc _ _ _), ?_⟩
  cases qc : evP cb ρ1 with
  | stuck => rw [qc] at h; exact h
  | err c ρ3 => rw [qc] at h; exact fun H2 hl2 R2 => h H2 hl2 (drop_mid R2)
  | ok z ρ3 =>
    rw [qc] at h
    have h : Post K Z σ fr VIs ents Q (opt ((x.view ρ3).bind fun e => (z.view ρ3).bind fun g => (dB (cmpop o e g)).map Val.tmp) ρ3) := h
    intro t H4 hl4 ti R5
    cases ed : x.view ρ3 with
    | none => rw [ed] at h; exact False.elim h
    | some e' =>
      rw [ed, Option.bind_some] at h
      cases ee : z.view ρ3 with
      | none => rw [ee] at h; exact False.elim h
      | some g =>
        rw [ee, Option.bind_some] at h
        cases es2 : cmpop o e' g with
        | none => rw [es2] at h; exact False.elim h
        | some m =>
          rw [es2] at h
          have h : Post K Z σ fr VIs ents Q (.ok (.tmp (.dat (.bool m))) ρ3) := h
          obtain ⟨G5, g5⟩ := id R5
          have wx := vw_at (ρ := ρ3) (σ := σ) g5 (fun p hp => List.mem_append_right _ (mem_l hp)) (fun p hp => mem_l hp) vi ed
          have wy := vw_at (ρ := ρ3) (σ := σ) g5 (fun p hp => List.mem_append_left _ hp) (fun p hp => mem_l hp) ti ee
          refine h1 _ G5 _ H4 v t e' g (.dat (.bool m)) _ g5 wx wy (by dsimp only; rw [es2]; rfl) fun u H6 R6 => h u H6 hl4 trivial ?_
          show Rep K Z.T ((.dat (.bool m), some u) :: (ρ3.zip σ ++ fr)) H6
          exact R6.subl ((((List.sublist_append_right _ _).append_left _).trans (List.sublist_append_right _ _)).cons_cons _)
theorem tChain3_of {o1 o2 o3 : COp} {r1 r2 r3 : R2} {ca cb cc cd : CE} {Q : VK} (h1 : OpOk K r1 (fun d e => dB (cmpop o1 d e))) (h2 : OpOk K r2 (fun d e => dB (cmpop o2 d e))) (h3 : OpOk K r3 (fun d e => dB (cmpop o3 d e))) (h : tE K Z (.chn3 o1 o2 o3 ca cb cc cd) σ H Q) :
    tChain3 r1 r2 r3 (tE K Z ca) (tE K Z cb) (tE K Z cc) (tE K Z cd) σ H Q := by
  obtain ⟨ρ, fr, hl, R, h⟩ := h
  refine ⟨ρ, fr, hl, R, ?_⟩
  have h : Post K Z σ fr VIs ents Q (chn3 o1 o2 o3 (evP cb) (evP cc) (evP cd) (evP ca ρ)) := h
  cases qa : evP ca ρ with
  | stuck => rw [qa] at h; exact h
  | err c ρ1 => rw [qa] at h; exact h
  | ok x ρ1 =>
    rw [qa] at h
    intro v H1 hl1 vi R1
    have h : Post K Z σ fr VIs ents Q (chA x o1 (fun y ρ1 => chA y o2 (fun z ρ2 => chnC z o3 (evP cd ρ2)) (evP cc ρ1)) (evP cb ρ1)) := h
    exact link_of h1 hl1 vi R1 h fun y ρ2 w H3 hl3 wi R3 h => link_of h2 hl3 wi R3 h fun z ρ3 u H5 hl5 ui R5 h => last_of h3 hl5 ui R5 h
end
section
variable {X : Cx} {Z : Cf} {a b c d : Expr} {ca cb cc cd : CE} {pos : Pos}
theorem d_chn3 {op1 op2 op3 : CmpOp} {o1 o2 o3 : COp} (h1 : OpOk X.K (wide X (compareOp op1)) (fun d e => dB (cmpop o1 d e))) (h2 : OpOk X.K (wide X (compareOp op2)) (fun d e => dB (cmpop o2 d e))) (h3 : OpOk X.K (wide X (compareOp op3)) (fun d e => dB (cmpop o3 d e))) (ha : PE X a (tE X.K Z ca)) (hb : PE X b (tE X.K Z cb)) (hc : PE X c (tE X.K Z cc)) (hd : PE X d (tE X.K Z cd))
    (hm : lastMarks [op1, op2, op3] [b, c, d] = false := by with_unfolding_all rfl) : PE X (.Compare a [op1, op2, op3] [b, c, d] pos) (tE X.K Z (.chn3 o1 o2 o3 ca cb cc cd)) :=
  PE.imp (pe_chain3 (op_wide _) (op_wide _) (op_wide _) ha hb hc hd hm) fun _ _ _ h => tChain3_of h1 h2 h3 h
theorem t_chn3 {op1 op2 op3 : CmpOp} {o1 o2 o3 : COp} (h1 : OpOk X.K (wide X (compareOp op1)) (fun d e => dB (cmpop o1 d e))) (h2 : OpOk X.K (wide X (compareOp op2)) (fun d e => dB (cmpop o2 d e))) (h3 : OpOk X.K (wide X (compareOp op3)) (fun d e => dB (cmpop o3 d e))) (ha : PE X a (tE X.K Z ca)) (hb : PE X b (tE X.K Z cb)) (hc : PE X c (tE X.K Z cc)) (hd : PE X d (tE X.K Z cd))
    (hm : lastMarks [op1, op2, op3] [b, c, d] = false := by with_unfolding_all rfl) : PT X (.Compare a [op1, op2, op3] [b, c, d] pos) (tT X.K Z (.chn3 o1 o2 o3 ca cb cc cd)) :=
  PT.imp (pt_chain3 (op_wide _) (op_wide _) (op_wide _) ha hb hc hd hm) fun _ _ _ h => tChain3_of h1 h2 h3 (tB_of (ev := evP (.chn3 o1 o2 o3 ca cb cc cd)) h)
end
end Ell
set_option autoImplicit false
/-! Ell26: isinstance, [::-1], max and min of a list of ints. -/
namespace HT
open PySem PySem.Spec PyProof.Rows
section
variable {prog : Program} {w : World} {A : Around} {E : Value → Shared → Prop} {s : Shared}
theorem adjust_rev (n : Nat) : Builtin.Slice.sliceAdjust none none (-1) (n : Int) = ((n : Int) - 1, -1) := by
  unfold Builtin.Slice.sliceAdjust
  simp
theorem places_rev (n : Nat) : Builtin.Slice.slicePlaces ((n : Int) - 1) (-1) (-1) = n := by
  unfold Builtin.Slice.slicePlaces
  simp
  omega
theorem sliceApplied_rev {sl : Addr} {vl vu vs : Value} {n : Nat} {Q : Int × Int × Nat → Shared → Prop} (hs : s.heap.IsSliceOf sl vl vu vs) (pl : IsPart vl none) (pu : IsPart vu none) (ps : IsPart vs (some (-1)))
    (h : Q ((n : Int) - 1, -1, n) s) : wpAny (model prog w) A (Builtin.Slice.sliceApplied (.ref sl) (pure (n : Int))) Q E s := by
  obtain ⟨os, hos, hcs, hds⟩ := id hs
  unfold Builtin.Slice.sliceApplied Builtin.Slice.sliceFields
  refine wpAny_bind (wpAny_bind (wpAny_field hos hds (x := vl) rfl (wpAny_bind (wpAny_field hos hds (x := vu) rfl (wpAny_bind (wpAny_field hos hds (x := vs) rfl (wpAny_pure ?_)))))))
  refine wpAny_bind (slicePart_ ps ?_)
  show wpAny _ _ (if ((-1 : Int) == 0) = true then _ else _) _ _ s
  rw [if_neg (by decide)]
  refine wpAny_bind (slicePart_ pl (wpAny_bind (slicePart_ pu (wpAny_bind (wpAny_pure ?_)))))
  show wpAny _ _ (match Builtin.Slice.sliceAdjust none none (-1) (n : Int) with | (lo, hi) => pure (lo, (-1 : Int), Builtin.Slice.slicePlaces lo hi (-1))) _ _ s
  rw [adjust_rev]
  show wpAny _ _ (pure ((n : Int) - 1, (-1 : Int), Builtin.Slice.slicePlaces ((n : Int) - 1) (-1) (-1))) _ _ s
  rw [places_rev]
  exact wpAny_pure h
theorem fmap_map {α β : Type} {f : α → Option β} {g : α → β} : ∀ {l : List α}, (∀ a ∈ l, f a = some (g a)) → l.filterMap f = l.map g
  | [], _ => rfl
  | a :: l, h => by
    rw [List.filterMap_cons, h a List.mem_cons_self, List.map_cons, fmap_map fun b hb => h b (List.mem_cons_of_mem _ hb)]
theorem pick_rev (xs : Array Value) : ((List.range xs.size).filterMap fun (m : Nat) => xs[(((xs.size : Int) - 1) + (m : Int) * (-1)).toNat]?).toArray = xs.toList.reverse.toArray := by
  congr 1
  apply List.ext_getElem?
  intro i
  have e : (List.range xs.size).filterMap (fun (m : Nat) => xs[(((xs.size : Int) - 1) + (m : Int) * (-1)).toNat]?) = (List.range xs.size).map fun m => xs.getD (xs.size - 1 - m) .none := by
    refine fmap_map fun m hm => ?_
    have hm := List.mem_range.mp hm
    rw [show (((xs.size : Int) - 1) + (m : Int) * (-1)).toNat = xs.size - 1 - m by omega]
    have hl : xs.size - 1 - m < xs.size := by omega
    simp [Array.getD, hl]
  rw [e, List.getElem?_map]
  by_cases hi : i < xs.size
  · rw [List.getElem?_range hi, List.getElem?_reverse (by simpa using hi)]
    have hl : xs.size - 1 - i < xs.size := by omega
    simp [Array.getD, hl]
  · rw [List.getElem?_eq_none (by simpa using hi), List.getElem?_eq_none (by simpa using hi)]; rfl
theorem getItem_tuple_rev {t sl : Addr} {items : Array Value} {vl vu vs : Value} {Q : Value → Shared → Prop} (ht : IsTup s.heap t items) (hs : s.heap.IsSliceOf sl vl vu vs) (pl : IsPart vl none) (pu : IsPart vu none) (ps : IsPart vs (some (-1)))
    (h : Q (.ref s.heap.objs.size) { s with heap := s.heap.push { cls := .type "tuple", data := .seq items.toList.reverse.toArray } })
    (hsz : items.size ≤ sizeLine) : wpAny (model prog w) A (getItem (.ref t) (.ref sl)) Q E s := by
  have htake : sizeOk (.seq items.toList.reverse.toArray) := by
    show items.toList.reverse.toArray.size ≤ sizeLine
    rw [List.size_toArray, List.length_reverse, Array.length_toList]
    exact hsz
  obtain ⟨os, hos, hcs, hds⟩ := id hs
  have hTs : s.TypeIs (.ref sl) "slice" := ⟨os, hos, hcs⟩
  unfold getItem
  try with_reducible refine wpAny_holding ?_
  first | refine wpAny_bind (wpAny_pure ?_) | skip
  refine wpAny_bind (wpAny_sequenceKey ht.typeIs (by decide) ?_)
  refine wpAny_bind (wpAny_callSpecial?_slot (name := Str.ofString "__getitem__") ht.typeIs PyProof.Rows.slot_tuple_getitem
    (wpAny_call_entry PyProof.Rows.slot_tuple_getitem ht.typeIs entry_tuple_getitem ?_ (args_tuple_getitem _ _)))
  show wpAny _ _ (Builtin.Tuple.tupleItemsOf (.ref t) >>= _) _ _ s
  refine wpAny_bind (tupleItemsOf_ ht ?_)
  refine wpAny_bind (wpAny_typeOf hTs ?_)
  rw [if_pos (by decide)]
  refine wpAny_bind (sliceApplied_rev hs pl pu ps ?_)
  have hno : ¬ (((items.size : Int) - 1 == 0 && (-1 : Int) == 1 && items.size == items.size) = true) := by
    intro q
    rw [Bool.and_eq_true, Bool.and_eq_true] at q
    exact absurd q.1.2 (by decide)
  show wpAny _ _ (if ((items.size : Int) - 1 == 0 && (-1 : Int) == 1 && items.size == items.size) = true then _ else _) _ _ s
  rw [if_neg hno, pick_rev]
  first
    | exact wpAny_bind (m := Builtin.Tuple.tupleExact _) (wpAny_newObj_type (wpAny_pure ⟨_, rfl, wpAny_pure h⟩) htake)
    | exact wpAny_bind (m := Builtin.Tuple.tupleExact _) (wpAny_newObj_type (wpAny_bind (wpAny_pure (wpAny_pure ⟨_, rfl, wpAny_pure h⟩))) htake)
    | exact wpAny_bind (wpAny_bind (m := Builtin.Tuple.tupleExact _) (wpAny_newObj_type (wpAny_pure (wpAny_pure ⟨_, rfl, wpAny_pure h⟩)) htake))
    | exact wpAny_bind (wpAny_bind (m := Builtin.Tuple.tupleExact _) (wpAny_newObj_type (wpAny_pure ⟨_, rfl, wpAny_pure h⟩) htake))
end
end HT
namespace Ell
open PySem PySem.Spec PyProof.Rows L2
open Evl (Ex)
section
variable {X : Cx}
/-- xs[::-1], of a list or of a tuple -/
def tRev (K : PySem.W.Frag) (te : TE) : TE := fun σ H Q => te σ H fun x H1 => ∃ a xs, x = .ref a ∧ ((SqL K H1 a xs ∧ ∀ p, H1 p = none → Q (.ref p) (upd H1 p (.lst xs.reverse))) ∨ (SqT K H1 a xs ∧ ∀ p, H1 p = none → Q (.ref p) (upd H1 p (.tup xs.reverse))))
theorem pe_rev {e : Expr} {te : TE} {k : Nat} {p1 p2 p3 pos : Pos} (he : PE X e te) : PE X (.Subscript e (.Slice none none (some (.UnaryOp .USub (.Constant (.int 1) k p1) p2)) p3) pos) (tRev X.K te) := by
  refine ⟨fun pins s σ H Q I h => ?_⟩
  refine Subscript_ (thn (he.run pins s σ H _ I h) fun v s1 ⟨x, H1, I1, r1, q1⟩ => ?_)
  obtain ⟨a, xs, ex, hx⟩ := q1
  subst ex
  cases r1
  have hst : PO X (some (.UnaryOp .USub (.Constant (.int 1) k p1) p2)) (tPart (tUn (rU fun i => .int (-i)) (tC (.int 1)))) := po_some (pe_un un_neg pe_int)
  refine wpAny_Slice (thn (po_none.run pins s1 σ H1 (fun o H2 => o = none ∧ H2 = H1) I1 ⟨rfl, rfl⟩) fun vl s2 ⟨l, H2, I2, pl, el, e2⟩ => ?_)
  subst el e2
  refine thn (po_none.run pins s2 σ H2 (fun o H3 => o = none ∧ H3 = H2) I2 ⟨rfl, rfl⟩) fun vu s3 ⟨u, H3, I3, pu, eu, e3⟩ => ?_
  subst eu e3
  refine thn (hst.run pins s3 σ H3 (fun o H4 => o = some (-1) ∧ H4 = H3) I3 ⟨1, rfl, -1, rfl, rfl, rfl⟩) fun vs s4 ⟨o, H4, I4, ps, eo, e4⟩ => ?_
  subst eo e4
  have I5 : Inv X pins σ H4 { s4 with heap := s4.heap.push { cls := .type "slice", data := .fields #[vl, vu, vs] } } := I4.kept (t' := s4.toks) fun b ob q => Heap.get?_push_of_some _ q
  rcases hx with ⟨hx, q⟩ | ⟨hx, q⟩
  · obtain ⟨its, r, ht, hz⟩ := I5.list hx
    have hlen := r.length
    show wpAny (model X.prog X.w) X.A (subscriptTail e (.Slice none none (some (.UnaryOp .USub (.Constant (.int 1) k p1) p2)) p3) (.ref a) (.ref s4.heap.objs.size)) (EP X pins σ Q) X.xe { s4 with heap := s4.heap.push { cls := .type "slice", data := .fields #[vl, vu, vs] } }
    refine tail_any (ops := [.ref a, .ref s4.heap.objs.size]) ht.isList.typeIs (PySem.slot_list_getitem.lookup) ?_ (by with_unfolding_all rfl)
    refine wpAny_getItem_list_slice ht.isList (Heap.IsSliceOf.new _ vl vu vs) pl pu ps (by decide) ?_ (by rw [List.size_toArray]; omega)
    rw [PySem.W.krv_pick]
    refine ⟨.ref _, _, I5.laid (t' := s4.toks) (o := .lst xs.reverse) (fun b ob q => Heap.get?_push_of_some _ q) (Nat.le_refl _) ?_, rfl, q _ (I5.hok.fresh (Nat.le_refl _))⟩
    exact ⟨by rw [List.length_reverse]; exact hz, _, 0, r.reverse, Heap.get?_push_size _ rfl⟩
  · obtain ⟨its, r, ht, hz⟩ := I5.tuple hx
    have hlen := r.length
    show wpAny (model X.prog X.w) X.A (subscriptTail e (.Slice none none (some (.UnaryOp .USub (.Constant (.int 1) k p1) p2)) p3) (.ref a) (.ref s4.heap.objs.size)) (EP X pins σ Q) X.xe { s4 with heap := s4.heap.push { cls := .type "slice", data := .fields #[vl, vu, vs] } }
    refine tail_any (ops := [.ref a, .ref s4.heap.objs.size]) ht.typeIs (PyProof.Rows.slot_tuple_getitem.lookup) ?_ (by with_unfolding_all rfl)
    refine HT.getItem_tuple_rev ht (Heap.IsSliceOf.new _ vl vu vs) pl pu ps ?_ (by rw [List.size_toArray]; omega)
    refine ⟨.ref _, _, I5.laid (t' := s4.toks) (o := .tup xs.reverse) (fun b ob q => Heap.get?_push_of_some _ q) (Nat.le_refl _) ?_, rfl, q _ (I5.hok.fresh (Nat.le_refl _))⟩
    exact ⟨by rw [List.length_reverse]; exact hz, _, r.reverse, IsTup.new _ _⟩
def rRev (K : PySem.W.Frag) : List V → Hp → VK → Prop := fun xs H1 Q => ∃ a ys, xs = [.ref a] ∧ ((SqL K H1 a ys ∧ ∀ p, H1 p = none → Q (.ref p) (upd H1 p (.lst ys.reverse))) ∨ (SqT K H1 a ys ∧ ∀ p, H1 p = none → Q (.ref p) (upd H1 p (.tup ys.reverse))))
theorem bf_rev : BfOk X.K (rRev X.K) .rev := by
  intro T G l H xs ds s Q R w es hq
  match ds, w, es with
  | [.list ys], w, es =>
    obtain ⟨v, e, w⟩ := vw1 w
    rw [f_revl] at es; cases es
    obtain ⟨a, zs, ev, h1, i1⟩ := w.lst R.sub
    exact ⟨a, zs, by rw [e, ev], .inl ⟨SqL.of h1, fun p hp => hq _ _ (R.newL hp i1.rev)⟩⟩
  | [.tuple ys], w, es =>
    obtain ⟨v, e, w⟩ := vw1 w
    rw [f_revt] at es; cases es
    obtain ⟨a, zs, ev, h1, i1⟩ := w.tup R.sub
    exact ⟨a, zs, by rw [e, ev], .inr ⟨h1, fun p hp => hq _ _ (R.newT hp i1.rev)⟩⟩
variable {Z : Cf} {e : Expr} {ca : CE} {pos : Pos}
theorem d_rev {k : Nat} {p1 p2 p3 : Pos} (ha : PE X e (tE X.K Z ca)) : PE X (.Subscript e (.Slice none none (some (.UnaryOp .USub (.Constant (.int 1) k p1) p2)) p3) pos) (tE X.K Z (.blt .rev (.cons ca .nil))) := by
  refine PE.imp (pe_rev ha) fun σ H Q h => ?_
  have h := tCs_cons (tBlt_of bf_rev h)
  refine h.mono fun x H1 q => ?_
  obtain ⟨a, ys, ex, q2⟩ := tCs_nil q
  exact ⟨a, ys, (List.cons.inj ex).1, q2⟩
/-- tuple(reversed(xs)) -/
def rTrev (K : PySem.W.Frag) : List V → Hp → VK → Prop := fun xs H1 Q => ∃ a ys, xs = [.ref a] ∧ SqL K H1 a ys ∧ ∀ p, H1 p = none → Q (.ref p) (upd H1 p (.tup ys.reverse))
theorem bf_trev : BfOk X.K (rTrev X.K) .trev := by
  intro T G l H xs ds s Q R w es hq
  match ds, w, es with
  | [.list ys], w, es =>
    obtain ⟨v, e, w⟩ := vw1 w
    rw [f_trev] at es; cases es
    obtain ⟨a, zs, ev, h1, i1⟩ := w.lst R.sub
    exact ⟨a, zs, by rw [e, ev], SqL.of h1, fun p hp => hq _ _ (R.newT hp i1.rev)⟩
theorem d_trev {k : Nat} {p p2 pos2 : Pos} (g : XG X k) (hm : X.mg "tuple" = none) (hm2 : X.mg "reversed" = none) (ha : PE X e (tE X.K Z ca)) (hg : Gl X "tuple" := by rfl) (hg2 : Gl X "reversed" := by rfl)
    (hs : starEach [e] X.env = (false, eval e X.env) :: starEach [] X.env := by rfl) (hs2 : starEach [.Call (.Name "reversed" p2) [e] [] pos2] X.env = (false, eval (.Call (.Name "reversed" p2) [e] [] pos2) X.env) :: starEach [] X.env := by rfl) :
    PE X (.Call (.Name "tuple" p) [.Call (.Name "reversed" p2) [e] [] pos2] [] pos) (tE X.K Z (.blt .trev (.cons ca .nil))) := by
  refine PE.imp (RT.pe_tupRev g.calm hg hm hg2 hm2 ha hs hs2) fun σ H Q h => ?_
  have h := tCs_cons (tBlt_of bf_trev h)
  refine h.mono fun x H1 q => ?_
  obtain ⟨a, ys, ex, hq, q2⟩ := tCs_nil q
  exact ⟨a, ys, (List.cons.inj ex).1, hq, q2⟩
/-! ### isinstance -/
def tynm : Nat → String
  | 0 => "NoneType"
  | 1 => "bool"
  | 2 => "int"
  | 3 => "str"
  | 4 => "list"
  | _ => "tuple"
theorem Vw.ty {K : PySem.W.Frag} {G H : Hp} {v : V} {d : D} {n : Nat} (w : Vw K G H v d) (g : Ex G H) (h : tyn d = some n) :
    TyX K H v (.type (tynm n)) := by
  cases d with
  | none => cases h; rw [w.non]; exact .base .non
  | bool b => cases h; rw [w.bl]; exact .base (.bl b)
  | int i => cases h; rw [w.int]; exact .base (.int i)
  | str x => cases h; rw [w.str]; exact .base (.str x)
  | list xs =>
    cases h
    obtain ⟨a, ys, rfl, e, _⟩ := w.lst g
    exact .base (.lst e)
  | tuple xs =>
    cases h
    obtain ⟨a, ys, rfl, e, _⟩ := w.tup g
    rcases e with (e | ⟨o, e⟩) | ⟨o, _, _, e, c, _⟩
    · exact .base (.tup e)
    · exact .fTuple e
    · exact .kTuple e c
  | dict kvs => cases h
def rIsT (K : PySem.W.Frag) (T : String) : List V → Hp → VK → Prop := fun xs H Q => ∃ x, xs = [x] ∧ rIsi K [x, .ty T] H Q
theorem isi_of {K : PySem.W.Frag} {G H : Hp} {T' : List (Addr × Str)} {l : List Ent} {v : V} {d : D} {n : Nat} {T : String} {b : Bool} {Q : VK} (R : RepG K T' G l H) (w : Vw K G H v d) (h : tyn d = some n)
    (hk : kitB (tynm n) T = some b) (hq : ∀ u H', Rep K T' ((.dat (.bool b), some u) :: l) H' → Q u H') : rIsT K T [v] H Q :=
  ⟨v, rfl, v, .ty T, _, _, b, rfl, .ty T, w.ty R.sub h, kit_ty hk, hq _ _ (R.rep (.bl _))⟩
theorem bf_istup : BfOk X.K (rIsT X.K "tuple") .istup := by
  intro T G l H xs ds s Q R w es hq
  match ds, w, es with
  | [d], w, es =>
    obtain ⟨v, e, w⟩ := vw1 w
    rw [f_istup] at es
    obtain ⟨n, hn, rfl⟩ := map_some es
    rw [e]
    cases d with
    | none => cases hn; exact isi_of R w rfl (by decide +kernel) hq
    | bool b => cases hn; exact isi_of R w rfl (by decide +kernel) hq
    | int i => cases hn; exact isi_of R w rfl (by decide +kernel) hq
    | str x => cases hn; exact isi_of R w rfl (by decide +kernel) hq
    | list ys => cases hn; exact isi_of R w rfl (by decide +kernel) hq
    | tuple ys => cases hn; exact isi_of R w rfl (by decide +kernel) hq
    | dict kvs => cases hn
theorem bf_isint : BfOk X.K (rIsT X.K "int") .isint := by
  intro T G l H xs ds s Q R w es hq
  match ds, w, es with
  | [d], w, es =>
    obtain ⟨v, e, w⟩ := vw1 w
    rw [f_isint] at es
    obtain ⟨n, hn, rfl⟩ := map_some es
    rw [e]
    cases d with
    | none => cases hn; exact isi_of R w rfl (by decide +kernel) hq
    | bool b => cases hn; exact isi_of R w rfl (by decide +kernel) hq
    | int i => cases hn; exact isi_of R w rfl (by decide +kernel) hq
    | str x => cases hn; exact isi_of R w rfl (by decide +kernel) hq
    | list ys => cases hn; exact isi_of R w rfl (by decide +kernel) hq
    | tuple ys => cases hn; exact isi_of R w rfl (by decide +kernel) hq
    | dict kvs => cases hn
theorem bf_isbool : BfOk X.K (rIsT X.K "bool") .isbool := by
  intro T G l H xs ds s Q R w es hq
  match ds, w, es with
  | [d], w, es =>
    obtain ⟨v, e, w⟩ := vw1 w
    rw [f_isbool] at es
    obtain ⟨n, hn, rfl⟩ := map_some es
    rw [e]
    cases d with
    | none => cases hn; exact isi_of R w rfl (by decide +kernel) hq
    | bool b => cases hn; exact isi_of R w rfl (by decide +kernel) hq
    | int i => cases hn; exact isi_of R w rfl (by decide +kernel) hq
    | str x => cases hn; exact isi_of R w rfl (by decide +kernel) hq
    | list ys => cases hn; exact isi_of R w rfl (by decide +kernel) hq
    | tuple ys => cases hn; exact isi_of R w rfl (by decide +kernel) hq
    | dict kvs => cases hn
theorem bf_isstr : BfOk X.K (rIsT X.K "str") .isstr := by
  intro T G l H xs ds s Q R w es hq
  match ds, w, es with
  | [d], w, es =>
    obtain ⟨v, e, w⟩ := vw1 w
    rw [f_isstr] at es
    obtain ⟨n, hn, rfl⟩ := map_some es
    rw [e]
    cases d with
    | none => cases hn; exact isi_of R w rfl (by decide +kernel) hq
    | bool b => cases hn; exact isi_of R w rfl (by decide +kernel) hq
    | int i => cases hn; exact isi_of R w rfl (by decide +kernel) hq
    | str x => cases hn; exact isi_of R w rfl (by decide +kernel) hq
    | list ys => cases hn; exact isi_of R w rfl (by decide +kernel) hq
    | tuple ys => cases hn; exact isi_of R w rfl (by decide +kernel) hq
    | dict kvs => cases hn
theorem d_isi {f : BF} {T : String} {x : Str} {p p2 : Pos} (hr : BfOk X.K (rIsT X.K T) f) (hm : X.mg "isinstance" = none) (hmt : X.mg x = none) (ha : PE X e (tE X.K Z ca)) (hv : bootBuiltins x = some (.type T) := by decide +kernel) (hv0 : bootBuiltins "isinstance" = some (.builtin "isinstance") := by decide +kernel)
    (hg : Gl X "isinstance" := by rfl) (hgt : Gl X x := by rfl) (hn : x ≠ "__name__" := by decide) (hdb : (x == ("__debug__" : Str)) = false := by decide)
    (he : starEach [e, .Name x p2] X.env = (false, eval e X.env) :: starEach [.Name x p2] X.env := by rfl) (he2 : starEach [.Name x p2] X.env = (false, eval (.Name x p2) X.env) :: starEach [] X.env := by rfl) (hpl : (backTo pos (starEach [.Name x p2] X.env)).any (·.1) = false := by rfl) :
    PE X (.Call (.Name "isinstance" p) [e, .Name x p2] [] pos) (tE X.K Z (.blt f (.cons ca .nil))) := by
  refine PE.imp (pe_callB call_isi hg hm hv0 (pa_cons ha (pa_cons (pe_bltn hgt hmt hv (show RelV (.ty T) (.type T) from rfl) hn hdb) pa_nil he2) he) (by decide) (by decide) he hpl) fun σ H Q h => ?_
  have h := tCs_cons (tBlt_of hr h)
  refine h.mono fun y H1 q => ?_
  obtain ⟨z, ez, q2⟩ := tCs_nil q
  cases (List.cons.inj ez).1
  exact q2
/-! ### max, min of a list -/
theorem fmax : ∀ (ns : List Int) (m : Int), m ≤ ns.foldl max m ∧ (∀ y ∈ ns, y ≤ ns.foldl max m) ∧ (ns.foldl max m = m ∨ ns.foldl max m ∈ ns)
  | [], m => ⟨Int.le_refl _, (fun _ h => nomatch h), .inl rfl⟩
  | n :: ns, m => by
    obtain ⟨a, b, c⟩ := fmax ns (max m n)
    refine ⟨by show m ≤ ns.foldl max (max m n); omega, fun y h => ?_, ?_⟩
    · rcases List.mem_cons.mp h with rfl | h
      · show y ≤ ns.foldl max (max m y); omega
      · exact b y h
    · rcases c with c | c
      · show ns.foldl max (max m n) = m ∨ ns.foldl max (max m n) ∈ n :: ns
        rw [c]
        by_cases h : m ≤ n
        · right; rw [show max m n = n by omega]; exact List.mem_cons_self
        · left; omega
      · exact .inr (List.mem_cons_of_mem _ c)
theorem fmin : ∀ (ns : List Int) (m : Int), ns.foldl min m ≤ m ∧ (∀ y ∈ ns, ns.foldl min m ≤ y) ∧ (ns.foldl min m = m ∨ ns.foldl min m ∈ ns)
  | [], m => ⟨Int.le_refl _, (fun _ h => nomatch h), .inl rfl⟩
  | n :: ns, m => by
    obtain ⟨a, b, c⟩ := fmin ns (min m n)
    refine ⟨by show ns.foldl min (min m n) ≤ m; omega, fun y h => ?_, ?_⟩
    · rcases List.mem_cons.mp h with rfl | h
      · show ns.foldl min (min m y) ≤ y; omega
      · exact b y h
    · rcases c with c | c
      · show ns.foldl min (min m n) = m ∨ ns.foldl min (min m n) ∈ n :: ns
        rw [c]
        by_cases h : n ≤ m
        · right; rw [show min m n = n by omega]; exact List.mem_cons_self
        · left; omega
      · exact .inr (List.mem_cons_of_mem _ c)
theorem bf_maxL {k : Nat} (g : XG X k) : BfOk X.K (wcall X (.builtin "max")) .maxL := by
  intro T G l H xs ds s Q R w es hq
  match ds, w, es with
  | [.list ys], w, es =>
    obtain ⟨v, e, w⟩ := vw1 w
    rw [f_maxl] at es
    obtain ⟨ns, en, es⟩ := Option.bind_eq_some_iff.mp es
    by_cases c : ns = []
    · rw [if_pos c] at es; cases es
    · rw [if_neg c] at es; cases es
      obtain ⟨a, zs, ev, h1, i1⟩ := w.lst R.sub
      refine wcall_of (cr_max g.calm) ⟨a, ns, by rw [e, ev], by rw [← i1.ints en]; exact SqL.of h1, List.length_pos_iff.mpr c, fun m hm hy => ?_⟩
      have hh : ns.headD 0 ∈ ns := by cases ns with | nil => exact absurd rfl c | cons a b => exact List.mem_cons_self
      obtain ⟨p, q, r⟩ := fmax ns (ns.headD 0)
      have e1 : ns.foldl max (ns.headD 0) ∈ ns := by rcases r with r | r; rw [r]; exact hh; exact r
      have e2 : m = ns.foldl max (ns.headD 0) := Int.le_antisymm (q m hm) (hy _ e1)
      rw [e2]
      exact hq _ _ (R.rep (.int _))
  | [.tuple ys], w, es =>
    obtain ⟨v, e, w⟩ := vw1 w
    rw [f_maxt] at es
    obtain ⟨ns, en, es⟩ := Option.bind_eq_some_iff.mp es
    by_cases c : ns = []
    · rw [if_pos c] at es; cases es
    · rw [if_neg c] at es; cases es
      obtain ⟨a, zs, ev, h1, i1⟩ := w.tup R.sub
      refine wcall_of (cr_maxT g.calm) ⟨a, ns, by rw [e, ev], by rw [← i1.ints en]; exact h1, List.length_pos_iff.mpr c, fun m hm hy => ?_⟩
      have hh : ns.headD 0 ∈ ns := by cases ns with | nil => exact absurd rfl c | cons a b => exact List.mem_cons_self
      obtain ⟨p, q, r⟩ := fmax ns (ns.headD 0)
      have e1 : ns.foldl max (ns.headD 0) ∈ ns := by rcases r with r | r; rw [r]; exact hh; exact r
      have e2 : m = ns.foldl max (ns.headD 0) := Int.le_antisymm (q m hm) (hy _ e1)
      rw [e2]
      exact hq _ _ (R.rep (.int _))
theorem bf_minL {k : Nat} (g : XG X k) : BfOk X.K (wcall X (.builtin "min")) .minL := by
  intro T G l H xs ds s Q R w es hq
  match ds, w, es with
  | [.list ys], w, es =>
    obtain ⟨v, e, w⟩ := vw1 w
    rw [f_minl] at es
    obtain ⟨ns, en, es⟩ := Option.bind_eq_some_iff.mp es
    by_cases c : ns = []
    · rw [if_pos c] at es; cases es
    · rw [if_neg c] at es; cases es
      obtain ⟨a, zs, ev, h1, i1⟩ := w.lst R.sub
      refine wcall_of (cr_min g.calm) ⟨a, ns, by rw [e, ev], by rw [← i1.ints en]; exact SqL.of h1, List.length_pos_iff.mpr c, fun m hm hy => ?_⟩
      have hh : ns.headD 0 ∈ ns := by cases ns with | nil => exact absurd rfl c | cons a b => exact List.mem_cons_self
      obtain ⟨p, q, r⟩ := fmin ns (ns.headD 0)
      have e1 : ns.foldl min (ns.headD 0) ∈ ns := by rcases r with r | r; rw [r]; exact hh; exact r
      have e2 : m = ns.foldl min (ns.headD 0) := Int.le_antisymm (hy _ e1) (q m hm)
      rw [e2]
      exact hq _ _ (R.rep (.int _))
  | [.tuple ys], w, es =>
    obtain ⟨v, e, w⟩ := vw1 w
    rw [f_mint] at es
    obtain ⟨ns, en, es⟩ := Option.bind_eq_some_iff.mp es
    by_cases c : ns = []
    · rw [if_pos c] at es; cases es
    · rw [if_neg c] at es; cases es
      obtain ⟨a, zs, ev, h1, i1⟩ := w.tup R.sub
      refine wcall_of (cr_minT g.calm) ⟨a, ns, by rw [e, ev], by rw [← i1.ints en]; exact h1, List.length_pos_iff.mpr c, fun m hm hy => ?_⟩
      have hh : ns.headD 0 ∈ ns := by cases ns with | nil => exact absurd rfl c | cons a b => exact List.mem_cons_self
      obtain ⟨p, q, r⟩ := fmin ns (ns.headD 0)
      have e1 : ns.foldl min (ns.headD 0) ∈ ns := by rcases r with r | r; rw [r]; exact hh; exact r
      have e2 : m = ns.foldl min (ns.headD 0) := Int.le_antisymm (hy _ e1) (q m hm)
      rw [e2]
      exact hq _ _ (R.rep (.int _))
end
end Ell
set_option autoImplicit false
/-! Ell27: dicts made, read; list.count; range with step -1. -/
namespace Ell
open PySem PySem.Spec PyProof.Rows L2
open Evl (Ex)
section
variable {K : PySem.W.Frag} {T : List (Addr × Str)} {G H : Hp} {l : List Ent}
theorem RepG.newD {p : Addr} {m : List (Ky × D)} {xs : List V} (R : RepG K T G l H) (hp : H p = none) (hl : xs.length = m.length) (h : Iss K G xs (m.map (·.2))) : RepG K T G ((.own (.dic m), some (.ref p)) :: l) (upd H p (.dK ((m.map (·.1)).zip xs))) :=
  R.newO hp (show ∃ zs, _ from ⟨xs, upd_same, hl, h⟩)
end
section
variable {X : Cx} {Z : Cf} {k : Nat} {a b e : Expr} {pos p apos : Pos} {ca cb ce : CE}
theorem d_dnew : PE X (.Dict [] [] pos) (tE X.K Z .dnew) := PE.imp pe_dnewK fun σ H Q h p hp => by
  obtain ⟨ρ, fr, hl, R, h⟩ := h
  obtain ⟨G, g⟩ := R
  exact h (.ref p) _ hl trivial ⟨G, g.newD (m := []) (xs := []) hp rfl .nil⟩
theorem d_dsp (ha : PE X a (tE X.K Z ca)) (hb : PE X b (tE X.K Z cb)) : PE X (.Dict [some a] [b] pos) (tE X.K Z (.dsp ca cb)) := by
  refine PE.imp (pe_disp (pps_cons (pe_D ha) (pe_D hb) pps_nil) rfl rfl (fun z => nomatch z) (by show 1 ≤ 15; omega)) fun σ H Q h p hp => ?_
  obtain ⟨ρ, fr, hl, R, h⟩ := h
  have h : Post X.K Z σ fr VIs ents Q (dspK (evP cb) (kD (evP ca ρ))) := h
  obtain ⟨G, g⟩ := R
  have R0 : Rep X.K Z.T (ρ.zip σ ++ ((.own (.dic []), some (.ref p)) :: fr)) (upd H p (.dK [])) := Rep.perm ⟨G, g.newD (m := []) (xs := []) hp rfl .nil⟩ List.perm_middle.symm
  refine ⟨ρ, (.own (.dic []), some (.ref p)) :: fr, hl, R0, ?_⟩
  dsimp only
  cases qa : kD (evP ca ρ) with
  | stuck => rw [qa] at h; exact False.elim h
  | err c ρ1 => rw [qa] at h; exact False.elim h
  | ok dk ρ1 =>
    rw [qa] at h
    have h : Post X.K Z σ fr VIs ents Q (dspV dk (kD (evP cb ρ1))) := h
    intro x H1 hl1 _ R1
    have R1 : Rep X.K Z.T (ρ1.zip σ ++ ((.dat dk, some x) :: (.own (.dic []), some (.ref p)) :: fr)) H1 := Rep.perm R1 (List.perm_middle (a := (Slot.dat dk, some x)) (l₁ := ρ1.zip σ)).symm
    refine ⟨ρ1, _, hl1, R1, ?_⟩
    dsimp only
    cases qb : kD (evP cb ρ1) with
    | stuck => rw [qb] at h; exact False.elim h
    | err c ρ2 => rw [qb] at h; exact False.elim h
    | ok dv ρ2 =>
      rw [qb] at h
      have h : Post X.K Z σ fr VIs ents Q (dspP dv ρ2 (dKy dk)) := h
      intro y H2 hl2 _ R2
      cases qk : dKy dk with
      | none => rw [qk] at h; exact False.elim h
      | some ky =>
        rw [qk] at h
        have pm : ([(Slot.dat dv, some y)] ++ (ρ2.zip σ ++ ((.dat dk, some x) :: (.own (.dic []), some (V.ref p)) :: fr))).Perm ((.own (.dic []), some (V.ref p)) :: (.dat dv, some y) :: (.dat dk, some x) :: (ρ2.zip σ ++ fr)) := by
          have p1 : (ρ2.zip σ ++ ((Slot.dat dk, some x) :: (.own (.dic []), some (V.ref p)) :: fr)).Perm ((.dat dk, some x) :: (.own (.dic []), some (V.ref p)) :: (ρ2.zip σ ++ fr)) := by
            have := List.perm_append_comm_assoc (ρ2.zip σ) [(Slot.dat dk, some x), (.own (.dic []), some (V.ref p))] fr
            simpa using this
          refine (p1.cons _).trans ?_
          have p3 : ((Slot.dat dv, some y) :: (.dat dk, some x) :: (.own (.dic []), some (V.ref p)) :: (ρ2.zip σ ++ fr)).Perm ((Slot.dat dv, some y) :: (.own (.dic []), some (V.ref p)) :: (.dat dk, some x) :: (ρ2.zip σ ++ fr)) := List.Perm.cons _ (List.Perm.swap _ _ _)
          exact p3.trans (List.Perm.swap _ _ _)
        obtain ⟨G2, g2⟩ := Rep.perm R2 pm
        obtain ⟨p', ep, gn, xs0, h0, hl0, i0⟩ := g2.good _ List.mem_cons_self
        cases ep
        obtain ⟨y', ey, wy⟩ := g2.good (.dat dv, some y) (List.mem_cons_of_mem _ List.mem_cons_self)
        cases ey
        obtain ⟨x', ex, wx⟩ := g2.good (.dat dk, some x) (List.mem_cons_of_mem _ (List.mem_cons_of_mem _ List.mem_cons_self))
        cases ex
        have wx : Is X.K G2 x dk := wx
        have ek : x = kV ky := vw_key (.inl wx : Vw X.K G2 H2 x dk) qk
        subst ek
        have h0 : H2 p = some (.dK []) := h0
        refine ⟨h0, [(ky, y)], rfl, by show 1 ≤ 15; omega, h (.ref p) _ hl2 trivial ?_⟩
        have g3 := g2.wr (s' := .own (.dic [(ky, dv)])) (u := .dK [(ky, y)]) rfl rfl ⟨p, rfl, gn, (show ∃ zs, _ from ⟨[y], upd_same, rfl, .cons wy .nil⟩)⟩
        exact Rep.subl ⟨G2, g3⟩ (((List.sublist_cons_self _ _).trans (List.sublist_cons_self _ _)).cons_cons _)
/-- .get(..) -/
theorem get_rd {G H : Hp} {v : V} {d : Ell.D} (w : Vw X.K G H v d) (sub : Ex G H) (h : isDic d = true) : ∃ a, v = .ref a ∧ IsD H a := by
  cases d with
  | dict kvs =>
    obtain ⟨a, ks, xs, ds, ev, hr, _⟩ := w.dic sub
    exact ⟨a, ev, .inl ⟨_, hr⟩⟩
  | _ => cases h
theorem getA_of {g : Rho → Res Ell.Val} {hh : Rho → Res Ell.D} {σ : L2.St} {fr : List Ent} {Q : VK} {x : Ell.Val} {ρ1 : Rho} {H1 : Hp} {v : V} (h : Post X.K Z σ fr VIs ents Q (getG (((x.view ρ1).map isDic).getD false) (getB x hh (g ρ1)))) (hl1 : ρ1.length = σ.length) (vi : VIs x v σ) (R1 : Rep X.K Z.T (ents x v ++ (ρ1.zip σ ++ fr)) H1) :
    (∃ a, v = .ref a ∧ IsD H1 a) ∧ Post X.K Z σ fr VIs ents Q (getB x hh (g ρ1)) := by
  cases qx : x.view ρ1 with
  | none => rw [qx] at h; exact False.elim h
  | some d =>
    rw [qx] at h
    cases qd : isDic d with
    | false =>
      have e : ((some d).map isDic).getD false = false := by simp [qd]
      rw [e] at h; exact False.elim h
    | true =>
      have e : ((some d).map isDic).getD false = true := by simp [qd]
      rw [e] at h
      obtain ⟨G, g1⟩ := id R1
      have w := vw_at (ρ := ρ1) (σ := σ) g1 (fun p hp => List.mem_append_left _ hp) (fun p hp => mem_l hp) vi qx
      exact ⟨get_rd w g1.sub qd, h⟩
theorem d_get1 (g : XG X k) (ha : PE X a (tE X.K Z ca)) (hb : PE X b (tE X.K Z cb)) (m : M1 X a "get" apos b pos := by exact ⟨rfl, rfl, rfl, rfl⟩) : PE X (.Call (.Attribute a "get" apos) [b] [] pos) (tE X.K Z (.get1 ca cb)) := by
  refine PE.imp (pe_dget1 (by have := g.room.un; omega) ha hb m) fun σ H Q h => ?_
  obtain ⟨ρ, fr, hl, R, h⟩ := h
  have h : Post X.K Z σ fr VIs ents Q (getA (evP cb) (fun ρ => .ok .none ρ) (evP ca ρ)) := h
  refine ⟨ρ, fr, hl, R, ?_⟩
  cases qa : evP ca ρ with
  | stuck => rw [qa] at h; exact h
  | err c ρ1 => rw [qa] at h; exact h
  | ok x ρ1 =>
    rw [qa] at h
    intro v H1 hl1 vi R1
    obtain ⟨⟨adr1, ev, isd⟩, h⟩ := getA_of (x := x) h hl1 vi R1
    refine ⟨adr1, ev, isd, ρ1, ents x v ++ fr, hl1, R1.perm (List.perm_append_comm_assoc _ _ _), ?_⟩
    cases qb : evP cb ρ1 with
    | stuck => rw [qb] at h; exact h
    | err c ρ2 => rw [qb] at h; exact fun H2 hl2 R2 => h H2 hl2 (drop_mid R2)
    | ok y ρ2 =>
      rw [qb] at h
      have h : Post X.K Z σ fr VIs ents Q (opt ((x.view ρ2).bind fun d => (y.view ρ2).bind fun k => (getX .none d k).map fun e => Val.tmp (.dat e)) ρ2) := h
      intro w H2 hl2 wi R2
      cases ed : x.view ρ2 with
      | none => rw [ed] at h; exact False.elim h
      | some d =>
        rw [ed, Option.bind_some] at h
        cases ee : y.view ρ2 with
        | none => rw [ee] at h; exact False.elim h
        | some dk =>
          rw [ee, Option.bind_some] at h
          obtain ⟨G, g2⟩ := id R2
          have wx := vw_at (ρ := ρ2) (σ := σ) g2 (fun p hp => List.mem_append_right _ (mem_l hp)) (fun p hp => mem_l hp) vi ed
          have wy := vw_at (ρ := ρ2) (σ := σ) g2 (fun p hp => List.mem_append_left _ hp) (fun p hp => mem_l hp) wi ee
          cases d with
          | dict kvs =>
            have h : Post X.K Z σ fr VIs ents Q (opt (((dget kvs dk).map fun o => o.getD .none).map fun e => Val.tmp (.dat e)) ρ2) := h
            cases qg : dget kvs dk with
            | none => rw [qg] at h; exact False.elim h
            | some o =>
              rw [qg] at h
              obtain ⟨a2, r, e2, hg, hr⟩ := vw_get wx wy g2.sub qg
              subst ev
              cases e2
              refine ⟨r, hg, ?_⟩
              have h : Post X.K Z σ fr VIs ents Q (.ok (.tmp (.dat (o.getD .none))) ρ2) := h
              cases o with
              | none =>
                rw [show r = none from hr]
                exact h _ H2 hl2 trivial ⟨G, (g2.subl (((List.sublist_append_right _ _).append_left _).trans (List.sublist_append_right _ _))).dat .non⟩
              | some z =>
                obtain ⟨z', ez, wz⟩ := hr
                rw [ez]
                exact h _ H2 hl2 trivial ⟨G, (g2.subl (((List.sublist_append_right _ _).append_left _).trans (List.sublist_append_right _ _))).dat wz⟩
          | _ => exact False.elim h
theorem d_get2 (g : XG X k) (ha : PE X a (tE X.K Z ca)) (hb : PE X b (tE X.K Z cb)) (he : PE X e (tE X.K Z ce)) (m : M2 X a "get" apos b e pos := by exact ⟨rfl, rfl, rfl, rfl⟩) : PE X (.Call (.Attribute a "get" apos) [b, e] [] pos) (tE X.K Z (.get2 ca cb ce)) := by
  refine PE.imp (pe_dget2 (by have := g.room.un; omega) ha hb (pe_D he) m) fun σ H Q h => ?_
  obtain ⟨ρ, fr, hl, R, h⟩ := h
  have h : Post X.K Z σ fr VIs ents Q (getA (evP cb) (fun ρ => kD (evP ce ρ)) (evP ca ρ)) := h
  refine ⟨ρ, fr, hl, R, ?_⟩
  cases qa : evP ca ρ with
  | stuck => rw [qa] at h; exact h
  | err c ρ1 => rw [qa] at h; exact h
  | ok x ρ1 =>
    rw [qa] at h
    intro v H1 hl1 vi R1
    obtain ⟨⟨adr1, ev, isd⟩, h⟩ := getA_of (x := x) h hl1 vi R1
    refine ⟨adr1, ev, isd, ρ1, ents x v ++ fr, hl1, R1.perm (List.perm_append_comm_assoc _ _ _), ?_⟩
    cases qb : evP cb ρ1 with
    | stuck => rw [qb] at h; exact h
    | err c ρ2 => rw [qb] at h; exact fun H2 hl2 R2 => h H2 hl2 (drop_mid R2)
    | ok y ρ2 =>
      rw [qb] at h
      have h : Post X.K Z σ fr VIs ents Q (getC x y (kD (evP ce ρ2))) := h
      intro w H2 hl2 wi R2
      refine ⟨ρ2, ents y w ++ (ents x v ++ fr), hl2, R2.perm (List.perm_append_comm_assoc _ _ _), ?_⟩
      dsimp only
      cases qe : kD (evP ce ρ2) with
      | stuck => rw [qe] at h; exact h
      | err c ρ3 => rw [qe] at h; exact fun H3 hl3 R3 => h H3 hl3 (drop_mid (drop_mid R3))
      | ok dz ρ3 =>
        rw [qe] at h
        have h : Post X.K Z σ fr VIs ents Q (opt ((x.view ρ3).bind fun d => (y.view ρ3).bind fun k => (getX dz d k).map fun e => Val.tmp (.dat e)) ρ3) := h
        intro z H3 hl3 _ R3
        cases ed : x.view ρ3 with
        | none => rw [ed] at h; exact False.elim h
        | some d =>
          rw [ed, Option.bind_some] at h
          cases ee : y.view ρ3 with
          | none => rw [ee] at h; exact False.elim h
          | some dk =>
            rw [ee, Option.bind_some] at h
            obtain ⟨G, g2⟩ := id R3
            have inz : ∀ p, p ∈ ρ3.zip σ → p ∈ [(Slot.dat dz, some z)] ++ (ρ3.zip σ ++ (ents y w ++ (ents x v ++ fr))) := fun p hp => List.mem_append_right _ (List.mem_append_left _ hp)
            have wx := vw_at (ρ := ρ3) (σ := σ) g2 (fun p hp => List.mem_append_right _ (List.mem_append_right _ (List.mem_append_right _ (List.mem_append_left _ hp)))) inz vi ed
            have wy := vw_at (ρ := ρ3) (σ := σ) g2 (fun p hp => List.mem_append_right _ (List.mem_append_right _ (List.mem_append_left _ hp))) inz wi ee
            obtain ⟨z', ez, wz⟩ := g2.good (.dat dz, some z) List.mem_cons_self
            cases ez
            have sl : List.Sublist (ρ3.zip σ ++ fr) ([(Slot.dat dz, some z)] ++ (ρ3.zip σ ++ (ents y w ++ (ents x v ++ fr)))) := ((((List.sublist_append_right _ _).trans (List.sublist_append_right _ _)).append_left _)).trans (List.sublist_append_right _ _)
            cases d with
            | dict kvs =>
              have h : Post X.K Z σ fr VIs ents Q (opt (((dget kvs dk).map fun o => o.getD dz).map fun e => Val.tmp (.dat e)) ρ3) := h
              cases qg : dget kvs dk with
              | none => rw [qg] at h; exact False.elim h
              | some o =>
                rw [qg] at h
                obtain ⟨a2, r, e2, hg, hr⟩ := vw_get wx wy g2.sub qg
                subst ev
                cases e2
                refine ⟨r, hg, ?_⟩
                have h : Post X.K Z σ fr VIs ents Q (.ok (.tmp (.dat (o.getD dz))) ρ3) := h
                cases o with
                | none =>
                  rw [show r = none from hr]
                  exact h _ H3 hl3 trivial ⟨G, (g2.subl sl).dat wz⟩
                | some q =>
                  obtain ⟨z', ez, wq⟩ := hr
                  rw [ez]
                  exact h _ H3 hl3 trivial ⟨G, (g2.subl sl).dat wq⟩
            | _ => exact False.elim h
end
end Ell
set_option autoImplicit false
/-! Ell28: list.count, list(d.values()), range with step -1, xs[i] += c, dict comprehensions. -/
namespace Ell
open PySem PySem.Spec PyProof.Rows L2
open Evl (Ex)
section
variable {X : Cx} {Z : Cf} {k : Nat} {a b e : Expr} {pos p p1 p2 p3 apos cpos : Pos} {ca cb ce : CE}
theorem d_cnt (ha : PE X a (tE X.K Z ca)) (hb : PE X b (tE X.K Z cb)) (hbase : attributeBase a "count" X.env (eval a X.env) = eval a X.env := by rfl)
    (hfew : ((backTo cpos (starEach [b] X.env)).all (fun x => !x.1) && (backToKw cpos (keywordEach [] X.env)).all (fun x => x.1.isSome) && decide ([b].length + ([] : List Keyword).length + (if ([] : List Keyword).isEmpty then 0 else 1) < 30)) = true := by rfl)
    (hline : (apos.endLine == cpos.line) = true := by rfl) (hs : starEach [b] X.env = (false, eval b X.env) :: starEach [] X.env := by rfl) : PE X (.Call (.Attribute a "count" apos) [b] [] cpos) (tE X.K Z (.cnt ca cb)) := by
  refine PE.imp (pe_bm PySem.F.plainAttrs_list PySem.F.slot_list_count PySem.F.type_list_count mt_lcount ha (pa_cons hb pa_nil hs) hbase hfew hline hs (by rfl)) fun σ H Q h => ?_
  obtain ⟨ρ, fr, hl, R, h⟩ := h
  have h : Post X.K Z σ fr VIs ents Q (cntA (evP cb) (evP ca ρ)) := h
  refine ⟨ρ, fr, hl, R, ?_⟩
  cases qa : evP ca ρ with
  | stuck => rw [qa] at h; exact h
  | err c ρ1 => rw [qa] at h; exact h
  | ok x ρ1 =>
    rw [qa] at h
    have h : Post X.K Z σ fr VIs ents Q (getG (((x.view ρ1).map isLst).getD false) (op2b x cntF (evP cb ρ1))) := h
    intro v H1 hl1 vi R1
    cases qx : x.view ρ1 with
    | none => rw [qx] at h; exact False.elim h
    | some d0 =>
      rw [qx] at h
      obtain ⟨G0, g0⟩ := id R1
      have w0 := vw_at (ρ := ρ1) (σ := σ) g0 (fun p hp => List.mem_append_left _ hp) (fun p hp => mem_l hp) vi qx
      cases d0 with
      | list ds0 =>
        have h : Post X.K Z σ fr VIs ents Q (op2b x cntF (evP cb ρ1)) := h
        obtain ⟨pa, zs, ev, h1, _⟩ := w0.lst g0.sub
        subst ev
        refine ⟨.inl ⟨rfl, _, SqL.of h1⟩, ρ1, ents x (.ref pa) ++ fr, hl1, R1.perm (List.perm_append_comm_assoc _ _ _), ?_⟩
        cases qb : evP cb ρ1 with
        | stuck => rw [qb] at h; exact h
        | err c ρ2 => rw [qb] at h; exact fun H2 hl2 R2 => h H2 hl2 (drop_mid R2)
        | ok y ρ2 =>
          rw [qb] at h
          have h : Post X.K Z σ fr VIs ents Q (opt ((x.view ρ2).bind fun d => (y.view ρ2).bind fun e => (cntF d e).map Val.tmp) ρ2) := h
          intro w H2 hl2 wi R2
          cases ed : x.view ρ2 with
          | none => rw [ed] at h; exact False.elim h
          | some d =>
            rw [ed, Option.bind_some] at h
            cases ee : y.view ρ2 with
            | none => rw [ee] at h; exact False.elim h
            | some dk =>
              rw [ee, Option.bind_some] at h
              obtain ⟨G, g2⟩ := id R2
              have wx := vw_at (ρ := ρ2) (σ := σ) g2 (fun p hp => List.mem_append_right _ (mem_l hp)) (fun p hp => mem_l hp) vi ed
              have wy := vw_at (ρ := ρ2) (σ := σ) g2 (fun p hp => List.mem_append_left _ hp) (fun p hp => mem_l hp) wi ee
              cases d with
              | list ds =>
                cases dk with
                | int i =>
                  rw [cntF_li] at h
                  cases qn : ints? ds with
                  | none => rw [qn] at h; exact False.elim h
                  | some ns =>
                    rw [qn] at h
                    have h : Post X.K Z σ fr VIs ents Q (.ok (.tmp (.dat (.int (ns.count i)))) ρ2) := h
                    obtain ⟨a', xs, e1, h2, i1⟩ := wx.lst g2.sub
                    cases e1
                    refine ⟨pa, ns, i, rfl, by rw [wy.int], by rw [← i1.ints qn]; exact SqL.of h2, ?_⟩
                    exact h _ H2 hl2 trivial ⟨G, (g2.subl (((List.sublist_append_right _ _).append_left _).trans (List.sublist_append_right _ _))).dat (.int _)⟩
                | _ => exact False.elim h
              | _ => exact False.elim h
      | _ => exact False.elim h
/-- list(e.values()) -/
theorem pe_lvals {td : TE} (hc : X.calm = true) (he : PE X e td) (hm : X.mg "list" = none) (hg : Gl X "list" := by rfl) (hbase : attributeBase e "values" X.env (eval e X.env) = eval e X.env := by rfl) (hline : (apos.endLine == cpos.line) = true := by rfl)
    (hs : starEach [.Call (.Attribute e "values" apos) [] [] cpos] X.env = (false, eval (.Call (.Attribute e "values" apos) [] [] cpos) X.env) :: starEach [] X.env := by rfl) :
    PE X (.Call (.Name "list" p) [.Call (.Attribute e "values" apos) [] [] cpos] [] pos) (fun σ H Q => td σ H fun x H1 => ∃ (d : Addr) (kvs : List (Key × V)), x = .ref d ∧ Rd H1 d (.dK kvs) ∧ ∀ p, H1 p = none → Q (.ref p) (upd H1 p (.lst (kvs.map (·.2))))) := by
  refine ⟨fun pins s σ H Q I hq => ?_⟩
  refine wpAny_Call_Name_kw (ld_blt I hg hm (show bootBuiltins "list" = some (.type "list") by decide +kernel) ?_)
  refine PyProof.Rows.callWith_type1 ?_ hs rfl
  rw [hs]
  show wpAny _ _ (spliced ((false, eval (.Call (.Attribute e "values" apos) [] [] cpos) X.env) :: backTo pos (starEach [] X.env))) _ _ s
  refine Calls.spliced_cons ?_
  refine wpAny_Call_method (T := "dict") (id := "dict.values") hbase rfl hline F.plainAttrs_dict F.slot_dict_values F.type_dict_values (thn (he.run pins s σ H _ I hq) fun u s1 ⟨x, H1, I1, rx, d, kvs, ex, hd, q⟩ => ?_)
  subst ex
  obtain rfl : u = Value.ref d := rx
  obtain ⟨hz, hs0, vs, kv, hdo⟩ := dk_rd I1.hok hd
  obtain ⟨ep, hat⟩ := hdo.dictAt
  have lk : kvs.length = vs.length := Paired.length kv
  have I2 : Inv X pins σ H1 { s1 with heap := s1.heap.push { cls := .type "dict_values", data := .fields #[.ref d] } } := I1.kept (t' := s1.toks) fun b ob q => Heap.get?_push_of_some _ q
  refine ⟨hdo.typeIs, hdo.mapOf.noDict, ?_⟩
  show wpAny _ _ (callWith cpos (.builtin "dict.values") [.ref d] [] []) _ X.xe s1
  refine method_meetsIn F.slot_dict_values F.entry_dict_values rfl (PySem.evalArgs_none ⟨rfl, hdo.typeIs, F.args_dict_values_1 _, _, meets_dict_values (mixKind X.prog X.w) d hs0, ⟨vs, hdo⟩, ?_⟩)
  refine Calls.spliced_nil ?_
  refine PySem.W.kdl_call (PySem.W.kdl_values (knd := mixKind X.prog X.w) (kvs := vs) (ep := ep)) (I1.ok.hd hc) ⟨⟨_, Heap.get?_push_size _ rfl, rfl, rfl⟩, hat.push _⟩ (by rw [← lk]; exact hz) fun h' tk acc c' hk hD hacc => ?_
  have hv : Vals (kvs.map (·.2)) acc.toList := by
    have hl : acc.toList.length = vs.length := by rw [Array.length_toList]; exact hacc.1
    have key : ∀ {kvs : List (Key × V)} {vs : List (Key × Value)} (us : List Value), KV kvs vs → us.length = vs.length → (∀ (j : Nat) (v : Value), us[j]? = some v → ∃ k, vs[j]? = some (k, v)) → Vals (kvs.map (·.2)) us := by
      intro kvs vs us r
      induction r generalizing us with
      | nil => intro hl _; cases us with | nil => exact .nil | cons _ _ => simp at hl
      | @cons x y xs ys h t ih =>
        intro hl hj
        cases us with
        | nil => simp at hl
        | cons u us =>
          obtain ⟨k, e⟩ := hj 0 u rfl
          have e : y = (k, u) := Option.some.inj e
          subst e
          exact .cons h.2 (ih us (by simpa using hl) fun j v e => by have := hj (j + 1) v (by simpa using e); simpa using this)
    exact key acc.toList kv hl fun j v e => hacc.2 j v (by rw [← Array.getElem?_toList]; exact e)
  exact ⟨.ref _, _, I2.laid (t' := tk) hk (Nat.le_refl _)
    (show ObjOk X.prog X.w _ _ _ (.lst (kvs.map (·.2))) from ⟨by rw [List.length_map]; exact hz, acc.toList, c', hv, by rw [Array.toArray_toList]; exact hD⟩), rfl, q _ (I2.hok.fresh (Nat.le_refl _))⟩
theorem d_vals (g : XG X k) (hm : X.mg "list" = none) (ha : PE X e (tE X.K Z ca)) (hg : Gl X "list" := by rfl) (hbase : attributeBase e "values" X.env (eval e X.env) = eval e X.env := by rfl) (hline : (apos.endLine == cpos.line) = true := by rfl)
    (hs : starEach [.Call (.Attribute e "values" apos) [] [] cpos] X.env = (false, eval (.Call (.Attribute e "values" apos) [] [] cpos) X.env) :: starEach [] X.env := by rfl) :
    PE X (.Call (.Name "list" p) [.Call (.Attribute e "values" apos) [] [] cpos] [] pos) (tE X.K Z (.blt .vals (.cons ca .nil))) := by
  refine PE.imp (pe_lvals g.calm ha hm hg hbase hline hs) fun σ H Q h => ?_
  obtain ⟨ρ, fr, hl, R, h⟩ := h
  have h : Post X.K Z σ fr VIs ents Q (bltR .vals (argsV (fun ρ => .ok [] ρ) (evP ca ρ))) := h
  refine ⟨ρ, fr, hl, R, ?_⟩
  cases qa : evP ca ρ with
  | stuck => rw [qa] at h; exact h
  | err c ρ1 => rw [qa] at h; exact h
  | ok x ρ1 =>
    rw [qa] at h
    have h : Post X.K Z σ fr VIs ents Q (opt (((x.view ρ1).bind fun s => some [s]).bind fun ds => (bfun .vals ds).map Val.tmp) ρ1) := h
    intro v H1 hl1 vi R1
    cases qx : x.view ρ1 with
    | none => rw [qx] at h; exact False.elim h
    | some d =>
      rw [qx] at h
      obtain ⟨G, g0⟩ := id R1
      have w := vw_at (ρ := ρ1) (σ := σ) g0 (fun p hp => List.mem_append_left _ hp) (fun p hp => mem_l hp) vi qx
      cases d with
      | dict kvs =>
        have h : Post X.K Z σ fr VIs ents Q (opt ((bfun .vals [.dict kvs]).map Val.tmp) ρ1) := h
        rw [f_vals] at h
        obtain ⟨pa, ks, xs, ds, ev, hr, hlen, hi, ek⟩ := w.dic g0.sub
        rw [ek, kvD_zip] at h
        have h : Post X.K Z σ fr VIs ents Q (.ok (.tmp (.own (.lst ((ks.zip ds).map (·.2))))) ρ1) := h
        refine ⟨pa, _, ev, hr, fun q hq => h _ _ hl1 trivial ⟨G, ?_⟩⟩
        rw [zip_snd' hlen, zip_snd' (hlen.trans hi.len)]
        exact (g0.subl (List.sublist_append_right _ _)).newO hq (show ∃ zs, _ from ⟨xs, upd_same, hi⟩)
      | _ => exact False.elim h
/-- range(a, b, -1) -/
theorem jok_rng3 {K : PySem.W.Frag} {T : List (Addr × Str)} {m : Int} {n : Nat} : JOk K T (Itc m (-1) n) ((List.range n).map fun (k : Nat) => PyData.int (m - k)) [] := by
  intro i l H R
  obtain ⟨G, g⟩ := id R
  refine ⟨fun d hd => ?_, fun hi => (show n ≤ i by simpa using hi)⟩
  rw [List.getElem?_map] at hd
  by_cases h : i < n
  · rw [List.getElem?_range h] at hd
    cases hd
    refine ⟨h, fun y H' q => ?_⟩
    obtain ⟨e, q⟩ := q
    subst e
    subst q
    have e : m + (i : Nat) * (-1) = m - (i : Int) := by omega
    rw [e]
    exact g.rep (.int _)
  · rw [List.getElem?_eq_none (by simpa using h)] at hd
    cases hd
theorem d_neg1 {u v : Pos} {j : Nat} : PE X (.UnaryOp .USub (.Constant (.int 1) j u) v) (fun σ H Q => Q (.int (-1)) H) := PE.imp (pe_un un_neg pe_int) fun σ H Q h => ⟨1, rfl, h⟩
theorem i_rng3 {u w : Pos} {j : Nat} (hm : X.mg "range" = none) (ha : PE X a (tE X.K Z ca)) (hb : PE X b (tE X.K Z cb)) (hg : Gl X "range" := by rfl)
    (hs : starEach [a, b, .UnaryOp .USub (.Constant (.int 1) j u) w] X.env = (false, eval a X.env) :: starEach [b, .UnaryOp .USub (.Constant (.int 1) j u) w] X.env := by rfl) (hs2 : starEach [b, .UnaryOp .USub (.Constant (.int 1) j u) w] X.env = (false, eval b X.env) :: starEach [.UnaryOp .USub (.Constant (.int 1) j u) w] X.env := by rfl)
    (hs3 : starEach [.UnaryOp .USub (.Constant (.int 1) j u) w] X.env = (false, eval (.UnaryOp .USub (.Constant (.int 1) j u) w) X.env) :: starEach [] X.env := by rfl) (hpl : (backTo pos (starEach [b, .UnaryOp .USub (.Constant (.int 1) j u) w] X.env)).any (·.1) = false := by rfl) {tg : Expr} :
    PI X tg (.Call (.Name "range" p) [a, b, .UnaryOp .USub (.Constant (.int 1) j u) w] [] pos) (tI X.K Z (.rng3 ca cb)) := by
  refine PI.imp (pi_range3 hg hm (pa_cons (pe_D ha) (pa_cons (pe_D hb) (pa_cons d_neg1 pa_nil hs3) hs2) hs) hs hpl) fun σ H R h => ?_
  obtain ⟨ρ, fr, hl, Rp, h⟩ := h
  have h : PostI X.K Z σ fr R (kI2 rng3D (evP cb) (kD (evP ca ρ))) := h
  refine ⟨ρ, fr, hl, Rp, ?_⟩
  dsimp only
  cases qa : kD (evP ca ρ) with
  | stuck => rw [qa] at h; exact False.elim h
  | err c ρ1 => rw [qa] at h; exact h
  | ok d ρ1 =>
    rw [qa] at h
    have h : PostI X.K Z σ fr R (kI2b rng3D d (kD (evP cb ρ1))) := h
    intro v H1 hl1 _ R1
    refine ⟨ρ1, [(.dat d, some v)] ++ fr, hl1, R1.perm (List.perm_append_comm_assoc _ _ _), ?_⟩
    dsimp only
    cases qb : kD (evP cb ρ1) with
    | stuck => rw [qb] at h; exact False.elim h
    | err c ρ2 => rw [qb] at h; exact fun H2 hl2 R2 => h H2 hl2 (drop_mid R2)
    | ok e ρ2 =>
      rw [qb] at h
      have h : PostI X.K Z σ fr R (opt (rng3D d e) ρ2) := h
      intro w H2 hl2 _ R2
      cases d with
      | int m =>
        cases e with
        | int n =>
          have h : PostI X.K Z σ fr R (opt (if leI (-(2 ^ 61)) m ∧ ltI m (2 ^ 61) ∧ leI (-(2 ^ 61)) n ∧ ltI n (2 ^ 61) then some ((List.range (m - n).toNat).map fun (k : Nat) => .int (m - k)) else none) ρ2) := h
          by_cases hb : leI (-(2 ^ 61)) m ∧ ltI m (2 ^ 61) ∧ leI (-(2 ^ 61)) n ∧ ltI n (2 ^ 61)
          · rw [if_pos hb] at h
            obtain ⟨b1, b2, b3, b4⟩ := hb
            have b1 : -(2 ^ 61) ≤ m := b1
            have b2 : m < 2 ^ 61 := b2
            have b3 : -(2 ^ 61) ≤ n := b3
            have b4 : n < 2 ^ 61 := b4
            obtain ⟨G, g⟩ := id R2
            obtain ⟨w', ew, iw⟩ := g.good (.dat (.int n), some w) List.mem_cons_self
            cases ew
            cases iw
            obtain ⟨v', ev, iv⟩ := g.good (.dat (.int m), some v) (by simp)
            cases ev
            cases iv
            exact ⟨m, n, -1, (m - n).toNat, rfl, RgC.neg (by omega) (by omega) (by omega) (by omega), h _ [] H2 hl2 jok_rng3 (show Rep X.K Z.T (ρ2.zip σ ++ fr) H2 from R2.subl (((List.sublist_append_right [(Slot.dat (.int m), some (V.int m))] fr).append_left (ρ2.zip σ)).trans (List.sublist_append_right _ _)))⟩
          · rw [if_neg hb] at h; exact False.elim h
        | _ => exact False.elim h
      | _ => cases e <;> exact False.elim h
end
end Ell
set_option autoImplicit false
/-! Ell29: dict comprehensions. -/
namespace Ell
open PySem PySem.Spec PyProof.Rows L2 LamX
open Evl (Ex)
section
variable {K : PySem.W.Frag} {Z : Cf} {σ : L2.St} {H : Hp} {fr l : List Ent} {ρ : Rho} {G : Hp} {T : List (Addr × Str)}
/-- behind i turns -/
def DcI (K : PySem.W.Frag) (Z : Cf) (σ : L2.St) (fr : List Ent) (Q : VK) (f : D → Rho → Res (Option (D × D))) (xs : List D) (own : List Nat) (ρ1 : Rho) (l0 : List Ent) (D : Addr) (i : Nat) (H : Hp) : Prop :=
  ∃ ρ2 acc, acc.length ≤ i ∧ i ≤ xs.length ∧ ρ2.length = σ.length ∧ Rep K Z.T ((wip ρ2 own).zip (wipe σ own) ++ (saved ρ1 σ own ++ ((Slot.own (.dic acc), some (.ref D)) :: (l0 ++ fr)))) H ∧
    Post K Z σ fr VIs ents Q (dcFin ρ1 own (dcL f (xs.drop i) acc ρ2))
theorem kput_len {k : Ky} {v : D} {m : List (Ky × D)} : (kput m k v).length ≤ m.length + 1 := by
  unfold kput
  split
  · rw [List.length_map]; omega
  · simp
theorem tDc_of {tg : Tgt} {it cond key elt : CE} {own : List Nat} {Q : VK} (nd : own.Nodup) (ht : ∀ i ∈ tsl tg, i ∈ own) (lt : ∀ i ∈ own, i < σ.length) (h : tE K Z (.dcp tg it cond key elt own) σ H Q) :
    tDc (tI K Z it) (tgG K Z.no tg) (tT K Z.no cond) (tD K Z.no (evP key)) (tD K Z.no (evP elt)) own σ H Q := by
  obtain ⟨ρ, fr, hl, R, h⟩ := h
  refine ⟨ρ, fr, hl, R, ?_⟩
  have h : Post K Z σ fr VIs ents Q (dcAll (dcStep tg own (evP cond) (evP key) (evP elt)) own (evI it ρ)) := h
  cases qa : evI it ρ with
  | stuck => rw [qa] at h; exact h
  | err c ρ1 => rw [qa] at h; exact h
  | ok xs ρ1 =>
    rw [qa] at h
    have h : Post K Z σ fr VIs ents Q (if ltN xs.length sizeLine then dcFin ρ1 own (dcL (dcStep tg own (evP cond) (evP key) (evP elt)) xs [] ρ1) else .stuck) := h
    by_cases hz0 : ltN xs.length sizeLine
    · have hz : xs.length < sizeLine := hz0
      rw [if_pos hz0] at h
      intro J l0 H1 hl1 hJ R1 D hD
      generalize hf : dcStep tg own (evP cond) (evP key) (evP elt) = f at h
      refine ⟨fun i m H => m = xs.length - i ∧ DcI K Z σ fr Q f xs own ρ1 l0 D i H, ⟨xs.length, rfl, ρ1, [], Nat.zero_le _, Nat.zero_le _, hl1, ?_, ?_⟩, ?_⟩
      · obtain ⟨G, g⟩ := R1
        have g2 := g.newD (m := []) (xs := []) hD rfl .nil
        have R2 : Rep K Z.T (ρ1.zip σ ++ ((Slot.own (.dic []), some (.ref D)) :: (l0 ++ fr))) (upd H1 D (.dK [])) := by
          refine Rep.perm ⟨G, g2⟩ ?_
          exact ((List.perm_append_comm_assoc l0 (ρ1.zip σ) fr).cons _).trans List.perm_middle.symm
        exact Rep.save nd lt hl1 R2
      · rw [List.drop_zero]; exact h
      · rintro i m H2 ⟨em, ρ2, acc, ha, hi, hl2, R2, h2⟩
        have R3 : Rep K Z.T (l0 ++ ((wip ρ2 own).zip (wipe σ own) ++ (saved ρ1 σ own ++ ((Slot.own (.dic acc), some (.ref D)) :: fr)))) H2 := by
          refine R2.perm ?_
          have p := List.perm_append_comm_assoc ((wip ρ2 own).zip (wipe σ own) ++ (saved ρ1 σ own ++ [(Slot.own (.dic acc), some (V.ref D))])) l0 fr
          simpa [List.append_assoc] using p
        have hJ2 := hJ i _ H2 R3
        by_cases hlt : i < xs.length
        · obtain ⟨jg, jy⟩ := hJ2.1 xs[i] (List.getElem?_eq_getElem hlt)
          refine .inr ⟨jg, fun H' => DcI K Z σ fr Q f xs own ρ1 l0 D (i + 1) H', fun H' nx => ⟨xs.length - (i + 1), by omega, rfl, nx⟩, fun x H3 y3 => ?_⟩
          have R4 := jy x H3 y3
          rw [List.drop_eq_getElem_cons hlt] at h2
          have h2 : Post K Z σ fr VIs ents Q (dcFin ρ1 own (dcK (dcL f (xs.drop (i + 1))) acc (f xs[i] ρ2))) := h2
          have hf' : f xs[i] ρ2 = dcGo (evP cond) (evP key) (evP elt) (bindT tg xs[i] (wip ρ2 own)) := by rw [← hf]; rfl
          rw [hf'] at h2
          cases qb : bindT tg xs[i] (wip ρ2 own) with
          | none => rw [qb] at h2; exact False.elim h2
          | some ρ3 =>
            rw [qb] at h2
            have h2 : Post K Z σ fr VIs ents Q (dcFin ρ1 own (dcK (dcL f (xs.drop (i + 1))) acc (dcIf (evP key) (evP elt) (kB (evP cond ρ3))))) := h2
            have k3 := kp_bindT _ _ _ _ qb
            refine ⟨xs[i], wip ρ2 own, saved ρ1 σ own ++ ((Slot.own (.dic acc), some (.ref D)) :: (l0 ++ fr)), ρ3, by rw [wip_len, wipe_length]; exact hl2, ?_, qb, fun σ2 hs2 _ ag R5 => ?_⟩
            · refine R4.perm (List.Perm.cons _ ?_)
              have p := List.perm_append_comm_assoc l0 ((wip ρ2 own).zip (wipe σ own) ++ (saved ρ1 σ own ++ [(Slot.own (.dic acc), some (V.ref D))])) fr
              simpa [List.append_assoc] using p
            · have hw : wipe σ2 own = wipe σ own := by
                rw [← wipe_idem (σ := σ)]
                exact wipe_agree hs2 fun j hj => ag j fun z => hj (ht j z)
              have hs2' : σ2.length = σ.length := by rw [hs2, wipe_length]
              refine ⟨hw, ρ3, _, by rw [k3.len, wip_len, hl2, hs2'], R5, ?_⟩
              dsimp only
              cases qc : kB (evP cond ρ3) with
              | stuck => rw [qc] at h2; exact False.elim h2
              | err c ρ4 => rw [qc] at h2; exact False.elim h2
              | ok b ρ4 =>
                rw [qc] at h2
                intro b' H4 hl4 eb R6
                subst eb
                have R6 : Rep K Z.T (ρ4.zip σ2 ++ (saved ρ1 σ own ++ ((Slot.own (.dic acc), some (.ref D)) :: (l0 ++ fr)))) H4 := R6
                cases b with
                | false =>
                  rw [if_neg Bool.false_ne_true]
                  exact ⟨ρ4, acc, Nat.le_succ_of_le ha, hlt, by rw [hl4, hs2'], R6.wiped nd lt hs2' hw hl4, h2⟩
                | true =>
                  rw [if_pos rfl]
                  refine ⟨ρ4, _, hl4, R6, ?_⟩
                  have h2 : Post K Z σ fr VIs ents Q (dcFin ρ1 own (dcK (dcL f (xs.drop (i + 1))) acc (dcE (evP elt) (kD (evP key ρ4))))) := h2
                  dsimp only
                  cases qk : kD (evP key ρ4) with
                  | stuck => rw [qk] at h2; exact False.elim h2
                  | err c ρ5 => rw [qk] at h2; exact False.elim h2
                  | ok dk ρ5 =>
                    rw [qk] at h2
                    have h2 : Post K Z σ fr VIs ents Q (dcFin ρ1 own (dcK (dcL f (xs.drop (i + 1))) acc (dcV dk (kD (evP elt ρ5))))) := h2
                    intro yk H5 hl5 _ R7
                    have R7 : Rep K Z.T (ρ5.zip σ2 ++ ((Slot.dat dk, some yk) :: (saved ρ1 σ own ++ ((Slot.own (.dic acc), some (.ref D)) :: (l0 ++ fr))))) H5 := Rep.perm R7 (List.perm_middle (a := (Slot.dat dk, some yk)) (l₁ := ρ5.zip σ2)).symm
                    refine ⟨ρ5, _, hl5, R7, ?_⟩
                    dsimp only
                    cases qd : kD (evP elt ρ5) with
                    | stuck => rw [qd] at h2; exact False.elim h2
                    | err c ρ6 => rw [qd] at h2; exact False.elim h2
                    | ok dy ρ6 =>
                      rw [qd] at h2
                      have h2 : Post K Z σ fr VIs ents Q (dcFin ρ1 own (dcP (dcL f (xs.drop (i + 1))) acc dy ρ6 (dKy dk))) := h2
                      intro y H6 hl6 _ R8
                      cases qky : dKy dk with
                      | none => rw [qky] at h2; exact False.elim h2
                      | some ky =>
                        rw [qky] at h2
                        have h2 : Post K Z σ fr VIs ents Q (dcFin ρ1 own (dcL f (xs.drop (i + 1)) (kput acc ky dy) ρ6)) := h2
                        have R8 : Rep K Z.T ((Slot.dat dy, some y) :: (ρ6.zip σ2 ++ ((Slot.dat dk, some yk) :: (saved ρ1 σ own ++ ((Slot.own (.dic acc), some (.ref D)) :: (l0 ++ fr)))))) H6 := R8
                        have p : ((Slot.dat dy, some y) :: (ρ6.zip σ2 ++ ((Slot.dat dk, some yk) :: (saved ρ1 σ own ++ ((Slot.own (.dic acc), some (V.ref D)) :: (l0 ++ fr)))))).Perm ((Slot.own (.dic acc), some (V.ref D)) :: (Slot.dat dy, some y) :: (Slot.dat dk, some yk) :: (ρ6.zip σ2 ++ (saved ρ1 σ own ++ (l0 ++ fr)))) := by
                          have p1 := List.perm_middle (a := (Slot.own (.dic acc), some (V.ref D))) (l₁ := (Slot.dat dy, some y) :: (ρ6.zip σ2 ++ ((Slot.dat dk, some yk) :: saved ρ1 σ own))) (l₂ := l0 ++ fr)
                          have p2 := List.perm_middle (a := (Slot.dat dk, some yk)) (l₁ := (Slot.own (.dic acc), some (V.ref D)) :: (Slot.dat dy, some y) :: ρ6.zip σ2) (l₂ := saved ρ1 σ own ++ (l0 ++ fr))
                          have p3 : ((Slot.dat dk, some yk) :: (Slot.own (.dic acc), some (V.ref D)) :: (Slot.dat dy, some y) :: (ρ6.zip σ2 ++ (saved ρ1 σ own ++ (l0 ++ fr)))).Perm ((Slot.own (.dic acc), some (V.ref D)) :: (Slot.dat dy, some y) :: (Slot.dat dk, some yk) :: (ρ6.zip σ2 ++ (saved ρ1 σ own ++ (l0 ++ fr)))) := (List.Perm.swap _ _ _).trans (List.Perm.cons _ (List.Perm.swap _ _ _))
                          have q1 : ((Slot.dat dy, some y) :: (ρ6.zip σ2 ++ ((Slot.dat dk, some yk) :: (saved ρ1 σ own ++ ((Slot.own (.dic acc), some (V.ref D)) :: (l0 ++ fr)))))).Perm ((Slot.own (.dic acc), some (V.ref D)) :: (Slot.dat dy, some y) :: (ρ6.zip σ2 ++ ((Slot.dat dk, some yk) :: (saved ρ1 σ own ++ (l0 ++ fr))))) := by simpa [List.append_assoc] using p1
                          have q2 : ((Slot.own (.dic acc), some (V.ref D)) :: (Slot.dat dy, some y) :: (ρ6.zip σ2 ++ ((Slot.dat dk, some yk) :: (saved ρ1 σ own ++ (l0 ++ fr))))).Perm ((Slot.dat dk, some yk) :: (Slot.own (.dic acc), some (V.ref D)) :: (Slot.dat dy, some y) :: (ρ6.zip σ2 ++ (saved ρ1 σ own ++ (l0 ++ fr)))) := by simpa [List.append_assoc] using p2
                          exact q1.trans (q2.trans p3)
                        obtain ⟨G, g⟩ := R8.perm p
                        obtain ⟨c, ec, gn, oa⟩ := g.good _ List.mem_cons_self
                        cases ec
                        obtain ⟨v', ev, wy⟩ := g.good (Slot.dat dy, some y) (List.mem_cons_of_mem _ List.mem_cons_self)
                        cases ev
                        obtain ⟨v', ev, wk⟩ := g.good (Slot.dat dk, some yk) (List.mem_cons_of_mem _ (List.mem_cons_of_mem _ List.mem_cons_self))
                        cases ev
                        have wk : Is K G yk dk := wk
                        obtain ⟨ys, hys, hlen, iy⟩ := (show ∃ ys, H6 D = some (.dK ((acc.map (·.1)).zip ys)) ∧ ys.length = acc.length ∧ Iss K G ys (acc.map (·.2)) from oa)
                        obtain ⟨zs, e1, e2, e3⟩ := put_is (k := ky) wy iy
                        refine ⟨_, ky, vw_key (.inl wk : Vw K G H6 yk dk) qky, hys, by rw [List.length_zip, List.length_map, hlen, Nat.min_self]; omega, ρ6, kput acc ky dy, by have := kput_len (k := ky) (v := dy) (m := acc); omega, hlt, by rw [hl6, hs2'], ?_, h2⟩
                        rw [e1]
                        have g2 := g.wr (s' := .own (.dic (kput acc ky dy))) (u := .dK (((kput acc ky dy).map (·.1)).zip zs)) rfl rfl ⟨D, rfl, gn, (show ∃ zs, _ from ⟨zs, upd_same, e2, e3⟩)⟩
                        have R9 : Rep K Z.T (ρ6.zip σ2 ++ (saved ρ1 σ own ++ ((Slot.own (.dic (kput acc ky dy)), some (V.ref D)) :: (l0 ++ fr)))) (upd H6 D (.dK (((kput acc ky dy).map (·.1)).zip zs))) := by
                          refine (Rep.subl ⟨G, g2⟩ (((List.sublist_cons_self _ _).trans (List.sublist_cons_self _ _)).cons_cons _)).perm ?_
                          have p := List.perm_middle (a := (Slot.own (.dic (kput acc ky dy)), some (V.ref D))) (l₁ := ρ6.zip σ2 ++ saved ρ1 σ own) (l₂ := l0 ++ fr)
                          simpa [List.append_assoc] using p.symm
                        exact R9.wiped nd lt hs2' hw hl6
        · have ei : i = xs.length := by omega
          refine .inl ⟨hJ2.2 (by omega), ?_⟩
          rw [ei, List.drop_length] at h2
          have h2 : Post K Z σ fr VIs ents Q (.ok (.tmp (.own (.dic acc))) (restore ρ1 ρ2 own)) := h2
          have R4 : Rep K Z.T ((wip ρ2 own).zip (wipe σ own) ++ (saved ρ1 σ own ++ ((Slot.own (.dic acc), some (.ref D)) :: fr))) H2 := R3.subl (List.sublist_append_right _ _)
          have R5 := Rep.back (ρ0 := ρ1) nd lt hl2 hl1 R4
          have len : (restore ρ1 ρ2 own).length = σ.length := by
            have : ∀ (own : List Nat) (ρ2 : Rho), (restore ρ1 ρ2 own).length = ρ2.length := by
              intro own
              induction own with
              | nil => exact fun _ => rfl
              | cons i r ih => intro ρ2; show (restore ρ1 (ρ2.set i _) r).length = _; rw [ih, List.length_set]
            rw [this, hl2]
          exact h2 (.ref D) H2 len trivial (R5.perm List.perm_middle)
    · rw [if_neg hz0] at h; exact False.elim h
end
section
variable {X : Cx} {Z : Cf} {k n : Nat}
/-- a dict comprehension as a value -/
theorem d_dc {kx vx tg iter : Expr} {ifs : List Expr} {scope : Scope} (own : List (Str × Nat)) {pos : Pos} {t : Tgt} {ci cc ck ce : CE} (g : XG X k) (hi : PI X tg iter (tI X.K Z ci)) (hg : Bk X scope fun Y => PG Y tg (tgG X.K Z.no t)) (ht : Bk X scope fun Y => PTs Y ifs (tT X.K Z.no cc)) (hk : Bk X scope fun Y => PE Y kx (tE X.K Z.no ck)) (he : Bk X scope fun Y => PE Y vx (tE X.K Z.no ce))
    (ok : blkC X.N X.env.scope scope own = true := by rfl) (nd : (own.map (·.2)).Nodup := by decide) (hts : ∀ i ∈ tsl t, i ∈ own.map (·.2) := by decide) (hs : ∀ x, foldedSetIterable iter X.env x = pure x := by intro _; rfl) :
    PE X (.DictComp kx vx [⟨tg, iter, ifs, 0⟩] scope pos) (tE X.K Z (.dcp t ci cc ck ce (own.map (·.2)))) := by
  refine ⟨fun pn s σ H Q J h => (pe_dc g.calm g.nd hi (blkOk_by ok) hg ht (fun s H C cl fp => show PE _ _ (tD X.K Z.no (evP ck)) from pe_D (hk s H C cl fp)) (fun s H C cl fp => show PE _ _ (tD X.K Z.no (evP ce)) from pe_D (he s H C cl fp)) hs).run pn s σ H Q J ?_⟩
  exact tDc_of nd hts (lc_len (blkOk_by ok) (Nat.le_of_eq J.len.symm)) h
theorem sw_trueD {kx vx : Expr} {gs : List Comprehension} {scope : Scope} {pos py : Pos} {y : Str} {l : Nat} {env : Env} (hk : env.scope.kind = .function) (hy : env.scope.names.lookup y = some .local) (hl : (py.line == pos.line) = true)
    (ha : (scope.names.any fun (n, k) => n == y && (k == .local || k == .cell)) = false) : swapsWith (.DictComp kx vx gs scope pos) (some (.Name y py)) l env = pure true := by
  have ky : env.kindOf y = some .local := hy
  have hb : env.blockKind = .function := by unfold Env.blockKind; rw [hk]; rfl
  unfold swapsWith
  simp only [hb, ky, ha, Expr.pos, hl]
  rfl
theorem ps_setDc {i : Nat} {y : Str} {py : Pos} {kx vx tg iter : Expr} {ifs : List Expr} {scope : Scope} {own : List (Str × Nat)} {pos spos : Pos} {wi : TI} {g : TG} {tt : TT} {tk tv : TE} (hc : X.calm = true) (hN : X.N.Nodup) (hy : X.N[i]? = some y) (hyl : X.env.scope.names.lookup y = some .local)
    (hsw : swapsWith (.DictComp kx vx [⟨tg, iter, ifs, 0⟩] scope pos) (some (.Name y py)) spos.line X.env = pure true) (hi : PI X tg iter wi) (ok : BlkOk X.N X.env.scope scope own)
    (hg : ∀ (s : Shared) (H : Hp) (C : Addr) (cl : List (Str × Addr)) (fp : List Addr), PG (X.blk s H scope (compEnvC scope cl C X.env) fp) tg g) (ht : ∀ (s : Shared) (H : Hp) (C : Addr) (cl : List (Str × Addr)) (fp : List Addr), PTs (X.blk s H scope (compEnvC scope cl C X.env) fp) ifs tt)
    (hk : ∀ (s : Shared) (H : Hp) (C : Addr) (cl : List (Str × Addr)) (fp : List Addr), PE (X.blk s H scope (compEnvC scope cl C X.env) fp) kx tk)
    (he : ∀ (s : Shared) (H : Hp) (C : Addr) (cl : List (Str × Addr)) (fp : List Addr), PE (X.blk s H scope (compEnvC scope cl C X.env) fp) vx tv) (hs : ∀ x, foldedSetIterable iter X.env x = pure x := by intro _; rfl) :
    PS X (.Assign [.Name y py] (.DictComp kx vx [⟨tg, iter, ifs, 0⟩] scope pos) spos) (tAsg (tDc wi g tt tk tv (own.map (·.2))) (gName i)) := by
  refine ⟨fun pins s σ H D I h => ?_⟩
  rw [exec_Assign_Name_used _ _ _ _ hsw]
  refine wpAny_bind (wpAny_standAt (wpAny_bind ?_))
  show wpAny _ X.A (do let _ ← comprehension (.DictComp kx vx [⟨tg, iter, ifs, 0⟩] scope pos) scope X.env (firstIterPos [⟨tg, iter, ifs, 0⟩] pos) newDict false (eval iter X.env) (some (assign (.Name y py) X.env))) _ _ s
  have h : tDc wi g tt tk tv (own.map (·.2)) σ H (fun x H1 => gName i x σ H1 D.nx) := h
  refine wpAny_bind (thn (dc_core (Qf := fun _ s' => SP X pins D .next s') hc hN I hi ok hg ht hk he hs h fun L C s' m H' I' q hn f => ?_) fun _ s' hq => wpAny_pure (wpAny_pure hq))
  show wpAny _ _ (assign (.Name y py) X.env (.ref L)) _ _ _
  refine wpAny_assign_Name (store_ok2 (v := V.ref L) I' hN hy (.inl hyl) rfl (fun s2 I2 ⟨a, sb, ha⟩ => ?_) (.inr hyl))
  obtain ⟨f0, f1, f2, f3, f4, f5⟩ := f
  have haC : C ≠ a := by
    rcases ha with z | z
    · rw [z]; exact f1
    · exact fun e => f4 y a z e.symm
  refine ⟨m, hn.sameBut sb haC, fun h3 sb3 => ?_⟩
  exact ⟨_, H', I2.turned (t' := s2.toks) (fun b o hb e => (sb3.2 b hb).trans e) f0 f1 f3 f4 f5, q⟩
/-- name = {..} where the machine stores it by itself -/
theorem s_dc {kx vx tg iter : Expr} {ifs : List Expr} {scope : Scope} (own : List (Str × Nat)) {pos py spos : Pos} {i : Nat} {y : Str} {t : Tgt} {ci cc ck ce : CE} (g : XG X k) (hi : PI X tg iter (tI X.K Z ci)) (hg : Bk X scope fun Y => PG Y tg (tgG X.K Z.no t)) (ht : Bk X scope fun Y => PTs Y ifs (tT X.K Z.no cc)) (hk' : Bk X scope fun Y => PE Y kx (tE X.K Z.no ck)) (he : Bk X scope fun Y => PE Y vx (tE X.K Z.no ce))
    (hy : X.N[i]? = some y := by rfl) (hyl : X.env.scope.names.lookup y = some .local := by rfl) (hk : X.env.scope.kind = .function := by rfl) (hline : (py.line == pos.line) = true := by rfl) (ha : (scope.names.any fun (n, k) => n == y && (k == .local || k == .cell)) = false := by rfl)
    (ok : blkC X.N X.env.scope scope own = true := by rfl) (nd : (own.map (·.2)).Nodup := by decide) (hts : ∀ i ∈ tsl t, i ∈ own.map (·.2) := by decide) (hs : ∀ x, foldedSetIterable iter X.env x = pure x := by intro _; rfl) :
    PS X (.Assign [.Name y py] (.DictComp kx vx [⟨tg, iter, ifs, 0⟩] scope pos) spos) (tS X.K Z n (.set i (.dcp t ci cc ck ce (own.map (·.2))))) := by
  refine ⟨fun pn s σ H DD J h => (ps_setDc g.calm g.nd hy hyl (sw_trueD hk hyl hline ha) hi (blkOk_by ok) hg ht (fun s H C cl fp => show PE _ _ (tD X.K Z.no (evP ck)) from pe_D (hk' s H C cl fp)) (fun s H C cl fp => show PE _ _ (tD X.K Z.no (evP ce)) from pe_D (he s H C cl fp)) hs).run pn s σ H DD J ?_⟩
  exact tDc_of nd hts (lc_len (blkOk_by ok) (Nat.le_of_eq J.len.symm)) (tM_of (asg_of h))
end
end Ell
set_option autoImplicit false
/-! Ell30: names that hold defs; xs[i] += c. -/
namespace Ell
open PySem PySem.Spec PyProof.Rows L2
open Evl (Ex)
section
variable {X : Cx} {Z : Cf} {k i n : Nat} {f : Addr} {fd : FuncData} {ps : List Str} {sp : Sp} {E : L2.St → XK} {x : Str} {p pos : Pos} {e : Expr} {es : List Expr} {t : TA} {ca : CE}
theorem fok_callL (F : FOk X.prog X.w X.K X.mg X.base k f fd ps sp) (room : Room k X.A) (gd : X.A.guards = some []) (hN : X.N[i]? = some x) (hv : Vis X.env.scope x) (kept : PySem.W.keepIn X.K (.ref f) = true) (bd : Binds X.K fd ps []) (out : ∀ σ, PassesAt (L2N.CX X.prog X.w) X σ (E σ))
    (ha : PA X (e :: es) t) (hdb : (x == ("__debug__" : Str)) = false) (hcd : (x == ("__classdict__" : Str)) = false) (st1 : starEach (e :: es) X.env = (false, eval e X.env) :: starEach es X.env) (st2 : (backTo pos (starEach es X.env)).any (·.1) = false) : PE X (.Call (.Name x p) (e :: es) [] pos) (fun σ H Q => σ[i]? = some (some (.ref f)) ∧ tCallS sp E t σ H Q) := by
  refine ⟨fun pn s σ H Q J h => ?_⟩
  obtain ⟨hs, ht⟩ := h
  refine wpAny_Call_Name_kw (thn ((pe_var (pos := p) hN hv hdb hcd).run pn s σ H (fun v H1 => v = .ref f ∧ H1 = H) J ⟨.ref f, hs, rfl, rfl⟩) fun u s1 ⟨v, H1, I1, r1, q1⟩ => ?_)
  obtain ⟨rfl, rfl⟩ := q1
  cases r1
  exact PySem.W.callWith_K (h₀ := X.base) J.ok.mod.kin kept (thn (ha.run pos pn s1 σ _ _ I1 ht) fun ws s2 ⟨zs, H2, J2, rv, q⟩ => ⟨J2.kIn, fok_run F room gd bd (out σ) J2 rv q⟩) st1 st2
theorem fnOf_mem {tab : List (Str × Fn)} {y : Str} {F : Fn} (h : fnOf tab y = some F) : (y, F) ∈ tab := by
  unfold fnOf at h
  cases q : tab.find? (fun p => decide (p.1 = y)) with
  | none => rw [q] at h; cases h
  | some r =>
    rw [q] at h
    have h : r.2 = F := Option.some.inj h
    have e := List.find?_some q
    have e : r.1 = y := of_decide_eq_true e
    have m := List.mem_of_find?_eq_some q
    rw [← e, ← h]
    exact m
/-- a call of a name that holds a def -/
theorem d_callv {tab : List (Str × Fn)} (D : ∀ q ∈ tab, Def X.prog X.w X.K X.mg X.base Z.T Z.cl k q.1 q.2) (g : XG X k) (tk : L2N.Takes X Z.W) (ha : PA X (e :: es) (tCs X.K Z ca)) (hN : X.N[i]? = some x := by rfl) (hv : Vis X.env.scope x := by first | exact Or.inl rfl | exact Or.inr (Or.inl rfl) | exact Or.inr (Or.inr rfl))
    (hdb : (x == ("__debug__" : Str)) = false := by decide) (hcd : (x == ("__classdict__" : Str)) = false := by decide) (st1 : starEach (e :: es) X.env = (false, eval e X.env) :: starEach es X.env := by rfl) (st2 : (backTo pos (starEach es X.env)).any (·.1) = false := by rfl) :
    PE X (.Call (.Name x p) (e :: es) [] pos) (tE X.K Z (.callv i tab ca)) := by
  refine ⟨fun pn s σ H Q J h => ?_⟩
  obtain ⟨ρ, fr, hl, R, h⟩ := h
  have h : Post X.K Z σ fr VIs ents Q (callV tab (evC ca ρ) ρ[i]?) := h
  cases qi : ρ[i]? with
  | none => rw [qi] at h; exact False.elim h
  | some sl =>
    rw [qi] at h
    cases sl with
    | fn y =>
      have h : Post X.K Z σ fr VIs ents Q (callW (evC ca ρ) (fnOf tab y)) := h
      cases qf : fnOf tab y with
      | none => rw [qf] at h; exact False.elim h
      | some F =>
        rw [qf] at h
        obtain ⟨f, fd, ps, a1, a2, a3, a4, a5⟩ := (D _ (fnOf_mem qf)).has
        obtain ⟨u, rest, hu, pm, _⟩ := zopen (fr := fr) hl qi
        obtain ⟨G, gg⟩ := id R
        obtain ⟨a, ea, en⟩ := (gg.perm pm).good _ List.mem_cons_self
        have ea : u = some (.ref a) := ea
        have ef : a = f := by
          rw [a5] at en
          cases en; rfl
        subst ef
        exact (fok_callL (i := i) a4 g.room g.grd hN hv a2 a3 (fun σ => pass_of tk σ) ha hdb hcd st1 st2).run pn s σ H Q J ⟨by rw [hu, ea], tCall_of (F := F) ⟨ρ, fr, hl, R, h⟩⟩
    | _ => exact False.elim h
/-! ### for x in [f, g, ..] -/
/-- a row of defs -/
structure FnRow (X : Cx) (es : List Expr) (xs : List Str) : Prop where
  has : ∃ as : List Addr, PA X es (fun _ H Q => Q (as.map V.ref) H) ∧ Paired (fun (x : Str) (a : Addr) => PySem.W.nsIn X.K mainGlobals x = some (some (.ref a))) xs as
theorem fr_nil : FnRow X [] [] := ⟨[], PA.imp pa_nil fun _ _ _ h => h, .nil⟩
theorem fr_cons {F : Fn} {T : List (Addr × Str)} {cl : Exc → Addr} {xs : List Str} (D : Def X.prog X.w X.K X.mg X.base T cl k x F) (h : FnRow X es xs) (hg : Gl X x := by rfl) (hdb : (x == ("__debug__" : Str)) = false := by decide)
    (st : starEach (.Name x p :: es) X.env = (false, eval (.Name x p) X.env) :: starEach es X.env := by rfl) : FnRow X (.Name x p :: es) (x :: xs) := by
  obtain ⟨f, fd, ps, a1, a2, a3, a4, a5⟩ := D.has
  obtain ⟨as, ha, hp⟩ := h.has
  exact ⟨f :: as, PA.imp (pa_cons (pe_glob (v := .ref f) hg a1 rfl hdb) ha st) fun σ H Q q => q, .cons a5 hp⟩
theorem Paired.get1 {α β : Type} {F : α → β → Prop} : ∀ {xs : List α} {ys : List β} {i : Nat} {y : β}, Paired F xs ys → ys[i]? = some y → ∃ x, xs[i]? = some x ∧ F x y
  | _, _, i, y, .nil, h => by simp at h
  | _, _, 0, y, .cons h t, e => by simp at e; subst e; exact ⟨_, rfl, h⟩
  | _, _, i + 1, y, .cons h t, e => by
    obtain ⟨x, a, b⟩ := Paired.get1 (i := i) (y := y) t (by simpa using e)
    exact ⟨x, by simpa using a, b⟩
theorem ok_forFL {s : CS} : ∀ (xs : List Str) (ρ : Rho), OK ρ (forFL i (evS s) xs ρ) := fun xs ρ => ok_ev (.forF i xs s) ρ
theorem s_forF {y : Str} {es : List Expr} {xs : List Str} {body : List Stmt} {s : CS} {lp np : Pos} (g : XG X k) (hp : PassesOwn (model X.prog X.w) X.A X.env X.xe) (hr : FnRow X es xs) (hb : PSs X body (tS X.K Z n s))
    (hN : X.N[i]? = some y := by rfl) (hx : Loc X.env.scope y := by first | exact Or.inl rfl | exact Or.inr rfl) (hf : X.fn y = true ∨ X.env.scope.names.lookup y = some .local := by first | exact .inl rfl | exact .inr rfl)
    (hlen : xs.length ≤ 1000 := by decide) (hs : ∀ x, foldedSetIterable (.List es lp) X.env x = pure x := by intro _; rfl) :
    PS X (.For (.Name y np) (.List es lp) body [] pos) (tS X.K Z n (.forF i xs s)) := by
  obtain ⟨as, ha, hpr⟩ := hr.has
  have hal : as.length = xs.length := (Paired.length hpr).symm
  refine PS.imp (ps_for hp g.calm (pi_list (pe_lst ha)) (pg_name g.nd hN hx hf) hb hs) fun D σ0 H0 h => ?_
  obtain ⟨ρ, fr, hn, hl, R, h⟩ := h
  have h : PostS X.K Z σ0 fr D (forFL i (evS s) xs ρ) := h
  refine ⟨by rw [List.length_map, hal]; exact Nat.le_trans hlen (by show 1000 ≤ 16777216; omega), fun p hp => ?_⟩
  refine ⟨p, rfl, ⟨_, SqL.of upd_same⟩, ?_⟩
  have R1 : Rep X.K Z.T (((Slot.fns xs), some (.ref p)) :: (ρ.zip σ0 ++ fr)) (upd H0 p (.lst (as.map V.ref))) := by
    obtain ⟨G, gg⟩ := R
    have g1 := gg.new (u := .lst (as.map V.ref)) hp (fun ps z => nomatch z)
    exact ⟨_, g1.sub, g1.notb, fun q hq => (List.mem_cons.mp hq).elim (fun z => by subst z; exact ⟨p, as, rfl, upd_same, hpr⟩) (g1.good q), by show (([] : List Addr) ++ List.flatMap adr _).Nodup; exact g1.nd, g1.tabs⟩
  generalize hH1 : upd H0 p (.lst (as.map V.ref)) = H1 at R1 ⊢
  clear hH1 R
  refine ⟨fun j m σ H => m = xs.length - j ∧ j ≤ xs.length ∧ ∃ ρ, n ≤ ρ.length ∧ ρ.length = σ.length ∧ Rep X.K Z.T ((Slot.fns xs, some (.ref p)) :: (ρ.zip σ ++ fr)) H ∧ PostS X.K Z σ fr D (forFL i (evS s) (xs.drop j) ρ), ⟨xs.length, rfl, Nat.zero_le _, ρ, hn, hl, R1, h⟩, ?_⟩
  rintro j m σ H2 ⟨em, hj, ρ2, hn2, hl2, R2, h2⟩
  obtain ⟨G, gg⟩ := id R2
  obtain ⟨p', as', ep, hG, hpr'⟩ := gg.good _ List.mem_cons_self
  cases ep
  have hsq : SqL X.K H2 p (as'.map V.ref) := SqL.of (gg.sub _ _ hG)
  have hal' : as'.length = xs.length := (Paired.length hpr').symm
  by_cases hlt : j < xs.length
  · have hg' : (as'.map V.ref)[j]? = some (.ref as'[j]) := by rw [List.getElem?_map, List.getElem?_eq_getElem (by omega)]; rfl
    refine .inr ⟨⟨_, _, hsq, hg'⟩, fun σ' H' => ∃ ρ, n ≤ ρ.length ∧ ρ.length = σ'.length ∧ Rep X.K Z.T ((Slot.fns xs, some (.ref p)) :: (ρ.zip σ' ++ fr)) H' ∧ PostS X.K Z σ' fr D (forFL i (evS s) (xs.drop (j + 1)) ρ), fun σ' H' q => ⟨xs.length - (j + 1), by omega, rfl, hlt, q⟩, fun x H3 y3 => ?_⟩
    obtain ⟨e3, y3⟩ := y3
    subst e3
    have ex : x = .ref as'[j] := by
      have := (y3 _ hsq).symm.trans hg'
      cases this; rfl
    subst ex
    obtain ⟨z, ez, hz⟩ := Paired.get1 hpr' (i := j) (List.getElem?_eq_getElem (by omega))
    have ez' : xs[j] = z := by rw [List.getElem?_eq_getElem hlt] at ez; exact Option.some.inj ez
    rw [List.drop_eq_getElem_cons hlt] at h2
    have h2 : PostS X.K Z σ fr D (turnO (forFL i (evS s) (xs.drop (j + 1))) (forFs i (evS s) xs[j] ρ2 ρ2[i]?)) := h2
    cases qi : ρ2[i]? with
    | none => rw [qi] at h2; exact False.elim h2
    | some sl =>
      rw [qi] at h2
      have h2 : PostS X.K Z σ fr D (turnO (forFL i (evS s) (xs.drop (j + 1))) (if isIo sl = true then .stuck else evS s (ρ2.set i (.fn xs[j])))) := h2
      by_cases hio : isIo sl = true
      · rw [if_pos hio] at h2; exact False.elim h2
      · rw [if_neg hio] at h2
        have hi2 : i < ρ2.length := (List.getElem?_eq_some_iff.mp qi).1
        generalize hρ3 : ρ2.set i (.fn xs[j]) = ρ3 at h2
        have k3 : Kp ρ2 ρ3 := by rw [← hρ3]; exact Kp.set (fun o z => by cases z)
        have R3 : Rep X.K Z.T ((Slot.fns xs, some (V.ref p)) :: (ρ3.zip (σ.set i (some (.ref as'[j]))) ++ fr)) H3 := by
          have g1 : RepG X.K Z.T G ((Slot.fn xs[j], some (.ref as'[j])) :: (ρ2.zip σ ++ ((Slot.fns xs, some (.ref p)) :: fr))) H3 := by
            have g0 := gg.perm (List.perm_middle (a := (Slot.fns xs, some (V.ref p))) (l₁ := ρ2.zip σ)).symm
            exact ⟨g0.sub, g0.notb, fun q hq => (List.mem_cons.mp hq).elim (fun z => by subst z; exact ⟨_, rfl, by rw [ez']; exact hz⟩) (g0.good q), by show (([] : List Addr) ++ List.flatMap adr _).Nodup; exact g0.nd, g0.tabs⟩
          have R4 := Rep.store ⟨G, g1⟩ hl2 hi2
          rw [hρ3] at R4
          exact R4.perm List.perm_middle
        generalize hσ3 : σ.set i (some (.ref as'[j])) = σ3 at R3
        have hl3 : σ3.length = σ.length := by rw [← hσ3, List.length_set]
        have kk3 : Keep ρ3 σ3 σ := fun q o hq => by
          by_cases e : i = q
          · subst e
            rw [← hρ3, List.getElem?_set_self hi2] at hq
            cases hq
          · rw [← hσ3, List.getElem?_set_ne e]
        show (tS X.K Z n s) _ (σ.set i (some (.ref as'[j]))) H3
        rw [hσ3]
        refine ⟨ρ3, (Slot.fns xs, some (.ref p)) :: fr, by rw [k3.len]; exact hn2, by rw [k3.len, hl2, hl3], R3.perm (List.perm_middle (a := (Slot.fns xs, some (V.ref p))) (l₁ := ρ3.zip σ3)).symm, ?_⟩
        have k := ok_ev s ρ3
        have nx : ∀ ρ4, OK ρ3 (.next ρ4) → PostS X.K Z σ fr D (forFL i (evS s) (xs.drop (j + 1)) ρ4) → ∀ σ4 H4, σ4.length = ρ4.length → Keep ρ4 σ4 σ3 → Rep X.K Z.T (ρ4.zip σ4 ++ ((Slot.fns xs, some (.ref p)) :: fr)) H4 →
            ∃ ρ, n ≤ ρ.length ∧ ρ.length = σ4.length ∧ Rep X.K Z.T ((Slot.fns xs, some (.ref p)) :: (ρ.zip σ4 ++ fr)) H4 ∧ PostS X.K Z σ4 fr D (forFL i (evS s) (xs.drop (j + 1)) ρ) := fun ρ4 k h σ4 H4 hl4 kk R4 =>
          ⟨ρ4, by rw [Kp.len k, k3.len]; exact hn2, hl4.symm, R4.perm List.perm_middle, PostS.base (ok_forFL _ ρ4) (Keep.trans k kk3 kk) h⟩
        have dr : ∀ {ρ4 : Rho} {σ4 : L2.St} {H4 : Hp}, Rep X.K Z.T (ρ4.zip σ4 ++ ((Slot.fns xs, some (.ref p)) :: fr)) H4 → Rep X.K Z.T (ρ4.zip σ4 ++ fr) H4 := fun R4 => R4.subl ((List.sublist_cons_self _ _).append_left _)
        revert h2 k
        cases evS s ρ3 with
        | next ρ4 => exact fun h k => nx ρ4 k h
        | cont ρ4 => exact fun h k => nx ρ4 k h
        | brk ρ4 => exact fun h k σ4 H4 hl4 kk R4 => h σ4 H4 hl4 (Keep.trans k kk3 kk) (dr R4)
        | ret s ρ4 => exact fun h k σ4 v H4 hl4 kk R4 => h σ4 v H4 hl4 (Keep.trans k kk3 kk) (R4.subl (((List.sublist_cons_self _ _).append_left _).cons_cons _))
        | err c ρ4 => exact fun h k σ4 H4 hl4 kk R4 => h σ4 H4 hl4 (Keep.trans k kk3 kk) (dr R4)
        | stuck => exact fun h _ => h
  · have ei : j = xs.length := by omega
    refine .inl ⟨⟨_, hsq, by rw [List.length_map]; omega⟩, ?_⟩
    rw [ei, List.drop_length] at h2
    exact h2 σ H2 hl2.symm (Keep.refl _ _) (R2.subl (List.sublist_cons_self _ _))
end
theorem all_nil {α : Type} (p : α → Prop) : ∀ q ∈ ([] : List α), p q := fun _ h => nomatch h
theorem all_cons {α : Type} {p : α → Prop} {a : α} {l : List α} (h : p a) (t : ∀ q ∈ l, p q) : ∀ q ∈ a :: l, p q := fun q hq => (List.mem_cons.mp hq).elim (fun z => by rw [z]; exact h) (t q)
end Ell
/-! ### tuple(range(n)), list(range(n)) -/
namespace Ell
open PySem PySem.Spec PyProof.Rows L2
section
variable {X : Cx}
theorem iss_rng {K : PySem.W.Frag} {G : Hp} {n : Int} : Iss K G (rgV 0 n) (rngZ n) := by
  unfold rgV rngZ
  rw [Int.sub_zero]
  generalize List.range n.toNat = l
  induction l with
  | nil => exact .nil
  | cons a r ih => exact .cons (.int _) ih
def rTrng : List V → Hp → VK → Prop := fun xs H1 Q => ∃ n : Int, xs = [.int n] ∧ RgOk 0 n ∧ ∀ p, H1 p = none → Q (.ref p) (upd H1 p (.tup (rgV 0 n)))
def rLrng : List V → Hp → VK → Prop := fun xs H1 Q => ∃ n : Int, xs = [.int n] ∧ RgOk 0 n ∧ ∀ p, H1 p = none → Q (.ref p) (upd H1 p (.lst (rgV 0 n)))
theorem rgok {n : Int} (h : leI 0 n ∧ leI n 16777216) : RgOk 0 n := by
  have h0 : (0 : Int) ≤ n := h.1
  have h1 : n ≤ 16777216 := h.2
  exact RgOk.of_le (by omega) h1 (by omega) h0
theorem rng_inv {f : BF} {ds : List D} {s : Slot} (hf : f = .trng ∨ f = .lrng) (h : bfun f ds = some s) : ∃ n, ds = [.int n] := by
  match ds with
  | [] => rcases hf with rfl | rfl <;> cases h
  | [d] =>
    cases d with
    | int n => exact ⟨n, rfl⟩
    | _ => rcases hf with rfl | rfl <;> cases h
  | d :: e :: r => rcases hf with rfl | rfl <;> cases d <;> cases h
theorem bf_trng : BfOk X.K rTrng .trng := by
  intro T G l H xs ds s Q R w es hq
  obtain ⟨n, rfl⟩ := rng_inv (.inl rfl) es
  obtain ⟨v, e, w⟩ := vw1 w
  rw [f_trng] at es
  obtain ⟨c, es⟩ := if_some es
  cases es
  exact ⟨n, by rw [e, w.int], rgok c, fun p hp => hq _ _ (R.newT hp iss_rng)⟩
theorem bf_lrng : BfOk X.K rLrng .lrng := by
  intro T G l H xs ds s Q R w es hq
  obtain ⟨n, rfl⟩ := rng_inv (.inr rfl) es
  obtain ⟨v, e, w⟩ := vw1 w
  rw [f_lrng] at es
  obtain ⟨c, es⟩ := if_some es
  cases es
  exact ⟨n, by rw [e, w.int], rgok c, fun p hp => hq _ _ (R.newL hp iss_rng)⟩
variable {Z : Cf} {e : Expr} {ca : CE} {pos : Pos}
theorem d_trng {k : Nat} {p p2 pos2 : Pos} (g : XG X k) (hm : X.mg "tuple" = none) (hm2 : X.mg "range" = none) (ha : PE X e (tE X.K Z ca)) (hg : Gl X "tuple" := by rfl) (hg2 : Gl X "range" := by rfl)
    (hs : starEach [e] X.env = (false, eval e X.env) :: starEach [] X.env := by rfl) (hs2 : starEach [.Call (.Name "range" p2) [e] [] pos2] X.env = (false, eval (.Call (.Name "range" p2) [e] [] pos2) X.env) :: starEach [] X.env := by rfl) :
    PE X (.Call (.Name "tuple" p) [.Call (.Name "range" p2) [e] [] pos2] [] pos) (tE X.K Z (.blt .trng (.cons ca .nil))) := by
  refine PE.imp (pe_tupRg g.calm hg hm (prg_1 hg2 hm2 ha hs) hs2) fun σ H Q h => ?_
  have h := tCs_cons (tBlt_of bf_trng h)
  refine h.mono fun x H1 q => ?_
  obtain ⟨n, ex, ok, q2⟩ := tCs_nil q
  exact ⟨n, (List.cons.inj ex).1, ok, q2⟩
theorem d_lrng {k : Nat} {p p2 pos2 : Pos} (g : XG X k) (hm : X.mg "list" = none) (hm2 : X.mg "range" = none) (ha : PE X e (tE X.K Z ca)) (hg : Gl X "list" := by rfl) (hg2 : Gl X "range" := by rfl)
    (hs : starEach [e] X.env = (false, eval e X.env) :: starEach [] X.env := by rfl) (hs2 : starEach [.Call (.Name "range" p2) [e] [] pos2] X.env = (false, eval (.Call (.Name "range" p2) [e] [] pos2) X.env) :: starEach [] X.env := by rfl) :
    PE X (.Call (.Name "list" p) [.Call (.Name "range" p2) [e] [] pos2] [] pos) (tE X.K Z (.blt .lrng (.cons ca .nil))) := by
  refine PE.imp (pe_listRg g.calm hg hm (prg_1 hg2 hm2 ha hs) hs2) fun σ H Q h => ?_
  have h := tCs_cons (tBlt_of bf_lrng h)
  refine h.mono fun x H1 q => ?_
  obtain ⟨n, ex, ok, q2⟩ := tCs_nil q
  exact ⟨n, (List.cons.inj ex).1, ok, q2⟩
end
end Ell
/-! ### len(set(xs)), xs a list of tuples of ints -/
namespace Ell
open PySem PySem.Spec PyProof.Rows L2
theorem dd_mem : ∀ {rs : List (List Int)} {x : List Int}, x ∈ dd rs ↔ x ∈ rs
  | [], x => Iff.rfl
  | y :: r, x => by
    unfold dd
    by_cases c : y ∈ r
    · rw [if_pos c, dd_mem, List.mem_cons]
      constructor
      · exact .inr
      · rintro (rfl | h)
        · exact c
        · exact h
    · rw [if_neg c, List.mem_cons, List.mem_cons, dd_mem]
theorem dd_nd : ∀ rs : List (List Int), (dd rs).Nodup
  | [] => List.nodup_nil
  | y :: r => by
    unfold dd
    by_cases c : y ∈ r
    · rw [if_pos c]; exact dd_nd r
    · rw [if_neg c]; exact List.nodup_cons.mpr ⟨fun h => c (dd_mem.mp h), dd_nd r⟩
section
variable {X : Cx}
def rLenSetT (K : PySem.W.Frag) (P : Program) (w : World) : List V → Hp → VK → Prop := fun vs H Q => ∃ (a : Addr) (L : List (Addr × List Int)), vs = [V.ref a] ∧ H a = some (SetTO P w a L) ∧ (∀ p ∈ L, SqT K H p.1 (p.2.map V.int)) ∧ ((L.map (·.2)).Nodup → Q (.int L.length) H)
theorem cr_lenSetT : CallR X (.builtin "len") (rLenSetT X.K X.prog X.w) := by
  intro pins s σ H vs us Q I r h
  obtain ⟨a, L, rfl, ha, hk, q⟩ := h
  have R0 : SetT0 X.prog X.w s.heap a L := (I.hok a _ ha).1
  obtain ⟨es, ep, t, R⟩ := R0.full fun p hp => I.isT (hk p hp)
  rw [Vals.ref1 r]
  obtain ⟨o, at0, exo, dat⟩ := R.ob
  have hsz := R.size
  have hf := R.few
  refine call_len_set at0 exo dat R.fits (by rw [hsz]; omega) ⟨.int es.size, H, I.tok _, ⟨_, rfl⟩, ?_⟩
  have := q R.nd
  rwa [← hsz] at this
theorem rows_at {K : PySem.W.Frag} {G H : Hp} (x : Evl.Ex G H) : ∀ {zs : List V} {ys : List D} {rs : List (List Int)}, Iss K G zs ys → rows? ys = some rs → ∃ ks : List (Addr × List Int), zs = ks.map (fun p => V.ref p.1) ∧ ks.map (·.2) = rs ∧ ∀ p ∈ ks, SqT K H p.1 (p.2.map V.int)
  | _, _, _, .nil, e => by cases e; exact ⟨[], rfl, rfl, fun p hp => (List.not_mem_nil hp).elim⟩
  | z :: zs, y :: ys, rs, .cons h t, e => by
    cases h with
    | tup h1 i1 =>
      rename_i a xs ds
      have e : (ints? ds).bind (fun ns => (rows? ys).map (ns :: ·)) = some rs := e
      obtain ⟨ns, en, e⟩ := Option.bind_eq_some_iff.mp e
      obtain ⟨rs', er, rfl⟩ := Option.map_eq_some_iff.mp e
      obtain ⟨ks, e1, e2, e3⟩ := rows_at x t er
      have := i1.ints en
      subst this
      refine ⟨(a, ns) :: ks, by rw [e1]; rfl, by rw [List.map_cons, e2], fun p hp => ?_⟩
      rcases List.mem_cons.mp hp with rfl | hp
      · exact Evl.ex_t x h1
      · exact e3 p hp
    | _ => cases e
theorem bf_setlenT {k : Nat} (g : XG X k) : BfOk X.K (wTwo X (.type "set") (.builtin "len")) .setlenT := by
  intro T G l H xs ds s Q R w es hq
  have inv : ∃ ys, ds = [.list ys] := by
    match ds with
    | [] => cases es
    | [d] =>
      cases d with
      | list ys => exact ⟨ys, rfl⟩
      | _ => cases es
    | d :: e :: r => cases d <;> cases es
  obtain ⟨ys, rfl⟩ := inv
  obtain ⟨v, e, w⟩ := vw1 w
  rw [f_slenT] at es
  obtain ⟨rs, er, es⟩ := Option.bind_eq_some_iff.mp es
  obtain ⟨few, es⟩ := if_some es
  have few : rs.length < 64 := few
  obtain ⟨a, zs, ev, h1, i1⟩ := w.lst R.sub
  obtain ⟨ks, e1, e2, e3⟩ := rows_at R.sub i1 er
  subst es
  have hl : ks.length = rs.length := by rw [← e2, List.length_map]
  have hs : SqL X.K H a (ks.map fun p => V.ref p.1) := by rw [← e1]; exact SqL.of h1
  refine wcall_of (cr_setOfT g.calm (by have := g.room.un; omega)) ⟨a, ks, by rw [e, ev], hs, e3, by omega, fun p L hp hL hk => ?_⟩
  refine wcall_of cr_lenSetT ⟨p, L, rfl, upd_same, fun q hq => Evl.ex_t (Evl.Ex.new hp) (e3 q (hL q hq)), fun nd => ?_⟩
  have el : L.length = (dd rs).length := by
    rw [← List.length_map (f := fun (p : Addr × List Int) => p.2)]
    refine ((List.perm_ext_iff_of_nodup nd (dd_nd rs)).mpr fun x => ?_).length_eq
    rw [dd_mem, ← e2]
    constructor
    · intro h
      obtain ⟨q, hq, rfl⟩ := List.mem_map.mp h
      exact List.mem_map.mpr ⟨q, hL q hq, rfl⟩
    · intro h
      obtain ⟨q, hq, rfl⟩ := List.mem_map.mp h
      exact hk q hq
  rw [el]
  exact hq _ _ ((R.new hp (fun _ z => by unfold SetTO at z; cases z)).rep (.int _))
end
section
variable {K : PySem.W.Frag}
theorem is_tupK {a : Addr} {its : Array Value} {n : Nat} {osl : Array (Option Value)} {xs : List V} {ds : List D} (l : K.lookup a = some ⟨.type "tuple", none, .seq its n, osl⟩) (v : Vals xs its.toList) (size : its.size ≤ sizeLine) (i : ∀ G, Iss K G xs ds) (G : Hp) : Is K G (.ref a) (.tuple ds) :=
  .tup (.inr ⟨_, its, n, l, rfl, rfl, size, v⟩) (i G)
/-- a module's constant tuple -/
theorem const_tup {x : Str} {a : Addr} {its : Array Value} {n : Nat} {osl : Array (Option Value)} {xs : List V} {ds : List D} (g : PySem.W.nsIn K mainGlobals x = some (some (.ref a))) (l : K.lookup a = some ⟨.type "tuple", none, .seq its n, osl⟩) (v : Vals xs its.toList) (size : its.size ≤ sizeLine)
    (i : ∀ G, Iss K G xs ds) : ConstIs K x (.tuple ds) := ⟨⟨.ref a, .ref a, g, rfl, fun G => .tup (.inr ⟨_, its, n, l, rfl, rfl, size, v⟩) (i G)⟩⟩
end
end Ell
set_option autoImplicit false
/-! Ell33: _law_told(lambda one=1: e). -/
namespace Ell
open PySem PySem.Spec PyProof.Rows L2 LamX
open Evl (Ex)
/-- one parameter, which has a default; the maker has no name like it -/
structure LamD (sc scope : Scope) (x : Str) (N : List Str) : Prop where
  kind : scope.kind = .function
  co : scope.isCoroutine = false
  gen : scope.isGenerator = false
  par : scope.names.lookup x = some .local
  nocell : ∀ y ∈ scope.names, y.2 ≠ .cell
  apart : ∀ y ∈ scope.names, y.2 = .local → y.1 ∉ N
  free : ∀ y ∈ scope.names, y.2 = .free → sc.names.lookup y.1 = some .cell ∨ sc.names.lookup y.1 = some .free
def lamDB (sc scope : Scope) (x : Str) (N : List Str) : Bool :=
  decide (scope.kind = .function) && !scope.isCoroutine && !scope.isGenerator && decide (scope.names.lookup x = some .local) && scope.names.all (fun y => !decide (y.2 = .cell) && (!decide (y.2 = .local) || !decide (y.1 ∈ N)) && (!decide (y.2 = .free) || decide (sc.names.lookup y.1 = some .cell) || decide (sc.names.lookup y.1 = some .free)))
theorem lamD_by {sc scope : Scope} {x : Str} {N : List Str} (h : lamDB sc scope x N = true) : LamD sc scope x N := by
  unfold lamDB at h
  simp only [Bool.and_eq_true, Bool.or_eq_true, Bool.not_eq_true', decide_eq_true_eq, decide_eq_false_iff_not, List.all_eq_true] at h
  obtain ⟨⟨⟨⟨h1, h2⟩, h3⟩, h4⟩, h5⟩ := h
  refine ⟨h1, h2, h3, h4, fun y hy => (h5 y hy).1.1, fun y hy e => ?_, fun y hy e => ?_⟩
  · rcases (h5 y hy).1.2 with z | z
    · exact absurd e z
    · exact z
  · rcases (h5 y hy).2 with (z | z) | z
    · exact absurd e z
    · exact .inl z
    · exact .inr z
section
variable {X : Cx} {pn : List (Addr × Obj)} {σ : L2.St} {H HZ : Hp} {s s1 : Shared}
theorem LamD.has {scope : Scope} {x : Str} {N : List Str} (L : LamD X.env.scope scope x N) (ok : X.Ok) (y : Str × NameKind) (hy : y ∈ scope.names) (e : y.2 = .free) : ∃ c, X.env.cells.lookup y.1 = some c :=
  (L.free y hy e).elim (fun k => ok.has _ (.inl k)) fun k => ok.has _ (.inr k)
/-- the context of a lambda's body, at its begin -/
theorem start_dflt {A : Around} {up : List Env} {E : XK} {scope : Scope} {x : Str} {f c' : Addr} {g1 : Heap} {tk : Nat} {mm : Str → Option Value} (J : Inv X pn σ H s) (L : LamD X.env.scope scope x X.N) (env : Env0 X.prog X.w X.K X.mg X.base A up s1 HZ) (clear : A.handled = none)
    (grew : Un (frs X.stack) [] H HZ s.heap s1.heap) (ns : g1.Ns s1.heap.objs.size mm) (stays : ∀ b o, s1.heap.get? b = some o → g1.get? b = some o) :
    Inv (lamCx X A up s1 HZ E scope f c') [] σ HZ { s1 with heap := g1, toks := tk } := by
  have frees := L.has J.ok
  have old : ∀ {y : Str} {c : Addr}, (cloFrom X.env.cells scope.names []).lookup y = some c → X.env.cells.lookup y = some c := by
    intro y c e
    rcases cloFrom_mem (PySem.mem_of_lookup e) with no | ⟨q1, q2⟩
    · exact nomatch no
    · obtain ⟨c1, e1⟩ := frees _ q1 rfl
      have e1 : X.env.cells.lookup y = some c1 := e1
      have : c = c1 := by rw [q2, e1] <;> rfl
      rw [this]; exact e1
  have there : ∀ {y : Str}, scope.names.lookup y = some .free → ∃ c, (cloFrom X.env.cells scope.names []).lookup y = some c := fun {y} q =>
    mem_lookup (cloFrom_has (cells := X.env.cells) (acc := []) (PySem.mem_of_lookup q))
  have cells : ∀ {c : Addr} {v : Option Value}, H c = none → s.heap.IsCell c v → g1.IsCell c v := by
    intro c v n ⟨o, q1, q2⟩
    obtain ⟨sl, q⟩ := grew.any q1 n (by simp)
    exact ⟨_, stays _ _ q, q2⟩
  have empty : ∀ b : Addr, b ∉ (lamCx X A up s1 HZ E scope f c').ex := fun b z => (nomatch (show b ∈ ([] : List Addr) from z))
  refine ⟨⟨env.mod, L.kind, rfl, rfl, Nat.le_refl _, fun y z c e1 e2 => J.ok.inj y z c (old e1) (old e2), fun y hy => ?has, fun y c z _ => ?clm, fun _ => clear, Around.frames_deeper env.frames, .inr ⟨rfl, rfl⟩, fun b z => absurd z (empty b), env.bs, env.bsz, fun b _ _ => empty b, fun b z => absurd z (empty b), env.funs, env.frf⟩,
    rfl, env.bare, Un.kept stays, ⟨_, ns, fun i y v e1 e2 vis => ?loc⟩, fun y c e => ?cell, env.hok.fresh (Nat.le_refl _), fun y c e => ?freeC, fun q hq => (nomatch (show q ∈ ([] : List (Addr × Obj)) ++ [] from hq)), env.hok.kept stays, J.len⟩
  case has =>
    have hy : scope.names.lookup y = some .cell ∨ scope.names.lookup y = some .free := hy
    rcases hy with hy | hy
    · exact absurd rfl (L.nocell _ (PySem.mem_of_lookup hy))
    · exact there hy
  case clm =>
    have z : false = true := z
    cases z
  case loc =>
    have e1 : X.N[i]? = some y := e1
    have vis : Vis scope y := vis
    rcases vis with k | k | k
    · exact absurd (List.mem_of_getElem? e1) (L.apart _ (PySem.mem_of_lookup k) rfl)
    · exact absurd rfl (L.nocell _ (PySem.mem_of_lookup k))
    · obtain ⟨m, _, hl⟩ := J.loc
      have vis2 : Vis X.env.scope y := (L.free _ (PySem.mem_of_lookup k) rfl).elim (fun k => .inr (.inl k)) (fun k => .inr (.inr k))
      obtain ⟨w', r, q⟩ := hl i y v e1 e2 vis2
      obtain ⟨c2, h2⟩ := there k
      refine ⟨w', r, .inr ⟨.inr k, c2, h2, ?_⟩⟩
      have c1 := old h2
      rcases q with ⟨k', _⟩ | ⟨_, c3, e', z⟩
      · have k' : X.env.scope.names.lookup y = some .local := k'
        exact (L.free _ (PySem.mem_of_lookup k) rfl).elim (fun k2 => nomatch (show X.env.scope.names.lookup y = _ from k2).symm.trans k') fun k2 => nomatch (show X.env.scope.names.lookup y = _ from k2).symm.trans k'
      · rw [c1] at e'
        cases e'
        exact cells (J.freeC y _ c1) z
  case cell =>
    obtain ⟨w', z⟩ := J.cell y c (old e)
    exact ⟨w', cells (J.freeC y c (old e)) z⟩
  case freeC =>
    obtain ⟨v, o, q1, q2⟩ := J.cell y c (old e)
    exact grew.free c o q1 (J.freeC y c (old e)) (by simp)
/-- a lambda with a default is made -/
theorem make_dflt {T : List (Addr × Str)} {c P : Addr} {params : Arguments} {body e : Expr} {scope : Scope} {pos : Pos} {Q : Value → Shared → Prop} (J : Inv X pn σ H s) (TB : TabB X.base X.mg c P) (code : X.env.code = .ref c)
    (inT : (P, X.env.qual ++ "<lambda>") ∈ T) (uniq : ∀ r ∈ T, r.1 = P → r.2 = X.env.qual ++ "<lambda>") (tabs : Tabs T H) (one : params.defaults = [e]) (nokw : params.kw_defaults = []) (lit : PE X e (fun _ H Q => Q (.int 1) H)) (frees : ∀ y ∈ scope.names, y.2 = .free → ∃ c, X.env.cells.lookup y.1 = some c)
    (goal : ∀ (f c' td : Addr) (doc pm ctv u : Value) (H1 : Hp) (s' : Shared), Inv X pn σ H1 s' → ExtN H H1 → Tabs T H1 → s'.heap.get? f = some (PySem.W.kdv_obj "<lambda>" (X.env.qual ++ "<lambda>") params (.expr body) scope (cloFrom X.env.cells scope.names []) (.ref td) doc pm c' ctv) →
      s'.heap.get? td = some (PySem.W.kdv_tup [u]) → H1 f = none → H1 td = none → f ∉ frs X.stack → td ∉ frs X.stack → H1 c' = some (CodeO c' (X.env.qual ++ "<lambda>")) → Q (.ref f) s') :
    wpAny (model X.prog X.w) X.A (eval (.Lambda params body scope pos) X.env) Q X.xe s := by
  obtain ⟨ps, atP, trip, named⟩ := tabs _ inT
  refine PySem.W.kdv_lam (by rw [one]; rfl) nokw ?_
  rw [one]
  refine PySem.W.kdv_all1 (thn (lit.run pn s σ H (fun _ H1 => H1 = H) J rfl) fun u s1 ⟨v, H1, J1, rv, eH⟩ => PySem.W.kdv_all0 ?_)
  subst eH
  rw [makeFunction_eq]
  simp only [List.zip_nil_right, List.filterMap_nil, List.isEmpty_nil, List.isEmpty_cons, if_true, pure_bind, Bool.false_eq_true, if_false]
  refine wpAny_bind (wpAny_newTextTuple ?_)
  have J2 : Inv X pn σ H1 { s1 with heap := s1.heap.push (PySem.W.kdv_tup [u]) } := J1.kept fun b o e => Heap.get?_push_of_some _ e
  have tup : (s1.heap.push (PySem.W.kdv_tup [u])).get? s1.heap.objs.size = some (PySem.W.kdv_tup [u]) := Heap.get?_push_size _ rfl
  have lt2 : s1.heap.objs.size < (s1.heap.push (PySem.W.kdv_tup [u])).objs.size := Heap.lt_size tup
  have noT : H1 s1.heap.objs.size = none := J1.hok.fresh (Nat.le_refl _)
  have offs : ∀ {sz : Nat} {b : Addr}, s1.heap.objs.size ≤ b → b ∉ frs X.stack := fun {sz b} le z => by
    rcases List.mem_cons.mp (J1.stkSub _ z) with e | e
    · have h1 := J1.lt
      rw [← e] at h1
      exact absurd h1 (Nat.not_lt.mpr le)
    · exact J1.nofs le e
  have offT := offs (sz := 0) (Nat.le_refl s1.heap.objs.size)
  generalize s1.heap.objs.size = td at *
  generalize hs2 : ({ s1 with heap := s1.heap.push (PySem.W.kdv_tup [u]) } : Shared) = s2 at *
  have tup : s2.heap.get? td = some (PySem.W.kdv_tup [u]) := by rw [← hs2]; exact tup
  have lt2 : td < s2.heap.objs.size := by rw [← hs2]; exact lt2
  have bP : s2.heap.BuiltinsAt X.mg P := TB.bm.keeps J2.bk
  have rawP : s2.heap.get? P = some { cls := .none, data := .fields ps } := J2.hok P _ atP
  cases found : codeAmong pos ps.toList with
  | none =>
    refine PySem.W.kdv_makeTail (mg := X.mg) (c := c) (P := P) (ps := ps) (closure_ok frees) J2.ok.glob (J2.mod.glob.keeps J2.bk) code (TB.code.keeps J2.bk) rawP trip found TB.gP bP fun c' ctv doc g1 tk but ge lt rec newP => ?_
    obtain ⟨c2, oc, vs, t, e2, atC, isF, nm⟩ := rec
    cases e2
    have many : s2.heap.objs.size ≤ g1.objs.size := Nat.le_trans ge (Nat.le_of_lt lt)
    have noC : H1 c' = none := J2.hok.fresh ge
    have J3 := inv_table (t' := tk) (more := #[rawInt pos.line, rawInt pos.col, .ref c']) (h' := g1.push (PySem.W.kdv_obj "<lambda>" (X.env.qual ++ "<lambda>") params (.expr body) scope (cloFrom X.env.cells scope.names []) (.ref td) doc ((X.mg "__name__").getD .none) c' ctv)) J2 atP
      (fun b o hb e => Heap.get?_push_of_some _ (but b o hb e)) (Heap.get?_push_of_some _ newP) ge ⟨oc, vs, t, Heap.get?_push_of_some _ atC, isF, nm⟩
    have nTP : td ≠ P := (ne_of_none atP noT).symm
    have ext : ExtN H1 (upd (upd H1 P (.tbl (ps ++ #[rawInt pos.line, rawInt pos.col, .ref c']))) c' (CodeO c' (X.env.qual ++ "<lambda>"))) := fun b o e n => by
      have q1 : b ≠ P := fun z => n ps (Option.some.inj (e.symm.trans (by rw [z]; exact atP)))
      rw [upd_ne (ne_of_none e noC), upd_ne q1]
      exact e
    have asL : (ps ++ #[rawInt pos.line, rawInt pos.col, .ref c']).toList = ps.toList ++ [rawInt pos.line, rawInt pos.col, .ref c'] := by simp
    have fresh : ∀ {b : Addr}, b ≠ c' → b ≠ P → H1 b = none → upd (upd H1 P (.tbl (ps ++ #[rawInt pos.line, rawInt pos.col, .ref c']))) c' (CodeO c' (X.env.qual ++ "<lambda>")) b = none := fun q1 q2 q3 => by rw [upd_ne q1, upd_ne q2]; exact q3
    refine goal g1.objs.size c' td doc _ ctv u _ _ J3 ext (fun r hr => ?_) (Heap.get?_push_size _ rfl) (Heap.get?_push_of_some _ (but td _ nTP tup)) (fresh (Nat.ne_of_gt lt) (Nat.ne_of_gt (Nat.lt_of_lt_of_le (Heap.lt_size rawP) many)) (J2.hok.fresh many)) (fresh (Nat.ne_of_lt (Nat.lt_of_lt_of_le lt2 ge)) nTP noT) (offs (sz := 0) (Nat.le_trans (Nat.le_of_lt lt2) many)) offT upd_same
    by_cases hb : r.1 = P
    · rw [uniq r hr hb, hb]
      refine ⟨_, (upd_ne (ne_of_none atP noC)).trans upd_same, by rw [asL]; exact PySem.TriplesOk_snoc _ _ _ _ trip, fun p' cv hcv => ?_⟩
      rw [asL] at hcv
      rcases among_app _ trip hcv with z | z
      · obtain ⟨c0, e1, e2⟩ := named p' cv z
        exact ⟨c0, e1, ext _ _ e2 codeO_ne⟩
      · exact ⟨c', z, upd_same⟩
    · obtain ⟨ps', a1, a2, a3⟩ := tabs r hr
      refine ⟨ps', (upd_ne (ne_of_none a1 noC)).trans ((upd_ne hb).trans a1), a2, fun p' cv hcv => ?_⟩
      obtain ⟨c0, e1, e2⟩ := a3 p' cv hcv
      exact ⟨c0, e1, ext _ _ e2 codeO_ne⟩
  | some cv =>
    obtain ⟨c', e, isC⟩ := named pos cv found
    subst e
    refine PySem.W.kdv_makeTailHit (mg := X.mg) (c := c) (P := P) (ps := ps) (closure_ok frees) J2.ok.glob (J2.mod.glob.keeps J2.bk) code (TB.code.keeps J2.bk) rawP trip found bP fun ctv doc g1 tk but many => ?_
    exact goal g1.objs.size c' td doc _ ctv u H1 _ (J2.kept fun b o e => Heap.get?_push_of_some _ (but b o e)) (ExtN.refl _) tabs (Heap.get?_push_size _ rfl) (Heap.get?_push_of_some _ (but td _ tup)) (J2.hok.fresh many) noT (offs (sz := 0) (Nat.le_trans (Nat.le_of_lt lt2) many)) offT isC
/-- a() in the def that got such a lambda -/
theorem act_dflt {Ng : List Str} {qg : Str} {sg : Scope} {g f c' td : Addr} {cdg doc pm ctv u1 : Value} {params : Arguments} {body : Expr} {scope : Scope} {k i : Nat} {a x : Str} {pt : List (Addr × Obj)} {xe : Value → Shared → Prop} {W : WX} {E : XK} {tb : TE} {p1 p2 : Pos}
    (J : Inv X pn σ H s) (L : LamD X.env.scope scope x X.N) (isF : s.heap.get? f = some (PySem.W.kdv_obj "<lambda>" (X.env.qual ++ "<lambda>") params (.expr body) scope (cloFrom X.env.cells scope.names []) (.ref td) doc pm c' ctv)) (isT : s.heap.get? td = some (PySem.W.kdv_tup [u1])) (noF : H f = none) (noT : H td = none) (offF : f ∉ frs X.stack) (offT : td ∉ frs X.stack)
    (bind1 : ∃ kk, bindArgs (PySem.W.kdv_fn "<lambda>" (X.env.qual ++ "<lambda>") params (.expr body) scope (cloFrom X.env.cells scope.names []) (.ref td) doc pm (.ref c') ctv) ⟨[], []⟩ = seqItems? (.ref td) >>= kk ∧ kk (some #[u1]) = pure [(x, u1)])
    (tk : L2N.Takes ((gotCx X Ng qg sg g cdg s H).tr pt xe) W) (hW : ∀ cls d σ' H', E cls d H' → W cls d σ' H') (room : Room (k + 1) (X.A.deeper (envOfC qg sg s.heap.objs.size g cdg))) (gd : X.A.guards = some [])
    (hb : ∀ (A : Around) (outer : List Env) (s : Shared) (H : Hp), Room k (A.deeper (lamEnv X scope s.heap.objs.size f c')) → A.guards = some [] → PE (lamN X A outer s H E scope f c') body tb)
    (at_ : Ng[i]? = some a) (vis : Vis sg a) (hd : (a == ("__debug__" : Str)) = false := by decide) (hcd : (a == ("__classdict__" : Str)) = false := by decide) :
    PE ((gotCx X Ng qg sg g cdg s H).tr pt xe) (.Call (.Name a p1) [] [] p2) (fun σZ HZ Q => σZ[i]? = some (some (.ref f)) ∧ HZ c' = some (CodeO c' (X.env.qual ++ "<lambda>")) ∧ tb σ HZ Q) := by
  refine ⟨fun pz sz σZ HZ Q JZ ⟨slot, known, want⟩ => wpAny_Call_Name_kw (thn ((pe_var (pos := p1) (i := i) at_ vis hd hcd).run pz sz σZ HZ (fun v H1 => v = .ref f ∧ H1 = HZ) JZ ⟨.ref f, slot, rfl, rfl⟩) fun u s1 ⟨v, H1, J1, rv, ev, eH⟩ => ?_)⟩
  subst ev
  rw [eH] at J1
  obtain rfl : u = Value.ref f := rv
  have f1 := J1.base.keep f _ isF noF offF (fun z => nomatch (show f ∈ ([] : List Addr) from z))
  have t1 := J1.base.keep td _ isT noT offT (fun z => nomatch (show td ∈ ([] : List Addr) from z))
  refine PySem.W.callWith_F0 ⟨_, _, _, _, f1⟩ ?_
  obtain ⟨⟨oc, vs, t, hoc, hdc, hvc⟩, _, _⟩ := J1.hok c' _ known
  obtain ⟨kk, b1, b2⟩ := bind1
  have binds : BindsTo s1 (PySem.W.kdv_fn "<lambda>" (X.env.qual ++ "<lambda>") params (.expr body) scope (cloFrom X.env.cells scope.names []) (.ref td) doc pm (.ref c') ctv) ⟨[], []⟩ [(x, u1)] := BindsTo.of_defaults rfl t1 rfl b1 b2
  have run : codeAny (model X.prog X.w) (X.A.deeper (envOfC qg sg s.heap.objs.size g cdg)) (.call (.ref f) ⟨[], []⟩) (CR (L2N.CX X.prog X.w) (envOfC qg sg s.heap.objs.size g cdg :: X.stack) X.prog X.w HZ s1 Q E) s1 := by
    refine PySem.W.kla_callFunE room.depth f1 rfl L.co L.gen rfl ⟨c', oc, vs, t, rfl, hoc, hdc, hvc⟩ (binds _ _ _ _ ?_)
    refine wpAny_newFunctionEnv L.nocell (fun y hy => by rw [List.mem_singleton] at hy; subst hy; exact L.par) (fun h₁ hns same => ⟨J1.nolimit.fresh _ same, ?_⟩) L.kind
    show codeAny _ _ (.expr body (lamEnv X scope s1.heap.objs.size f c')) _ _
    have grown : ∀ b o, s1.heap.get? b = some o → h₁.get? b = some o := fun b o e => same.extBut b o (Nat.ne_of_lt (Heap.lt_size e)) (Heap.get?_push_of_some _ e)
    have JL := (start_dflt (tk := s1.toks + ([(x, u1)] : List (Str × Value)).length) (E := E) (f := f) (c' := c') J L J1.env0 room.hd J1.base hns grown).wish (lamN X (X.A.deeper (envOfC qg sg s.heap.objs.size g cdg)) (envOfC qg sg s.heap.objs.size g cdg :: X.stack) s1 HZ E scope f c').xe
    refine PySem.W.kla_codeExpr (wpAny_mono ((hb _ _ s1 HZ (room.deeper _) gd).run [] _ _ HZ Q JL want) (fun v s' ⟨w', H', J', rv, q⟩ => ?_) fun e s' z => z)
    exact ⟨w', H', J'.os, J'.bare, J'.base, J'.hok, rv, q⟩
  refine wpAny_call (codeAny_mono run fun r s' got => ?_)
  cases r with
  | error er => exact tk er s' (L2N.XE.of_call J1 (fun cls d H' h => hW cls d σZ H' h) got)
  | ok flow =>
    cases flow with
    | ret u => exact J1.after got
    | next => exact False.elim got
    | brk => exact False.elim got
    | cont => exact False.elim got
/-- f(lambda x=1: body) -/
theorem lamcall_dflt {T : List (Addr × Str)} {TT : (XK → Hp → VK → Prop) → Hp → VK → Prop} {x a y : Str} {g c P : Addr} {k : Nat} {pg : Arguments} {bg : List Stmt} {sg : Scope} {dV kV doc pm cdv ct oc : Value} {an od : Option Addr} {osl : Array (Option Value)} {Ng : List Str}
    {params : Arguments} {body e : Expr} {scope : Scope} {t : XK → TE} {p lpos pos : Pos} (hg : Gl X x) (mgx : X.mg x = some (.ref g)) (kept : PySem.W.keepIn X.K (.ref g) = true)
    (lk : X.K.lookup g = some ⟨oc, od, .func (PySem.W.fnOf x x pg bg sg dV kV doc pm an cdv ct), osl⟩) (codeG : PySem.W.codeIn X.K cdv x = true) (bd : L2.Binds X.K (PySem.W.fnOf x x pg bg sg dV kV doc pm an cdv ct) [a] []) (Sg : FnScope Ng [a] sg) (at0 : Ng[0]? = some a) (vis : Vis sg a)
    (gives : Gives X Ng x sg g cdv bg a (X.env.qual ++ "<lambda>") TT)
    (TB : TabB X.base X.mg c P) (code : X.env.code = .ref c) (inT : (P, X.env.qual ++ "<lambda>") ∈ T) (uniq : ∀ r ∈ T, r.1 = P → r.2 = X.env.qual ++ "<lambda>") (room : Room (k + 2) X.A) (gd : X.A.guards = some []) (L : LamD X.env.scope scope y X.N) (one : params.defaults = [e]) (nokw : params.kw_defaults = []) (lit : PE X e (fun _ H Q => Q (.int 1) H))
    (bind1 : ∀ (q : Str) (cl : List (Str × Addr)) (td : Addr) (doc pm cv ctv : Value), ∃ kk, bindArgs (PySem.W.kdv_fn "<lambda>" q params (.expr body) scope cl (.ref td) doc pm cv ctv) ⟨[], []⟩ = seqItems? (.ref td) >>= kk ∧ ∀ u1, kk (some #[u1]) = pure [(y, u1)])
    (hb : ∀ (A : Around) (outer : List Env) (s : Shared) (H : Hp) (E : XK) (f c' : Addr), Room k (A.deeper (lamEnv X scope s.heap.objs.size f c')) → A.guards = some [] → PE (lamN X A outer s H E scope f c') body (t E))
    (hdb : (x == ("__debug__" : Str)) = false := by decide) (hd : (a == ("__debug__" : Str)) = false := by decide) (hcd : (a == ("__classdict__" : Str)) = false := by decide) :
    PE X (.Call (.Name x p) [.Lambda params body scope lpos] [] pos) (tLamN T TT t) := by
  refine ⟨fun pn s σ H Q J ⟨tabs, want⟩ => wpAny_Call_Name_kw (ld_glob J hg mgx ?_ hdb)⟩
  refine PySem.W.callWith_K (h₀ := X.base) J.ok.mod.kin kept ?_ (by rfl) (by rfl)
  show wpAny _ _ (spliced ((false, eval (.Lambda params body scope lpos) X.env) :: backTo pos (starEach [] X.env))) _ _ s
  refine Calls.spliced_cons (make_dflt J TB code inT uniq tabs one nokw lit (L.has J.ok) fun f c' td doc' pm' ctv u1 H1 s' J1 grown tabs1 isF isT noF noT offF offT isC => Calls.spliced_nil ⟨J1.kIn, ?_⟩)
  have run : codeAny (model X.prog X.w) X.A (.call (.ref g) ⟨[.ref f], []⟩) (CR C8.CX0 X.stack X.prog X.w H1 s' Q C8.E0) s' := by
    refine run_ofS (N := Ng) (ps := [a]) (us := [.ref f]) (vs := [.ref f]) lk codeG Sg room J1.env0 (bd s' [.ref f] J1.kIn rfl) (.cons rfl .nil) rfl fun room1 => ?_
    obtain ⟨t', ht', hq'⟩ := gives f c' s' H1 Q (fun E H' Q' => t E σ H' Q') (room1.mono (Nat.zero_le _)) (fun W pt xe E p1 p2 tk hW => act_dflt (i := 0) J1 L isF isT noF noT offF offT (let ⟨kk, q1, q2⟩ := bind1 _ _ _ _ _ _ _; ⟨kk, q1, q2 u1⟩) tk hW room1 gd (fun A outer s H r2 g2 => hb A outer s H E f c' r2 g2) at0 vis hd hcd) isC (want H1 grown tabs1)
    exact ⟨t', ht'.nox, hq'⟩
  refine wpAny_call (codeAny_mono run fun r s2 got => ?_)
  cases r with
  | error er => exact (show False from got).elim
  | ok flow =>
    cases flow with
    | ret u => exact J1.after got
    | next => exact False.elim got
    | brk => exact False.elim got
    | cont => exact False.elim got
end
/-- _law_told(lambda one=1: e) -/
theorem d_told1 {X : Cx} {Z : Cf} {k : Nat} {params : Arguments} {body e : Expr} {scope : Scope} {y : Str} {ca : CE} {p lpos pos : Pos} (g : XG X (k + 2)) (td : ToldD X.K X.mg Z.T Z.cl) (mk : Maker X Z.T)
    (hb : ∀ (A : Around) (up : List Env) (s : Shared) (H : Hp) (EE : XK) (f c' : Addr), XG (lamN X A up s H EE scope f c') k → L2N.Takes (lamN X A up s H EE scope f c') (fun cls d _ H => EE cls d H) → PE (lamN X A up s H EE scope f c') body (tE X.K ⟨Z.T, Z.cl, fun cls d _ H => EE cls d H⟩ ca))
    (lit : PE X e (fun _ H Q => Q (.int 1) H)) (L : LamD X.env.scope scope y X.N := by exact lamD_by (by rfl)) (hg : Gl X "_law_told" := by rfl) (one : params.defaults = [e] := by rfl) (nokw : params.kw_defaults = [] := by rfl)
    (bind1 : ∀ (q : Str) (cl : List (Str × Addr)) (td : Addr) (doc pm cv ctv : Value), ∃ kk, bindArgs (PySem.W.kdv_fn "<lambda>" q params (.expr body) scope cl (.ref td) doc pm cv ctv) ⟨[], []⟩ = seqItems? (.ref td) >>= kk ∧ ∀ u1, kk (some #[u1]) = pure [(y, u1)] := by intros; exact ⟨_, rfl, fun _ => rfl⟩) :
    PE X (.Call (.Name "_law_told" p) [.Lambda params body scope lpos] [] pos) (tE X.K Z (.told ca)) := by
  obtain ⟨gA, oc, od, an, osl, pg, bg, dV, kV, doc, pm, cdv, ct, h1, h2, h3, h4, h5, h6⟩ := td.has
  obtain ⟨c, P, m1, m2, m3, m4⟩ := mk.has
  refine PE.imp (lamcall_dflt (T := Z.T) (TT := TTold X.K Z.T Z.cl) (k := k) hg h1 h2 h3 h4 h5 told_scope rfl (.inl rfl) (h6 X _ rfl rfl) m1 m2 m3 m4 g.room g.grd L one nokw lit bind1 (t := fun E => tE X.K ⟨Z.T, Z.cl, fun cls d _ H => E cls d H⟩ ca) (fun A up s H EE f c' room gd => ?_)) fun σ H Q h => tTold_of h
  exact hb A up s H EE f c' ⟨rfl, room, gd, g.nd⟩ (L2N.takes_of rfl rfl rfl rfl)
end Ell
set_option autoImplicit false
/-! Ell34: what was told is tested, then changed. -/
namespace Ell
open PySem PySem.Spec PyProof.Rows L2 LamX
open Evl (Ex)
def mskE (q : Ent) : Ent := match q.1 with
  | .own _ => (.un, q.2)
  | .io _ => (.un, q.2)
  | _ => q
section
variable {K : PySem.W.Frag} {T : List (Addr × Str)} {G G1 H H' : Hp} {l l' : List Ent} {ρ : Rho} {σ : L2.St}
theorem mskE_zip : ∀ (ρ : Rho) (σ : L2.St), (ρ.zip σ).map mskE = (msk ρ).zip σ
  | [], _ => by simp
  | _ :: _, [] => by simp
  | s :: ρ, u :: σ => by
    rw [List.zip_cons_cons, List.map_cons, mskE_zip ρ σ]
    cases s <;> rfl
theorem msk_len (ρ : Rho) : (msk ρ).length = ρ.length := by unfold msk; rw [List.length_map]
theorem msk_set (ρ : Rho) (i : Nat) (s : Slot) : (msk (ρ.set i .un)).set i s = (msk ρ).set i s := by
  unfold msk
  rw [List.map_set, List.set_set]
theorem adr_msk (q : Ent) : adr (mskE q) = [] := by
  obtain ⟨s, u⟩ := q
  cases s <;> rfl
/-- all that is own, seen as it stands -/
theorem RepG.all (g : RepG K T G l H) : ∃ G1, Ex G G1 ∧ Ex G1 H ∧ (∀ b ∈ l.flatMap adr, G1 b = H b) ∧ RepG K T G1 (l.map mskE) H := by
  have own : ∀ b ∈ l.flatMap adr, G b = none ∧ ∃ u, H b = some u ∧ ∀ ps, u ≠ .tbl ps := fun b hb => by
    obtain ⟨q, hq, hb⟩ := List.mem_flatMap.mp hb
    obtain ⟨n, o, oa⟩ := adr_mem hb (g.good q hq)
    obtain ⟨u, eu, h1, _⟩ := oa.some
    exact ⟨n, u, eu, h1⟩
  have ex : Ex G (fun b => if b ∈ l.flatMap adr then H b else G b) := fun b o e => by
    show (if b ∈ l.flatMap adr then H b else G b) = some o
    by_cases c : b ∈ l.flatMap adr
    · rw [(own b c).1] at e; cases e
    · rw [if_neg c]; exact e
  refine ⟨fun b => if b ∈ l.flatMap adr then H b else G b, ex, fun b o e => ?_, fun b hb => if_pos hb, ⟨fun b o e => ?_, fun b ps e => ?_, fun q hq => ?_, ?_, g.tabs⟩⟩
  · have e : (if b ∈ l.flatMap adr then H b else G b) = some o := e
    by_cases c : b ∈ l.flatMap adr
    · rw [if_pos c] at e; exact e
    · rw [if_neg c] at e; exact g.sub b o e
  · have e : (if b ∈ l.flatMap adr then H b else G b) = some o := e
    by_cases c : b ∈ l.flatMap adr
    · rw [if_pos c] at e; exact e
    · rw [if_neg c] at e; exact g.sub b o e
  · have e : (if b ∈ l.flatMap adr then H b else G b) = some (.tbl ps) := e
    by_cases c : b ∈ l.flatMap adr
    · rw [if_pos c] at e
      obtain ⟨_, u, eu, h1⟩ := own b c
      rw [eu] at e
      exact h1 ps (Option.some.inj e)
    · rw [if_neg c] at e; exact g.notb b ps e
  · obtain ⟨q0, h0, rfl⟩ := List.mem_map.mp hq
    have w := g.good q0 h0
    obtain ⟨s, u⟩ := q0
    cases s with
    | own o => trivial
    | io o => trivial
    | _ => exact Good.mono w ex fun b hb => by rw [adr_msk] at hb; cases hb
  · have : (l.map mskE).flatMap adr = [] := by
      rw [List.flatMap_eq_nil_iff]
      intro q hq
      obtain ⟨q0, _, rfl⟩ := List.mem_map.mp hq
      exact adr_msk q0
    rw [this]; exact List.nodup_nil
theorem RepG.gh (g : RepG K T G l H) (h : Ex G1 G) (u : Option V) : RepG K T G ((.gh G1, u) :: l) H :=
  ⟨g.sub, g.notb, fun q hq => (List.mem_cons.mp hq).elim (fun z => by subst z; exact h) (g.good q), by show (([] : List Addr) ++ l.flatMap adr).Nodup; exact g.nd, g.tabs⟩
theorem gh_sub (R : Rep K T l' H') {u : Option V} (m : (Slot.gh G1, u) ∈ l') : Ex G1 H' := by
  obtain ⟨G', g⟩ := R
  have x : Ex G1 G' := g.good _ m
  exact fun b o e => g.sub b o (x b o e)
/-- a list told by name i, still one's own -/
structure Fk (K : PySem.W.Frag) (T : List (Addr × Str)) (i : Nat) (xs : List D) (G : Hp) (p a : Addr) (ρ : Rho) (fr : List Ent) (σ : L2.St) (H : Hp) : Prop where
  hl : ρ.length = σ.length
  hi : i < ρ.length
  at_ : σ[i]? = some (some (.ref p))
  tup : G p = some (.tup [.str "told", .ref a])
  rep : RepG K T G ((.own (.lst xs), some (.ref a)) :: ((ρ.set i .un).zip σ ++ fr)) H
variable {i : Nat} {xs : List D} {p a : Addr} {fr : List Ent}
theorem Fk.own (f : Fk K T i xs G p a ρ fr σ H) : ∃ ys, H a = some (.lst ys) ∧ Iss K G ys xs ∧ G a = none := by
  obtain ⟨c, ec, n, ys, e, t⟩ := f.rep.good _ List.mem_cons_self
  cases ec
  exact ⟨ys, e, t, n⟩
theorem Fk.open (f : Fk K T i xs G p a ρ fr σ H) : ∃ G1, Ex G G1 ∧ (∀ b ∈ ((Slot.own (.lst xs), some (V.ref a)) :: ((ρ.set i .un).zip σ ++ fr)).flatMap adr, G1 b = H b) ∧
    Rep K T (((msk ρ).set i (.dat (toldL xs))).zip σ ++ ((.gh G1, none) :: fr.map mskE)) H := by
  obtain ⟨G1, x1, x2, st, g⟩ := f.rep.all
  refine ⟨G1, x1, st, ?_⟩
  obtain ⟨ys, ea, t, _⟩ := f.own
  have aa : G1 a = some (.lst ys) := by
    rw [st a (by show a ∈ [a] ++ _; exact List.mem_cons_self), ea]
  have g2 := g.subl (List.sublist_cons_self _ _)
  rw [List.map_append, mskE_zip] at g2
  have is : Is K G1 (.ref p) (toldL xs) := by
    refine Is.tup (xs := [.str "told", .ref a]) ?_ (.cons (.str _) (.cons (.lst aa (t.mono x1)) .nil))
    exact SqT.of (x1 _ _ f.tup)
  have g3 := (g2.gh (fun b o e => e) none).dat is
  have R : Rep K T ((.dat (toldL xs), some (.ref p)) :: ((msk (ρ.set i .un)).zip σ ++ ((.gh G1, none) :: fr.map mskE))) H := ⟨G1, g3.perm ((List.perm_middle (a := ((.gh G1, none) : Ent)) (l₁ := (msk (ρ.set i .un)).zip σ) (l₂ := fr.map mskE)).symm.cons _)⟩
  have hm : (msk (ρ.set i .un)).length = σ.length := by rw [msk_len, List.length_set]; exact f.hl
  have R2 := R.store hm (i := i) (by rw [msk_len, List.length_set]; exact f.hi)
  rw [set_same f.at_, msk_set] at R2
  exact R2
theorem Fk.back (f : Fk K T i xs G p a ρ fr σ H) (x1 : Ex G G1) (st : ∀ b ∈ ((Slot.own (.lst xs), some (V.ref a)) :: ((ρ.set i .un).zip σ ++ fr)).flatMap adr, G1 b = H b) (R : Rep K T l' H') {u : Option V} (m : (Slot.gh G1, u) ∈ l') : Fk K T i xs G p a ρ fr σ H' := by
  have x2 := gh_sub R m
  refine ⟨f.hl, f.hi, f.at_, f.tup, fun b o e => x2 b o (x1 b o e), f.rep.notb, fun q hq => ?_, f.rep.nd, R.choose_spec.tabs⟩
  have w := f.rep.good q hq
  refine Good.mono w (fun b o e => e) fun b hb => ?_
  obtain ⟨n, o, oa⟩ := adr_mem hb w
  obtain ⟨v, ev, _⟩ := oa.some
  refine ⟨n, ?_⟩
  rw [ev]
  refine x2 b v ?_
  rw [st b (List.mem_flatMap.mpr ⟨q, hq, hb⟩), ev]
/-- it is kept as it was told -/
theorem Fk.keep (f : Fk K T i xs G p a ρ fr σ H) : Rep K T ((ρ.set i (.dat (toldL xs))).zip σ ++ fr) H := by
  obtain ⟨ys, ea, t, n⟩ := f.own
  have g := f.rep
  have nd : (a :: ((ρ.set i .un).zip σ ++ fr).flatMap adr).Nodup := g.nd
  have na := (List.nodup_cons.mp nd).1
  have x : Ex G (upd G a (.lst ys)) := Ex.new n
  have g2 : RepG K T (upd G a (.lst ys)) ((ρ.set i .un).zip σ ++ fr) H := by
    refine ⟨fun b o e => ?_, fun b ps e => ?_, fun q hq => ?_, (List.nodup_cons.mp nd).2, g.tabs⟩
    · by_cases c : b = a
      · subst c; rw [upd_same] at e; cases e; exact ea
      · rw [upd_ne c] at e; exact g.sub b o e
    · by_cases c : b = a
      · subst c; rw [upd_same] at e; cases e
      · rw [upd_ne c] at e; exact g.notb b ps e
    · have w := g.good q (List.mem_cons_of_mem _ hq)
      refine Good.mono w x fun b hb => ?_
      have nb : b ≠ a := fun z => na (List.mem_flatMap.mpr ⟨q, hq, by rw [← z]; exact hb⟩)
      exact ⟨by rw [upd_ne nb]; exact (adr_mem hb w).1, rfl⟩
  have is : Is K (upd G a (.lst ys)) (.ref p) (toldL xs) := by
    refine Is.tup (xs := [.str "told", .ref a]) ?_ (.cons (.str _) (.cons (.lst upd_same (t.mono x)) .nil))
    exact SqT.of (x _ _ f.tup)
  have R : Rep K T ((.dat (toldL xs), some (.ref p)) :: ((ρ.set i .un).zip σ ++ fr)) H := ⟨_, g2.dat is⟩
  have R2 := R.store (i := i) (by rw [List.length_set]; exact f.hl) (by rw [List.length_set]; exact f.hi)
  rw [set_same f.at_, List.set_set] at R2
  exact R2
/-- it is changed -/
theorem Fk.write (f : Fk K T i xs G p a ρ fr σ H) (u : HO) : Rep K T ((ρ.set i .un).zip σ ++ fr) (upd H a u) := by
  obtain ⟨ys, ea, t, n⟩ := f.own
  have g := f.rep
  have nd : (a :: ((ρ.set i .un).zip σ ++ fr).flatMap adr).Nodup := g.nd
  have na := (List.nodup_cons.mp nd).1
  refine ⟨G, fun b o e => ?_, g.notb, fun q hq => ?_, (List.nodup_cons.mp nd).2, tabs_wr g.tabs ea (fun ps z => nomatch z) fun φ z => nomatch z⟩
  · rw [upd_ne (ne_of_none e n)]; exact g.sub b o e
  · have w := g.good q (List.mem_cons_of_mem _ hq)
    refine Good.mono w (fun b o e => e) fun b hb => ?_
    have nb : b ≠ a := fun z => na (List.mem_flatMap.mpr ⟨q, hq, by rw [← z]; exact hb⟩)
    exact ⟨(adr_mem hb w).1, upd_ne nb⟩
end
end Ell
set_option autoImplicit false
/-! Ell35: the statements of a fork. -/
namespace Ell
open PySem PySem.Spec PyProof.Rows L2 LamX
open Evl (Ex)
/-- _law_told(lambda: e), with what it makes -/
theorem pe_told {X : Cx} {Z : Cf} {k : Nat} {params : Arguments} {body : Expr} {scope : Scope} {ca : CE} {p lpos pos : Pos} (g : XG X (k + 2)) (td : ToldD X.K X.mg Z.T Z.cl) (mk : Maker X Z.T)
    (hb : ∀ (A : Around) (up : List Env) (s : Shared) (H : Hp) (EE : XK) (f c' : Addr), XG (lamN X A up s H EE scope f c') k → L2N.Takes (lamN X A up s H EE scope f c') (fun cls d _ H => EE cls d H) → PE (lamN X A up s H EE scope f c') body (tE X.K ⟨Z.T, Z.cl, fun cls d _ H => EE cls d H⟩ ca))
    (L : LamS X.env.scope scope := by exact lamS_by (by rfl)) (hg : Gl X "_law_told" := by rfl) (nodef : defaultsOf params X.env = ([], []) := by rfl)
    (bind0 : ∀ (q : Str) (cl : List (Str × Addr)) (pm cv ctv : Value), bindArgs (PySem.W.kla_fn "<lambda>" q params body scope cl pm cv ctv) ⟨[], []⟩ = pure [] := by intros; rfl) :
    PE X (.Call (.Name "_law_told" p) [.Lambda params body scope lpos] [] pos) (tLamN Z.T (TTold X.K Z.T Z.cl) (fun E => tE X.K ⟨Z.T, Z.cl, fun cls d _ H => E cls d H⟩ ca)) := by
  obtain ⟨gA, oc, od, an, osl, pg, bg, dV, kV, doc, pm, cdv, ct, h1, h2, h3, h4, h5, h6⟩ := td.has
  obtain ⟨c, P, m1, m2, m3, m4⟩ := mk.has
  refine lamcall (T := Z.T) (TT := TTold X.K Z.T Z.cl) (k := k) hg h1 h2 h3 h4 h5 told_scope rfl (.inl rfl) (h6 X _ rfl rfl) m1 m2 m3 m4 g.room g.grd L nodef bind0 (t := fun E => tE X.K ⟨Z.T, Z.cl, fun cls d _ H => E cls d H⟩ ca) (fun A up s H EE f c' room gd => ?_)
  exact hb A up s H EE f c' ⟨rfl, room, gd, g.nd⟩ (L2N.takes_of rfl rfl rfl rfl)
section
variable {K : PySem.W.Frag} {Z : Cf} {i n : Nat} {xs : List D} {ρ ρ1 ρ2 ρ3 : Rho} {σ σ1 : L2.St} {H : Hp} {fr : List Ent} {ca e d x : CE} {D : Ends}
/-- the told list, and the name's slot -/
theorem told_fork {Q : VK} (hl : ρ.length = σ.length) (R : Rep K Z.T (ρ.zip σ ++ fr) H) (ev : evP ca ρ = .ok (.tmp (.own (.lst xs))) ρ1) (hi : i < ρ1.length) (hl1 : ρ1.length = σ.length)
    (q : ∀ G p a H1, Fk K Z.T i xs G p a ρ1 fr (σ.set i (some (.ref p))) H1 → Q (.ref p) H1) : tLamN Z.T (TTold K Z.T Z.cl) (fun E => tE K ⟨Z.T, Z.cl, fun cls d _ H => E cls d H⟩ ca) σ H Q := by
  obtain ⟨G, g⟩ := R
  refine ⟨g.tabs, fun H1 ex t => ⟨ρ, fr, hl, ⟨G, g.extN ex t⟩, ?_⟩⟩
  rw [ev]
  intro v H2 _ _ R2
  refine ⟨by show 2 ≤ sizeLine; decide, fun p hp => ?_⟩
  have R2 : Rep K Z.T ((.own (.lst xs), some v) :: (ρ1.zip σ ++ fr)) H2 := R2
  obtain ⟨G2, g2⟩ := R2
  obtain ⟨a, ea, n, ys, ha, t⟩ := g2.good _ List.mem_cons_self
  cases ea
  -- the name's old content goes
  have qi : ρ1[i]? = some ρ1[i] := List.getElem?_eq_getElem hi
  obtain ⟨u, rest, hu, pm, pset⟩ := zopen (fr := fr) hl1 qi
  have g3 := (g2.perm (pm.cons _))
  have g4 := g3.subl ((List.sublist_cons_self _ _).cons_cons _)
  have g5 := g4.new (u := .tup [.str "told", .ref a]) hp (fun ps z => nomatch z)
  have g6 := (g5.un (some (.ref p))).perm (List.Perm.swap _ _ _)
  have z : ((ρ1.set i .un).zip (σ.set i (some (.ref p))) ++ fr).Perm ((.un, some (.ref p)) :: rest) := by
    have h1 := pset .un
    rw [zset]
    have hz : i < (ρ1.zip σ).length := by rw [List.length_zip]; omega
    have a1 := (set_perm (l := ρ1.zip σ) (x := ((Slot.un, some (V.ref p)) : Ent)) hz).append_right fr
    have a2 : ((ρ1.zip σ).eraseIdx i ++ fr).Perm rest := by
      have e : (ρ1.set i .un).zip σ = (ρ1.zip σ).set i (.un, u) := by rw [← zset, set_same hu]
      rw [e] at h1
      have a3 := (set_perm (l := ρ1.zip σ) (x := ((Slot.un, u) : Ent)) hz).append_right fr
      exact (a3.symm.trans h1).cons_inv
    exact a1.trans (a2.cons _)
  refine q _ p a _ ⟨by rw [List.length_set]; exact hl1, hi, List.getElem?_set_self (by omega), upd_same, (g6.perm (z.symm.cons _))⟩
/-- the same, where data is told -/
theorem told_data {Q : VK} {d : PyData} (hl : ρ.length = σ.length) (R : Rep K Z.T (ρ.zip σ ++ fr) H) (ev : evP ca ρ = .ok (.tmp (.dat d)) ρ1) (hi : i < ρ1.length) (hl1 : ρ1.length = σ.length)
    (q : ∀ p H1, Rep K Z.T ((ρ1.set i (.dat (.tuple [.str "told", d]))).zip (σ.set i (some (.ref p))) ++ fr) H1 → Q (.ref p) H1) : tLamN Z.T (TTold K Z.T Z.cl) (fun E => tE K ⟨Z.T, Z.cl, fun cls d _ H => E cls d H⟩ ca) σ H Q := by
  obtain ⟨G, g⟩ := R
  refine ⟨g.tabs, fun H1 ex t => ⟨ρ, fr, hl, ⟨G, g.extN ex t⟩, ?_⟩⟩
  rw [ev]
  intro v H2 _ _ R2
  refine ⟨by show 2 ≤ sizeLine; decide, fun p hp => ?_⟩
  have R2 : Rep K Z.T ((.dat d, some v) :: (ρ1.zip σ ++ fr)) H2 := R2
  obtain ⟨G2, g2⟩ := R2
  obtain ⟨v', ev, w⟩ := g2.good _ List.mem_cons_self
  cases ev
  have R3 := (g2.subl (List.sublist_cons_self _ _)).newT hp (.cons (.str "told") (.cons w .nil))
  exact q p _ (R3.store hl1 hi)
/-- the end of a fork: what was told is changed -/
def Fin (K : PySem.W.Frag) (Z : Cf) (n i : Nat) (x : CE) (b : CS) (D : Ends) (σ1 : L2.St) (H3 : Hp) : Prop :=
  ∃ p a ys, σ1[i]? = some (some (.ref p)) ∧ H3 p = some (.tup [.str "told", .ref a]) ∧ H3 a = some (.lst ys) ∧
    tD K Z (evP x) σ1 H3 fun y H4 => H4 a = some (.lst ys) ∧ ys.length < sizeLine ∧ tS K Z n b D σ1 (upd H4 a (.lst (ys ++ [y])))
theorem keep_st {s : Slot} {v : V} (hs : ∀ o, s ≠ .io o) : Keep (ρ.set i s) (σ.set i (some v)) σ := fun j o e => by
  by_cases c : i = j
  · subst c
    by_cases hi : i < ρ.length
    · rw [List.getElem?_set_self hi] at e
      exact absurd (Option.some.inj e) (hs o)
    · rw [List.getElem?_eq_none (by rw [List.length_set]; omega)] at e
      cases e
  · rw [List.getElem?_set_ne c]
theorem fork_pre {a b : CS} (h : tS K Z n (.fork i ca e d x a b) D σ H) :
    tLamN Z.T (TTold K Z.T Z.cl) (fun E => tE K ⟨Z.T, Z.cl, fun cls d _ H => E cls d H⟩ ca) σ H fun v H1 => tT K Z e (σ.set i (some v)) H1 fun b0 H2 => b0 = false ∧ tT K Z d (σ.set i (some v)) H2 fun b1 H3 => if b1 = true then tS K Z n a D (σ.set i (some v)) H3 else Fin K Z n i x b D (σ.set i (some v)) H3 := by
  obtain ⟨ρ, fr, hn, hl, R, h⟩ := h
  have h : PostS K Z σ fr D (forkO i (evP e) (evP d) (evP x) (evS a) (evS b) (evP ca ρ)) := h
  have kc := (rk_ev ca).1 ρ
  cases q : evP ca ρ with
  | stuck => rw [q] at h; exact False.elim h
  | err c ρ1 => rw [q] at h; exact False.elim h
  | ok v ρ1 =>
    rw [q] at h kc
    have hl1 : ρ1.length = σ.length := by rw [← hl]; exact kc.len
    have hn1 : n ≤ ρ1.length := by rw [hl1, ← hl]; exact hn
    cases v with
    | ref j => exact False.elim h
    | tmp s =>
      cases s with
      | own o =>
        cases o with
        | dic _ => exact False.elim h
        | lst xs =>
          have h : PostS K Z σ fr D (forkS i (evP e) (evP d) (evP x) (evS a) (evS b) xs ρ1 ρ1[i]?) := h
          cases qi : ρ1[i]? with
          | none => rw [qi] at h; exact False.elim h
          | some t =>
            rw [qi] at h
            have hi : i < ρ1.length := (List.getElem?_eq_some_iff.mp qi).1
            have h : PostS K Z σ fr D (if isIo t = true then .stuck else forkA (evP d) (evP x) (evS a (ρ1.set i (.dat (toldL xs)))) (evS b (ρ1.set i .un)) xs (kB (evP e ((msk ρ1).set i (.dat (toldL xs)))))) := h
            by_cases io : isIo t = true
            · rw [if_pos io] at h; exact False.elim h
            rw [if_neg io] at h
            refine told_fork hl R q hi hl1 fun G p a' H1 f => ?_
            obtain ⟨G1, x1, st, RA⟩ := f.open
            have hm : ((msk ρ1).set i (.dat (toldL xs))).length = (σ.set i (some (V.ref p))).length := by rw [List.length_set, List.length_set, msk_len]; exact hl1
            refine ⟨_, _, hm, RA, ?_⟩
            dsimp only
            cases q2 : kB (evP e ((msk ρ1).set i (.dat (toldL xs)))) with
            | stuck => rw [q2] at h; exact False.elim h
            | err c ρ2 => rw [q2] at h; exact False.elim h
            | ok b1 ρ2 =>
              rw [q2] at h
              cases b1 with
              | true => exact False.elim h
              | false =>
                have h : PostS K Z σ fr D (forkB (evP x) (evS a (ρ1.set i (.dat (toldL xs)))) (evS b (ρ1.set i .un)) xs (kB (evP d ρ2))) := h
                intro b2 H2 hl2 eb R2
                subst eb
                refine ⟨rfl, ?_⟩
                have R2 : Rep K Z.T (ρ2.zip (σ.set i (some (V.ref p))) ++ ((.gh G1, none) :: fr.map mskE)) H2 := R2
                refine ⟨ρ2, _, hl2, R2, ?_⟩
                dsimp only
                cases q3 : kB (evP d ρ2) with
                | stuck => rw [q3] at h; exact False.elim h
                | err c ρ3 => rw [q3] at h; exact False.elim h
                | ok b3 ρ3 =>
                  rw [q3] at h
                  intro b4 H3 hl3 eb R3
                  subst eb
                  have R3 : Rep K Z.T (ρ3.zip (σ.set i (some (V.ref p))) ++ ((.gh G1, none) :: fr.map mskE)) H3 := R3
                  have f3 := f.back x1 st R3 (u := none) (List.mem_append_right _ List.mem_cons_self)
                  cases b3 with
                  | true =>
                    have h : PostS K Z σ fr D (evS a (ρ1.set i (.dat (toldL xs)))) := h
                    rw [if_pos rfl]
                    exact ⟨_, fr, by rw [List.length_set]; exact hn1, by rw [List.length_set, List.length_set]; exact hl1, f3.keep, PostS.base (ok_ev a _) (keep_st fun o z => nomatch z) h⟩
                  | false =>
                    rw [if_neg (fun z => nomatch z)]
                    obtain ⟨ys, ea, iy, na⟩ := f3.own
                    refine ⟨p, a', ys, f3.at_, f3.rep.sub _ _ f3.tup, ea, ρ3, _, hl3, R3, ?_⟩
                    dsimp only
                    have h : PostS K Z σ fr D (match kD (evP x ρ3) with
                      | .ok _ _ => if ltN xs.length sizeLine then evS b (ρ1.set i .un) else .stuck
                      | _ => .stuck) := h
                    cases q4 : kD (evP x ρ3) with
                    | stuck => rw [q4] at h; exact False.elim h
                    | err c ρ4 => rw [q4] at h; exact False.elim h
                    | ok dd ρ4 =>
                      rw [q4] at h
                      have h : PostS K Z σ fr D (if ltN xs.length sizeLine then evS b (ρ1.set i .un) else .stuck) := h
                      by_cases z : ltN xs.length sizeLine
                      · rw [if_pos z] at h
                        intro y H4 hl4 _ R4
                        have R4 : Rep K Z.T ((.dat dd, some y) :: (ρ4.zip (σ.set i (some (V.ref p))) ++ ((.gh G1, none) :: fr.map mskE))) H4 := R4
                        have f4 := f.back x1 st R4 (u := none) (List.mem_cons_of_mem _ (List.mem_append_right _ List.mem_cons_self))
                        obtain ⟨zs, ez, iz, _⟩ := f4.own
                        -- the list stands as it stood
                        have same : ys = zs := by
                          have m3 : ((Slot.gh G1, none) : Ent) ∈ ρ3.zip (σ.set i (some (V.ref p))) ++ (((.gh G1, none) : Ent) :: fr.map mskE) := List.mem_append_right _ List.mem_cons_self
                          have m4 : ((Slot.gh G1, none) : Ent) ∈ ((.dat dd, some y) : Ent) :: (ρ4.zip (σ.set i (some (V.ref p))) ++ (((.gh G1, none) : Ent) :: fr.map mskE)) := List.mem_cons_of_mem _ (List.mem_append_right _ List.mem_cons_self)
                          have e3 := gh_sub R3 m3
                          have e4 := gh_sub R4 m4
                          obtain ⟨ws, e0, _, _⟩ := f.own
                          have g0 : G1 a' = some (.lst ws) := by rw [st a' (by show a' ∈ [a'] ++ _; exact List.mem_cons_self), e0]
                          have h3 := e3 _ _ g0
                          have h4 := e4 _ _ g0
                          rw [ea] at h3
                          rw [ez] at h4
                          cases h3; cases h4; rfl
                        subst same
                        refine ⟨ez, by rw [iz.len]; exact z, _, fr, by rw [List.length_set]; exact hn1, by rw [List.length_set, List.length_set]; exact hl1, f4.write _, PostS.base (ok_ev b _) (keep_st fun o z => nomatch z) h⟩
                      · rw [if_neg z] at h; exact False.elim h
      | dat v =>
        have h : PostS K Z σ fr D (forkD i (evP e) (evP d) (evS a) v ρ1 ρ1[i]?) := h
        cases qi : ρ1[i]? with
        | none => rw [qi] at h; exact False.elim h
        | some t =>
          rw [qi] at h
          have hi : i < ρ1.length := (List.getElem?_eq_some_iff.mp qi).1
          have h : PostS K Z σ fr D (if isIo t = true then .stuck else if isDic v = true then .stuck else forkE (evP d) (evS a) (kB (evP e (ρ1.set i (.dat (.tuple [.str "told", v])))))) := h
          by_cases io : isIo t = true
          · rw [if_pos io] at h; exact False.elim h
          rw [if_neg io] at h
          by_cases di : isDic v = true
          · rw [if_pos di] at h; exact False.elim h
          rw [if_neg di] at h
          refine told_data hl R q hi hl1 fun p H1 R1 => ?_
          have hm : (ρ1.set i (.dat (.tuple [.str "told", v]))).length = (σ.set i (some (V.ref p))).length := by rw [List.length_set, List.length_set]; exact hl1
          have k0 : Keep (ρ1.set i (.dat (.tuple [.str "told", v]))) (σ.set i (some (V.ref p))) σ := keep_st fun o z => nomatch z
          refine ⟨_, fr, hm, R1, ?_⟩
          dsimp only
          have kk := rk_kB ((rk_ev e).1 (ρ1.set i (.dat (.tuple [.str "told", v]))))
          generalize ρ1.set i (.dat (.tuple [.str "told", v])) = ρt at *
          cases q2 : kB (evP e ρt) with
          | stuck => rw [q2] at h; exact False.elim h
          | err c ρ2 => rw [q2] at h; exact False.elim h
          | ok b1 ρ2 =>
            rw [q2] at h kk
            cases b1 with
            | true => exact False.elim h
            | false =>
              have h : PostS K Z σ fr D (forkF (evS a) (kB (evP d ρ2))) := h
              intro b2 H2 hl2 eb R2
              subst eb
              refine ⟨rfl, ρ2, fr, hl2, R2, ?_⟩
              dsimp only
              have kk2 := rk_kB ((rk_ev d).1 ρ2)
              cases q3 : kB (evP d ρ2) with
              | stuck => rw [q3] at h; exact False.elim h
              | err c ρ3 => rw [q3] at h; exact False.elim h
              | ok b3 ρ3 =>
                rw [q3] at h kk2
                intro b4 H3 hl3 eb R3
                subst eb
                cases b3 with
                | false => exact False.elim h
                | true =>
                  have h : PostS K Z σ fr D (evS a ρ3) := h
                  rw [if_pos rfl]
                  have kt : Kp ρt ρ3 := Kp.trans kk kk2
                  refine ⟨ρ3, fr, by rw [kt.len, hm, List.length_set, ← hl1]; exact hn1, hl3, R3, PostS.base (ok_ev a _) (fun j o e => ?_) h⟩
                  obtain ⟨o', e'⟩ := kt.io j o e
                  exact k0 j o' e'
      | _ => exact False.elim h
end
end Ell
set_option autoImplicit false
/-! Ell36: the rules for forks. -/
namespace Ell
open PySem PySem.Spec PyProof.Rows L2 LamX
open Evl (Ex)
theorem tG_mono {α β : Type} {K : PySem.W.Frag} {Z : Cf} {I : α → β → L2.St → Prop} {E : α → β → List Ent} {ev : Rho → Res α} {σ : L2.St} {H : Hp} {Q Q' : β → Hp → Prop} (h : tG K Z I E ev σ H Q) (m : ∀ b H, Q b H → Q' b H) : tG K Z I E ev σ H Q' := by
  obtain ⟨ρ, fr, hl, R, h⟩ := h
  refine ⟨ρ, fr, hl, R, ?_⟩
  cases q : ev ρ with
  | ok a ρ1 => rw [q] at h; exact fun b H1 hl1 i R1 => m b H1 (h b H1 hl1 i R1)
  | err c ρ1 => rw [q] at h; exact h
  | stuck => rw [q] at h; exact h
theorem tT_lit {K : PySem.W.Frag} {Z : Cf} {b : Bool} {σ : L2.St} {H : Hp} {Q : Bool → Hp → Prop} (h : tT K Z (.lit (.bool b)) σ H Q) : Q b H := by
  obtain ⟨ρ, fr, hl, R, h⟩ := h
  exact h b H hl rfl R
theorem tLamN_mono {K : PySem.W.Frag} {Z : Cf} {ca : CE} {σ : L2.St} {H : Hp} {Q Q' : VK} (h : tLamN Z.T (TTold K Z.T Z.cl) (fun E => tE K ⟨Z.T, Z.cl, fun cls d _ H => E cls d H⟩ ca) σ H Q) (m : ∀ v H, Q v H → Q' v H) :
    tLamN Z.T (TTold K Z.T Z.cl) (fun E => tE K ⟨Z.T, Z.cl, fun cls d _ H => E cls d H⟩ ca) σ H Q' := by
  obtain ⟨t, h⟩ := h
  refine ⟨t, fun H1 ex t1 => ?_⟩
  have h := h H1 ex t1
  obtain ⟨ρ, fr, hl, R, h⟩ := h
  refine ⟨ρ, fr, hl, R, ?_⟩
  cases q : evP ca ρ with
  | stuck => rw [q] at h; exact h
  | err c ρ1 =>
    rw [q] at h
    intro H2 hl2 R2
    obtain ⟨c', L, e1, e2, r, k⟩ := h H2 hl2 R2
    exact ⟨c', L, e1, e2, r, fun v H3 r3 => m v H3 (k v H3 r3)⟩
  | ok a ρ1 =>
    rw [q] at h
    intro v H2 hl2 i R2
    obtain ⟨z, k⟩ := h v H2 hl2 i R2
    exact ⟨z, fun p hp => m _ _ (k p hp)⟩
section
variable {X : Cx} {Z : Cf} {k n i : Nat}
/-- told[1].append(x) -/
theorem ps_tapp {x : Str} {xe : Expr} {xc : CE} {j : Nat} {b : CS} {p2 p3 p4 p5 p6 pos : Pos} (hx : PE X xe (tE X.K Z xc)) (hN : X.N[i]? = some x) (hv : Vis X.env.scope x) (hd : (x == ("__debug__" : Str)) = false) (hcd : (x == ("__classdict__" : Str)) = false)
    (hb1 : attributeBase (.Subscript (.Name x p2) (.Constant (.int 1) j p3) p4) "append" X.env (eval (.Subscript (.Name x p2) (.Constant (.int 1) j p3) p4) X.env) = eval (.Subscript (.Name x p2) (.Constant (.int 1) j p3) p4) X.env)
    (hb2 : ((backTo p6 (starEach [xe] X.env)).all (fun x => !x.1) && (backToKw p6 (keywordEach [] X.env)).all (fun x => x.1.isSome) && decide ([xe].length + ([] : List Keyword).length + (if ([] : List Keyword).isEmpty then 0 else 1) < 30)) = true)
    (hb3 : (p5.endLine == p6.line) = true) (hs : starEach [xe] X.env = (false, eval xe X.env) :: starEach [] X.env)
    (hsw : swapsWith (.Call (.Attribute (.Subscript (.Name x p2) (.Constant (.int 1) j p3) p4) "append" p5) [xe] [] p6) none pos.line X.env = pure false) :
    PS X (.Expr (.Call (.Attribute (.Subscript (.Name x p2) (.Constant (.int 1) j p3) p4) "append" p5) [xe] [] p6) pos) (fun D σ H => Fin X.K Z n i xc b D σ H ∧ ∀ σ H, tS X.K Z n b D σ H → D.nx σ H) := by
  refine PS.imp (ps_expr (pe_bm PySem.F.plainAttrs_list PySem.F.slot_list_append PySem.F.type_list_append mt_append (pe_ix ix_tup (pe_var (i := i) hN hv hd hcd) pe_int fun _ _ => rfl) (pa_cons (pe_D hx) pa_nil hs) hb1 hb2 hb3 hs (by rfl)) hsw) fun D σ H h => ?_
  obtain ⟨⟨p, a, ys, e1, e2, e3, q⟩, fin⟩ := h
  refine ⟨.ref p, e1, p, _, 1, .ref a, rfl, rfl, SqT.of e2, rfl, .inl ⟨rfl, _, SqL.of e3⟩, ?_⟩
  refine tG_mono q fun y H4 ⟨h1, h2, h3⟩ => ?_
  exact ⟨a, ys, y, rfl, rfl, h1, h2, fin _ _ h3⟩
theorem tS_done {K : PySem.W.Frag} {σ : L2.St} {H : Hp} {D : Ends} (h : tS K Z n .done D σ H) : D.nx σ H := by
  obtain ⟨ρ, fr, hn, hl, R, h⟩ := h
  exact h σ H hl.symm (Keep.refl _ _) R
theorem tS_more {K : PySem.W.Frag} {σ : L2.St} {H : Hp} {D : Ends} {b : CS} (h : tS K Z n b D σ H) : tS K Z n .done { D with nx := tS K Z n b D } σ H := by
  obtain ⟨ρ, fr, hn, hl, R, h⟩ := h
  exact ⟨ρ, fr, hn, hl, R, fun σ' H' hl' kk R' => ⟨ρ, fr, hn, hl'.symm, R', PostS.base (ok_ev b ρ) kk h⟩⟩
/-- x = _law_told(lambda: e); if t: ..; x[1].append(y) -/
theorem s_forkA {params : Arguments} {body te xe : Expr} {scope : Scope} {ca e xc : CE} {p lpos pos p1 p2 p3 p4 p5 p6 p7 p8 p9 : Pos} {x : Str} {j : Nat} {rb rest : List Stmt} {r cr : CS} (g : XG X (k + 2)) (td : ToldD X.K X.mg Z.T Z.cl) (mk : Maker X Z.T)
    (hb : ∀ (A : Around) (up : List Env) (s : Shared) (H : Hp) (EE : XK) (f c' : Addr), XG (lamN X A up s H EE scope f c') k → L2N.Takes (lamN X A up s H EE scope f c') (fun cls d _ H => EE cls d H) → PE (lamN X A up s H EE scope f c') body (tE X.K ⟨Z.T, Z.cl, fun cls d _ H => EE cls d H⟩ ca))
    (he : PT X te (tT X.K Z e)) (hr : PSs X rb (tS X.K Z n cr)) (hx : PE X xe (tE X.K Z xc)) (hrest : PSs X rest (tS X.K Z n r))
    (L : LamS X.env.scope scope := by exact lamS_by (by rfl)) (hg : Gl X "_law_told" := by rfl) (nodef : defaultsOf params X.env = ([], []) := by rfl)
    (bind0 : ∀ (q : Str) (cl : List (Str × Addr)) (pm cv ctv : Value), bindArgs (PySem.W.kla_fn "<lambda>" q params body scope cl pm cv ctv) ⟨[], []⟩ = pure [] := by intros; rfl)
    (hN : X.N[i]? = some x := by rfl) (hl : Loc X.env.scope x := by first | exact Or.inl rfl | exact Or.inr rfl) (hv : Vis X.env.scope x := by first | exact Or.inl rfl | exact Or.inr (Or.inl rfl) | exact Or.inr (Or.inr rfl))
    (hs1 : swapsWith (.Call (.Name "_law_told" p) [.Lambda params body scope lpos] [] pos) (some (.Name x p1)) p9.line X.env = pure false := by rfl) (hf : X.fn x = true ∨ X.env.scope.names.lookup x = some .local := by first | exact .inl rfl | exact .inr rfl)
    (hd : (x == ("__debug__" : Str)) = false := by decide) (hcd : (x == ("__classdict__" : Str)) = false := by decide)
    (hb1 : attributeBase (.Subscript (.Name x p2) (.Constant (.int 1) j p3) p4) "append" X.env (eval (.Subscript (.Name x p2) (.Constant (.int 1) j p3) p4) X.env) = eval (.Subscript (.Name x p2) (.Constant (.int 1) j p3) p4) X.env := by rfl)
    (hb2 : ((backTo p6 (starEach [xe] X.env)).all (fun x => !x.1) && (backToKw p6 (keywordEach [] X.env)).all (fun x => x.1.isSome) && decide ([xe].length + ([] : List Keyword).length + (if ([] : List Keyword).isEmpty then 0 else 1) < 30)) = true := by rfl)
    (hb3 : (p5.endLine == p6.line) = true := by rfl) (hs : starEach [xe] X.env = (false, eval xe X.env) :: starEach [] X.env := by rfl)
    (hsw : swapsWith (.Call (.Attribute (.Subscript (.Name x p2) (.Constant (.int 1) j p3) p4) "append" p5) [xe] [] p6) none p7.line X.env = pure false := by rfl) :
    PSs X (.Assign [.Name x p1] (.Call (.Name "_law_told" p) [.Lambda params body scope lpos] [] pos) p9 :: .If te rb [] p8 :: .Expr (.Call (.Attribute (.Subscript (.Name x p2) (.Constant (.int 1) j p3) p4) "append" p5) [xe] [] p6) p7 :: rest)
      (tS X.K Z n (.seq (.fork i ca e (.lit (.bool false)) xc .done .done) r)) := by
  refine PSs.imp (pss_cons (ps_set g.nd hN hl (pe_told g td mk hb L hg nodef bind0) hs1 hf) (pss_cons (ps_if he hr pss_nil) (pss_cons (ps_tapp (b := .done) (n := n) hx hN hv hd hcd hb1 hb2 hb3 hs hsw) hrest))) fun D σ H h => ?_
  refine tLamN_mono (fork_pre (tS_seq h)) fun v H1 h1 => ?_
  show tT X.K Z e (σ.set i (some v)) H1 _
  refine tG_mono h1 fun b0 H2 ⟨eb, h2⟩ => ?_
  subst eb
  have h3 := tT_lit h2
  rw [if_neg (fun z => nomatch z)] at h3
  exact ⟨h3, fun σ H q => tS_done q⟩
/-- x = _law_told(lambda: e); if t: ..; if d: .. else: x[1].append(y); .. -/
theorem s_forkB {params : Arguments} {body te de xe : Expr} {scope : Scope} {ca e d xc : CE} {p lpos pos p1 p2 p3 p4 p5 p6 p7 p8 p9 p10 : Pos} {x : Str} {j : Nat} {rb sa sb rest : List Stmt} {a b r cr : CS} (g : XG X (k + 2)) (td : ToldD X.K X.mg Z.T Z.cl) (mk : Maker X Z.T)
    (hb : ∀ (A : Around) (up : List Env) (s : Shared) (H : Hp) (EE : XK) (f c' : Addr), XG (lamN X A up s H EE scope f c') k → L2N.Takes (lamN X A up s H EE scope f c') (fun cls d _ H => EE cls d H) → PE (lamN X A up s H EE scope f c') body (tE X.K ⟨Z.T, Z.cl, fun cls d _ H => EE cls d H⟩ ca))
    (he : PT X te (tT X.K Z e)) (hr : PSs X rb (tS X.K Z n cr)) (hd1 : PT X de (tT X.K Z d)) (ha : PSs X sa (tS X.K Z n a)) (hx : PE X xe (tE X.K Z xc)) (hsb : PSs X sb (tS X.K Z n b)) (hrest : PSs X rest (tS X.K Z n r))
    (L : LamS X.env.scope scope := by exact lamS_by (by rfl)) (hg : Gl X "_law_told" := by rfl) (nodef : defaultsOf params X.env = ([], []) := by rfl)
    (bind0 : ∀ (q : Str) (cl : List (Str × Addr)) (pm cv ctv : Value), bindArgs (PySem.W.kla_fn "<lambda>" q params body scope cl pm cv ctv) ⟨[], []⟩ = pure [] := by intros; rfl)
    (hN : X.N[i]? = some x := by rfl) (hl : Loc X.env.scope x := by first | exact Or.inl rfl | exact Or.inr rfl) (hv : Vis X.env.scope x := by first | exact Or.inl rfl | exact Or.inr (Or.inl rfl) | exact Or.inr (Or.inr rfl))
    (hs1 : swapsWith (.Call (.Name "_law_told" p) [.Lambda params body scope lpos] [] pos) (some (.Name x p1)) p9.line X.env = pure false := by rfl) (hf : X.fn x = true ∨ X.env.scope.names.lookup x = some .local := by first | exact .inl rfl | exact .inr rfl)
    (hd : (x == ("__debug__" : Str)) = false := by decide) (hcd : (x == ("__classdict__" : Str)) = false := by decide)
    (hb1 : attributeBase (.Subscript (.Name x p2) (.Constant (.int 1) j p3) p4) "append" X.env (eval (.Subscript (.Name x p2) (.Constant (.int 1) j p3) p4) X.env) = eval (.Subscript (.Name x p2) (.Constant (.int 1) j p3) p4) X.env := by rfl)
    (hb2 : ((backTo p6 (starEach [xe] X.env)).all (fun x => !x.1) && (backToKw p6 (keywordEach [] X.env)).all (fun x => x.1.isSome) && decide ([xe].length + ([] : List Keyword).length + (if ([] : List Keyword).isEmpty then 0 else 1) < 30)) = true := by rfl)
    (hb3 : (p5.endLine == p6.line) = true := by rfl) (hs : starEach [xe] X.env = (false, eval xe X.env) :: starEach [] X.env := by rfl)
    (hsw : swapsWith (.Call (.Attribute (.Subscript (.Name x p2) (.Constant (.int 1) j p3) p4) "append" p5) [xe] [] p6) none p7.line X.env = pure false := by rfl) :
    PSs X (.Assign [.Name x p1] (.Call (.Name "_law_told" p) [.Lambda params body scope lpos] [] pos) p9 :: .If te rb [] p8 :: .If de sa (.Expr (.Call (.Attribute (.Subscript (.Name x p2) (.Constant (.int 1) j p3) p4) "append" p5) [xe] [] p6) p7 :: sb) p10 :: rest)
      (tS X.K Z n (.seq (.fork i ca e d xc a b) r)) := by
  refine PSs.imp (pss_cons (ps_set g.nd hN hl (pe_told g td mk hb L hg nodef bind0) hs1 hf) (pss_cons (ps_if he hr pss_nil) (pss_cons (ps_if hd1 ha (pss_cons (ps_tapp (b := .done) (n := n) hx hN hv hd hcd hb1 hb2 hb3 hs hsw) hsb)) hrest))) fun D σ H h => ?_
  refine tLamN_mono (fork_pre (tS_seq h)) fun v H1 h1 => ?_
  show tT X.K Z e (σ.set i (some v)) H1 _
  refine tG_mono h1 fun b0 H2 ⟨eb, h2⟩ => ?_
  subst eb
  show tT X.K Z d (σ.set i (some v)) H2 _
  refine tG_mono h2 fun b1 H3 h3 => ?_
  cases b1 with
  | true =>
    rw [if_pos rfl] at h3
    rw [if_pos rfl]
    exact h3
  | false =>
    rw [if_neg (fun z => nomatch z)] at h3
    rw [if_neg (fun z => nomatch z)]
    refine ⟨?_, fun σ H q => tS_done q⟩
    obtain ⟨p, a', ys, e1, e2, e3, q⟩ := h3
    exact ⟨p, a', ys, e1, e2, e3, tG_mono q fun y H4 ⟨w1, w2, w3⟩ => ⟨w1, w2, tS_more w3⟩⟩
end
end Ell
set_option autoImplicit false
namespace Ell
open PySem
/-! rules for loops of the core language -/
theorem forL_rule {f : D → Rho → Out} (I : Nat → Rho → Prop) (P : Out → Prop) {xs : List D}
    (step : ∀ i x ρ, xs[i]? = some x → I i ρ → ∃ o, f x ρ = o ∧ (match o with | .next ρ' => I (i + 1) ρ' | .cont ρ' => I (i + 1) ρ' | .brk ρ' => P (.next ρ') | .ret r ρ' => P (.ret r ρ') | .err c ρ' => P (.err c ρ') | .stuck => False))
    (fin : ∀ ρ, I xs.length ρ → P (.next ρ)) {ρ : Rho} (h0 : I 0 ρ) : P (forL f xs ρ) := by
  have key : ∀ (ys : List D) (i : Nat) (ρ : Rho), xs.drop i = ys → i + ys.length = xs.length → I i ρ → P (forL f ys ρ) := by
    intro ys
    induction ys with
    | nil =>
      intro i ρ _ hl h
      have e : i = xs.length := by simpa using hl
      rw [e] at h
      exact fin ρ h
    | cons y ys ih =>
      intro i ρ hd hl h
      have hi : i < xs.length := by simp at hl; omega
      have hd' := List.drop_eq_getElem_cons hi
      rw [hd] at hd'
      have e1 : y = xs[i] := (List.cons.inj hd').1
      have e2 : ys = xs.drop (i + 1) := (List.cons.inj hd').2
      obtain ⟨o, ho, hp⟩ := step i y ρ (by rw [e1]; exact List.getElem?_eq_getElem hi) h
      show P (turnO (forL f ys) (f y ρ))
      rw [ho]
      cases o with
      | next ρ' => exact ih (i + 1) ρ' e2.symm (by simp at hl; omega) hp
      | cont ρ' => exact ih (i + 1) ρ' e2.symm (by simp at hl; omega) hp
      | brk ρ' => exact hp
      | ret r ρ' => exact hp
      | err c ρ' => exact hp
      | stuck => exact hp.elim
  exact key xs 0 ρ rfl (by simp) h0
theorem whlL_rule {c : Rho → Res Val} {b : Rho → Out} (I : Rho → Prop) (m : Rho → Nat) (P : Out → Prop)
    (step : ∀ ρ, I ρ → ∃ r, kB (c ρ) = r ∧ (match r with
      | .ok true ρ1 => ∃ o, b ρ1 = o ∧ (match o with | .next ρ' => I ρ' ∧ m ρ' < m ρ | .cont ρ' => I ρ' ∧ m ρ' < m ρ | .brk ρ' => P (.next ρ') | .ret r ρ' => P (.ret r ρ') | .err c ρ' => P (.err c ρ') | .stuck => False)
      | .ok false ρ1 => P (.next ρ1)
      | .err c ρ1 => P (.err c ρ1)
      | .stuck => False)) : ∀ (n : Nat) (ρ : Rho), m ρ < n → I ρ → P (whlL c b n ρ)
  | 0, _, h, _ => absurd h (Nat.not_lt_zero _)
  | n + 1, ρ, h, hI => by
    obtain ⟨r, hr, hp⟩ := step ρ hI
    show P (iteO (fun ρ1 => turnO (whlL c b n) (b ρ1)) nextO (kB (c ρ)))
    rw [hr]
    cases r with
    | ok t ρ1 =>
      cases t with
      | false => exact hp
      | true =>
        obtain ⟨o, ho, hq⟩ := hp
        show P (turnO (whlL c b n) (b ρ1))
        rw [ho]
        cases o with
        | next ρ' => exact whlL_rule I m P step n ρ' (by omega) hq.1
        | cont ρ' => exact whlL_rule I m P step n ρ' (by omega) hq.1
        | brk ρ' => exact hq
        | ret r ρ' => exact hq
        | err c ρ' => exact hq
        | stuck => exact hq.elim
    | err c ρ1 => exact hp
    | stuck => exact hp.elim
end Ell
namespace Ell
open PySem
/-! what can be shown -/
structure pb (d : D) : Prop where
  sh : PyData.showable d = true
  cl : PyData.canLay0 d = true
  dp : PyData.depth d ≤ 25
  sz : rsz d ≤ 10000000
structure prs (d : D) : Prop where
  sh : PyData.showable (.list [d]) = true
  cl : PyData.canLay0 (.list [d]) = true
  dp : PyData.depth (.list [d]) ≤ 32
  sz : rsz (.list [d]) ≤ sizeLine
@[simp] theorem sw_int {i : Int} : PyData.showable (.int i) = decide (i.natAbs.log2 < 1920) := rfl
@[simp] theorem sw_none : PyData.showable .none = true := rfl
@[simp] theorem sw_bool {b : Bool} : PyData.showable (.bool b) = true := rfl
@[simp] theorem sw_str {x : Str} : PyData.showable (.str x) = true := rfl
@[simp] theorem sw_tup {xs : List D} : PyData.showable (.tuple xs) = PyData.showableAll xs := rfl
@[simp] theorem sw_lst {xs : List D} : PyData.showable (.list xs) = PyData.showableAll xs := rfl
@[simp] theorem sw_nil : PyData.showableAll [] = true := rfl
@[simp] theorem sw_cons {x : D} {xs : List D} : PyData.showableAll (x :: xs) = (PyData.showable x && PyData.showableAll xs) := rfl
@[simp] theorem rz_int {i : Int} : rsz (.int i) = 1921 := rfl
@[simp] theorem rz_none : rsz .none = 4 := rfl
@[simp] theorem rz_bool {b : Bool} : rsz (.bool b) = 5 := rfl
@[simp] theorem rz_str {x : Str} : rsz (.str x) = 12 * x.length + 2 := rfl
@[simp] theorem rz_tup {xs : List D} : rsz (.tuple xs) = rsz.rszs xs + 3 := rfl
@[simp] theorem rz_lst {xs : List D} : rsz (.list xs) = rsz.rszs xs + 2 := rfl
@[simp] theorem rz_nil : rsz.rszs [] = 0 := rfl
@[simp] theorem rz_cons {x : D} {xs : List D} : rsz.rszs (x :: xs) = rsz x + 2 + rsz.rszs xs := rfl
theorem prs_told {d : D} (h : pb d) : prs (.tuple [.str "told", d]) := by
  have e1 : PyData.strOk (Str.ofString "told") = true := by decide +kernel
  have e2 : (Str.ofString "told").length = 4 := by decide +kernel
  have h1 := h.dp
  have h2 := h.sz
  refine ⟨by simp [h.sh], by simp [h.cl, e1], by simp; omega, ?_⟩
  simp [e2]
  have : sizeLine = 16777216 := rfl
  omega
theorem prs_kind (c : Exc) : prs (.tuple [.str (excKind c)]) := by
  cases c <;> exact ⟨rfl, by decide +kernel, by decide +kernel, by decide +kernel⟩
theorem log2_lt {n m : Nat} (hm : 0 < m) (h : n < 2 ^ m) : n.log2 < m := by
  by_cases h0 : n = 0
  · subst h0; simpa using hm
  · exact (Nat.log2_lt h0).mpr h
/-- numbers that any step may use -/
def big : Nat := 2 ^ 1900
theorem lt_big {n : Nat} (h : n < 10 ^ 300) : n < big := Nat.lt_trans h (by decide +kernel)
theorem mul_ok {a b : Int} (ha : a.natAbs < big) (hb : b.natAbs < big) : a.natAbs.log2 + b.natAbs.log2 < 1000000 := by
  have h1 := log2_lt (m := 1900) (by decide) ha
  have h2 := log2_lt (m := 1900) (by decide) hb
  omega
theorem mul_okL {a : Int} {n : Nat} (ha : a.natAbs < big) (hb : n < big) : a.natAbs.log2 + n.log2 < 1000000 := mul_ok (b := (n : Int)) ha hb
theorem div_ok {b : Int} (hb : b.natAbs < big) : b.natAbs.log2 < 9000 := Nat.lt_trans (log2_lt (m := 1900) (by decide) hb) (by decide)
theorem pb_int {i : Int} (h : i.natAbs < big) : pb (.int i) := ⟨by simp; exact Nat.lt_trans (log2_lt (m := 1900) (by decide) h) (by decide), rfl, by simp, by simp⟩
theorem pb_bool {b : Bool} : pb (.bool b) := ⟨rfl, rfl, by simp, by simp⟩
theorem pb_ints2 {a b : Int} (ha : a.natAbs < big) (hb : b.natAbs < big) : pb (.tuple [.int a, .int b]) := by
  have h1 := (pb_int ha).sh
  have h2 := (pb_int hb).sh
  exact ⟨by simp at h1 h2 ⊢; exact ⟨h1, h2⟩, rfl, by simp, by simp⟩
theorem nth_at {α : Type} {xs : List α} {i : Int} (h0 : 0 ≤ i) (h : i < xs.length) : ∃ x, x ∈ xs ∧ nth xs i = some x := by
  have hi : i.toNat < xs.length := by omega
  refine ⟨xs[i.toNat], List.getElem_mem hi, ?_⟩
  unfold nth ixn
  rw [if_pos h0, if_pos h]
  show xs[i.toNat]? = _
  exact List.getElem?_eq_getElem hi
theorem nth_map {α β : Type} {f : α → β} {xs : List α} {i : Int} (h0 : 0 ≤ i) (h : i < xs.length) : ∃ x, x ∈ xs ∧ nth (xs.map f) i = some (f x) := by
  have hi : i.toNat < xs.length := by omega
  refine ⟨xs[i.toNat], List.getElem_mem hi, ?_⟩
  unfold nth ixn
  rw [List.length_map, if_pos h0, if_pos h]
  show (xs.map f)[i.toNat]? = _
  rw [List.getElem?_map, List.getElem?_eq_getElem hi]
  rfl
theorem fmod_pos {a b : Int} (h : 0 < b) : 0 ≤ a.fmod b ∧ a.fmod b < b := by
  rw [Int.fmod_eq_emod_of_nonneg _ (Int.le_of_lt h)]
  exact ⟨Int.emod_nonneg _ (by omega), Int.emod_lt_of_pos _ h⟩
theorem fdiv_le {a b : Int} (ha : 0 ≤ a) (h : 0 < b) : 0 ≤ a.fdiv b ∧ a.fdiv b ≤ a := by
  rw [Int.fdiv_eq_ediv_of_nonneg _ (Int.le_of_lt h)]
  exact ⟨Int.ediv_nonneg ha (Int.le_of_lt h), Int.ediv_le_self _ ha⟩
end Ell
set_option autoImplicit false
namespace Ell
open PySem
/-! rules for loops and comprehensions, second part -/
/-- a loop whose turns tell the next state -/
theorem forL_det {f : D → Rho → Out} {xs : List D} (R : Nat → Rho) (h : ∀ i (hi : i < xs.length), f xs[i] (R i) = .next (R (i + 1))) {ρ : Rho} (h0 : ρ = R 0) : forL f xs ρ = .next (R xs.length) := by
  refine forL_rule (fun i ρ => ρ = R i) (fun o => o = .next (R xs.length)) (fun i x ρ hx hI => ?_) (fun ρ hI => by rw [hI]) h0
  obtain ⟨hi, e⟩ := List.getElem?_eq_some_iff.mp hx
  subst hI
  subst e
  exact ⟨_, h i hi, rfl⟩
/-- a loop over what stands for things: a fold -/
theorem forL_fold {α σ : Type} {f : D → Rho → Out} (enc : α → D) (R : σ → Rho) (g : σ → α → σ) : ∀ (xs : List α) (s : σ), (∀ (pre : List α) (a : α) (post : List α), xs = pre ++ a :: post → f (enc a) (R (pre.foldl g s)) = .next (R (g (pre.foldl g s) a))) → forL f (xs.map enc) (R s) = .next (R (xs.foldl g s))
  | [], s, _ => rfl
  | a :: xs, s, h => by
    have h1 := h [] a xs rfl
    show turnO (forL f (xs.map enc)) (f (enc a) (R s)) = _
    rw [show f (enc a) (R s) = .next (R (g s a)) from h1]
    exact forL_fold enc R g xs (g s a) fun pre b post e => h (a :: pre) b post (by rw [e]; rfl)
theorem wip_wip (own : List Nat) : ∀ ρ : Rho, wip (wip ρ own) own = wip ρ own := by
  have key : ∀ (l : List Nat) (ρ : Rho) (i : Nat), (wip ρ l)[i]? = if i ∈ l ∧ i < ρ.length then some Slot.un else ρ[i]? := by
    intro l
    induction l with
    | nil => intro ρ i; simp [wip]
    | cons j l ih =>
      intro ρ i
      show ((wip ρ l).set j .un)[i]? = _
      have hl : (wip ρ l).length = ρ.length := by
        clear ih
        induction l with
        | nil => rfl
        | cons k l ih2 => show ((wip ρ l).set k .un).length = _; rw [List.length_set, ih2]
      rw [List.getElem?_set, hl, ih]
      by_cases e : j = i
      · subst e
        by_cases h : j < ρ.length <;> simp [h]
        
      · simp [e, Ne.symm e]
  intro ρ
  apply List.ext_getElem?
  intro i
  rw [key, key]
  have hl : (wip ρ own).length = ρ.length := by
    clear key
    induction own with
    | nil => rfl
    | cons k l ih2 => show ((wip ρ l).set k .un).length = _; rw [List.length_set, ih2]
  rw [hl]
  by_cases h : i ∈ own ∧ i < ρ.length <;> simp [h]
theorem lcStep_w {tg : Tgt} {own : List Nat} {cond elt : Rho → Res Val} {x : D} {ρ : Rho} : lcStep tg own cond elt x ρ = lcStep tg own cond elt x (wip ρ own) := by
  show lcGo cond elt (bindT tg x (wip ρ own)) = lcGo cond elt (bindT tg x (wip (wip ρ own) own))
  rw [wip_wip]
/-- put by: what stands on what -/
inductive Fits {α β : Type} (G : Nat → α → Option β → Prop) : Nat → List α → List β → Prop
  | nil {i} : Fits G i [] []
  | yes {i a b as bs} : G i a (some b) → Fits G (i + 1) as bs → Fits G i (a :: as) (b :: bs)
  | no {i a as bs} : G i a none → Fits G (i + 1) as bs → Fits G i (a :: as) bs
theorem lcL_rule {tg : Tgt} {own : List Nat} {cond elt : Rho → Res Val} (I : Nat → Rho → Prop) (G : Nat → D → Option D → Prop) :
    ∀ (xs : List D) (k : Nat) (ρ : Rho), (∀ i x ρ, xs[i]? = some x → I (k + i) ρ → ∃ d ρ', lcStep tg own cond elt x ρ = .ok d ρ' ∧ G (k + i) x d ∧ I (k + i + 1) (wip ρ' own)) → I k (wip ρ own) →
    ∃ ds ρ', lcL (lcStep tg own cond elt) xs ρ = .ok ds ρ' ∧ Fits G k xs ds ∧ I (k + xs.length) (wip ρ' own)
  | [], k, ρ, _, h => ⟨[], ρ, rfl, .nil, h⟩
  | x :: xs, k, ρ, st, h => by
    obtain ⟨d, ρ1, e, g, h1⟩ := st 0 x (wip ρ own) rfl h
    rw [← lcStep_w] at e
    obtain ⟨ds, ρ2, e2, g2, h2⟩ := lcL_rule I G xs (k + 1) ρ1 (fun i y ρ hx hi => by
      have := st (i + 1) y ρ (by simpa using hx) (by rw [show k + (i + 1) = k + 1 + i by omega]; exact hi)
      rw [show k + (i + 1) = k + 1 + i by omega] at this
      exact this) h1
    have h3 : I (k + (x :: xs).length) (wip ρ2 own) := by rw [List.length_cons, show k + (xs.length + 1) = k + 1 + xs.length by omega]; exact h2
    cases d with
    | none =>
      refine ⟨ds, ρ2, ?_, .no g g2, h3⟩
      show lcK (lcL (lcStep tg own cond elt) xs) (lcStep tg own cond elt x ρ) = _
      rw [e]; exact e2
    | some d =>
      refine ⟨d :: ds, ρ2, ?_, .yes g g2, h3⟩
      show lcK (lcL (lcStep tg own cond elt) xs) (lcStep tg own cond elt x ρ) = _
      rw [e]
      show consR d (lcL (lcStep tg own cond elt) xs ρ1) = _
      rw [e2]; rfl
theorem restore_w (ρ0 : Rho) (own : List Nat) (nd : own.Nodup) : ∀ ρ : Rho, restore ρ0 (wip ρ own) own = restore ρ0 ρ own := by
  have swap : ∀ (l : List Nat) (ρ : Rho) (i : Nat) (s : Slot), i ∉ l → (wip (ρ.set i s) l) = (wip ρ l).set i s := by
    intro l
    induction l with
    | nil => intro ρ i s _; rfl
    | cons j l ih =>
      intro ρ i s hi
      show (wip (ρ.set i s) l).set j .un = ((wip ρ l).set j .un).set i s
      rw [ih ρ i s (fun z => hi (List.mem_cons_of_mem _ z)), List.set_comm]
      intro e; exact hi (e ▸ List.mem_cons_self)
  induction own with
  | nil => intro ρ; rfl
  | cons i own ih =>
    intro ρ
    have hn := List.nodup_cons.mp nd
    show restore ρ0 (((wip ρ own).set i .un).set i ((ρ0[i]?).getD .un)) own = restore ρ0 (ρ.set i ((ρ0[i]?).getD .un)) own
    rw [List.set_set, ← swap own ρ i _ hn.1, ih hn.2]
/-- a comprehension by the rule of its turns -/
theorem lc_ex {tg : Tgt} {own : List Nat} {cond elt : Rho → Res Val} (nd : own.Nodup) (I : Nat → Rho → Prop) (G : Nat → D → Option D → Prop) {xs : List D} {ρ : Rho} (hl : xs.length ≤ sizeLine)
    (st : ∀ i x ρ, xs[i]? = some x → I i ρ → ∃ d ρ', lcStep tg own cond elt x ρ = .ok d ρ' ∧ G i x d ∧ I (i + 1) (wip ρ' own)) (h0 : I 0 (wip ρ own)) :
    ∃ ds ρ', lcAll (lcStep tg own cond elt) own (.ok xs ρ) = .ok (.tmp (.own (.lst ds))) (restore ρ ρ' own) ∧ Fits G 0 xs ds ∧ I xs.length ρ' := by
  obtain ⟨ds, ρ1, e, g, h⟩ := lcL_rule I G xs 0 ρ (fun i x ρ hx hi => by rw [Nat.zero_add] at *; exact st i x ρ hx hi) h0
  refine ⟨ds, wip ρ1 own, ?_, g, by simpa using h⟩
  show (if leN xs.length sizeLine then lcFin ρ own (lcL (lcStep tg own cond elt) xs ρ) else .stuck) = _
  rw [if_pos (show leN xs.length sizeLine from hl), e, restore_w ρ own nd]
  rfl
/-- a comprehension that changes nothing: a filterMap -/
theorem lc_map {α : Type} {tg : Tgt} {own : List Nat} {cond elt : Rho → Res Val} (nd : own.Nodup) (enc : α → D) (g : α → Option D) {xs : List α} {ρ : Rho} (hl : xs.length ≤ sizeLine)
    (st : ∀ a ∈ xs, ∃ ρ', lcStep tg own cond elt (enc a) (wip ρ own) = .ok (g a) ρ' ∧ wip ρ' own = wip ρ own) :
    lcAll (lcStep tg own cond elt) own (.ok (xs.map enc) ρ) = .ok (.tmp (.own (.lst (xs.filterMap g)))) (restore ρ ρ own) := by
  have key : ∀ (ys : List α), (∀ a ∈ ys, a ∈ xs) → ∀ ρ1, wip ρ1 own = wip ρ own → ∃ ρ2, wip ρ2 own = wip ρ own ∧ lcL (lcStep tg own cond elt) (ys.map enc) ρ1 = .ok (ys.filterMap g) ρ2 := by
    intro ys
    induction ys with
    | nil => intro _ ρ1 h; exact ⟨ρ1, h, rfl⟩
    | cons a ys ih =>
      intro hs ρ1 h
      obtain ⟨ρ', e, hw⟩ := st a (hs a List.mem_cons_self)
      rw [← h, ← lcStep_w] at e
      obtain ⟨ρ2, h2, e2⟩ := ih (fun b hb => hs b (List.mem_cons_of_mem _ hb)) ρ' (hw.trans rfl)
      refine ⟨ρ2, h2, ?_⟩
      show lcK (lcL (lcStep tg own cond elt) (ys.map enc)) (lcStep tg own cond elt (enc a) ρ1) = _
      rw [e]
      cases q : g a with
      | none => rw [List.filterMap_cons_none q]; exact e2
      | some d =>
        rw [List.filterMap_cons_some q]
        show consR d (lcL (lcStep tg own cond elt) (ys.map enc) ρ') = _
        rw [e2]; rfl
  obtain ⟨ρ2, h2, e⟩ := key xs (fun _ h => h) ρ rfl
  show (if leN (xs.map enc).length sizeLine then lcFin ρ own (lcL (lcStep tg own cond elt) (xs.map enc) ρ) else .stuck) = _
  rw [List.length_map, if_pos (show leN xs.length sizeLine from hl), e]
  show Res.ok _ (restore ρ ρ2 own) = _
  rw [← restore_w ρ own nd ρ2, h2, restore_w ρ own nd ρ]
end Ell
namespace Ell
open PySem
/-- a comprehension that changes nothing and keeps all: a map -/
theorem lc_mapA {α : Type} {tg : Tgt} {own : List Nat} {cond elt : Rho → Res Val} (nd : own.Nodup) (enc : α → D) (g : α → D) {xs : List α} {ρ : Rho} (hl : xs.length ≤ sizeLine)
    (st : ∀ a ∈ xs, ∃ ρ', lcStep tg own cond elt (enc a) (wip ρ own) = .ok (some (g a)) ρ' ∧ wip ρ' own = wip ρ own) :
    lcAll (lcStep tg own cond elt) own (.ok (xs.map enc) ρ) = .ok (.tmp (.own (.lst (xs.map g)))) (restore ρ ρ own) := by
  have h := lc_map (g := fun a => some (g a)) nd enc hl st
  rw [show xs.filterMap (fun a => some (g a)) = xs.map g from by rw [← List.filterMap_eq_map]; rfl] at h
  exact h
theorem Fits.all {α β γ : Type} {G : Nat → α → Option γ → Prop} {enc : β → γ} {P : β → Prop} (h : ∀ i x d, G i x d → ∃ b, d = some (enc b) ∧ P b) : ∀ {k : Nat} {xs : List α} {ds : List γ}, Fits G k xs ds → ∃ bs : List β, ds = bs.map enc ∧ bs.length = xs.length ∧ ∀ b ∈ bs, P b
  | _, _, _, .nil => ⟨[], rfl, rfl, fun _ h => nomatch h⟩
  | _, _, _, .yes g r => by
    obtain ⟨b, e, p⟩ := h _ _ _ g
    obtain ⟨bs, e2, l, q⟩ := Fits.all h r
    cases e
    exact ⟨b :: bs, by rw [e2]; rfl, by simp [l], fun c hc => by rcases List.mem_cons.mp hc with rfl | hc; exact p; exact q c hc⟩
  | _, _, _, .no g r => by
    obtain ⟨b, e, p⟩ := h _ _ _ g
    cases e
theorem prs2_map {α β : Type} {f : α → D} {g : β → D} {xs : List α} {ys : List β} : prs2 (xs.map f) (ys.map g) = (xs.zip ys).map fun p => PyData.tuple [f p.1, g p.2] := by
  unfold prs2
  rw [List.zip_map, List.map_map]
  rfl
@[simp] theorem bools_map2 {α : Type} {f : α → Bool} : ∀ xs : List α, bools? (xs.map fun a => PyData.bool (f a)) = some (xs.map f)
  | [] => rfl
  | x :: r => by show (bools? (r.map fun a => PyData.bool (f a))).map (f x :: ·) = _; rw [bools_map2 r]; rfl
@[simp] theorem ints_map2 {α : Type} {f : α → Int} : ∀ xs : List α, ints? (xs.map fun a => PyData.int (f a)) = some (xs.map f)
  | [] => rfl
  | x :: r => by show (ints? (r.map fun a => PyData.int (f a))).map (f x :: ·) = _; rw [ints_map2 r]; rfl
/-- a tuple of ints, of tuples of ints -/
@[simp] def vI (r : List Int) : D := .tuple (r.map .int)
@[simp] def vT (us : List (List Int)) : D := .tuple (us.map fun r => .tuple (r.map .int))
@[simp] theorem eqva_ints : ∀ xs ys : List Int, PyData.eqvAll (xs.map PyData.int) (ys.map PyData.int) = decide (xs = ys)
  | [], [] => rfl
  | [], y :: ys => rfl
  | x :: xs, [] => rfl
  | x :: xs, y :: ys => by
    rw [List.map_cons, List.map_cons, eqva_cons, eqv_int, eqva_ints xs ys]
    simp
@[simp] theorem cl_ints : ∀ xs : List Int, PyData.canLayAll0 (xs.map PyData.int) = true
  | [] => rfl
  | x :: xs => by rw [List.map_cons, cl_cons, cl_int, cl_ints xs]; rfl
@[simp] theorem dp_ints : ∀ xs : List Int, PyData.depthAll (xs.map PyData.int) = 0
  | [] => rfl
  | x :: xs => by rw [List.map_cons, dp_cons, dp_int, dp_ints xs]; rfl
@[simp] theorem cl_rows : ∀ us : List (List Int), PyData.canLayAll0 (us.map fun r => PyData.tuple (r.map .int)) = true
  | [] => rfl
  | x :: xs => by rw [List.map_cons, cl_cons, cl_tup, cl_ints, cl_rows xs]; rfl
theorem dp_rows : ∀ us : List (List Int), PyData.depthAll (us.map fun r => PyData.tuple (r.map .int)) ≤ 1
  | [] => Nat.zero_le _
  | x :: xs => by rw [List.map_cons, dp_cons, dp_tup, dp_ints]; have := dp_rows xs; omega
theorem sw_ints : ∀ {xs : List Int}, (∀ x ∈ xs, x.natAbs < big) → PyData.showableAll (xs.map PyData.int) = true
  | [], _ => rfl
  | x :: xs, h => by
    rw [List.map_cons, sw_cons, (pb_int (h x List.mem_cons_self)).sh, sw_ints fun y hy => h y (List.mem_cons_of_mem _ hy)]; rfl
theorem rz_ints : ∀ xs : List Int, rsz.rszs (xs.map PyData.int) = 1923 * xs.length
  | [] => rfl
  | x :: xs => by rw [List.map_cons, rz_cons, rz_int, rz_ints xs, List.length_cons]; omega
theorem sw_rows : ∀ {us : List (List Int)}, (∀ r ∈ us, ∀ x ∈ r, x.natAbs < big) → PyData.showableAll (us.map fun r => PyData.tuple (r.map .int)) = true
  | [], _ => rfl
  | x :: xs, h => by
    rw [List.map_cons, sw_cons, sw_tup, sw_ints (h x List.mem_cons_self), sw_rows fun y hy => h y (List.mem_cons_of_mem _ hy)]; rfl
theorem rz_rows : ∀ {us : List (List Int)} {k : Nat}, (∀ r ∈ us, r.length ≤ k) → rsz.rszs (us.map fun r => PyData.tuple (r.map .int)) ≤ (1923 * k + 5) * us.length
  | [], _, _ => Nat.zero_le _
  | x :: xs, k, h => by
    have h1 := h x List.mem_cons_self
    have h2 := rz_rows (us := xs) (k := k) fun y hy => h y (List.mem_cons_of_mem _ hy)
    rw [List.map_cons, rz_cons, rz_tup, rz_ints, List.length_cons, Nat.mul_succ]
    have : 1923 * x.length ≤ 1923 * k := Nat.mul_le_mul (Nat.le_refl _) h1
    omega
theorem pb_tI {r : List Int} (h : ∀ x ∈ r, x.natAbs < big) (hl : r.length ≤ 1000) : pb (vI r) := by
  refine ⟨?_, ?_, ?_, ?_⟩
  · show PyData.showableAll (r.map .int) = true; exact sw_ints h
  · show PyData.canLayAll0 (r.map .int) = true; exact cl_ints r
  · show PyData.depthAll (r.map .int) + 1 ≤ 25; rw [dp_ints]; omega
  · show rsz.rszs (r.map .int) + 3 ≤ _; rw [rz_ints]; omega
theorem pb_tT {us : List (List Int)} (h : ∀ r ∈ us, ∀ x ∈ r, x.natAbs < big) {k : Nat} (hk : ∀ r ∈ us, r.length ≤ k) (hl : us.length * k ≤ 3000) (hl2 : us.length ≤ 3000) : pb (vT us) := by
  refine ⟨?_, ?_, ?_, ?_⟩
  · exact sw_rows h
  · exact cl_rows us
  · have := dp_rows us; show PyData.depthAll _ + 1 ≤ 25; omega
  · have := rz_rows hk
    show rsz.rszs _ + 3 ≤ _
    have e : (1923 * k + 5) * us.length = 1923 * (us.length * k) + 5 * us.length := by rw [Nat.add_mul, Nat.mul_assoc, Nat.mul_comm k]
    omega
/-- data that can be shown as it stands -/
theorem repr_tup {xs : List D} (h : pb (.tuple xs)) : bfun .repr [.tuple xs] = some (.dat (.str (PyData.shown (.tuple xs)))) := by
  have e : sizeLine = 16777216 := rfl
  rw [f_reprt, if_pos ⟨h.sh, h.cl, Nat.le_trans h.dp (by decide), Nat.le_trans h.sz (by rw [e]; decide)⟩]
theorem repr_lst {xs : List D} (h : pb (.list xs)) : bfun .repr [.list xs] = some (.dat (.str (PyData.shown (.list xs)))) := by
  have e : sizeLine = 16777216 := rfl
  rw [f_reprl, if_pos ⟨h.sh, h.cl, Nat.le_trans h.dp (by decide), Nat.le_trans h.sz (by rw [e]; decide)⟩]
end Ell
namespace Ell
open PySem
/-- a comprehension by name: what it tells, where nothing changes -/
theorem lc_spec {α : Type} {tg : Tgt} {it cond elt : CE} {own : List Nat} {ρ : Rho} (enc : α → D) (g : α → D) {xs : List α} (B : α → Rho) (hI : evI it ρ = .ok (xs.map enc) ρ) (hl : xs.length ≤ sizeLine) (nd : own.Nodup)
    (hb : ∀ a ∈ xs, bindT tg (enc a) (wip ρ own) = some (B a)) (hw : ∀ a ∈ xs, wip (B a) own = wip ρ own) (hc : ∀ a ∈ xs, kB (evP cond (B a)) = .ok true (B a)) (he : ∀ a ∈ xs, kD (evP elt (B a)) = .ok (g a) (B a)) (hr : restore ρ ρ own = ρ) :
    evP (.lc tg it cond elt own) ρ = .ok (.tmp (.own (.lst (xs.map g)))) ρ := by
  have h := lc_mapA (tg := tg) (cond := evP cond) (elt := evP elt) nd enc g (ρ := ρ) hl (fun a ha => ⟨B a, by
    rw [← lcStep_w]
    show lcGo (evP cond) (evP elt) (bindT tg (enc a) (wip ρ own)) = _
    rw [hb a ha]
    show lcIf (evP elt) (kB (evP cond (B a))) = _
    rw [hc a ha]
    show lcEnd (kD (evP elt (B a))) = _
    rw [he a ha]; rfl, hw a ha⟩)
  rw [hr] at h
  show lcAll (lcStep tg own (evP cond) (evP elt)) own (evI it ρ) = _
  rw [hI]
  exact h
/-- the same, where a test picks -/
theorem lc_specF {α : Type} {tg : Tgt} {it cond elt : CE} {own : List Nat} {ρ : Rho} (enc : α → D) (p : α → Bool) (g : α → D) {xs : List α} (B : α → Rho) (hI : evI it ρ = .ok (xs.map enc) ρ) (hl : xs.length ≤ sizeLine) (nd : own.Nodup)
    (hb : ∀ a ∈ xs, bindT tg (enc a) (wip ρ own) = some (B a)) (hw : ∀ a ∈ xs, wip (B a) own = wip ρ own) (hc : ∀ a ∈ xs, kB (evP cond (B a)) = .ok (p a) (B a)) (he : ∀ a ∈ xs, p a = true → kD (evP elt (B a)) = .ok (g a) (B a)) (hr : restore ρ ρ own = ρ) :
    evP (.lc tg it cond elt own) ρ = .ok (.tmp (.own (.lst ((xs.filter p).map g)))) ρ := by
  have h := lc_map (tg := tg) (cond := evP cond) (elt := evP elt) nd enc (fun a => if p a = true then some (g a) else none) (ρ := ρ) hl (fun a ha => ⟨B a, by
    rw [← lcStep_w]
    show lcGo (evP cond) (evP elt) (bindT tg (enc a) (wip ρ own)) = _
    rw [hb a ha]
    show lcIf (evP elt) (kB (evP cond (B a))) = _
    rw [hc a ha]
    cases q : p a with
    | false => rfl
    | true =>
      show lcEnd (kD (evP elt (B a))) = _
      rw [he a ha q]; rfl, hw a ha⟩)
  rw [hr, show xs.filterMap (fun a => if p a = true then some (g a) else none) = (xs.filter p).map g from by
    clear hI hl hb hw hc he h
    induction xs with
    | nil => rfl
    | cons x xs ih =>
      by_cases q : p x = true
      · rw [List.filterMap_cons_some (by rw [if_pos q]), List.filter_cons_of_pos q, ih]; rfl
      · rw [List.filterMap_cons_none (by rw [if_neg q]), List.filter_cons_of_neg q, ih]] at h
  show lcAll (lcStep tg own (evP cond) (evP elt)) own (evI it ρ) = _
  rw [hI]
  exact h
/-- a comprehension whose turns move the state on -/
theorem lc_specS {α : Type} {tg : Tgt} {it cond elt : CE} {own : List Nat} {ρ ρ0 : Rho} (enc : α → D) {xs : List α} (S : Nat → Rho) (B : Nat → α → Rho) (C : Nat → α → Rho) (G : Nat → D → Prop) (hI : evI it ρ = .ok (xs.map enc) ρ0) (hl : xs.length ≤ sizeLine) (nd : own.Nodup)
    (h0 : wip ρ0 own = S 0)
    (hb : ∀ i a, xs[i]? = some a → bindT tg (enc a) (S i) = some (B i a)) (hc : ∀ i a, xs[i]? = some a → kB (evP cond (B i a)) = .ok true (B i a)) (he : ∀ i a, xs[i]? = some a → ∃ d, kD (evP elt (B i a)) = .ok d (C i a) ∧ G i d) (hw : ∀ i a, xs[i]? = some a → wip (C i a) own = S (i + 1))
    (hS : ∀ i, wip (S i) own = S i) :
    ∃ ds, ds.length = xs.length ∧ (∀ i d, ds[i]? = some d → G i d) ∧ evP (.lc tg it cond elt own) ρ = .ok (.tmp (.own (.lst ds))) (restore ρ0 (S xs.length) own) := by
  have key : ∀ (ys : List α) (k : Nat) (ρ1 : Rho), (∀ i a, ys[i]? = some a → xs[k + i]? = some a) → wip ρ1 own = S k →
      ∃ ds ρ2, ds.length = ys.length ∧ (∀ i d, ds[i]? = some d → G (k + i) d) ∧ wip ρ2 own = S (k + ys.length) ∧ lcL (lcStep tg own (evP cond) (evP elt)) (ys.map enc) ρ1 = .ok ds ρ2 := by
    intro ys
    induction ys with
    | nil => intro k ρ1 _ h; exact ⟨[], ρ1, rfl, fun i d h => by simp at h, h, rfl⟩
    | cons a ys ih =>
      intro k ρ1 hx h
      have ha := hx 0 a rfl
      rw [Nat.add_zero] at ha
      obtain ⟨d, ed, gd⟩ := he k a ha
      obtain ⟨ds, ρ2, l2, g2, w2, e2⟩ := ih (k + 1) (C k a) (fun i b hb => by rw [show k + 1 + i = k + (i + 1) by omega]; exact hx (i + 1) b (by simpa using hb)) (hw k a ha)
      refine ⟨d :: ds, ρ2, by simp [l2], ?_, ?_, ?_⟩
      · intro i e hi
        cases i with
        | zero => simp at hi; subst hi; exact gd
        | succ i => rw [show k + (i + 1) = k + 1 + i by omega]; exact g2 i e (by simpa using hi)
      · rw [w2, List.length_cons, show k + (ys.length + 1) = k + 1 + ys.length by omega]
      · show lcK (lcL (lcStep tg own (evP cond) (evP elt)) (ys.map enc)) (lcGo (evP cond) (evP elt) (bindT tg (enc a) (wip ρ1 own))) = _
        rw [h, hb k a ha]
        show lcK _ (lcIf (evP elt) (kB (evP cond (B k a)))) = _
        rw [hc k a ha]
        show lcK _ (lcEnd (kD (evP elt (B k a)))) = _
        rw [ed]
        show consR d (lcL (lcStep tg own (evP cond) (evP elt)) (ys.map enc) (C k a)) = _
        rw [e2]; rfl
  obtain ⟨ds, ρ2, l2, g2, w2, e2⟩ := key xs 0 ρ0 (fun i a h => by rw [Nat.zero_add]; exact h) h0
  refine ⟨ds, l2, fun i d h => by have := g2 i d h; rw [Nat.zero_add] at this; exact this, ?_⟩
  show lcAll (lcStep tg own (evP cond) (evP elt)) own (evI it ρ) = _
  rw [hI]
  show (if leN (xs.map enc).length sizeLine then lcFin ρ0 own (lcL (lcStep tg own (evP cond) (evP elt)) (xs.map enc) ρ0) else .stuck) = _
  rw [List.length_map, if_pos (show leN xs.length sizeLine from hl), e2]
  show Res.ok _ (restore ρ0 ρ2 own) = _
  rw [← restore_w ρ0 own nd ρ2, w2, Nat.zero_add, ← restore_w ρ0 own nd (S xs.length), hS]
/-- a for loop by name -/
theorem for_spec {α : Type} {tg : Tgt} {it : CE} {b : CS} {ρ ρ0 : Rho} (enc : α → D) {xs : List α} (S : Nat → Rho) (B : Nat → α → Rho) (hI : evI it ρ = .ok (xs.map enc) ρ0) (h0 : ρ0 = S 0)
    (hb : ∀ i a, xs[i]? = some a → bindT tg (enc a) (S i) = some (B i a)) (hs : ∀ i a, xs[i]? = some a → evS b (B i a) = .next (S (i + 1))) : evS (.for_ tg it b) ρ = .next (S xs.length) := by
  show forO (forStep tg (evS b)) (evI it ρ) = _
  rw [hI]
  show forL (forStep tg (evS b)) (xs.map enc) ρ0 = _
  have e := forL_det (f := forStep tg (evS b)) (xs := xs.map enc) S (fun i hi => by
    have hi' : i < xs.length := by simpa using hi
    rw [List.getElem_map]
    show goO (evS b) (bindT tg (enc xs[i]) (S i)) = _
    rw [hb i xs[i] (List.getElem?_eq_getElem hi')]
    exact hs i xs[i] (List.getElem?_eq_getElem hi')) h0
  rw [e, List.length_map]
end Ell
namespace Ell
open PySem
/-- a for loop by name: a fold -/
theorem for_fold {α σ : Type} {tg : Tgt} {it : CE} {b : CS} {ρ : Rho} (enc : α → D) {xs : List α} (R : σ → Rho) (g : σ → α → σ) (B : σ → α → Rho) (Inv : σ → Prop) {s0 : σ} (hI : evI it ρ = .ok (xs.map enc) (R s0)) (h0 : Inv s0)
    (hb : ∀ s a, a ∈ xs → Inv s → bindT tg (enc a) (R s) = some (B s a)) (hs : ∀ s a, a ∈ xs → Inv s → Inv (g s a) ∧ evS b (B s a) = .next (R (g s a))) : evS (.for_ tg it b) ρ = .next (R (xs.foldl g s0)) ∧ Inv (xs.foldl g s0) := by
  have key : ∀ (ys : List α) (s : σ), (∀ a ∈ ys, a ∈ xs) → Inv s → forL (forStep tg (evS b)) (ys.map enc) (R s) = .next (R (ys.foldl g s)) ∧ Inv (ys.foldl g s) := by
    intro ys
    induction ys with
    | nil => intro s _ h; exact ⟨rfl, h⟩
    | cons a ys ih =>
      intro s hm h
      have ha := hm a List.mem_cons_self
      obtain ⟨h1, e1⟩ := hs s a ha h
      obtain ⟨e2, h2⟩ := ih (g s a) (fun c hc => hm c (List.mem_cons_of_mem _ hc)) h1
      refine ⟨?_, h2⟩
      show turnO (forL (forStep tg (evS b)) (ys.map enc)) (goO (evS b) (bindT tg (enc a) (R s))) = _
      rw [hb s a ha h]
      show turnO _ (evS b (B s a)) = _
      rw [e1]
      exact e2
  obtain ⟨e, h⟩ := key xs s0 (fun _ h => h) h0
  refine ⟨?_, h⟩
  show forO (forStep tg (evS b)) (evI it ρ) = _
  rw [hI]
  exact e
/-- a for loop by name: a fold that may be left -/
def foldX {σ α : Type} (g : σ → α → σ ⊕ Out) : σ → List α → σ ⊕ Out
  | s, [] => .inl s
  | s, a :: as => match g s a with
    | .inl s' => foldX g s' as
    | .inr o => .inr o
theorem for_X {α σ : Type} {tg : Tgt} {it : CE} {b : CS} {ρ : Rho} (enc : α → D) {xs : List α} (R : σ → Rho) (g : σ → α → σ ⊕ Out) (B : σ → α → Rho) (Inv : σ → Prop) {s0 : σ} (hI : evI it ρ = .ok (xs.map enc) (R s0)) (h0 : Inv s0)
    (hb : ∀ s a, a ∈ xs → Inv s → bindT tg (enc a) (R s) = some (B s a))
    (hs : ∀ s a, a ∈ xs → Inv s → match g s a with
      | .inl s' => Inv s' ∧ ∀ f, turnO f (evS b (B s a)) = f (R s')
      | .inr o => ∀ f, turnO f (evS b (B s a)) = o) :
    match foldX g s0 xs with
    | .inl s => evS (.for_ tg it b) ρ = .next (R s) ∧ Inv s
    | .inr o => evS (.for_ tg it b) ρ = o := by
  have key : ∀ (ys : List α) (s : σ), (∀ a ∈ ys, a ∈ xs) → Inv s → match foldX g s ys with
      | .inl s' => forL (forStep tg (evS b)) (ys.map enc) (R s) = .next (R s') ∧ Inv s'
      | .inr o => forL (forStep tg (evS b)) (ys.map enc) (R s) = o := by
    intro ys
    induction ys with
    | nil => intro s _ h; exact ⟨rfl, h⟩
    | cons a ys ih =>
      intro s hm h
      have ha := hm a List.mem_cons_self
      have h1 := hs s a ha h
      have e0 : forL (forStep tg (evS b)) ((a :: ys).map enc) (R s) = turnO (forL (forStep tg (evS b)) (ys.map enc)) (evS b (B s a)) := by
        show turnO (forL (forStep tg (evS b)) (ys.map enc)) (goO (evS b) (bindT tg (enc a) (R s))) = _
        rw [hb s a ha h]; rfl
      rw [e0]
      show match (match g s a with | .inl s' => foldX g s' ys | .inr o => .inr o) with | .inl s' => _ | .inr o => _
      cases q : g s a with
      | inl s' =>
        rw [q] at h1
        dsimp only
        rw [h1.2]
        exact ih s' (fun c hc => hm c (List.mem_cons_of_mem _ hc)) h1.1
      | inr o =>
        rw [q] at h1
        dsimp only
        rw [h1]
  have h := key xs s0 (fun _ h => h) h0
  have e : evS (.for_ tg it b) ρ = forL (forStep tg (evS b)) (xs.map enc) (R s0) := by
    show forO (forStep tg (evS b)) (evI it ρ) = _
    rw [hI]; rfl
  rw [e]
  exact h
/-- a for loop that looks for something -/
theorem for_find {α : Type} {tg : Tgt} {it : CE} {b : CS} {ρ ρ0 : Rho} (enc : α → D) {xs : List α} (p : α → Bool) (o : α → Out) (B : α → Rho) (hI : evI it ρ = .ok (xs.map enc) ρ0)
    (hb : ∀ a ∈ xs, bindT tg (enc a) ρ0 = some (B a)) (h1 : ∀ a ∈ xs, p a = false → ∀ f, turnO f (evS b (B a)) = f ρ0) (h2 : ∀ a ∈ xs, p a = true → ∀ f, turnO f (evS b (B a)) = o a) :
    evS (.for_ tg it b) ρ = match xs.find? p with | none => .next ρ0 | some a => o a := by
  have e : evS (.for_ tg it b) ρ = forL (forStep tg (evS b)) (xs.map enc) ρ0 := by
    show forO (forStep tg (evS b)) (evI it ρ) = _
    rw [hI]; rfl
  rw [e]
  have key : ∀ ys : List α, (∀ a ∈ ys, a ∈ xs) → forL (forStep tg (evS b)) (ys.map enc) ρ0 = match ys.find? p with | none => .next ρ0 | some a => o a := by
    intro ys
    induction ys with
    | nil => intro _; rfl
    | cons a ys ih =>
      intro hm
      have ha := hm a List.mem_cons_self
      show turnO (forL (forStep tg (evS b)) (ys.map enc)) (goO (evS b) (bindT tg (enc a) ρ0)) = _
      rw [hb a ha]
      show turnO (forL (forStep tg (evS b)) (ys.map enc)) (evS b (B a)) = _
      cases q : p a with
      | true => rw [h2 a ha q, List.find?_cons_of_pos q]
      | false => rw [h1 a ha q, List.find?_cons_of_neg (by rw [q]; exact Bool.false_ne_true)]; exact ih fun c hc => hm c (List.mem_cons_of_mem _ hc)
  exact key xs fun _ h => h
/-- a while loop by name -/
theorem whl_spec {σ : Type} {n : Nat} {c : CE} {b : CS} (R : σ → Rho) (t : σ → Bool) (g : σ → σ) (Inv : σ → Prop) (m : σ → Nat) (hc : ∀ s, Inv s → kB (evP c (R s)) = .ok (t s) (R s))
    (hs : ∀ s, Inv s → t s = true → Inv (g s) ∧ m (g s) < m s ∧ evS b (R s) = .next (R (g s))) : ∀ (k : Nat) (s : σ), m s < k → k ≤ n → Inv s → ∃ s', Inv s' ∧ t s' = false ∧ evS (.whl n c b) (R s) = .next (R s') := by
  have key : ∀ (k : Nat) (s : σ), m s < k → Inv s → ∃ s', Inv s' ∧ t s' = false ∧ whlL (evP c) (evS b) k (R s) = .next (R s') := by
    intro k
    induction k with
    | zero => intro s h; exact absurd h (Nat.not_lt_zero _)
    | succ k ih =>
      intro s h hI
      cases q : t s with
      | false =>
        refine ⟨s, hI, q, ?_⟩
        show iteO (fun ρ1 => turnO (whlL (evP c) (evS b) k) (evS b ρ1)) nextO (kB (evP c (R s))) = _
        rw [hc s hI, q]; rfl
      | true =>
        obtain ⟨h1, h2, e⟩ := hs s hI q
        obtain ⟨s', i', t', e'⟩ := ih (g s) (by omega) h1
        refine ⟨s', i', t', ?_⟩
        show iteO (fun ρ1 => turnO (whlL (evP c) (evS b) k) (evS b ρ1)) nextO (kB (evP c (R s))) = _
        rw [hc s hI, q]
        show turnO (whlL (evP c) (evS b) k) (evS b (R s)) = _
        rw [e]
        exact e'
  intro k s h hk hI
  exact key n s (by omega) hI
end Ell
namespace Ell
theorem fold_range {α σ : Type} (f : σ → α → σ) (d : α) : ∀ (xs : List α) (s : σ), (List.range xs.length).foldl (fun t k => f t (xs.getD k d)) s = xs.foldl f s := by
  intro xs
  induction xs with
  | nil => intro s; rfl
  | cons x xs ih =>
    intro s
    rw [List.length_cons, List.range_succ_eq_map, List.foldl_cons, List.foldl_map, List.foldl_cons]
    exact ih (f s x)
theorem fold_congr {α σ : Type} {f g : σ → α → σ} : ∀ (xs : List α) (s : σ), (∀ a ∈ xs, ∀ t, f t a = g t a) → xs.foldl f s = xs.foldl g s
  | [], _, _ => rfl
  | a :: xs, s, h => by
    rw [List.foldl_cons, List.foldl_cons, h a List.mem_cons_self, fold_congr xs _ fun b hb => h b (List.mem_cons_of_mem _ hb)]
theorem isq_D {A : PySem.PyData} {xs : List PySem.PyData} (h : A = .list xs ∨ A = .tuple xs) : itemsOf A = some xs := by rcases h with rfl | rfl <;> rfl
theorem range_n {n : Nat} (h : n ≤ 16777216) : rng1D (.int n) = some ((List.range n).map fun (k : Nat) => PySem.PyData.int k) := by
  have h1 : (n : Int) < 4611686018427387904 := by omega
  have h2 : (-4611686018427387904 : Int) ≤ n := by omega
  simp [h1, h2, rngD]
end Ell
namespace Ell
@[simp] theorem bools_cons {b : Bool} {r : List D} : bools? (.bool b :: r) = (bools? r).map (b :: ·) := (rfl)
@[simp] theorem ints_cons {b : Int} {r : List D} : ints? (.int b :: r) = (ints? r).map (b :: ·) := (rfl)
@[simp] theorem bools_nil : bools? [] = some [] := (rfl)
@[simp] theorem ints_nil : ints? [] = some [] := (rfl)
end Ell
namespace Ell
theorem all_enc {β γ : Type} {enc : β → γ} {P : β → Prop} : ∀ {ds : List γ}, (∀ (i : Nat) (d : γ), ds[i]? = some d → ∃ v, d = enc v ∧ P v) → ∃ vs : List β, ds = vs.map enc ∧ vs.length = ds.length ∧ ∀ v ∈ vs, P v
  | [], _ => ⟨[], rfl, rfl, fun _ h => nomatch h⟩
  | d :: ds, h => by
    obtain ⟨v, e, p⟩ := h 0 d rfl
    obtain ⟨vs, e2, l, q⟩ := all_enc (ds := ds) (enc := enc) (P := P) fun i d hd => h (i + 1) d (by simpa using hd)
    exact ⟨v :: vs, by rw [e, e2]; rfl, by simp [l], fun c hc => by rcases List.mem_cons.mp hc with rfl | hc; exact p; exact q c hc⟩
end Ell
namespace Ell
open PySem
/-- a comprehension that draws -/
theorem lc_draw {α β : Type} {tg : Tgt} {it cond elt : CE} {own : List Nat} (enc : α → D) (en2 : β → D) (P : β → Prop) {xs : List α} (S : Int → Rho) (B : Int → α → Rho) (C : Int → α → Rho) (cost n0 : Int) (c0 : 0 ≤ cost) (hI : evI it (S n0) = .ok (xs.map enc) (S n0)) (hl : xs.length ≤ sizeLine) (nd : own.Nodup)
    (hS : ∀ n, wip (S n) own = S n) (hb : ∀ n a, a ∈ xs → bindT tg (enc a) (S n) = some (B n a)) (hc : ∀ n a, a ∈ xs → kB (evP cond (B n a)) = .ok true (B n a))
    (he : ∀ n a, a ∈ xs → n0 ≤ n → n ≤ n0 + cost * xs.length → ∃ v n', P v ∧ n ≤ n' ∧ n' ≤ n + cost ∧ kD (evP elt (B n a)) = .ok (en2 v) (C n' a)) (hw : ∀ n a, a ∈ xs → wip (C n a) own = S n) (hr : ∀ n m, restore (S n) (S m) own = S m) :
    ∃ (vs : List β) (n' : Int), vs.length = xs.length ∧ (∀ v ∈ vs, P v) ∧ n0 ≤ n' ∧ n' ≤ n0 + cost * xs.length ∧ evP (.lc tg it cond elt own) (S n0) = .ok (.tmp (.own (.lst (vs.map en2)))) (S n') := by
  have key : ∀ (ys : List α) (n : Int) (ρ1 : Rho), (∀ a ∈ ys, a ∈ xs) → n0 ≤ n → n + cost * ys.length ≤ n0 + cost * xs.length → wip ρ1 own = S n →
      ∃ (vs : List β) (n' : Int) (ρ2 : Rho), vs.length = ys.length ∧ (∀ v ∈ vs, P v) ∧ n ≤ n' ∧ n' ≤ n + cost * ys.length ∧ wip ρ2 own = S n' ∧ lcL (lcStep tg own (evP cond) (evP elt)) (ys.map enc) ρ1 = .ok (vs.map en2) ρ2 := by
    intro ys
    induction ys with
    | nil => intro n ρ1 _ _ _ h; exact ⟨[], n, ρ1, rfl, (fun _ h => nomatch h), by omega, by simp, h, rfl⟩
    | cons a ys ih =>
      intro n ρ1 hx h0 h1 h
      have ha := hx a List.mem_cons_self
      have e1 : cost * ((a :: ys).length : Int) = cost * ys.length + cost := by rw [List.length_cons]; push_cast; rw [Int.mul_add, Int.mul_one]
      have p1 : 0 ≤ cost * (ys.length : Int) := Int.mul_nonneg c0 (by omega)
      rw [e1] at h1
      obtain ⟨v, m, pv, m0, m1, ev⟩ := he n a ha h0 (by omega)
      obtain ⟨vs, n', ρ2, l2, p2, q0, q1, w2, e2⟩ := ih m (C m a) (fun b hb => hx b (List.mem_cons_of_mem _ hb)) (by omega) (by omega) (hw m a ha)
      refine ⟨v :: vs, n', ρ2, by simp [l2], fun c hc => by rcases List.mem_cons.mp hc with rfl | hc; exact pv; exact p2 c hc, by omega, by rw [e1]; omega, w2, ?_⟩
      show lcK (lcL (lcStep tg own (evP cond) (evP elt)) (ys.map enc)) (lcGo (evP cond) (evP elt) (bindT tg (enc a) (wip ρ1 own))) = _
      rw [h, hb n a ha]
      show lcK _ (lcIf (evP elt) (kB (evP cond (B n a)))) = _
      rw [hc n a ha]
      show lcK _ (lcEnd (kD (evP elt (B n a)))) = _
      rw [ev]
      show consR (en2 v) (lcL (lcStep tg own (evP cond) (evP elt)) (ys.map enc) (C m a)) = _
      rw [e2]; rfl
  obtain ⟨vs, n', ρ2, l2, p2, q0, q1, w2, e2⟩ := key xs n0 (S n0) (fun _ h => h) (by omega) (by omega) (hS n0)
  refine ⟨vs, n', l2, p2, q0, q1, ?_⟩
  show lcAll (lcStep tg own (evP cond) (evP elt)) own (evI it (S n0)) = _
  rw [hI]
  show (if leN (xs.map enc).length sizeLine then lcFin (S n0) own (lcL (lcStep tg own (evP cond) (evP elt)) (xs.map enc) (S n0)) else .stuck) = _
  rw [List.length_map, if_pos (show leN xs.length sizeLine from hl), e2]
  show Res.ok _ (restore (S n0) ρ2 own) = _
  rw [← restore_w (S n0) own nd ρ2, w2, hr]
end Ell
namespace Ell
theorem cut_to {α : Type} {xs : List α} {k : Int} (h : 0 ≤ k) : cut xs none (some k) = xs.take k.toNat := by
  show (xs.drop 0).take (six xs.length xs.length (some k) - 0) = _
  have e : six xs.length xs.length (some k) = min k.toNat xs.length := by show (if k < 0 then _ else _) = _; rw [if_neg (by omega)]
  rw [e, List.drop_zero, Nat.sub_zero]
  by_cases c : k.toNat ≤ xs.length
  · rw [Nat.min_eq_left c]
  · rw [Nat.min_eq_right (by omega), List.take_length, List.take_of_length_le (by omega)]
theorem cut_from {α : Type} {xs : List α} {k : Int} (h : 0 ≤ k) : cut xs (some k) none = xs.drop k.toNat := by
  show (xs.drop (six xs.length 0 (some k))).take (xs.length - six xs.length 0 (some k)) = _
  have e : six xs.length 0 (some k) = min k.toNat xs.length := by show (if k < 0 then _ else _) = _; rw [if_neg (by omega)]
  rw [e]
  by_cases c : k.toNat ≤ xs.length
  · rw [Nat.min_eq_left c, List.take_of_length_le (by rw [List.length_drop]; omega)]
  · rw [Nat.min_eq_right (by omega), List.drop_length, List.drop_of_length_le (by omega)]; simp
theorem cut_last {α : Type} {xs : List α} : cut xs none (some (-1)) = xs.dropLast := by
  show (xs.drop 0).take (six xs.length xs.length (some (-1)) - 0) = _
  have e : six xs.length xs.length (some (-1)) = xs.length - 1 := by show (if (-1 : Int) < 0 then ((-1 : Int) + xs.length).toNat else min ((-1 : Int).toNat) xs.length) = _; rw [if_pos (by decide)]; omega
  rw [e, List.drop_zero, Nat.sub_zero, List.dropLast_eq_take]
@[simp] theorem cut_9 {α : Type} {xs : List α} : cut xs none (some 9) = xs.take 9 := cut_to (by decide)
@[simp] theorem cut_7 {α : Type} {xs : List α} : cut xs none (some 7) = xs.take 7 := cut_to (by decide)
@[simp] theorem cut_1 {α : Type} {xs : List α} : cut xs (some 1) none = xs.drop 1 := cut_from (by decide)
@[simp] theorem cut_m1 {α : Type} {xs : List α} : cut xs none (some (-1)) = xs.dropLast := cut_last
end Ell
namespace Ell
theorem ite_le {α : Type} {a b : Nat} {x y : α} {i : Decidable (a ≤ b)} (h : a ≤ b) : @ite α (a ≤ b) i x y = x := if_pos h
theorem ite_lt {α : Type} {a b : Nat} {x y : α} {i : Decidable (a < b)} (h : a < b) : @ite α (a < b) i x y = x := if_pos h
theorem ite_and {α : Type} {p q : Prop} {x y : α} {i : Decidable (p ∧ q)} (h : p ∧ q) : @ite α (p ∧ q) i x y = x := if_pos h
end Ell
namespace Ell
theorem vIf {v : List Int} : PySem.PyData.tuple (v.map PySem.PyData.int) = vI v := rfl
theorem len_tI {v : List Int} : bfun .len [vI v] = some (.dat (.int v.length)) := by simp
theorem len_tT {v : List (List Int)} : bfun .len [vT v] = some (.dat (.int v.length)) := by simp
theorem cut_nat {α : Type} {xs : List α} {k : Nat} : cut xs none (some (k : Int)) = xs.take k := by rw [cut_to (by omega)]; rfl
theorem cut_nat' {α : Type} {xs : List α} {k : Nat} : cut xs (some ((k : Int) + 1)) none = xs.drop (k + 1) := by rw [cut_from (by omega)]; rfl
end Ell
namespace Ell
open PySem
theorem vI1 {x : Int} : PyData.tuple [.int x] = vI [x] := rfl
theorem cat_tI {a b : List Int} : binop .add (vI a) (vI b) = if leN (a.length + b.length) sizeLine then some (.dat (vI (a ++ b))) else none := by
  show binop .add (.tuple _) (.tuple _) = _
  rw [b_catt]
  simp
theorem slice_tI {a : List Int} {lo hi : Option Int} : slice (vI a) lo hi = some (.dat (vI (cut a lo hi))) := by
  show slice (.tuple _) lo hi = _
  rw [sl_t]
  unfold cut
  simp
theorem nth_mapE {α β : Type} {f : α → β} {xs : List α} {i : Int} : nth (xs.map f) i = (nth xs i).map f := by
  unfold nth
  rw [List.length_map]
  cases ixn xs.length i with
  | none => rfl
  | some j => show (xs.map f)[j]? = (xs[j]?).map f; rw [List.getElem?_map]
theorem index_tI {a : List Int} {i : Int} : index (vI a) (.int i) = (nth a i).map .int := by
  show index (.tuple _) _ = _
  rw [ix_t, nth_mapE]
theorem index_tT {a : List (List Int)} {i : Int} : index (vT a) (.int i) = (nth a i).map vI := by
  show index (.tuple _) _ = _
  rw [ix_t, nth_mapE]
  rfl
theorem dic_tI {a : List Int} : isDic (vI a) = false := rfl
theorem dic_tT {a : List (List Int)} : isDic (vT a) = false := rfl
theorem over_tI {a : List Int} : overD (vI a) = some (a.map .int) := rfl
theorem over_tT {a : List (List Int)} : overD (vT a) = some (a.map vI) := rfl
theorem items_tI {a : List Int} : itemsOf (vI a) = some (a.map .int) := rfl
theorem items_tT {a : List (List Int)} : itemsOf (vT a) = some (a.map vI) := rfl
theorem tup_tI {a : List Int} : bfun .tuple [.list (a.map PyData.int)] = some (.dat (vI a)) := by simp
theorem tup_tT {a : List (List Int)} : bfun .tuple [.list (a.map vI)] = some (.dat (vT a)) := by rw [f_tupl]; rfl
theorem fr_tI {a b : List Int} : PyData.eqv (vI a) (vI b) = decide (a = b) := by simp
theorem rep_tI {a : List Int} {k : Int} (h0 : -1000 ≤ k) (h1 : k ≤ 1000) (h2 : a.length ≤ 1000) : binop .mul (vI a) (.int k) = some (.dat (vI (List.replicate k.toNat a).flatten)) := by
  show binop .mul (.tuple _) _ = _
  rw [b_rept, if_pos ⟨h0, h1, show (a.map PyData.int).length ≤ 1000 by rw [List.length_map]; exact h2⟩]
  simp [List.map_flatten]
theorem sh_tI {a : List Int} : SeqAt.shaped (vI a) = true := by simp
theorem bs_tI {a : List Int} {d : D} : bothStr (vI a) d = false := by simp
end Ell
namespace Ell
/-- a for loop whose turns leave all as it was -/
theorem for_same {α : Type} {tg : Tgt} {it : CE} {b : CS} {ρ : Rho} (enc : α → D) {xs : List α} (R : Rho) (B : α → Rho) (hI : evI it ρ = .ok (xs.map enc) R) (hb : ∀ a ∈ xs, bindT tg (enc a) R = some (B a)) (hs : ∀ a ∈ xs, evS b (B a) = .next R) : evS (.for_ tg it b) ρ = .next R :=
  (for_fold enc (fun _ : Unit => R) (fun _ _ => ()) (fun _ => B) (fun _ => True) (s0 := ()) hI trivial (fun _ a ha _ => hb a ha) (fun _ a ha _ => ⟨trivial, hs a ha⟩)).1
end Ell
namespace Ell
open PySem
theorem wip_len' (ρ : Rho) : ∀ l : List Nat, (wip ρ l).length = ρ.length
  | [] => rfl
  | i :: r => by show ((wip ρ r).set i .un).length = _; rw [List.length_set, wip_len' ρ r]
theorem wip_at' (ρ : Rho) (i : Nat) : ∀ l : List Nat, (wip ρ l)[i]? = if i ∈ l ∧ i < ρ.length then some Slot.un else ρ[i]?
  | [] => by simp
  | j :: l => by
    show ((wip ρ l).set j .un)[i]? = _
    rw [List.getElem?_set, wip_len', wip_at' ρ i l]
    by_cases e : j = i
    · subst e
      by_cases h : j < ρ.length <;> simp [h]
    · simp [e, Ne.symm e]
theorem wip_sub' (ρ : Rho) {l l' : List Nat} (h : ∀ i ∈ l, i ∈ l') : wip (wip ρ l) l' = wip ρ l' := by
  refine List.ext_getElem? fun i => ?_
  rw [wip_at', wip_at', wip_at', wip_len']
  by_cases c : i ∈ l' ∧ i < ρ.length
  · rw [if_pos c, if_pos c]
  · rw [if_neg c, if_neg c, if_neg fun z => c ⟨h i z.1, z.2⟩]
theorem lc2Step_w {tg : Tgt} {own : List Nat} {cond : Rho → Res Val} {g : Rho → Res (List D)} {x : D} {ρ : Rho} : lc2Step tg own cond g x ρ = lc2Step tg own cond g x (wip ρ own) := by
  show lc2Go cond g (bindT tg x (wip ρ own)) = lc2Go cond g (bindT tg x (wip (wip ρ own) own))
  rw [wip_wip]
/-- a comprehension of two clauses that changes nothing -/
theorem lc2_spec {α β : Type} {tg tg1 : Tgt} {it cond it1 cond1 elt : CE} {own own1 : List Nat} {ρ : Rho} (enc : α → D) (enc1 : β → D) {xs : List α} (ys : α → List β) (p : α → Bool) (q : α → β → Bool) (g : α → β → D) (B : α → Rho) (C : α → β → Rho)
    (hI : evI it ρ = .ok (xs.map enc) ρ) (nd : own.Nodup) (hsub : ∀ i ∈ own1, i ∈ own)
    (hb : ∀ a ∈ xs, bindT tg (enc a) (wip ρ own) = some (B a)) (hw : ∀ a ∈ xs, wip (B a) own = wip ρ own) (hc : ∀ a ∈ xs, kB (evP cond (B a)) = .ok (p a) (B a))
    (hI1 : ∀ a ∈ xs, p a = true → evI it1 (B a) = .ok ((ys a).map enc1) (B a)) (hb1 : ∀ a ∈ xs, ∀ b ∈ ys a, bindT tg1 (enc1 b) (wip (B a) own1) = some (C a b)) (hw1 : ∀ a ∈ xs, ∀ b ∈ ys a, wip (C a b) own1 = wip (B a) own1)
    (hc1 : ∀ a ∈ xs, ∀ b ∈ ys a, kB (evP cond1 (C a b)) = .ok (q a b) (C a b)) (he : ∀ a ∈ xs, ∀ b ∈ ys a, q a b = true → kD (evP elt (C a b)) = .ok (g a b) (C a b))
    (hl : ((xs.filter p).flatMap fun a => ((ys a).filter (q a)).map (g a)).length ≤ sizeLine) (hr : restore ρ ρ own = ρ) :
    evP (.lc2 tg it cond tg1 it1 cond1 elt own own1) ρ = .ok (.tmp (.own (.lst ((xs.filter p).flatMap fun a => ((ys a).filter (q a)).map (g a))))) ρ := by
  have inner : ∀ (a : α), a ∈ xs → ∀ (zs : List β), (∀ b ∈ zs, b ∈ ys a) → ∀ ρ1, wip ρ1 own1 = wip (B a) own1 → ∃ ρ2, wip ρ2 own1 = wip (B a) own1 ∧ lcL (lcStep tg1 own1 (evP cond1) (evP elt)) (zs.map enc1) ρ1 = .ok ((zs.filter (q a)).map (g a)) ρ2 := by
    intro a ha zs
    induction zs with
    | nil => intro _ ρ1 h; exact ⟨ρ1, h, rfl⟩
    | cons b zs ih =>
      intro hm ρ1 h
      have hbm := hm b List.mem_cons_self
      obtain ⟨ρ2, h2, e2⟩ := ih (fun c hc => hm c (List.mem_cons_of_mem _ hc)) (C a b) (hw1 a ha b hbm)
      refine ⟨ρ2, h2, ?_⟩
      show lcK (lcL (lcStep tg1 own1 (evP cond1) (evP elt)) (zs.map enc1)) (lcGo (evP cond1) (evP elt) (bindT tg1 (enc1 b) (wip ρ1 own1))) = _
      rw [h, hb1 a ha b hbm]
      show lcK _ (lcIf (evP elt) (kB (evP cond1 (C a b)))) = _
      rw [hc1 a ha b hbm]
      cases qq : q a b with
      | false =>
        rw [List.filter_cons_of_neg (by rw [qq]; exact Bool.false_ne_true)]
        exact e2
      | true =>
        rw [List.filter_cons_of_pos qq]
        show lcK _ (lcEnd (kD (evP elt (C a b)))) = _
        rw [he a ha b hbm qq]
        show consR (g a b) (lcL _ (zs.map enc1) (C a b)) = _
        rw [e2]; rfl
  have outer : ∀ (zs : List α), (∀ a ∈ zs, a ∈ xs) → ∀ ρ1, wip ρ1 own = wip ρ own → ∃ ρ2, wip ρ2 own = wip ρ own ∧ lc2L (lc2Step tg own (evP cond) (fun ρ => lc2In (lcStep tg1 own1 (evP cond1) (evP elt)) (evI it1 ρ))) (zs.map enc) ρ1 = .ok ((zs.filter p).flatMap fun a => ((ys a).filter (q a)).map (g a)) ρ2 := by
    intro zs
    induction zs with
    | nil => intro _ ρ1 h; exact ⟨ρ1, h, rfl⟩
    | cons a zs ih =>
      intro hm ρ1 h
      have ha := hm a List.mem_cons_self
      have ih := ih (fun c hc => hm c (List.mem_cons_of_mem _ hc))
      have e0 : lc2L (lc2Step tg own (evP cond) (fun ρ => lc2In (lcStep tg1 own1 (evP cond1) (evP elt)) (evI it1 ρ))) ((a :: zs).map enc) ρ1 = lc2K (lc2L (lc2Step tg own (evP cond) (fun ρ => lc2In (lcStep tg1 own1 (evP cond1) (evP elt)) (evI it1 ρ))) (zs.map enc)) (lc2Go (evP cond) (fun ρ => lc2In (lcStep tg1 own1 (evP cond1) (evP elt)) (evI it1 ρ)) (bindT tg (enc a) (wip ρ1 own))) := rfl
      rw [h, hb a ha] at e0
      have e1 : lc2Go (evP cond) (fun ρ => lc2In (lcStep tg1 own1 (evP cond1) (evP elt)) (evI it1 ρ)) (some (B a)) = lc2If (fun ρ => lc2In (lcStep tg1 own1 (evP cond1) (evP elt)) (evI it1 ρ)) (kB (evP cond (B a))) := rfl
      rw [e1, hc a ha] at e0
      rw [e0]
      cases pp : p a with
      | false =>
        obtain ⟨ρ2, h2, e2⟩ := ih (B a) (hw a ha)
        refine ⟨ρ2, h2, ?_⟩
        rw [List.filter_cons_of_neg (by rw [pp]; exact Bool.false_ne_true)]
        show appR [] (lc2L _ (zs.map enc) (B a)) = _
        rw [e2]; rfl
      | true =>
        obtain ⟨ρ3, h3, e3⟩ := inner a ha (ys a) (fun _ h => h) (B a) rfl
        have h4 : wip ρ3 own = wip ρ own := by
          rw [← wip_sub' ρ3 hsub, h3, wip_sub' (B a) hsub, hw a ha]
        obtain ⟨ρ2, h2, e2⟩ := ih ρ3 h4
        refine ⟨ρ2, h2, ?_⟩
        rw [List.filter_cons_of_pos pp, List.flatMap_cons]
        show lc2K _ (lc2In _ (evI it1 (B a))) = _
        rw [hI1 a ha pp]
        show lc2K _ (lcL _ ((ys a).map enc1) (B a)) = _
        rw [e3]
        show appR _ (lc2L _ (zs.map enc) ρ3) = _
        rw [e2]; rfl
  obtain ⟨ρ2, h2, e⟩ := outer xs (fun _ h => h) ρ rfl
  show lc2All _ own (evI it ρ) = _
  rw [hI]
  show lc2Fin ρ own (lc2L _ (xs.map enc) ρ) = _
  rw [e]
  show (if leN _ sizeLine then _ else _) = _
  rw [if_pos (show leN _ sizeLine from hl)]
  show Res.ok _ (restore ρ ρ2 own) = _
  rw [← restore_w ρ own nd ρ2, h2, restore_w ρ own nd ρ, hr]
end Ell
set_option autoImplicit false
namespace Ell
open PySem
/-! sorted(set(..)), sorted(..) of ints -/
theorem insS_mem {k x : Int} : ∀ {l : List Int}, x ∈ insS k l ↔ x = k ∨ x ∈ l
  | [] => by simp [insS]
  | y :: l => by
    unfold insS
    by_cases h : k < y
    · rw [if_pos h]; simp
    · rw [if_neg h]
      by_cases e : k = y
      · rw [if_pos e]; subst e; simp
      · rw [if_neg e, List.mem_cons, insS_mem, List.mem_cons]
        constructor
        · rintro (h | h | h)
          · exact .inr (.inl h)
          · exact .inl h
          · exact .inr (.inr h)
        · rintro (h | h | h)
          · exact .inr (.inl h)
          · exact .inl h
          · exact .inr (.inr h)
theorem insS_asc {k : Int} : ∀ {l : List Int}, l.Pairwise (· < ·) → (insS k l).Pairwise (· < ·)
  | [], _ => List.pairwise_singleton _ _
  | y :: l, h => by
    have h2 := List.pairwise_cons.mp h
    unfold insS
    by_cases c : k < y
    · rw [if_pos c]
      refine List.pairwise_cons.mpr ⟨fun z hz => ?_, h⟩
      rcases List.mem_cons.mp hz with rfl | hz
      · exact c
      · exact Int.lt_trans c (h2.1 z hz)
    · rw [if_neg c]
      by_cases e : k = y
      · rw [if_pos e]; exact h
      · rw [if_neg e]
        refine List.pairwise_cons.mpr ⟨fun z hz => ?_, insS_asc h2.2⟩
        rcases insS_mem.mp hz with rfl | hz
        · omega
        · exact h2.1 z hz
theorem mem_ss {x : Int} : ∀ {l : List Int}, x ∈ ssort l ↔ x ∈ l
  | [] => Iff.rfl
  | y :: l => by
    show x ∈ insS y (ssort l) ↔ _
    rw [insS_mem, mem_ss, List.mem_cons]
theorem asc_ss : ∀ l : List Int, (ssort l).Pairwise (· < ·)
  | [] => List.Pairwise.nil
  | y :: l => insS_asc (asc_ss l)
theorem insS_len {k : Int} : ∀ {l : List Int}, l.Pairwise (· < ·) → (insS k l).length = if k ∈ l then l.length else l.length + 1
  | [], _ => rfl
  | y :: l, h => by
    have h2 := List.pairwise_cons.mp h
    unfold insS
    by_cases c : k < y
    · rw [if_pos c, if_neg]
      · rfl
      · intro hm
        rcases List.mem_cons.mp hm with e | hm
        · omega
        · have := h2.1 k hm; omega
    · rw [if_neg c]
      by_cases e : k = y
      · rw [if_pos e, if_pos (by rw [e]; exact List.mem_cons_self)]
      · rw [if_neg e, List.length_cons, insS_len h2.2, List.length_cons]
        by_cases m : k ∈ l
        · rw [if_pos m, if_pos (List.mem_cons_of_mem _ m)]
        · rw [if_neg m, if_neg (fun z => by rcases List.mem_cons.mp z with z | z; exact e z; exact m z)]
theorem ss_le : ∀ l : List Int, (ssort l).length ≤ l.length
  | [] => Nat.le_refl _
  | y :: l => by
    show (insS y (ssort l)).length ≤ _
    rw [insS_len (asc_ss l), List.length_cons]
    have := ss_le l
    by_cases m : y ∈ ssort l
    · rw [if_pos m]; omega
    · rw [if_neg m]; omega
theorem ss_nodup : ∀ {l : List Int}, (ssort l).length = l.length ↔ l.Nodup
  | [] => ⟨fun _ => List.Pairwise.nil, fun _ => rfl⟩
  | y :: l => by
    show (insS y (ssort l)).length = _ ↔ _
    rw [insS_len (asc_ss l), List.length_cons, List.nodup_cons]
    have := ss_le l
    have ih := ss_nodup (l := l)
    by_cases m : y ∈ ssort l
    · rw [if_pos m]
      constructor
      · intro h; omega
      · intro h; exact absurd (mem_ss.mp m) h.1
    · rw [if_neg m]
      constructor
      · intro h; exact ⟨fun z => m (mem_ss.mpr z), ih.mp (by omega)⟩
      · intro h; rw [ih.mpr h.2]
/-- two strictly ascending rows with the same members are one -/
theorem asc_ext : ∀ {l m : List Int}, l.Pairwise (· < ·) → m.Pairwise (· < ·) → (∀ x, x ∈ l ↔ x ∈ m) → l = m
  | [], [], _, _, _ => rfl
  | [], y :: m, _, _, h => by have := (h y).mpr List.mem_cons_self; cases this
  | x :: l, [], _, _, h => by have := (h x).mp List.mem_cons_self; cases this
  | x :: l, y :: m, hl, hm, h => by
    have l2 := List.pairwise_cons.mp hl
    have m2 := List.pairwise_cons.mp hm
    have e : x = y := by
      have a := (h x).mp List.mem_cons_self
      have b := (h y).mpr List.mem_cons_self
      rcases List.mem_cons.mp a with a | a
      · exact a
      · rcases List.mem_cons.mp b with b | b
        · exact b.symm
        · have := m2.1 x a; have := l2.1 y b; omega
    subst e
    rw [asc_ext l2.2 m2.2 fun z => ?_]
    have := h z
    constructor
    · intro hz
      rcases List.mem_cons.mp (this.mp (List.mem_cons_of_mem _ hz)) with e | q
      · have := l2.1 z hz; omega
      · exact q
    · intro hz
      rcases List.mem_cons.mp (this.mpr (List.mem_cons_of_mem _ hz)) with e | q
      · have := m2.1 z hz; omega
      · exact q
theorem ss_ext {l m : List Int} (h : ∀ x, x ∈ l ↔ x ∈ m) : ssort l = ssort m := asc_ext (asc_ss l) (asc_ss m) fun x => by rw [mem_ss, mem_ss]; exact h x
theorem ss_asc {l : List Int} (h : l.Pairwise (· < ·)) : ssort l = l := asc_ext (asc_ss l) h fun x => mem_ss
end Ell
namespace Ell
open PySem
/-- a for loop that may return -/
theorem for_ret {α β : Type} {tg : Tgt} {it : CE} {b : CS} {ρ ρ0 : Rho} (enc : α → D) {xs : List α} (r : α → Option β) (g : β → Slot) (B : α → Rho) (hI : evI it ρ = .ok (xs.map enc) ρ0)
    (hb : ∀ a ∈ xs, bindT tg (enc a) ρ0 = some (B a)) (h1 : ∀ a ∈ xs, r a = none → evS b (B a) = .next ρ0) (h2 : ∀ a ∈ xs, ∀ v, r a = some v → ∃ ρ', evS b (B a) = .ret (g v) ρ') :
    (xs.findSome? r = none → evS (.for_ tg it b) ρ = .next ρ0) ∧ (∀ v, xs.findSome? r = some v → ∃ ρ', evS (.for_ tg it b) ρ = .ret (g v) ρ') := by
  have e : evS (.for_ tg it b) ρ = forL (forStep tg (evS b)) (xs.map enc) ρ0 := by
    show forO (forStep tg (evS b)) (evI it ρ) = _
    rw [hI]; rfl
  rw [e]
  clear e hI
  induction xs with
  | nil => exact ⟨(fun _ => rfl), fun v h => nomatch h⟩
  | cons a xs ih =>
    have ih := ih (fun c hc => hb c (List.mem_cons_of_mem _ hc)) (fun c hc => h1 c (List.mem_cons_of_mem _ hc)) (fun c hc => h2 c (List.mem_cons_of_mem _ hc))
    have e : forL (forStep tg (evS b)) ((a :: xs).map enc) ρ0 = turnO (forL (forStep tg (evS b)) (xs.map enc)) (evS b (B a)) := by
      show turnO (forL (forStep tg (evS b)) (xs.map enc)) (goO (evS b) (bindT tg (enc a) ρ0)) = _
      rw [hb a List.mem_cons_self]; rfl
    rw [e]
    cases q : r a with
    | none =>
      rw [h1 a List.mem_cons_self q, List.findSome?_cons_of_isNone (by rw [q]; rfl)]
      exact ih
    | some v =>
      obtain ⟨ρ', e2⟩ := h2 a List.mem_cons_self v q
      rw [e2, List.findSome?_cons_of_isSome (by rw [q]; rfl), q]
      exact ⟨(fun h => nomatch h), fun v' h => by cases h; exact ⟨ρ', rfl⟩⟩
theorem filtT {α : Type} {l : List α} : l.filter (fun _ => true) = l := List.filter_eq_self.mpr fun _ _ => rfl
@[simp] theorem outS_dat {d : D} {o : Option Slot} : outS (.dat d) o = .un := by cases o <;> rfl
@[simp] theorem outS_ro {d : List D} {o : Option Slot} : outS (.ro d) o = .un := by cases o <;> rfl
@[simp] theorem outS_un {o : Option Slot} : outS .un o = .un := by cases o <;> rfl
end Ell
namespace Ell
open PySem
@[simp] theorem eqva_ints_nil : ∀ xs : List Int, PyData.eqvAll (xs.map PyData.int) [] = decide (xs = [])
  | [] => rfl
  | x :: xs => by simp
end Ell
namespace Ell
theorem cut_1m1 {α : Type} {xs : List α} : cut xs (some 1) (some (-1)) = (xs.drop 1).dropLast := by
  show (xs.drop (six xs.length 0 (some 1))).take (six xs.length xs.length (some (-1)) - six xs.length 0 (some 1)) = _
  have e1 : six xs.length 0 (some 1) = min 1 xs.length := rfl
  have e2 : six xs.length xs.length (some (-1)) = xs.length - 1 := by show (if (-1 : Int) < 0 then ((-1 : Int) + xs.length).toNat else min ((-1 : Int).toNat) xs.length) = _; rw [if_pos (by decide)]; omega
  rw [e1, e2, List.dropLast_eq_take, List.length_drop]
  cases xs with
  | nil => rfl
  | cons x xs => rw [show min 1 (x :: xs).length = 1 by simp]
end Ell
namespace Ell
@[simp] theorem allT {α : Type} {l : List α} : (l.all fun _ => true) = true := List.all_eq_true.mpr fun _ _ => rfl
end Ell
set_option autoImplicit false
/-! P4: helps that several laws use. -/
namespace Ell
open PySem
theorem szle {n : Nat} (h : n ≤ 16777216) : n ≤ sizeLine := by rw [sizeLine_eq]; exact h
theorem for_inv {α σ : Type} {tg : Tgt} {it : CE} {b : CS} {ρ : Rho} (enc : α → D) {xs : List α} (R : σ → Rho) (B : σ → α → Rho) (I : Nat → σ → Prop) {s0 : σ} (hI : evI it ρ = .ok (xs.map enc) (R s0)) (h0 : I 0 s0)
    (hb : ∀ s a, bindT tg (enc a) (R s) = some (B s a)) (hs : ∀ i a s, xs[i]? = some a → I i s → ∃ s', I (i + 1) s' ∧ evS b (B s a) = .next (R s')) : ∃ s', I xs.length s' ∧ evS (.for_ tg it b) ρ = .next (R s') := by
  have key : ∀ (ys : List α) (k : Nat) (s : σ), (∀ i a, ys[i]? = some a → xs[k + i]? = some a) → I k s → ∃ s', I (k + ys.length) s' ∧ forL (forStep tg (evS b)) (ys.map enc) (R s) = .next (R s') := by
    intro ys
    induction ys with
    | nil => intro k s _ h; exact ⟨s, h, rfl⟩
    | cons a ys ih =>
      intro k s hx h
      have ha := hx 0 a rfl
      rw [Nat.add_zero] at ha
      obtain ⟨s1, i1, e⟩ := hs k a s ha h
      obtain ⟨s', i', e2⟩ := ih (k + 1) s1 (fun i b hb => by rw [show k + 1 + i = k + (i + 1) by omega]; exact hx (i + 1) b (by simpa using hb)) i1
      refine ⟨s', by rw [List.length_cons, show k + (ys.length + 1) = k + 1 + ys.length by omega]; exact i', ?_⟩
      show turnO (forL (forStep tg (evS b)) (ys.map enc)) (goO (evS b) (bindT tg (enc a) (R s))) = _
      rw [hb s a]
      show turnO _ (evS b (B s a)) = _
      rw [e]
      exact e2
  obtain ⟨s', i', e⟩ := key xs 0 s0 (fun i a h => by rw [Nat.zero_add]; exact h) h0
  rw [Nat.zero_add] at i'
  refine ⟨s', i', ?_⟩
  show forO (forStep tg (evS b)) (evI it ρ) = _
  rw [hI]
  exact e
theorem lc_drawF {α : Type} {tg : Tgt} {it cond elt : CE} {own : List Nat} (enc en2 : α → D) {xs : List α} (S : Int → Rho) (B C : Int → α → Rho) (cost n0 : Int) (c0 : 0 ≤ cost) (hI : evI it (S n0) = .ok (xs.map enc) (S n0)) (hl : xs.length ≤ sizeLine) (nd : own.Nodup)
    (hS : ∀ n, wip (S n) own = S n) (hb : ∀ n a, a ∈ xs → bindT tg (enc a) (S n) = some (B n a))
    (hc : ∀ n a, a ∈ xs → n0 ≤ n → n ≤ n0 + cost * xs.length → ∃ k n', n ≤ n' ∧ n' ≤ n + cost ∧ kB (evP cond (B n a)) = .ok k (C n' a)) (he : ∀ n a, a ∈ xs → kD (evP elt (C n a)) = .ok (en2 a) (C n a)) (hw : ∀ n a, a ∈ xs → wip (C n a) own = S n) (hr : ∀ n m, restore (S n) (S m) own = S m) :
    ∃ (vs : List α) (n' : Int), List.Sublist vs xs ∧ n0 ≤ n' ∧ n' ≤ n0 + cost * xs.length ∧ evP (.lc tg it cond elt own) (S n0) = .ok (.tmp (.own (.lst (vs.map en2)))) (S n') := by
  have key : ∀ (ys : List α) (n : Int) (ρ1 : Rho), (∀ a ∈ ys, a ∈ xs) → n0 ≤ n → n + cost * ys.length ≤ n0 + cost * xs.length → wip ρ1 own = S n →
      ∃ (vs : List α) (n' : Int) (ρ2 : Rho), List.Sublist vs ys ∧ n ≤ n' ∧ n' ≤ n + cost * ys.length ∧ wip ρ2 own = S n' ∧ lcL (lcStep tg own (evP cond) (evP elt)) (ys.map enc) ρ1 = .ok (vs.map en2) ρ2 := by
    intro ys
    induction ys with
    | nil => intro n ρ1 _ _ _ h; exact ⟨[], n, ρ1, .slnil, by omega, by simp, h, rfl⟩
    | cons a ys ih =>
      intro n ρ1 hx h0 h1 h
      have ha := hx a List.mem_cons_self
      have e1 : cost * ((a :: ys).length : Int) = cost * ys.length + cost := by rw [List.length_cons]; push_cast; rw [Int.mul_add, Int.mul_one]
      have p1 : 0 ≤ cost * (ys.length : Int) := Int.mul_nonneg c0 (by omega)
      rw [e1] at h1
      obtain ⟨k, m, m0, m1, ev⟩ := hc n a ha h0 (by omega)
      obtain ⟨vs, n', ρ2, l2, q0, q1, w2, e2⟩ := ih m (C m a) (fun b hb => hx b (List.mem_cons_of_mem _ hb)) (by omega) (by omega) (hw m a ha)
      have es : lcL (lcStep tg own (evP cond) (evP elt)) ((a :: ys).map enc) ρ1 = lcK (lcL (lcStep tg own (evP cond) (evP elt)) (ys.map enc)) (lcIf (evP elt) (.ok k (C m a))) := by
        show lcK (lcL (lcStep tg own (evP cond) (evP elt)) (ys.map enc)) (lcGo (evP cond) (evP elt) (bindT tg (enc a) (wip ρ1 own))) = _
        rw [h, hb n a ha]
        show lcK _ (lcIf (evP elt) (kB (evP cond (B n a)))) = _
        rw [ev]
      cases k with
      | true =>
        refine ⟨a :: vs, n', ρ2, l2.cons_cons a, by omega, by rw [e1]; omega, w2, ?_⟩
        rw [es]
        show lcK _ (lcEnd (kD (evP elt (C m a)))) = _
        rw [he m a ha]
        show consR (en2 a) (lcL (lcStep tg own (evP cond) (evP elt)) (ys.map enc) (C m a)) = _
        rw [e2]; rfl
      | false =>
        refine ⟨vs, n', ρ2, l2.cons a, by omega, by rw [e1]; omega, w2, ?_⟩
        rw [es]
        show lcL (lcStep tg own (evP cond) (evP elt)) (ys.map enc) (C m a) = _
        rw [e2]
  obtain ⟨vs, n', ρ2, l2, q0, q1, w2, e2⟩ := key xs n0 (S n0) (fun _ h => h) (by omega) (by omega) (hS n0)
  refine ⟨vs, n', l2, q0, q1, ?_⟩
  show lcAll (lcStep tg own (evP cond) (evP elt)) own (evI it (S n0)) = _
  rw [hI]
  show (if leN (xs.map enc).length sizeLine then lcFin (S n0) own (lcL (lcStep tg own (evP cond) (evP elt)) (xs.map enc) (S n0)) else .stuck) = _
  rw [List.length_map, if_pos (show leN xs.length sizeLine from hl), e2]
  show Res.ok _ (restore (S n0) ρ2 own) = _
  rw [← restore_w (S n0) own nd ρ2, w2, hr]
theorem pick {L : List Int} {v : Int} (h : 0 ≤ v ∧ v < L.length) : ∃ w ∈ L, nth (L.map PyData.int) v = some (.int w) := by
  have hi : v.toNat < L.length := by omega
  refine ⟨L[v.toNat], List.getElem_mem hi, ?_⟩
  rw [nth_mapE]
  unfold nth ixn
  rw [if_pos h.1, if_pos h.2]
  show (L[v.toNat]?).map _ = _
  rw [List.getElem?_eq_getElem hi]; rfl
theorem fmm {a m : Int} (h : 0 < m) : 0 ≤ a.fmod m ∧ a.fmod m < m := by
  rw [Int.fmod_eq_emod_of_nonneg _ (Int.le_of_lt h)]
  exact ⟨Int.emod_nonneg _ (by omega), Int.emod_lt_of_pos _ h⟩
theorem for_ex {α σ : Type} {tg : Tgt} {it : CE} {b : CS} {ρ : Rho} (enc : α → D) {xs : List α} (R : σ → Rho) (B : σ → α → Rho) (I : σ → Prop) (P : Ell.Slot → Prop) {s0 : σ} (hI : evI it ρ = .ok (xs.map enc) (R s0)) (h0 : I s0)
    (hb : ∀ s a, bindT tg (enc a) (R s) = some (B s a)) (hs : ∀ s a, a ∈ xs → I s → (∃ s', I s' ∧ evS b (B s a) = .next (R s')) ∨ ∃ v ρ', P v ∧ evS b (B s a) = .ret v ρ') :
    (∃ s', I s' ∧ evS (.for_ tg it b) ρ = .next (R s')) ∨ ∃ v ρ', P v ∧ evS (.for_ tg it b) ρ = .ret v ρ' := by
  have key : ∀ (ys : List α) (s : σ), (∀ a ∈ ys, a ∈ xs) → I s → (∃ s', I s' ∧ forL (forStep tg (evS b)) (ys.map enc) (R s) = .next (R s')) ∨ ∃ v ρ', P v ∧ forL (forStep tg (evS b)) (ys.map enc) (R s) = .ret v ρ' := by
    intro ys
    induction ys with
    | nil => intro s _ h; exact .inl ⟨s, h, rfl⟩
    | cons a ys ih =>
      intro s hm h
      have e : forL (forStep tg (evS b)) ((a :: ys).map enc) (R s) = turnO (forL (forStep tg (evS b)) (ys.map enc)) (evS b (B s a)) := by
        show turnO (forL (forStep tg (evS b)) (ys.map enc)) (goO (evS b) (bindT tg (enc a) (R s))) = _
        rw [hb s a]; rfl
      rw [e]
      rcases hs s a (hm a List.mem_cons_self) h with ⟨s1, i1, e1⟩ | ⟨v, ρ', pv, e1⟩
      · rw [e1]; exact ih s1 (fun c hc => hm c (List.mem_cons_of_mem _ hc)) i1
      · rw [e1]; exact .inr ⟨v, ρ', pv, rfl⟩
  have e : evS (.for_ tg it b) ρ = forL (forStep tg (evS b)) (xs.map enc) (R s0) := by
    show forO (forStep tg (evS b)) (evI it ρ) = _
    rw [hI]; rfl
  rw [e]
  exact key xs s0 (fun _ h => h) h0
theorem pickD {α : Type} (enc : α → D) {L : List α} {v : Int} (h : 0 ≤ v ∧ v < L.length) : ∃ w ∈ L, nth (L.map enc) v = some (enc w) := by
  have hi : v.toNat < L.length := by omega
  refine ⟨L[v.toNat], List.getElem_mem hi, ?_⟩
  rw [nth_mapE]
  unfold nth ixn
  rw [if_pos h.1, if_pos h.2]
  show (L[v.toNat]?).map _ = _
  rw [List.getElem?_eq_getElem hi]; rfl
theorem for_all {α : Type} {tg : Tgt} {it : CE} {b : CS} {ρ ρ0 : Rho} (enc : α → D) {xs : List α} (p : α → Bool) (B : α → Rho) (hI : evI it ρ = .ok (xs.map enc) ρ0)
    (hb : ∀ a ∈ xs, bindT tg (enc a) ρ0 = some (B a)) (h1 : ∀ a ∈ xs, p a = true → evS b (B a) = .next ρ0) (h2 : ∀ a ∈ xs, p a = false → ∃ ρ', evS b (B a) = .ret (.dat (.bool false)) ρ') :
    (xs.all p = true → evS (.for_ tg it b) ρ = .next ρ0) ∧ (xs.all p = false → ∃ ρ', evS (.for_ tg it b) ρ = .ret (.dat (.bool false)) ρ') := by
  obtain ⟨a, c⟩ := for_ret (tg := tg) (b := b) enc (fun a => if p a = true then none else some ()) (fun _ => .dat (.bool false)) B hI hb (fun a ha h => h1 a ha (by
    by_cases q : p a = true
    · exact q
    · rw [if_neg q] at h; cases h)) (fun a ha v h => h2 a ha (by
    by_cases q : p a = true
    · rw [if_pos q] at h; cases h
    · exact Bool.eq_false_iff.mpr q))
  have key : xs.findSome? (fun a => if p a = true then none else some ()) = if xs.all p = true then none else some () := by
    clear hI hb h1 h2 a c
    induction xs with
    | nil => rfl
    | cons x xs ih =>
      by_cases q : p x = true
      · rw [List.findSome?_cons_of_isNone (by rw [if_pos q]; rfl), ih, List.all_cons, q, Bool.true_and]
      · rw [List.findSome?_cons_of_isSome (by rw [if_neg q]; rfl), if_neg q, List.all_cons, Bool.eq_false_iff.mpr q, Bool.false_and]; rfl
  rw [key] at a c
  exact ⟨fun h => a (by rw [if_pos h]), fun h => c () (by rw [if_neg (by rw [h]; exact Bool.false_ne_true)])⟩
theorem bools_all {α : Type} {p : α → Bool} : ∀ xs : List α, bools? (xs.map fun a => PyData.bool (p a)) = some (xs.map p)
  | [] => rfl
  | a :: xs => by
    show (bools? (xs.map fun a => PyData.bool (p a))).map _ = _
    rw [bools_all xs]; rfl
theorem any_eqv {l : List Int} {i : Int} : (l.any ((fun z => PyData.eqv z (.int i)) ∘ PyData.int)) = decide (i ∈ l) := by
  rw [Bool.eq_iff_iff, List.any_eq_true, decide_eq_true_iff]
  constructor
  · rintro ⟨z, hz, e⟩
    have e : PyData.eqv (.int z) (.int i) = true := e
    rw [eqv_int] at e
    obtain rfl := of_decide_eq_true e
    exact hz
  · intro h
    exact ⟨i, h, by show PyData.eqv (.int i) (.int i) = true; rw [eqv_int]; exact decide_eq_true rfl⟩
theorem asc_zip : ∀ {l : List Int}, l.Pairwise (· < ·) → ∀ p ∈ l.zip (l.drop 1), p.1 < p.2
  | [], _, p, h => nomatch h
  | [x], _, p, h => nomatch h
  | x :: y :: l, h, p, hp => by
    obtain ⟨h1, h2⟩ := List.pairwise_cons.mp h
    have hp : p ∈ (x, y) :: (y :: l).zip ((y :: l).drop 1) := hp
    rcases List.mem_cons.mp hp with rfl | hp
    · exact h1 y List.mem_cons_self
    · exact asc_zip h2 p hp
theorem for_foldR {α σ : Type} {tg : Tgt} {it : CE} {b : CS} {ρ : Rho} (enc : α → D) {xs : List α} (R : σ → Rho) (g : σ → α → Option σ) (B : σ → α → Rho) (Inv : σ → Prop) {s0 : σ} (hI : evI it ρ = .ok (xs.map enc) (R s0)) (h0 : Inv s0)
    (hb : ∀ s a, a ∈ xs → Inv s → bindT tg (enc a) (R s) = some (B s a)) (h1 : ∀ s a, a ∈ xs → Inv s → ∀ s', g s a = some s' → Inv s' ∧ evS b (B s a) = .next (R s'))
    (h2 : ∀ s a, a ∈ xs → Inv s → g s a = none → ∃ ρ', evS b (B s a) = .ret (.dat (.bool false)) ρ') :
    (∀ s', xs.foldlM g s0 = some s' → evS (.for_ tg it b) ρ = .next (R s')) ∧ (xs.foldlM g s0 = none → ∃ ρ', evS (.for_ tg it b) ρ = .ret (.dat (.bool false)) ρ') := by
  have key : ∀ (ys : List α) (s : σ), (∀ a ∈ ys, a ∈ xs) → Inv s → (∀ s', ys.foldlM g s = some s' → forL (forStep tg (evS b)) (ys.map enc) (R s) = .next (R s')) ∧ (ys.foldlM g s = none → ∃ ρ', forL (forStep tg (evS b)) (ys.map enc) (R s) = .ret (.dat (.bool false)) ρ') := by
    intro ys
    induction ys with
    | nil => intro s _ _; exact ⟨(fun s' h => by cases h; rfl), fun h => by cases h⟩
    | cons a ys ih =>
      intro s hm h
      have ha := hm a List.mem_cons_self
      have e : forL (forStep tg (evS b)) ((a :: ys).map enc) (R s) = turnO (forL (forStep tg (evS b)) (ys.map enc)) (evS b (B s a)) := by
        show turnO (forL (forStep tg (evS b)) (ys.map enc)) (goO (evS b) (bindT tg (enc a) (R s))) = _
        rw [hb s a ha h]; rfl
      rw [e, List.foldlM_cons]
      cases q : g s a with
      | none =>
        obtain ⟨ρ', e2⟩ := h2 s a ha h q
        rw [e2]
        exact ⟨(fun s' h => by cases h), fun _ => ⟨ρ', rfl⟩⟩
      | some s1 =>
        obtain ⟨i1, e2⟩ := h1 s a ha h s1 q
        rw [e2]
        exact ih s1 (fun c hc => hm c (List.mem_cons_of_mem _ hc)) i1
  have e : evS (.for_ tg it b) ρ = forL (forStep tg (evS b)) (xs.map enc) (R s0) := by
    show forO (forStep tg (evS b)) (evI it ρ) = _
    rw [hI]; rfl
  rw [e]
  exact key xs s0 (fun _ h => h) h0
theorem lc_it {tg : Tgt} {it it' cond elt : CE} {own : List Nat} {ρ ρ' : Rho} (h : evI it ρ = evI it' ρ') : evP (.lc tg it cond elt own) ρ = evP (.lc tg it' cond elt own) ρ' := by
  show lcAll _ own (evI it ρ) = lcAll _ own (evI it' ρ')
  rw [h]
theorem pb_lI {r : List Int} (h : ∀ x ∈ r, x.natAbs < big) (hl : r.length ≤ 1000) : pb (.list (r.map .int)) := by
  refine ⟨?_, ?_, ?_, ?_⟩
  · show PyData.showableAll (r.map .int) = true; exact sw_ints h
  · show PyData.canLayAll0 (r.map .int) = true; exact cl_ints r
  · show PyData.depthAll (r.map .int) + 1 ≤ 25; rw [dp_ints]; omega
  · show rsz.rszs (r.map .int) + 2 ≤ _; rw [rz_ints]; omega
theorem prs_pb {d : D} (h : pb d) : prs d := by
  have h1 := h.dp
  have h2 := h.sz
  refine ⟨by simp [h.sh], by simp [h.cl], by simp; omega, ?_⟩
  simp
  have : sizeLine = 16777216 := rfl
  omega
theorem for_turns {tg : Tgt} {it : CE} {b : CS} {xs : List D} (S : Int → Rho) (B : D → Int → Rho) (cost : Int) (c0 : 0 ≤ cost) (hI : evI it (S 0) = .ok xs (S 0)) (hb : ∀ x n, bindT tg x (S n) = some (B x n))
    (hs : ∀ x n, 0 ≤ n → n ≤ cost * xs.length → ∃ n', n ≤ n' ∧ n' ≤ n + cost ∧ evS b (B x n) = .next (S n')) : ∃ n, 0 ≤ n ∧ n ≤ cost * xs.length ∧ evS (.for_ tg it b) (S 0) = .next (S n) := by
  have key : ∀ (ys : List D) (n : Int), 0 ≤ n → n + cost * ys.length ≤ cost * xs.length → ∃ n', n ≤ n' ∧ n' ≤ n + cost * ys.length ∧ forL (forStep tg (evS b)) ys (S n) = .next (S n') := by
    intro ys
    induction ys with
    | nil => intro n _ _; exact ⟨n, by omega, by simp, rfl⟩
    | cons x ys ih =>
      intro n h0 h1
      have e1 : cost * ((x :: ys).length : Int) = cost * ys.length + cost := by rw [List.length_cons]; push_cast; rw [Int.mul_add, Int.mul_one]
      have p1 : 0 ≤ cost * (ys.length : Int) := Int.mul_nonneg c0 (by omega)
      rw [e1] at h1
      obtain ⟨m, m0, m1, e⟩ := hs x n h0 (by omega)
      obtain ⟨n', q0, q1, e2⟩ := ih m (by omega) (by omega)
      refine ⟨n', by omega, by rw [e1]; omega, ?_⟩
      show turnO (forL (forStep tg (evS b)) ys) (goO (evS b) (bindT tg x (S n))) = _
      rw [hb x n]
      show turnO _ (evS b (B x n)) = _
      rw [e]
      exact e2
  obtain ⟨n, q0, q1, e⟩ := key xs 0 (Int.le_refl _) (by omega)
  refine ⟨n, q0, by omega, ?_⟩
  show forO (forStep tg (evS b)) (evI it (S 0)) = _
  rw [hI]
  exact e
theorem ixn_ok {k : Nat} {i : Int} (h : 0 ≤ i ∧ i < k) : ixn k i = some i.toNat := by unfold ixn; rw [if_pos h.1, if_pos h.2]
/-! ### sorted -/
theorem is_perm1 {k : Int} : ∀ {xs : List Int}, (insI k xs).Perm (k :: xs)
  | [] => List.Perm.refl _
  | x :: r => by
    unfold insI
    by_cases h : k ≤ x
    · rw [if_pos h]
    · rw [if_neg h]; exact ((is_perm1 (k := k) (xs := r)).cons x).trans (List.Perm.swap _ _ _)
theorem is_perm : ∀ xs : List Int, (isort xs).Perm xs
  | [] => List.Perm.refl _
  | x :: r => is_perm1.trans ((is_perm r).cons x)
theorem is_le1 {k : Int} : ∀ {xs : List Int}, xs.Pairwise (· ≤ ·) → (insI k xs).Pairwise (· ≤ ·)
  | [], _ => List.pairwise_singleton _ _
  | x :: r, h => by
    have h2 := List.pairwise_cons.mp h
    unfold insI
    by_cases c : k ≤ x
    · rw [if_pos c]
      refine List.pairwise_cons.mpr ⟨fun z hz => ?_, h⟩
      rcases List.mem_cons.mp hz with rfl | hz
      · exact c
      · exact Int.le_trans c (h2.1 z hz)
    · rw [if_neg c]
      refine List.pairwise_cons.mpr ⟨fun z hz => ?_, is_le1 h2.2⟩
      rcases List.mem_cons.mp (is_perm1.mem_iff.mp hz) with rfl | hz
      · omega
      · exact h2.1 z hz
theorem is_le : ∀ xs : List Int, (isort xs).Pairwise (· ≤ ·)
  | [] => List.Pairwise.nil
  | x :: r => is_le1 (is_le r)
theorem mem_is {x : Int} {xs : List Int} : x ∈ isort xs ↔ x ∈ xs := (is_perm xs).mem_iff
theorem is_len (xs : List Int) : (isort xs).length = xs.length := (is_perm xs).length_eq
/-- sorted, of different ones -/
theorem is_asc {xs : List Int} (h : xs.Nodup) : (isort xs).Pairwise (· < ·) := by
  have nd := (is_perm xs).nodup_iff.mpr h
  have le := is_le xs
  exact (le.and nd).imp fun ⟨a, b⟩ => by omega
/-- sorted(xs) is the ascending row with the same members -/
theorem is_eq {xs ys : List Int} (h : xs.Nodup) (a : ys.Pairwise (· < ·)) (m : ∀ x, x ∈ xs ↔ x ∈ ys) : isort xs = ys := asc_ext (is_asc h) a fun x => by rw [mem_is]; exact m x
/-! ### dicts with int keys -/
section
variable {α : Type}
def iget (m : List (Int × α)) (k : Int) : Option α := (m.find? fun p => decide (p.1 = k)).map (·.2)
def iput (m : List (Int × α)) (k : Int) (v : α) : List (Int × α) := if (m.any fun p => decide (p.1 = k)) = true then m.map (fun p => if p.1 = k then (p.1, v) else p) else m ++ [(k, v)]
def iD (enc : α → D) (m : List (Int × α)) : List (Ky × D) := m.map fun p => (Sum.inl p.1, enc p.2)
theorem iget_nil {k : Int} : iget ([] : List (Int × α)) k = none := rfl
theorem iget_cons {p : Int × α} {m : List (Int × α)} {k : Int} : iget (p :: m) k = if p.1 = k then some p.2 else iget m k := by
  unfold iget
  rw [List.find?_cons]
  by_cases h : p.1 = k
  · simp [h]
  · simp [h]
theorem iget_iD (enc : α → D) (k : Int) : ∀ m : List (Int × α), kget (iD enc m) (.inl k) = (iget m k).map enc
  | [] => rfl
  | p :: m => by
    have ih := iget_iD enc k m
    unfold kget iD iget at *
    rw [List.map_cons, List.find?_cons, List.find?_cons]
    by_cases h : p.1 = k
    · simp [h]
    · have h2 : ¬ (Sum.inl p.1 : Ky) = .inl k := fun z => h (by cases z; rfl)
      simp only [decide_eq_false h, decide_eq_false h2]
      exact ih
theorem iany {enc : α → D} {k : Int} (m : List (Int × α)) : ((iD enc m).any fun kv => decide (kv.1 = .inl k)) = m.any fun p => decide (p.1 = k) := by
  induction m with
  | nil => rfl
  | cons p m ih =>
    show (decide ((Sum.inl p.1 : Ky) = .inl k) || (iD enc m).any _) = _
    rw [ih, List.any_cons]
    have : decide ((Sum.inl p.1 : Ky) = .inl k) = decide (p.1 = k) := decide_eq_decide.mpr ⟨fun z => by cases z; rfl, fun z => by rw [z]⟩
    rw [this]
theorem iput_iD (enc : α → D) (k : Int) (v : α) (m : List (Int × α)) : kput (iD enc m) (.inl k) (enc v) = iD enc (iput m k v) := by
  unfold kput iput
  rw [iany]
  by_cases h : (m.any fun p => decide (p.1 = k)) = true
  · rw [if_pos h, if_pos h]
    unfold iD
    rw [List.map_map, List.map_map]
    refine List.map_congr_left fun p _ => ?_
    show (if (Sum.inl p.1 : Ky) = .inl k then ((Sum.inl p.1 : Ky), enc v) else (Sum.inl p.1, enc p.2)) = (Sum.inl (if p.1 = k then (p.1, v) else p).1, enc (if p.1 = k then (p.1, v) else p).2)
    by_cases e : p.1 = k
    · rw [if_pos (by rw [e]), if_pos e]
    · rw [if_neg (fun z => e (by cases z; rfl)), if_neg e]
  · rw [if_neg h, if_neg h]
    unfold iD
    rw [List.map_append]; rfl
theorem iany_get {k : Int} : ∀ m : List (Int × α), (m.any fun p => decide (p.1 = k)) = (iget m k).isSome
  | [] => rfl
  | p :: m => by
    rw [List.any_cons, iany_get m, iget_cons]
    by_cases h : p.1 = k
    · rw [if_pos h]; simp [h]
    · rw [if_neg h]; simp [h]
theorem iget_map {k j : Int} {v : α} : ∀ m : List (Int × α), iget (m.map fun p => if p.1 = k then (p.1, v) else p) j = if j = k then (iget m j).map fun _ => v else iget m j
  | [] => by simp [iget]
  | p :: m => by
    rw [List.map_cons, iget_cons, iget_cons, iget_map m]
    by_cases e : p.1 = k
    · rw [if_pos e]
      by_cases q : p.1 = j
      · rw [if_pos (by exact q), if_pos (by omega), if_pos q]; rfl
      · rw [if_neg (by exact q), if_neg (by omega), if_neg q]
        rw [if_neg (by omega)]
    · rw [if_neg e]
      by_cases q : p.1 = j
      · rw [if_pos q, if_neg (by omega), if_pos q]
      · rw [if_neg q, if_neg q]
theorem iget_app {m : List (Int × α)} {k j : Int} {v : α} (h : iget m k = none) : iget (m ++ [(k, v)]) j = if j = k then some v else iget m j := by
  induction m with
  | nil =>
    rw [List.nil_append, iget_cons]
    by_cases e : k = j
    · rw [if_pos e, if_pos e.symm]
    · rw [if_neg e, if_neg (fun z => e z.symm)]
  | cons p m ih =>
    rw [iget_cons] at h
    by_cases q : p.1 = k
    · rw [if_pos q] at h; cases h
    · rw [if_neg q] at h
      rw [List.cons_append, iget_cons, iget_cons, ih h]
      by_cases e : p.1 = j
      · rw [if_pos e, if_neg (by omega), if_pos e]
      · rw [if_neg e, if_neg e]
theorem iget_put (m : List (Int × α)) (k j : Int) (v : α) : iget (iput m k v) j = if j = k then some v else iget m j := by
  unfold iput
  have h := iany_get (k := k) m
  cases q : iget m k with
  | none =>
    rw [q] at h
    rw [if_neg (by rw [h]; exact Bool.false_ne_true), iget_app q]
  | some w =>
    rw [q] at h
    have h : (m.any fun p => decide (p.1 = k)) = true := h
    rw [if_pos h, iget_map]
    by_cases e : j = k
    · rw [if_pos e, if_pos e, e, q]; rfl
    · rw [if_neg e, if_neg e]
theorem iput_len (m : List (Int × α)) (k : Int) (v : α) : (iput m k v).length ≤ m.length + 1 := by
  unfold iput
  split
  · rw [List.length_map]; omega
  · simp
theorem iput_keys (m : List (Int × α)) (k : Int) (v : α) : (iput m k v).map (·.1) = if (iget m k).isSome = true then m.map (·.1) else m.map (·.1) ++ [k] := by
  unfold iput
  rw [iany_get]
  by_cases h : (iget m k).isSome = true
  · rw [if_pos h, if_pos h, List.map_map]
    refine List.map_congr_left fun p _ => ?_
    show (if p.1 = k then (p.1, v) else p).1 = p.1
    split <;> rfl
  · rw [if_neg h, if_neg h, List.map_append]; rfl
theorem iget_mem {m : List (Int × α)} {k : Int} : (iget m k).isSome = true ↔ k ∈ m.map (·.1) := by
  rw [← iany_get, List.any_eq_true]
  constructor
  · rintro ⟨p, hp, e⟩
    exact List.mem_map.mpr ⟨p, hp, of_decide_eq_true e⟩
  · intro h
    obtain ⟨p, hp, e⟩ := List.mem_map.mp h
    exact ⟨p, hp, decide_eq_true e⟩
theorem iput_nodup {m : List (Int × α)} {k : Int} {v : α} (h : (m.map (·.1)).Nodup) : ((iput m k v).map (·.1)).Nodup := by
  rw [iput_keys]
  by_cases q : (iget m k).isSome = true
  · rw [if_pos q]; exact h
  · rw [if_neg q]
    refine List.nodup_append.mpr ⟨h, by simp, fun a ha b hb => ?_⟩
    have : b = k := by simpa using hb
    subst this
    rintro rfl
    exact q (iget_mem.mpr ha)
/-- a dict as data -/
def dI (enc : α → D) (m : List (Int × α)) : D := .dict ((iD enc m).map fun p => (kyD p.1, p.2))
@[simp] theorem dIf {enc : α → D} {m : List (Int × α)} : PyData.dict ((iD enc m).map fun p => (kyD p.1, p.2)) = dI enc m := rfl
theorem frz_iD {enc : α → D} {m : List (Int × α)} : frz (.dic (iD enc m)) = dI enc m := rfl
@[simp] theorem dget_dI {enc : α → D} {m : List (Int × α)} {k : Int} : dget ((iD enc m).map fun p => (kyD p.1, p.2)) (.int k) = some ((iget m k).map enc) := by
  rw [dget_map]
  show some (kget (iD enc m) (.inl k)) = _
  rw [iget_iD]
theorem keys_iD {enc : α → D} {m : List (Int × α)} : ((iD enc m).map fun p => kyD p.1) = (m.map (·.1)).map PyData.int := by
  unfold iD
  rw [List.map_map, List.map_map]
  rfl
theorem len_iD {enc : α → D} {m : List (Int × α)} : (iD enc m).length = m.length := by unfold iD; rw [List.length_map]
@[simp] theorem iD_nil {enc : α → D} : iD enc ([] : List (Int × α)) = [] := rfl
@[simp] theorem over_dI {enc : α → D} {m : List (Int × α)} : overD (dI enc m) = some ((m.map (·.1)).map PyData.int) := by
  show (kvD _).map _ = _
  rw [kvD_map, Option.map_some, keys_iD]
@[simp] theorem isDic_dI {enc : α → D} {m : List (Int × α)} : isDic (dI enc m) = true := rfl
@[simp] theorem ix_dI {enc : α → D} {m : List (Int × α)} {k : Int} : index (dI enc m) (.int k) = (iget m k).map enc := by
  show (dget _ _).bind id = _
  rw [dget_dI]; rfl
@[simp] theorem in_dI {enc : α → D} {m : List (Int × α)} {k : Int} : cmpop .in_ (.int k) (dI enc m) = some (iget m k).isSome := by
  show (dget _ _).map _ = _
  rw [dget_dI]; simp
@[simp] theorem nin_dI {enc : α → D} {m : List (Int × α)} {k : Int} : cmpop .notin (.int k) (dI enc m) = some (!(iget m k).isSome) := by
  show (dget _ _).map _ = _
  rw [dget_dI]; simp
@[simp] theorem getX_dI {enc : α → D} {m : List (Int × α)} {k : Int} {z : D} : getX z (dI enc m) (.int k) = some (((iget m k).map enc).getD z) := by
  show (dget _ _).map _ = _
  rw [dget_dI]; rfl
end
theorem asc_zipL : ∀ {l : List Int}, l.Pairwise (· ≤ ·) → ∀ p ∈ l.zip (l.drop 1), p.1 ≤ p.2
  | [], _, p, h => nomatch h
  | [x], _, p, h => nomatch h
  | x :: y :: l, h, p, hp => by
    obtain ⟨h1, h2⟩ := List.pairwise_cons.mp h
    have hp : p ∈ (x, y) :: (y :: l).zip ((y :: l).drop 1) := hp
    rcases List.mem_cons.mp hp with rfl | hp
    · exact h1 y List.mem_cons_self
    · exact asc_zipL h2 p hp
/-- for x, y in zip(xs, xs[1:]) -/
def enP (p : Int × Int) : PyData := .tuple [.int p.1, .int p.2]
/-- the rule of a for loop: what holds of the items left and of the state -/
theorem for_gen {α σ : Type} {tg : Tgt} {it : CE} {b : CS} {ρ : Rho} (enc : α → D) {xs : List α} (R : σ → Rho) (B : σ → α → Rho) (I : List α → σ → Prop) (P : Out → Prop) {s0 : σ} (hI : evI it ρ = .ok (xs.map enc) (R s0)) (h0 : I xs s0)
    (hb : ∀ s a, bindT tg (enc a) (R s) = some (B s a))
    (hs : ∀ a rest s, (∃ pre, xs = pre ++ a :: rest) → I (a :: rest) s → (∃ s', I rest s' ∧ (evS b (B s a) = .next (R s') ∨ evS b (B s a) = .cont (R s'))) ∨ (∃ ρ', evS b (B s a) = .brk ρ' ∧ P (.next ρ')) ∨ ∃ v ρ', evS b (B s a) = .ret v ρ' ∧ P (.ret v ρ'))
    (hend : ∀ s, I [] s → P (.next (R s))) : P (evS (.for_ tg it b) ρ) := by
  have key : ∀ (ys : List α) (s : σ), (∃ pre, xs = pre ++ ys) → I ys s → P (forL (forStep tg (evS b)) (ys.map enc) (R s)) := by
    intro ys
    induction ys with
    | nil => intro s _ h; exact hend s h
    | cons a ys ih =>
      intro s hp h
      obtain ⟨pre, hp⟩ := hp
      show P (turnO (forL (forStep tg (evS b)) (ys.map enc)) (goO (evS b) (bindT tg (enc a) (R s))))
      rw [hb s a]
      show P (turnO (forL (forStep tg (evS b)) (ys.map enc)) (evS b (B s a)))
      rcases hs a ys s ⟨pre, hp⟩ h with ⟨s', h', e | e⟩ | ⟨ρ', e, q⟩ | ⟨v, ρ', e, q⟩
      · rw [e]; exact ih s' ⟨pre ++ [a], by rw [hp]; simp⟩ h'
      · rw [e]; exact ih s' ⟨pre ++ [a], by rw [hp]; simp⟩ h'
      · rw [e]; exact q
      · rw [e]; exact q
  show P (forO (forStep tg (evS b)) (evI it ρ))
  rw [hI]
  exact key xs s0 ⟨[], rfl⟩ h0
/-- range(a, b) -/
def rng (a b : Int) : List Int := (List.range (b - a).toNat).map fun (k : Nat) => a + (k : Int)
theorem rng_mem {a b x : Int} : x ∈ rng a b ↔ a ≤ x ∧ x < b := by
  unfold rng
  rw [List.mem_map]
  constructor
  · rintro ⟨k, hk, rfl⟩
    have := List.mem_range.mp hk
    omega
  · intro h
    exact ⟨(x - a).toNat, List.mem_range.mpr (by omega), by omega⟩
theorem rng_len {a b : Int} : (rng a b).length = (b - a).toNat := by unfold rng; simp
theorem rng_asc {a b : Int} : (rng a b).Pairwise (· < ·) := by
  unfold rng
  rw [List.pairwise_map]
  exact (List.pairwise_lt_range).imp fun h => by omega
theorem rng2e {a b : Int} (ha : -(10 ^ 15) ≤ a ∧ a ≤ 10 ^ 15) (hb : -(10 ^ 15) ≤ b ∧ b ≤ 10 ^ 15) : rng2D (.int a) (.int b) = some ((rng a b).map .int) := by
  have h1 : (-4611686018427387904 : Int) ≤ a := by omega
  have h2 : a < 4611686018427387904 := by omega
  have h3 : (-4611686018427387904 : Int) ≤ b := by omega
  have h4 : b < 4611686018427387904 := by omega
  simp [h1, h2, h3, h4, rngD, rng]
theorem rng1e {b : Int} (hb : -(10 ^ 15) ≤ b ∧ b ≤ 10 ^ 15) : rng1D (.int b) = some ((rng 0 b).map .int) := by
  have h3 : (-4611686018427387904 : Int) ≤ b := by omega
  have h4 : b < 4611686018427387904 := by omega
  simp [h3, h4, rngD, rng]
theorem any_map {α : Type} {l : List α} {f : α → Int} {i : Int} : ((l.map f).map PyData.int).any (fun z => PyData.eqv z (.int i)) = decide (i ∈ l.map f) := by
  have := any_eqv (l := l.map f) (i := i)
  rw [← this, List.any_map]
theorem sum_tI {a : List Int} : bfun .sum [vI a] = some (.dat (.int a.sum)) := by show bfun .sum [.tuple _] = _; rw [f_sumt, ints_map]; rfl
theorem enum_tI {a : List Int} : enumD (vI a) = some (a.zipIdx.map fun q => PyData.tuple [.int q.2, .int q.1]) := by
  unfold enumD
  show (some (a.map PyData.int)).map _ = _
  rw [Option.map_some, List.zipIdx_map, List.map_map]
  rfl
theorem zipIdx_at {α : Type} {l : List α} {i : Nat} {q : α × Nat} (h : l.zipIdx[i]? = some q) : q.2 = i ∧ l[i]? = some q.1 := by
  rw [List.getElem?_zipIdx] at h
  cases e : l[i]? with
  | none => rw [e] at h; cases h
  | some a =>
    rw [e] at h
    cases h
    exact ⟨by simp, rfl⟩
theorem fold_app {α β : Type} {q : α → Bool} {f : α → β} : ∀ (l : List α) (acc : List β), l.foldl (fun acc s => if q s = true then acc ++ [f s] else acc) acc = acc ++ (l.filter q).map f
  | [], acc => by simp
  | a :: l, acc => by
    rw [List.foldl_cons, fold_app l]
    by_cases c : q a = true
    · rw [if_pos c, List.filter_cons_of_pos c, List.map_cons, List.append_assoc]; rfl
    · rw [if_neg c, List.filter_cons_of_neg c]
theorem fold_flat {α β : Type} {f : α → List β} : ∀ (l : List α) (acc : List β), l.foldl (fun acc s => acc ++ f s) acc = acc ++ l.flatMap f
  | [], acc => by simp
  | a :: l, acc => by rw [List.foldl_cons, fold_flat l, List.flatMap_cons, List.append_assoc]
/-- a fold, with what holds turn by turn -/
theorem for_foldN {α σ : Type} {tg : Tgt} {it : CE} {b : CS} {ρ : Rho} (enc : α → D) {xs : List α} (R : σ → Rho) (g : σ → α → σ) (B : σ → α → Rho) (Inv : Nat → σ → Prop) {s0 : σ} (hI : evI it ρ = .ok (xs.map enc) (R s0)) (h0 : Inv 0 s0)
    (hb : ∀ s a, bindT tg (enc a) (R s) = some (B s a)) (hs : ∀ i s a, xs[i]? = some a → Inv i s → Inv (i + 1) (g s a) ∧ evS b (B s a) = .next (R (g s a))) : evS (.for_ tg it b) ρ = .next (R (xs.foldl g s0)) ∧ Inv xs.length (xs.foldl g s0) := by
  obtain ⟨s', ⟨e, h⟩, h2⟩ := for_inv (tg := tg) (it := it) (b := b) (ρ := ρ) enc (xs := xs) R B (fun i s => s = (xs.take i).foldl g s0 ∧ Inv i s) (s0 := s0) hI ⟨rfl, h0⟩ hb (fun i a s hi hI => by
    obtain ⟨h1, h2⟩ := hs i s a hi hI.2
    exact ⟨g s a, ⟨by rw [List.take_succ, hi, Option.toList_some, List.foldl_append, ← hI.1]; rfl, h1⟩, h2⟩)
  rw [List.take_length] at e
  subst e
  exact ⟨h2, h⟩
/-- turns that draw -/
theorem for_turnsG {α : Type} {tg : Tgt} {it : CE} {b : CS} {ρ : Rho} (enc : α → D) {xs : List α} (S : Int → Rho) (B : α → Int → Rho) (cost n0 : Int) (c0 : 0 ≤ cost) (hI : evI it ρ = .ok (xs.map enc) (S n0)) (hb : ∀ a n, bindT tg (enc a) (S n) = some (B a n))
    (hs : ∀ a ∈ xs, ∀ n, n0 ≤ n → n ≤ n0 + cost * xs.length → ∃ n', n ≤ n' ∧ n' ≤ n + cost ∧ evS b (B a n) = .next (S n')) : ∃ n, n0 ≤ n ∧ n ≤ n0 + cost * xs.length ∧ evS (.for_ tg it b) ρ = .next (S n) := by
  have key : ∀ (ys : List α) (n : Int), (∀ a ∈ ys, a ∈ xs) → n0 ≤ n → n + cost * ys.length ≤ n0 + cost * xs.length → ∃ n', n ≤ n' ∧ n' ≤ n + cost * ys.length ∧ forL (forStep tg (evS b)) (ys.map enc) (S n) = .next (S n') := by
    intro ys
    induction ys with
    | nil => intro n _ _ _; exact ⟨n, by omega, by simp, rfl⟩
    | cons x ys ih =>
      intro n hx h0 h1
      have e1 : cost * ((x :: ys).length : Int) = cost * ys.length + cost := by rw [List.length_cons]; push_cast; rw [Int.mul_add, Int.mul_one]
      have p1 : 0 ≤ cost * (ys.length : Int) := Int.mul_nonneg c0 (by omega)
      rw [e1] at h1
      obtain ⟨m, m0, m1, e⟩ := hs x (hx x List.mem_cons_self) n h0 (by omega)
      obtain ⟨n', q0, q1, e2⟩ := ih m (fun a ha => hx a (List.mem_cons_of_mem _ ha)) (by omega) (by omega)
      refine ⟨n', by omega, by rw [e1]; omega, ?_⟩
      show turnO (forL (forStep tg (evS b)) (ys.map enc)) (goO (evS b) (bindT tg (enc x) (S n))) = _
      rw [hb x n]
      show turnO _ (evS b (B x n)) = _
      rw [e]
      exact e2
  obtain ⟨n, q0, q1, e⟩ := key xs n0 (fun _ h => h) (Int.le_refl _) (by omega)
  refine ⟨n, q0, q1, ?_⟩
  show forO (forStep tg (evS b)) (evI it ρ) = _
  rw [hI]
  exact e
theorem rep1_tI {x : Int} {k : Int} (h0 : 0 ≤ k) (h1 : k ≤ 1000) : binop .mul (vI [x]) (.int k) = some (.dat (vI (List.replicate k.toNat x))) := by
  rw [rep_tI (by omega) h1 (by simp)]
  congr 3
  induction k.toNat with
  | zero => rfl
  | succ m ih => rw [List.replicate_succ, List.flatten_cons, ih]; rfl
end Ell
set_option autoImplicit false
namespace Ell
open PySem
/-! data that can be shown, by depth and size -/
structure pz (k s : Nat) (d : D) : Prop where
  sh : PyData.showable d = true
  cl : PyData.canLay0 d = true
  dp : PyData.depth d ≤ k
  sz : rsz d ≤ s
theorem pz.up {k s k' s' : Nat} {d : D} (h : pz k s d) (hk : k ≤ k') (hs : s ≤ s') : pz k' s' d := ⟨h.sh, h.cl, Nat.le_trans h.dp hk, Nat.le_trans h.sz hs⟩
theorem pz.pb {k s : Nat} {d : D} (h : pz k s d) (hk : k ≤ 25) (hs : s ≤ 10000000) : pb d := ⟨h.sh, h.cl, Nat.le_trans h.dp hk, Nat.le_trans h.sz hs⟩
theorem pz_int {i : Int} (h : i.natAbs < big) : pz 0 1921 (.int i) := ⟨(pb_int h).sh, rfl, by simp, by simp⟩
theorem pz_bool {b : Bool} : pz 0 5 (.bool b) := ⟨rfl, rfl, by simp, by simp⟩
theorem pz_none : pz 0 4 .none := ⟨rfl, rfl, by simp, by simp⟩
theorem pzs {k s : Nat} : ∀ {xs : List D}, (∀ x ∈ xs, pz k s x) → PyData.showableAll xs = true ∧ PyData.canLayAll0 xs = true ∧ PyData.depthAll xs ≤ k ∧ rsz.rszs xs ≤ xs.length * (s + 2)
  | [], _ => ⟨rfl, rfl, Nat.zero_le _, by simp⟩
  | x :: xs, h => by
    obtain ⟨a, b, c, d⟩ := h x List.mem_cons_self
    obtain ⟨a', b', c', d'⟩ := pzs (xs := xs) fun y hy => h y (List.mem_cons_of_mem _ hy)
    refine ⟨by rw [sw_cons, a, a']; rfl, by rw [cl_cons, b, b']; rfl, by rw [dp_cons]; omega, ?_⟩
    rw [rz_cons, List.length_cons, Nat.add_mul]
    omega
theorem pz_tup {k s n : Nat} {xs : List D} (h : ∀ x ∈ xs, pz k s x) (hn : xs.length ≤ n) : pz (k + 1) (n * (s + 2) + 3) (.tuple xs) := by
  obtain ⟨a, b, c, d⟩ := pzs h
  have := Nat.mul_le_mul_right (s + 2) hn
  exact ⟨a, b, by rw [dp_tup]; omega, by rw [rz_tup]; omega⟩
theorem pz_lst {k s n : Nat} {xs : List D} (h : ∀ x ∈ xs, pz k s x) (hn : xs.length ≤ n) : pz (k + 1) (n * (s + 2) + 3) (.list xs) := by
  obtain ⟨a, b, c, d⟩ := pzs h
  have := Nat.mul_le_mul_right (s + 2) hn
  exact ⟨a, b, by rw [dp_lst]; omega, by rw [rz_lst]; omega⟩
theorem pz_map {α : Type} {k s n : Nat} {f : α → D} {xs : List α} (h : ∀ x ∈ xs, pz k s (f x)) (hn : xs.length ≤ n) : pz (k + 1) (n * (s + 2) + 3) (.tuple (xs.map f)) := pz_tup (fun y hy => by
  obtain ⟨x, hx, rfl⟩ := List.mem_map.mp hy
  exact h x hx) (by rw [List.length_map]; exact hn)
theorem pz_mapL {α : Type} {k s n : Nat} {f : α → D} {xs : List α} (h : ∀ x ∈ xs, pz k s (f x)) (hn : xs.length ≤ n) : pz (k + 1) (n * (s + 2) + 3) (.list (xs.map f)) := pz_lst (fun y hy => by
  obtain ⟨x, hx, rfl⟩ := List.mem_map.mp hy
  exact h x hx) (by rw [List.length_map]; exact hn)
theorem all2 {P : D → Prop} {x y : D} (h1 : P x) (h2 : P y) : ∀ z ∈ [x, y], P z := by
  intro z hz
  simp only [List.mem_cons, List.not_mem_nil, or_false] at hz
  rcases hz with rfl | rfl
  · exact h1
  · exact h2
theorem all1 {P : D → Prop} {x : D} (h1 : P x) : ∀ z ∈ [x], P z := by
  intro z hz
  rw [List.mem_singleton] at hz; subst hz; exact h1
theorem all3 {P : D → Prop} {x y w : D} (h1 : P x) (h2 : P y) (h3 : P w) : ∀ z ∈ [x, y, w], P z := by
  intro z hz
  rcases List.mem_cons.mp hz with rfl | hz
  · exact h1
  · exact all2 h2 h3 z hz
theorem all4 {P : D → Prop} {x y w v : D} (h1 : P x) (h2 : P y) (h3 : P w) (h4 : P v) : ∀ z ∈ [x, y, w, v], P z := by
  intro z hz
  rcases List.mem_cons.mp hz with rfl | hz
  · exact h1
  · exact all3 h2 h3 h4 z hz
end Ell
set_option autoImplicit false
namespace L
open PySem Ell
noncomputable section
def fuel : Nat := 1000000000000000000000000000000000000000000000000000000000000
/-! ### core forms -/
def wc_divisor_1 : CE := .cmp .gt (.var 1) (.lit (.int 0))
def wb_divisor_1 : CS := .seq (.unp (.tp (.cons (.nm 0) (.cons (.nm 1) (.nil)))) (.tup (.cons (.var 1) (.cons (.bin .mod (.var 0) (.var 1)) (.nil))))) (.done)
def ws_divisor_1 : CS := .whl fuel (wc_divisor_1) (wb_divisor_1)
def b_divisor : CS := .seq (.unp (.tp (.cons (.nm 0) (.cons (.nm 1) (.nil)))) (.tup (.cons (.blt .abs (.cons (.var 0) (.nil))) (.cons (.blt .abs (.cons (.var 1) (.nil))) (.nil))))) (.seq (ws_divisor_1) (.seq (.kill [1]) (.seq (.ret (.var 0)) (.done))))
def c_divisor : Fn := ⟨"divisor", 2, runB 2 b_divisor⟩
@[simp] theorem a_divisor : c_divisor.arity = 2 := rfl
theorem u_divisor : c_divisor.run = runB 2 b_divisor := rfl
def b_is_fraction : CS := .seq (.ret (.and_ (.cmp .eq (.blt .len (.cons (.var 0) (.nil))) (.lit (.int 2))) (.and_ (.cmp .ge (.idx (.var 0) (.lit (.int 1))) (.lit (.int 1))) (.cmp .eq (.call c_divisor (.cons (.idx (.var 0) (.lit (.int 0))) (.cons (.idx (.var 0) (.lit (.int 1))) (.nil)))) (.lit (.int 1)))))) (.done)
def c_is_fraction : Fn := ⟨"is_fraction", 1, runB 1 b_is_fraction⟩
@[simp] theorem a_is_fraction : c_is_fraction.arity = 1 := rfl
theorem u_is_fraction : c_is_fraction.run = runB 1 b_is_fraction := rfl
def lc_check_trip_1 : CE := .lit (.bool true)
def le_check_trip_1 : CE := .chn .le .le (.neg (.glob "MAX_PART" (.int 999))) (.var 5) (.glob "MAX_PART" (.int 999))
def lx_check_trip_1 : CE := .lc (.nm 5) (.over (.tup (.star (.var 1) (.star (.var 2) (.nil))))) (lc_check_trip_1) (le_check_trip_1) [5]
def b_check_trip : CS := .seq (.unp (.tp (.cons (.nm 1) (.cons (.nm 2) (.cons (.nm 3) (.cons (.nm 4) (.nil)))))) (.var 0)) (.seq (.ite (.or_ (.not_ (.call c_is_fraction (.cons (.var 1) (.nil)))) (.or_ (.not_ (.call c_is_fraction (.cons (.var 2) (.nil)))) (.cmp .lt (.idx (.var 1) (.lit (.int 0))) (.lit (.int 1))))) (.seq (.raise .notAllowed) (.done)) (.done)) (.seq (.ite (.not_ (.blt .all (.cons (lx_check_trip_1) (.nil)))) (.seq (.raise .notAllowed) (.done)) (.done)) (.seq (.ite (.or_ (.cmp .notin (.var 3) (.glob "KINDS" (.tuple [.str "down", .str "up", .str "near", .str "even"]))) (.cmp .notin (.var 4) (.glob "KINDS" (.tuple [.str "down", .str "up", .str "near", .str "even"])))) (.seq (.raise .notAllowed) (.done)) (.done)) (.done))))
def c_check_trip : Fn := ⟨"check_trip", 1, runB 6 b_check_trip⟩
@[simp] theorem a_check_trip : c_check_trip.arity = 1 := rfl
theorem u_check_trip : c_check_trip.run = runB 6 b_check_trip := rfl
def b_check_reading : CS := .seq (.ex (.call c_check_trip (.cons (.var 0) (.nil)))) (.seq (.ite (.not_ (.chn .le .le (.neg (.glob "MAX_READING" (.int 1000000000000))) (.var 1) (.glob "MAX_READING" (.int 1000000000000)))) (.seq (.raise .notAllowed) (.done)) (.done)) (.done))
def c_check_reading : Fn := ⟨"check_reading", 2, runB 2 b_check_reading⟩
@[simp] theorem a_check_reading : c_check_reading.arity = 2 := rfl
theorem u_check_reading : c_check_reading.run = runB 2 b_check_reading := rfl
def b_fraction : CS := .seq (.ite (.cmp .eq (.var 1) (.lit (.int 0))) (.seq (.raise .notAllowed) (.done)) (.done)) (.seq (.set 2 (.call c_divisor (.cons (.var 0) (.cons (.var 1) (.nil))))) (.seq (.ite (.cmp .lt (.var 1) (.lit (.int 0))) (.seq (.set 2 (.neg (.var 2))) (.done)) (.done)) (.seq (.ret (.tup (.cons (.bin .fdiv (.var 0) (.var 2)) (.cons (.bin .fdiv (.var 1) (.var 2)) (.nil))))) (.done))))
def c_fraction : Fn := ⟨"fraction", 2, runB 3 b_fraction⟩
@[simp] theorem a_fraction : c_fraction.arity = 2 := rfl
theorem u_fraction : c_fraction.run = runB 3 b_fraction := rfl
def b_added : CS := .seq (.ret (.call c_fraction (.cons (.bin .add (.bin .mul (.idx (.var 0) (.lit (.int 0))) (.idx (.var 1) (.lit (.int 1)))) (.bin .mul (.idx (.var 1) (.lit (.int 0))) (.idx (.var 0) (.lit (.int 1))))) (.cons (.bin .mul (.idx (.var 0) (.lit (.int 1))) (.idx (.var 1) (.lit (.int 1)))) (.nil))))) (.done)
def c_added : Fn := ⟨"added", 2, runB 2 b_added⟩
@[simp] theorem a_added : c_added.arity = 2 := rfl
theorem u_added : c_added.run = runB 2 b_added := rfl
def b_times : CS := .seq (.ret (.call c_fraction (.cons (.bin .mul (.idx (.var 0) (.lit (.int 0))) (.idx (.var 1) (.lit (.int 0)))) (.cons (.bin .mul (.idx (.var 0) (.lit (.int 1))) (.idx (.var 1) (.lit (.int 1)))) (.nil))))) (.done)
def c_times : Fn := ⟨"times", 2, runB 2 b_times⟩
@[simp] theorem a_times : c_times.arity = 2 := rfl
theorem u_times : c_times.run = runB 2 b_times := rfl
def b_rounded : CS := .seq (.unp (.tp (.cons (.nm 2) (.cons (.nm 3) (.nil)))) (.var 0)) (.seq (.set 4 (.bin .fdiv (.var 2) (.var 3))) (.seq (.ite (.or_ (.cmp .eq (.var 1) (.lit (.str "down"))) (.cmp .eq (.var 2) (.bin .mul (.var 4) (.var 3)))) (.seq (.ret (.var 4)) (.done)) (.done)) (.seq (.ite (.cmp .eq (.var 1) (.lit (.str "up"))) (.seq (.ret (.bin .add (.var 4) (.lit (.int 1)))) (.done)) (.done)) (.seq (.set 5 (.bin .mul (.lit (.int 2)) (.bin .sub (.var 2) (.bin .mul (.var 4) (.var 3))))) (.seq (.ite (.cmp .eq (.var 5) (.var 3)) (.seq (.ret (.ife (.or_ (.cmp .eq (.var 1) (.lit (.str "near"))) (.cmp .eq (.bin .mod (.var 4) (.lit (.int 2))) (.lit (.int 1)))) (.bin .add (.var 4) (.lit (.int 1))) (.var 4))) (.done)) (.done)) (.seq (.ret (.bin .add (.var 4) (.blt .int (.cons (.cmp .gt (.var 5) (.var 3)) (.nil))))) (.done)))))))
def c_rounded : Fn := ⟨"rounded", 2, runB 6 b_rounded⟩
@[simp] theorem a_rounded : c_rounded.arity = 2 := rfl
theorem u_rounded : c_rounded.run = runB 6 b_rounded := rfl
def b_gone : CS := .seq (.unp (.tp (.cons (.nm 2) (.cons (.nm 3) (.cons (.nm 4) (.cons (.nm 5) (.nil)))))) (.var 0)) (.seq (.ret (.call c_rounded (.cons (.call c_added (.cons (.call c_times (.cons (.tup (.cons (.var 1) (.cons (.lit (.int 1)) (.nil)))) (.cons (.var 2) (.nil)))) (.cons (.var 3) (.nil)))) (.cons (.var 4) (.nil))))) (.done))
def c_gone : Fn := ⟨"gone", 2, runB 6 b_gone⟩
@[simp] theorem a_gone : c_gone.arity = 2 := rfl
theorem u_gone : c_gone.run = runB 6 b_gone := rfl
def b_returned : CS := .seq (.unp (.tp (.cons (.nm 2) (.cons (.nm 3) (.cons (.nm 4) (.cons (.nm 5) (.nil)))))) (.var 0)) (.seq (.set 6 (.call c_added (.cons (.tup (.cons (.var 1) (.cons (.lit (.int 1)) (.nil)))) (.cons (.tup (.cons (.neg (.idx (.var 3) (.lit (.int 0)))) (.cons (.idx (.var 3) (.lit (.int 1))) (.nil)))) (.nil))))) (.seq (.ret (.call c_rounded (.cons (.call c_times (.cons (.var 6) (.cons (.call c_fraction (.cons (.idx (.var 2) (.lit (.int 1))) (.cons (.idx (.var 2) (.lit (.int 0))) (.nil)))) (.nil)))) (.cons (.var 5) (.nil))))) (.done)))
def c_returned : Fn := ⟨"returned", 2, runB 7 b_returned⟩
@[simp] theorem a_returned : c_returned.arity = 2 := rfl
theorem u_returned : c_returned.run = runB 7 b_returned := rfl
def b_trip_of : CS := .seq (.ex (.call c_check_reading (.cons (.var 0) (.cons (.var 1) (.nil))))) (.seq (.set 2 (.call c_gone (.cons (.var 0) (.cons (.var 1) (.nil))))) (.seq (.ret (.tup (.cons (.var 2) (.cons (.call c_returned (.cons (.var 0) (.cons (.var 2) (.nil)))) (.nil))))) (.done)))
def c_trip_of : Fn := ⟨"trip_of", 2, runB 3 b_trip_of⟩
@[simp] theorem a_trip_of : c_trip_of.arity = 2 := rfl
theorem u_trip_of : c_trip_of.run = runB 3 b_trip_of := rfl
def b_period : CS := .seq (.ret (.bin .mul (.lit (.int 2)) (.idx (.idx (.var 0) (.lit (.int 0))) (.lit (.int 1))))) (.done)
def c_period : Fn := ⟨"period", 1, runB 1 b_period⟩
@[simp] theorem a_period : c_period.arity = 1 := rfl
theorem u_period : c_period.run = runB 1 b_period := rfl
def b_moved : CS := .seq (.ret (.bin .sub (.call c_returned (.cons (.var 0) (.cons (.call c_gone (.cons (.var 0) (.cons (.var 1) (.nil)))) (.nil)))) (.var 1))) (.done)
def c_moved : Fn := ⟨"moved", 2, runB 2 b_moved⟩
@[simp] theorem a_moved : c_moved.arity = 2 := rfl
theorem u_moved : c_moved.run = runB 2 b_moved := rfl
def lc_always_back_1 : CE := .lit (.bool true)
def le_always_back_1 : CE := .cmp .ne (.call c_moved (.cons (.var 0) (.cons (.var 1) (.nil)))) (.lit (.int 0))
def lx_always_back_1 : CE := .lc (.nm 1) (.rng1 (.call c_period (.cons (.var 0) (.nil)))) (lc_always_back_1) (le_always_back_1) [1]
def b_always_back : CS := .seq (.ex (.call c_check_trip (.cons (.var 0) (.nil)))) (.seq (.ret (.not_ (.blt .any (.cons (lx_always_back_1) (.nil))))) (.done))
def c_always_back : Fn := ⟨"always_back", 1, runB 2 b_always_back⟩
@[simp] theorem a_always_back : c_always_back.arity = 1 := rfl
theorem u_always_back : c_always_back.run = runB 2 b_always_back := rfl
def fb_first_lost_1 : CS := .seq (.ite (.cmp .ne (.call c_moved (.cons (.var 0) (.cons (.var 1) (.nil)))) (.lit (.int 0))) (.seq (.ret (.var 1)) (.done)) (.done)) (.seq (.kill [1]) (.done))
def fs_first_lost_1 : CS := .for_ (.nm 1) (.rng1 (.call c_period (.cons (.var 0) (.nil)))) (fb_first_lost_1)
def b_first_lost : CS := .seq (.ex (.call c_check_trip (.cons (.var 0) (.nil)))) (.seq (fs_first_lost_1) (.seq (.kill [1]) (.seq (.raise .missing) (.done))))
def c_first_lost : Fn := ⟨"first_lost", 1, runB 2 b_first_lost⟩
@[simp] theorem a_first_lost : c_first_lost.arity = 1 := rfl
theorem u_first_lost : c_first_lost.run = runB 2 b_first_lost := rfl
def lc_lost_share_1 : CE := .cmp .ne (.call c_moved (.cons (.var 0) (.cons (.var 2) (.nil)))) (.lit (.int 0))
def le_lost_share_1 : CE := .lit (.int 1)
def lx_lost_share_1 : CE := .lc (.nm 2) (.rng1 (.call c_period (.cons (.var 0) (.nil)))) (lc_lost_share_1) (le_lost_share_1) [2]
def b_lost_share : CS := .seq (.ex (.call c_check_trip (.cons (.var 0) (.nil)))) (.seq (.set 1 (.blt .len (.cons (lx_lost_share_1) (.nil)))) (.seq (.ret (.call c_fraction (.cons (.var 1) (.cons (.call c_period (.cons (.var 0) (.nil))) (.nil))))) (.done)))
def c_lost_share : Fn := ⟨"lost_share", 1, runB 3 b_lost_share⟩
@[simp] theorem a_lost_share : c_lost_share.arity = 1 := rfl
theorem u_lost_share : c_lost_share.run = runB 3 b_lost_share := rfl
def lc_farthest_1 : CE := .lit (.bool true)
def le_farthest_1 : CE := .call c_moved (.cons (.var 0) (.cons (.var 2) (.nil)))
def lx_farthest_1 : CE := .lc (.nm 2) (.rng1 (.call c_period (.cons (.var 0) (.nil)))) (lc_farthest_1) (le_farthest_1) [2]
def b_farthest : CS := .seq (.ex (.call c_check_trip (.cons (.var 0) (.nil)))) (.seq (.set 1 (lx_farthest_1)) (.seq (.frzs [1]) (.seq (.ret (.tup (.cons (.blt .minL (.cons (.var 1) (.nil))) (.cons (.blt .maxL (.cons (.var 1) (.nil))) (.nil))))) (.done))))
def c_farthest : Fn := ⟨"farthest", 1, runB 3 b_farthest⟩
@[simp] theorem a_farthest : c_farthest.arity = 1 := rfl
theorem u_farthest : c_farthest.run = runB 3 b_farthest := rfl
def lc_resting_1 : CE := .cmp .eq (.call c_moved (.cons (.var 0) (.cons (.var 1) (.nil)))) (.lit (.int 0))
def le_resting_1 : CE := .var 1
def lx_resting_1 : CE := .lc (.nm 1) (.rng1 (.call c_period (.cons (.var 0) (.nil)))) (lc_resting_1) (le_resting_1) [1]
def b_resting : CS := .seq (.ex (.call c_check_trip (.cons (.var 0) (.nil)))) (.seq (.ret (lx_resting_1)) (.done))
def c_resting : Fn := ⟨"resting", 1, runB 2 b_resting⟩
@[simp] theorem a_resting : c_resting.arity = 1 := rfl
theorem u_resting : c_resting.run = runB 2 b_resting := rfl
def b__law_same : CS := .seq (.ret (.cmp .eq (.blt .repr (.cons (.lst (.cons (.var 0) (.nil))) (.nil))) (.blt .repr (.cons (.lst (.cons (.var 1) (.nil))) (.nil))))) (.done)
def c__law_same : Fn := ⟨"_law_same", 2, runB 2 b__law_same⟩
@[simp] theorem a__law_same : c__law_same.arity = 2 := rfl
theorem u__law_same : c__law_same.run = runB 2 b__law_same := rfl
def fb__law_stream_1 : CS := .seq (.app 1 (.bin .mod (.blt .int (.cons (.var 3) (.nil))) (.lit (.int 1009)))) (.seq (.set 3 (.bin .fdiv (.var 3) (.lit (.int 1009)))) (.seq (.ite (.cmp .eq (.var 3) (.lit (.int 0))) (.seq (.kill [4]) (.seq (.brk) (.done))) (.done)) (.seq (.kill [4]) (.done))))
def fs__law_stream_1 : CS := .for_ (.nm 4) (.rng1 (.lit (.int 60))) (fb__law_stream_1)
def fb__law_stream_2 : CS := .seq (.set 5 (.bin .mod (.blt .int (.cons (.bin .add (.bin .add (.bin .mul (.var 5) (.lit (.int 48271))) (.bin .mul (.lit (.int 7)) (.var 4))) (.lit (.int 11))) (.nil))) (.lit (.int 2147483647)))) (.seq (.app 1 (.bin .mod (.bin .mod (.blt .int (.cons (.bin .add (.bin .mul (.var 5) (.lit (.int 69621))) (.var 4)) (.nil))) (.lit (.int 2147483629))) (.lit (.int 1009)))) (.seq (.kill [4]) (.done)))
def fs__law_stream_2 : CS := .for_ (.nm 4) (.rng1 (.lit (.int 10))) (fb__law_stream_2)
def fb__law_stream_3 : CS := .seq (.set 3 (.blt .abs (.cons (.blt .int (.cons (.var 2) (.nil))) (.nil)))) (.seq (.ite (.cmp .ge (.var 3) (.bin .pow (.lit (.int 10)) (.lit (.int 18)))) (.seq (fs__law_stream_1) (.seq (.kill [3, 4]) (.done))) (.seq (.set 5 (.bin .mod (.blt .int (.cons (.var 3) (.nil))) (.lit (.int 2147483647)))) (.seq (fs__law_stream_2) (.seq (.kill [4, 5]) (.done))))) (.seq (.kill [2, 3, 4, 5]) (.done)))
def fs__law_stream_3 : CS := .for_ (.nm 2) (.over (.slc (.var 0) (.nil) (.cons (.lit (.int 63)) .nil))) (fb__law_stream_3)
def b__law_stream : CS := .seq (.set 1 (.lst (.nil))) (.seq (fs__law_stream_3) (.seq (.kill [2, 3, 4, 5]) (.seq (.ite (.cmp .eq (.blt .len (.cons (.var 1) (.nil))) (.lit (.int 0))) (.seq (.app 1 (.lit (.int 0))) (.done)) (.done)) (.seq (.frzs [1]) (.seq (.ret (.var 1)) (.done))))))
def c__law_stream : Fn := ⟨"_law_stream", 1, runB 6 b__law_stream⟩
@[simp] theorem a__law_stream : c__law_stream.arity = 1 := rfl
theorem u__law_stream : c__law_stream.run = runB 6 b__law_stream := rfl
def wc__law_common_1 : CE := .cmp .gt (.var 1) (.lit (.int 0))
def wb__law_common_1 : CS := .seq (.unp (.tp (.cons (.nm 0) (.cons (.nm 1) (.nil)))) (.tup (.cons (.var 1) (.cons (.bin .mod (.blt .int (.cons (.var 0) (.nil))) (.var 1)) (.nil))))) (.done)
def ws__law_common_1 : CS := .whl fuel (wc__law_common_1) (wb__law_common_1)
def b__law_common : CS := .seq (.set 0 (.blt .max2 (.cons (.var 0) (.cons (.bin .sub (.lit (.int 0)) (.var 0)) (.nil))))) (.seq (.set 1 (.blt .max2 (.cons (.var 1) (.cons (.bin .sub (.lit (.int 0)) (.var 1)) (.nil))))) (.seq (ws__law_common_1) (.seq (.kill [1]) (.seq (.ret (.var 0)) (.done)))))
def c__law_common : Fn := ⟨"_law_common", 2, runB 2 b__law_common⟩
@[simp] theorem a__law_common : c__law_common.arity = 2 := rfl
theorem u__law_common : c__law_common.run = runB 2 b__law_common := rfl
def b__law_reduced : CS := .seq (.set 2 (.call c__law_common (.cons (.var 0) (.cons (.var 1) (.nil))))) (.seq (.ite (.cmp .lt (.var 1) (.lit (.int 0))) (.seq (.set 2 (.bin .sub (.lit (.int 0)) (.var 2))) (.done)) (.done)) (.seq (.ret (.tup (.cons (.bin .fdiv (.var 0) (.var 2)) (.cons (.bin .fdiv (.var 1) (.var 2)) (.nil))))) (.done)))
def c__law_reduced : Fn := ⟨"_law_reduced", 2, runB 3 b__law_reduced⟩
@[simp] theorem a__law_reduced : c__law_reduced.arity = 2 := rfl
theorem u__law_reduced : c__law_reduced.run = runB 3 b__law_reduced := rfl
def b__law_round : CS := .seq (.set 3 (.bin .fdiv (.var 0) (.var 1))) (.seq (.set 4 (.bin .sub (.var 0) (.bin .mul (.var 3) (.var 1)))) (.seq (.ite (.or_ (.cmp .eq (.var 4) (.lit (.int 0))) (.cmp .eq (.var 2) (.lit (.str "down")))) (.seq (.ret (.var 3)) (.done)) (.done)) (.seq (.ite (.cmp .eq (.var 2) (.lit (.str "up"))) (.seq (.ret (.bin .add (.var 3) (.lit (.int 1)))) (.done)) (.done)) (.seq (.ite (.cmp .ne (.bin .mul (.lit (.int 2)) (.var 4)) (.var 1)) (.seq (.ret (.bin .add (.var 3) (.blt .int (.cons (.cmp .gt (.bin .mul (.lit (.int 2)) (.var 4)) (.var 1)) (.nil))))) (.done)) (.done)) (.seq (.ret (.bin .add (.var 3) (.blt .int (.cons (.or_ (.cmp .eq (.var 2) (.lit (.str "near"))) (.cmp .eq (.bin .mod (.blt .int (.cons (.var 3) (.nil))) (.lit (.int 2))) (.lit (.int 1)))) (.nil))))) (.done))))))
def c__law_round : Fn := ⟨"_law_round", 3, runB 5 b__law_round⟩
@[simp] theorem a__law_round : c__law_round.arity = 3 := rfl
theorem u__law_round : c__law_round.run = runB 5 b__law_round := rfl
def b__law_there : CS := .seq (.unp (.tp (.cons (.nm 2) (.cons (.nm 3) (.cons (.nm 4) (.cons (.nm 5) (.nil)))))) (.var 0)) (.seq (.ret (.call c__law_round (.cons (.bin .add (.bin .mul (.bin .mul (.var 1) (.idx (.var 2) (.lit (.int 0)))) (.idx (.var 3) (.lit (.int 1)))) (.bin .mul (.idx (.var 3) (.lit (.int 0))) (.idx (.var 2) (.lit (.int 1))))) (.cons (.bin .mul (.idx (.var 2) (.lit (.int 1))) (.idx (.var 3) (.lit (.int 1)))) (.cons (.var 4) (.nil)))))) (.done))
def c__law_there : Fn := ⟨"_law_there", 2, runB 6 b__law_there⟩
@[simp] theorem a__law_there : c__law_there.arity = 2 := rfl
theorem u__law_there : c__law_there.run = runB 6 b__law_there := rfl
def b__law_back : CS := .seq (.unp (.tp (.cons (.nm 2) (.cons (.nm 3) (.cons (.nm 4) (.cons (.nm 5) (.nil)))))) (.var 0)) (.seq (.ret (.call c__law_round (.cons (.bin .mul (.bin .sub (.bin .mul (.var 1) (.idx (.var 3) (.lit (.int 1)))) (.idx (.var 3) (.lit (.int 0)))) (.idx (.var 2) (.lit (.int 1)))) (.cons (.bin .mul (.idx (.var 3) (.lit (.int 1))) (.idx (.var 2) (.lit (.int 0)))) (.cons (.var 5) (.nil)))))) (.done))
def c__law_back : Fn := ⟨"_law_back", 2, runB 6 b__law_back⟩
@[simp] theorem a__law_back : c__law_back.arity = 2 := rfl
theorem u__law_back : c__law_back.run = runB 6 b__law_back := rfl
def b__law_next : CS := .seq (.seti 0 (.lit (.int 1)) (.bin .add (.idx (.var 0) (.lit (.int 1))) (.lit (.int 1)))) (.seq (.set 2 (.bin .fdiv (.idx (.var 0) (.lit (.int 1))) (.blt .len (.cons (.idx (.var 0) (.lit (.int 0))) (.nil))))) (.seq (.ret (.bin .mod (.blt .int (.cons (.bin .add (.bin .add (.idx (.idx (.var 0) (.lit (.int 0))) (.bin .mod (.idx (.var 0) (.lit (.int 1))) (.blt .len (.cons (.idx (.var 0) (.lit (.int 0))) (.nil))))) (.bin .mul (.var 2) (.lit (.int 389)))) (.bin .mul (.bin .mul (.idx (.var 0) (.lit (.int 1))) (.var 2)) (.lit (.int 17)))) (.nil))) (.var 1))) (.done)))
def c__law_next : Fn := ⟨"_law_next", 2, runB 3 b__law_next⟩
@[simp] theorem a__law_next : c__law_next.arity = 2 := rfl
theorem u__law_next : c__law_next.run = runB 3 b__law_next := rfl
def b__law_great : CS := .seq (.ret (.bin .mod (.blt .int (.cons (.bin .add (.bin .mul (.call c__law_next (.cons (.var 0) (.cons (.lit (.int 1009)) (.nil)))) (.lit (.int 1009))) (.call c__law_next (.cons (.var 0) (.cons (.lit (.int 1009)) (.nil))))) (.nil))) (.var 1))) (.done)
def c__law_great : Fn := ⟨"_law_great", 2, runB 2 b__law_great⟩
@[simp] theorem a__law_great : c__law_great.arity = 2 := rfl
theorem u__law_great : c__law_great.run = runB 2 b__law_great := rfl
def b__law_kind : CS := .seq (.ret (.idx (.lst (.cons (.lit (.str "down")) (.cons (.lit (.str "up")) (.cons (.lit (.str "near")) (.cons (.lit (.str "even")) (.nil)))))) (.call c__law_next (.cons (.var 0) (.cons (.lit (.int 4)) (.nil)))))) (.done)
def c__law_kind : Fn := ⟨"_law_kind", 1, runB 1 b__law_kind⟩
@[simp] theorem a__law_kind : c__law_kind.arity = 1 := rfl
theorem u__law_kind : c__law_kind.run = runB 1 b__law_kind := rfl
def b__law_trip : CS := .seq (.set 1 (.idx (.lst (.cons (.lit (.int 4)) (.cons (.lit (.int 20)) (.cons (.lit (.int 999)) (.nil))))) (.call c__law_next (.cons (.var 0) (.cons (.lit (.int 3)) (.nil)))))) (.seq (.set 2 (.call c__law_reduced (.cons (.bin .add (.lit (.int 1)) (.call c__law_great (.cons (.var 0) (.cons (.var 1) (.nil))))) (.cons (.bin .add (.lit (.int 1)) (.call c__law_great (.cons (.var 0) (.cons (.var 1) (.nil))))) (.nil))))) (.seq (.set 3 (.idx (.lst (.cons (.tup (.cons (.lit (.int 0)) (.cons (.lit (.int 1)) (.nil)))) (.cons (.tup (.cons (.lit (.int 1)) (.cons (.lit (.int 2)) (.nil)))) (.cons (.call c__law_reduced (.cons (.bin .sub (.call c__law_great (.cons (.var 0) (.cons (.bin .mul (.lit (.int 2)) (.var 1)) (.nil)))) (.var 1)) (.cons (.bin .add (.lit (.int 1)) (.call c__law_great (.cons (.var 0) (.cons (.idx (.lst (.cons (.lit (.int 2)) (.cons (.lit (.int 12)) (.cons (.lit (.int 999)) (.nil))))) (.call c__law_next (.cons (.var 0) (.cons (.lit (.int 3)) (.nil))))) (.nil))))) (.nil)))) (.nil))))) (.call c__law_next (.cons (.var 0) (.cons (.lit (.int 3)) (.nil)))))) (.seq (.ite (.cmp .eq (.call c__law_next (.cons (.var 0) (.cons (.lit (.int 5)) (.nil)))) (.lit (.int 0))) (.seq (.set 2 (.tup (.cons (.bin .add (.lit (.int 1)) (.call c__law_next (.cons (.var 0) (.cons (.lit (.int 3)) (.nil))))) (.cons (.lit (.int 1)) (.nil))))) (.done)) (.done)) (.seq (.ret (.tup (.cons (.var 2) (.cons (.var 3) (.cons (.call c__law_kind (.cons (.var 0) (.nil))) (.cons (.call c__law_kind (.cons (.var 0) (.nil))) (.nil))))))) (.done)))))
def c__law_trip : Fn := ⟨"_law_trip", 1, runB 4 b__law_trip⟩
@[simp] theorem a__law_trip : c__law_trip.arity = 1 := rfl
theorem u__law_trip : c__law_trip.run = runB 4 b__law_trip := rfl
def b__law_reading : CS := .seq (.set 1 (.idx (.lst (.cons (.call c__law_next (.cons (.var 0) (.cons (.lit (.int 40)) (.nil)))) (.cons (.call c__law_great (.cons (.var 0) (.cons (.lit (.int 99999)) (.nil)))) (.cons (.bin .mul (.call c__law_great (.cons (.var 0) (.cons (.bin .pow (.lit (.int 10)) (.lit (.int 6))) (.nil)))) (.lit (.int 999983))) (.cons (.bin .pow (.lit (.int 10)) (.lit (.int 12))) (.nil)))))) (.idx (.lst (.cons (.lit (.int 0)) (.cons (.lit (.int 0)) (.cons (.lit (.int 1)) (.cons (.lit (.int 2)) (.cons (.lit (.int 3)) (.nil))))))) (.call c__law_next (.cons (.var 0) (.cons (.lit (.int 5)) (.nil))))))) (.seq (.ret (.idx (.lst (.cons (.var 1) (.cons (.bin .sub (.lit (.int 0)) (.var 1)) (.nil)))) (.call c__law_next (.cons (.var 0) (.cons (.lit (.int 2)) (.nil)))))) (.done))
def c__law_reading : Fn := ⟨"_law_reading", 1, runB 2 b__law_reading⟩
@[simp] theorem a__law_reading : c__law_reading.arity = 1 := rfl
theorem u__law_reading : c__law_reading.run = runB 2 b__law_reading := rfl
def lc__law_wrong_trip_1 : CE := .lit (.bool true)
def le__law_wrong_trip_1 : CE := .bin .add (.var 8) (.tup (.cons (.var 4) (.cons (.var 5) (.nil))))
def lx__law_wrong_trip_1 : CE := .lc (.nm 8) (.over (.var 6)) (lc__law_wrong_trip_1) (le__law_wrong_trip_1) [8]
def b__law_wrong_trip : CS := .seq (.unp (.tp (.cons (.nm 2) (.cons (.nm 3) (.cons (.nm 4) (.cons (.nm 5) (.nil)))))) (.var 1)) (.seq (.set 6 (.lst (.cons (.tup (.cons (.tup (.cons (.lit (.int 0)) (.cons (.lit (.int 1)) (.nil)))) (.cons (.var 3) (.nil)))) (.cons (.tup (.cons (.tup (.cons (.neg (.lit (.int 1))) (.cons (.lit (.int 2)) (.nil)))) (.cons (.var 3) (.nil)))) (.cons (.tup (.cons (.tup (.cons (.lit (.int 2)) (.cons (.lit (.int 4)) (.nil)))) (.cons (.var 3) (.nil)))) (.cons (.tup (.cons (.tup (.cons (.lit (.int 1000)) (.cons (.lit (.int 1)) (.nil)))) (.cons (.var 3) (.nil)))) (.cons (.tup (.cons (.tup (.cons (.lit (.int 1)) (.cons (.lit (.int 1000)) (.nil)))) (.cons (.var 3) (.nil)))) (.cons (.tup (.cons (.var 2) (.cons (.tup (.cons (.lit (.int 1)) (.cons (.neg (.lit (.int 2))) (.nil)))) (.nil)))) (.cons (.tup (.cons (.var 2) (.cons (.tup (.cons (.lit (.int 1000)) (.cons (.lit (.int 1)) (.nil)))) (.nil)))) (.cons (.tup (.cons (.var 2) (.cons (.tup (.cons (.neg (.lit (.int 1000))) (.cons (.lit (.int 1)) (.nil)))) (.nil)))) (.cons (.tup (.cons (.var 2) (.cons (.tup (.cons (.lit (.int 0)) (.cons (.lit (.int 2)) (.nil)))) (.nil)))) (.nil)))))))))))) (.seq (.frzs [6]) (.seq (.set 7 (.bin .add (lx__law_wrong_trip_1) (.lst (.cons (.tup (.cons (.var 2) (.cons (.var 3) (.cons (.lit (.str "downs")) (.cons (.var 5) (.nil)))))) (.cons (.tup (.cons (.var 2) (.cons (.var 3) (.cons (.var 4) (.cons (.lit (.str "")) (.nil)))))) (.cons (.tup (.cons (.var 2) (.cons (.var 3) (.cons (.lit (.str "Up")) (.cons (.var 5) (.nil)))))) (.nil))))))) (.seq (.frzs [7]) (.seq (.ret (.idx (.var 7) (.call c__law_next (.cons (.var 0) (.cons (.lit (.int 12)) (.nil)))))) (.done))))))
def c__law_wrong_trip : Fn := ⟨"_law_wrong_trip", 2, runB 9 b__law_wrong_trip⟩
@[simp] theorem a__law_wrong_trip : c__law_wrong_trip.arity = 2 := rfl
theorem u__law_wrong_trip : c__law_wrong_trip.run = runB 9 b__law_wrong_trip := rfl
def fb_law_1 : CS := .seq (.ite (.cmp .ne (.told (.callv 13 [("always_back", c_always_back), ("first_lost", c_first_lost), ("lost_share", c_lost_share), ("farthest", c_farthest), ("resting", c_resting)] (.cons (.var 12) (.nil)))) (.tup (.cons (.lit (.str "refused")) (.nil)))) (.seq (.ret (.lit (.bool false))) (.done)) (.done)) (.seq (.kill [13]) (.done))
def fs_law_1 : CS := .forF 13 ["always_back", "first_lost", "lost_share", "farthest", "resting"] (fb_law_1)
def fb_law_2 : CS := .seq (.set 14 (.call c__law_reading (.cons (.var 1) (.nil)))) (.seq (.set 15 (.told (.call c_trip_of (.cons (.var 3) (.cons (.var 14) (.nil)))))) (.seq (.ite (.or_ (.cmp .ne (.idx (.var 15) (.lit (.int 0))) (.lit (.str "told"))) (.cmp .ne (.bin .sub (.idx (.idx (.var 15) (.lit (.int 1))) (.lit (.int 1))) (.var 14)) (.idx (.var 6) (.bin .mod (.blt .int (.cons (.var 14) (.nil))) (.var 5))))) (.seq (.ret (.lit (.bool false))) (.done)) (.done)) (.seq (.kill [11, 14, 15]) (.done))))
def fs_law_2 : CS := .for_ (.nm 11) (.rng1 (.lit (.int 4))) (fb_law_2)
def lc_law_1 : CE := .cmp .eq (.idx (.var 6) (.var 14)) (.lit (.int 0))
def le_law_1 : CE := .var 14
def lx_law_1 : CE := .lc (.nm 14) (.rng1 (.var 5)) (lc_law_1) (le_law_1) [14]
def lc_law_2 : CE := .cmp .ne (.idx (.var 6) (.var 14)) (.lit (.int 0))
def le_law_2 : CE := .var 14
def lx_law_2 : CE := .lc (.nm 14) (.rng1 (.var 5)) (lc_law_2) (le_law_2) [14]
def lc_law_3 : CE := .lit (.bool true)
def le_law_3 : CE := .bin .sub (.call c__law_back (.cons (.var 3) (.cons (.call c__law_there (.cons (.var 3) (.cons (.var 14) (.nil)))) (.nil)))) (.var 14)
def lx_law_3 : CE := .lc (.nm 14) (.rng1 (.var 5)) (lc_law_3) (le_law_3) [14]
def fb_law_3 : CS := .seq (.set 3 (.call c__law_trip (.cons (.var 1) (.nil)))) (.seq (.set 4 (.blt .repr (.cons (.var 3) (.nil)))) (.seq (.set 5 (.bin .mul (.lit (.int 2)) (.idx (.idx (.var 3) (.lit (.int 0))) (.lit (.int 1))))) (.seq (.set 6 (lx_law_3)) (.seq (.frzs [6]) (.seq (.set 7 (lx_law_2)) (.seq (.frzs [7]) (.seq (.set 8 (.tup (.cons (.lit (.str "missing")) (.nil)))) (.seq (.ite (.cmp .gt (.blt .len (.cons (.var 7) (.nil))) (.lit (.int 0))) (.seq (.set 8 (.tup (.cons (.lit (.str "told")) (.cons (.idx (.var 7) (.lit (.int 0))) (.nil))))) (.done)) (.done)) (.seq (.ite (.or_ (.not_ (.call c__law_same (.cons (.told (.call c_always_back (.cons (.var 3) (.nil)))) (.cons (.tup (.cons (.lit (.str "told")) (.cons (.cmp .eq (.blt .len (.cons (.var 7) (.nil))) (.lit (.int 0))) (.nil)))) (.nil))))) (.not_ (.call c__law_same (.cons (.told (.call c_first_lost (.cons (.var 3) (.nil)))) (.cons (.var 8) (.nil)))))) (.seq (.ret (.lit (.bool false))) (.done)) (.done)) (.seq (.ite (.not_ (.call c__law_same (.cons (.told (.call c_lost_share (.cons (.var 3) (.nil)))) (.cons (.tup (.cons (.lit (.str "told")) (.cons (.call c__law_reduced (.cons (.blt .len (.cons (.var 7) (.nil))) (.cons (.var 5) (.nil)))) (.nil)))) (.nil))))) (.seq (.ret (.lit (.bool false))) (.done)) (.done)) (.seq (.ite (.not_ (.call c__law_same (.cons (.told (.call c_farthest (.cons (.var 3) (.nil)))) (.cons (.tup (.cons (.lit (.str "told")) (.cons (.tup (.cons (.blt .minL (.cons (.var 6) (.nil))) (.cons (.blt .maxL (.cons (.var 6) (.nil))) (.nil)))) (.nil)))) (.nil))))) (.seq (.ret (.lit (.bool false))) (.done)) (.done)) (.seq (.set 9 (lx_law_1)) (.seq (.frzs [9]) (.seq (.fork 10 (.call c_resting (.cons (.var 3) (.nil))) (.not_ (.call c__law_same (.cons (.var 10) (.cons (.tup (.cons (.lit (.str "told")) (.cons (.var 9) (.nil)))) (.nil))))) (.lit (.bool false)) (.neg (.lit (.int 1))) (.done) (.done)) (.seq (.ite (.not_ (.call c__law_same (.cons (.told (.call c_resting (.cons (.var 3) (.nil)))) (.cons (.tup (.cons (.lit (.str "told")) (.cons (.var 9) (.nil)))) (.nil))))) (.seq (.ret (.lit (.bool false))) (.done)) (.done)) (.seq (fs_law_2) (.seq (.kill [11, 14, 15]) (.seq (.ite (.and_ (.cmp .ge (.idx (.idx (.var 3) (.lit (.int 0))) (.lit (.int 0))) (.idx (.idx (.var 3) (.lit (.int 0))) (.lit (.int 1)))) (.cmp .eq (.idx (.var 3) (.lit (.int 1))) (.tup (.cons (.lit (.int 0)) (.cons (.lit (.int 1)) (.nil)))))) (.seq (.set 16 (.tup (.cons (.idx (.var 3) (.lit (.int 0))) (.cons (.idx (.var 3) (.lit (.int 1))) (.cons (.lit (.str "near")) (.cons (.lit (.str "near")) (.nil))))))) (.seq (.ite (.and_ (.cmp .gt (.idx (.idx (.var 3) (.lit (.int 0))) (.lit (.int 0))) (.idx (.idx (.var 3) (.lit (.int 0))) (.lit (.int 1)))) (.cmp .ne (.told (.call c_always_back (.cons (.var 16) (.nil)))) (.tup (.cons (.lit (.str "told")) (.cons (.lit (.bool true)) (.nil)))))) (.seq (.ret (.lit (.bool false))) (.done)) (.done)) (.seq (.set 17 (.tup (.cons (.idx (.var 3) (.lit (.int 0))) (.cons (.idx (.var 3) (.lit (.int 1))) (.cons (.lit (.str "down")) (.cons (.lit (.str "up")) (.nil))))))) (.seq (.ite (.cmp .ne (.told (.call c_always_back (.cons (.var 17) (.nil)))) (.tup (.cons (.lit (.str "told")) (.cons (.lit (.bool true)) (.nil))))) (.seq (.ret (.lit (.bool false))) (.done)) (.done)) (.done))))) (.done)) (.seq (.set 12 (.call c__law_wrong_trip (.cons (.var 1) (.cons (.var 3) (.nil))))) (.seq (fs_law_1) (.seq (.kill [13]) (.seq (.ite (.cmp .ne (.blt .repr (.cons (.var 3) (.nil))) (.var 4)) (.seq (.ret (.lit (.bool false))) (.done)) (.done)) (.seq (.kill [2, 3, 4, 5, 6, 7, 8, 9, 10, 11, 12, 13, 14, 15, 16, 17]) (.done))))))))))))))))))))))))
def fs_law_3 : CS := .for_ (.nm 2) (.rng1 (.lit (.int 3))) (fb_law_3)
def b_law : CS := .seq (.set 1 (.lst (.cons (.call c__law_stream (.cons (.var 0) (.nil))) (.cons (.lit (.int 0)) (.nil))))) (.seq (fs_law_3) (.seq (.frzs [1]) (.seq (.kill [2, 3, 4, 5, 6, 7, 8, 9, 10, 11, 12, 13, 14, 15, 16, 17]) (.seq (.ret (.lit (.bool true))) (.done)))))
def c_law : Fn := ⟨"law", 1, runB 18 b_law⟩
@[simp] theorem a_law : c_law.arity = 1 := rfl
theorem u_law : c_law.run = runB 18 b_law := rfl
end
end L
set_option autoImplicit false
namespace L
open PySem Ell
theorem fmod_nat (x y : Nat) : ((x : Int).fmod (y : Int)) = ((x : Int) % (y : Int)) := Int.fmod_eq_emod_of_nonneg _ (by omega)
theorem loop_gcd (c : CE) (b : CS) (hc : ∀ x y : Nat, kB (evP c [.dat (.int x), .dat (.int y)]) = .ok (decide (0 < y)) [.dat (.int x), .dat (.int y)])
    (hb : ∀ x y : Nat, 0 < y → evS b [.dat (.int x), .dat (.int y)] = .next [.dat (.int y), .dat (.int ((x : Int) % (y : Int)))]) :
    ∀ (n : Nat) (x y : Nat), y < n → whlL (evP c) (evS b) n [.dat (.int x), .dat (.int y)] = .next [.dat (.int (Nat.gcd x y)), .dat (.int 0)]
  | 0, _, _, h => absurd h (Nat.not_lt_zero _)
  | n + 1, x, y, h => by
    by_cases h0 : y = 0
    · subst h0
      have hc0 := hc x 0
      simp at hc0
      simp [whlL, hc0]
    · have hp := Nat.pos_of_ne_zero h0
      have ih := loop_gcd c b hc hb n y (x % y) (by have := Nat.mod_lt x hp; omega)
      rw [Nat.gcd_comm, ← Nat.gcd_rec, Nat.gcd_comm] at ih
      rw [Int.natCast_emod] at ih
      simp [whlL, hc, hp, hb, ih]
theorem r_same {d : D} (h : prs d) : c__law_same.run [.dat d, .dat d] = .ok (.dat (.bool true)) [.un, .un] := by
  have h1 := h.sh; have h2 := h.cl; have h3 := h.dp; have h4 := h.sz
  rw [u__law_same]
  simp at h1 h2 h3 h4
  have e : sizeLine = 16777216 := rfl
  have h5 : rsz d ≤ 16777212 := by omega
  simp [runB, b__law_same, bfun, h1, h2, h3, h5, sizeLine]
structure GoodS (ns : List Int) : Prop where
  pos : 0 < ns.length
  few : ns.length < 10 ^ 6
  bd : ∀ x ∈ ns, 0 ≤ x ∧ x < 1009
def St (ns : List Int) (n : Int) : O := .lst [.list (ns.map PyData.int), .int n]
theorem r_next {ns : List Int} {n many : Int} (g : GoodS ns) (h0 : 0 ≤ n) (h1 : n < 10 ^ 9) (hm : 0 < many) : ∃ v, 0 ≤ v ∧ v < many ∧ c__law_next.run [.own (St ns n), .dat (.int many)] = .ok (.dat (.int v)) [.own (St ns (n + 1)), .un] := by
  have p := g.pos
  have f := g.few
  have hl : (0 : Int) < ns.length := by omega
  obtain ⟨m0, m1⟩ := fmod_pos (a := n + 1) hl
  obtain ⟨x, hx, hn⟩ := nth_map (f := PyData.int) (xs := ns) m0 m1
  obtain ⟨x0, x1⟩ := g.bd x hx
  obtain ⟨d0, d1⟩ := fdiv_le (a := n + 1) (by omega) hl
  refine ⟨(x + (n + 1).fdiv ns.length * 389 + (n + 1) * (n + 1).fdiv ns.length * 17).fmod many, (fmod_pos hm).1, (fmod_pos hm).2, ?_⟩
  have c1 := div_ok (b := (ns.length : Int)) (lt_big (by omega))
  have c2 := mul_okL (a := (n + 1).fdiv ns.length) (n := 389) (lt_big (by omega)) (lt_big (by omega))
  have c3 := mul_ok (a := n + 1) (b := (n + 1).fdiv ns.length) (lt_big (by omega)) (lt_big (by omega))
  have q : (n + 1) * (n + 1).fdiv ns.length ≤ 10 ^ 9 * 10 ^ 9 := Int.mul_le_mul (by omega) (by omega) d0 (by omega)
  have q0 : 0 ≤ (n + 1) * (n + 1).fdiv ns.length := Int.mul_nonneg (by omega) d0
  have c4 := mul_okL (a := (n + 1) * (n + 1).fdiv ns.length) (n := 17) (lt_big (by omega)) (lt_big (by omega))
  have z1 : ¬ ((ns.length : Int) = 0) := by omega
  have z2 : ¬ (many = 0) := by omega
  have z3 : ns ≠ [] := by intro e; rw [e] at p; simp at p
  simp only [Int.natAbs_natCast] at c1
  rw [u__law_next]
  simp [runB, b__law_next, St, ixn, bfun, sizeLine, hn, c1, c2, c3, c4, z1, z2, z3]
theorem r_great {ns : List Int} {n many : Int} (g : GoodS ns) (h0 : 0 ≤ n) (h1 : n < 10 ^ 9 - 2) (hm : 0 < many) : ∃ v, 0 ≤ v ∧ v < many ∧ c__law_great.run [.own (St ns n), .dat (.int many)] = .ok (.dat (.int v)) [.own (St ns (n + 2)), .un] := by
  obtain ⟨v, v0, v1, e1⟩ := r_next (n := n) (many := 1009) g h0 (by omega) (by decide)
  obtain ⟨u, u0, u1, e2⟩ := r_next (n := n + 1) (many := 1009) g (by omega) (by omega) (by decide)
  have c1 := mul_okL (a := v) (n := 1009) (lt_big (by omega)) (lt_big (by omega))
  have z2 : ¬ (many = 0) := by omega
  have e3 : n + 1 + 1 = n + 2 := by omega
  refine ⟨(v * 1009 + u).fmod many, (fmod_pos hm).1, (fmod_pos hm).2, ?_⟩
  rw [u__law_great]
  simp [runB, b__law_great, bfun, e1, e2, c1, z2, e3]
theorem lt_fuel {n : Nat} (h : n ≤ 10 ^ 59) : n < fuel := Nat.lt_of_le_of_lt h (by decide +kernel)
theorem app_bd {acc : List Int} {v : Int} (h : ∀ x ∈ acc, 0 ≤ x ∧ x < 1009) (hv : 0 ≤ v ∧ v < 1009) : ∀ x ∈ acc ++ [v], 0 ≤ x ∧ x < 1009 := fun x hx => by
  rcases List.mem_append.mp hx with z | z
  · exact h x z
  · have : x = v := by simpa using z
    subst this
    exact hv
def stS (ds : List D) (acc : List Int) (s2 s3 s5 : Slot) : Rho := [.ro ds, .own (.lst (acc.map PyData.int)), s2, s3, .un, s5]
theorem str_a {ds : List D} {x : D} {acc : List Int} {s2 s5 : Slot} {r : Int} (hl : acc.length < 10 ^ 6) :
    forStep (.nm 4) (evS fb__law_stream_1) x (stS ds acc s2 (.dat (.int r)) s5) = if r.fdiv 1009 = 0 then .brk (stS ds (acc ++ [r.fmod 1009]) s2 (.dat (.int 0)) s5) else .next (stS ds (acc ++ [r.fmod 1009]) s2 (.dat (.int (r.fdiv 1009))) s5) := by
  have h1 : acc.length < 16777216 := by omega
  have lg : Nat.log2 1009 < 9000 := by decide +kernel
  by_cases h : r.fdiv 1009 = 0 <;> simp [stS, fb__law_stream_1, sizeLine, bfun, h1, h, lg]
def okA (n : Nat) (acc : List Int) : Prop := acc.length ≤ n ∧ ∀ x ∈ acc, 0 ≤ x ∧ x < 1009
theorem okA_app {n : Nat} {acc : List Int} {v : Int} (h : okA n acc) (hv : 0 ≤ v ∧ v < 1009) : okA (n + 1) (acc ++ [v]) := ⟨by have := h.1; simp; omega, app_bd h.2 hv⟩
theorem str_la {ds : List D} {n : Nat} {acc : List Int} {s2 s5 : Slot} {r : Int} (hn : n < 10 ^ 5) (h : okA n acc) :
    ∃ acc' r', okA (n + 60) acc' ∧ forL (forStep (.nm 4) (evS fb__law_stream_1)) (rngD 0 60) (stS ds acc s2 (.dat (.int r)) s5) = .next (stS ds acc' s2 (.dat (.int r')) s5) := by
  refine forL_rule (fun i ρ => ∃ acc r, okA (n + i) acc ∧ ρ = stS ds acc s2 (.dat (.int r)) s5) (fun o => ∃ acc' r', okA (n + 60) acc' ∧ o = .next (stS ds acc' s2 (.dat (.int r')) s5)) (fun i x ρ hx hI => ?_) (fun ρ hI => ?_) ⟨acc, r, h, rfl⟩
  · obtain ⟨acc, r, h, rfl⟩ := hI
    have hi : i < 60 := by have := (List.getElem?_eq_some_iff.mp hx).1; simpa using this
    have := h.1
    refine ⟨_, str_a (by omega), ?_⟩
    have hv := fmod_pos (a := r) (b := 1009) (by decide)
    by_cases c : r.fdiv 1009 = 0
    · rw [if_pos c]
      exact ⟨_, _, ⟨by have := h.1; simp; omega, app_bd h.2 hv⟩, rfl⟩
    · rw [if_neg c]
      exact ⟨_, _, okA_app h hv, rfl⟩
  · obtain ⟨acc, r, h, rfl⟩ := hI
    exact ⟨_, _, by simpa using h, rfl⟩
theorem str_b {ds : List D} {acc : List Int} {s2 s3 : Slot} {r : Int} {i : Nat} (hl : acc.length < 10 ^ 6) (hr : 0 ≤ r ∧ r < 2147483647) (hi : i < 10) :
    forStep (.nm 4) (evS fb__law_stream_2) (.int i) (stS ds acc s2 s3 (.dat (.int r))) = .next (stS ds (acc ++ [(((r * 48271 + 7 * i + 11).fmod 2147483647 * 69621 + i).fmod 2147483629).fmod 1009]) s2 s3 (.dat (.int ((r * 48271 + 7 * i + 11).fmod 2147483647)))) := by
  have h1 : acc.length < 16777216 := by omega
  have c1 := mul_okL (a := r) (n := 48271) (lt_big (by omega)) (lt_big (by omega))
  have c2 := mul_ok (a := 7) (b := i) (lt_big (by omega)) (lt_big (by omega))
  obtain ⟨f0, f1⟩ := fmod_pos (a := r * 48271 + 7 * i + 11) (b := 2147483647) (by decide)
  have c3 := mul_okL (a := (r * 48271 + 7 * i + 11).fmod 2147483647) (n := 69621) (lt_big (by omega)) (lt_big (by omega))
  simp at c2
  simp [stS, fb__law_stream_2, sizeLine, bfun, h1, c1, c2, c3]
theorem rngD_at {lo : Int} {n i : Nat} {x : D} (h : (rngD lo n)[i]? = some x) : i < n ∧ x = .int (lo + i) := by
  have hi : i < n := by have := (List.getElem?_eq_some_iff.mp h).1; simpa using this
  refine ⟨hi, ?_⟩
  unfold rngD at h
  rw [List.getElem?_map, List.getElem?_range hi] at h
  exact (Option.some.inj h).symm
theorem str_lb {ds : List D} {n : Nat} {acc : List Int} {s2 s3 : Slot} {r : Int} (hn : n < 10 ^ 5) (h : okA n acc) (hr : 0 ≤ r ∧ r < 2147483647) :
    ∃ acc' r', okA (n + 60) acc' ∧ forL (forStep (.nm 4) (evS fb__law_stream_2)) (rngD 0 10) (stS ds acc s2 s3 (.dat (.int r))) = .next (stS ds acc' s2 s3 (.dat (.int r'))) := by
  refine forL_rule (fun i ρ => ∃ acc r, okA (n + i) acc ∧ (0 ≤ r ∧ r < 2147483647) ∧ ρ = stS ds acc s2 s3 (.dat (.int r))) (fun o => ∃ acc' r', okA (n + 60) acc' ∧ o = .next (stS ds acc' s2 s3 (.dat (.int r')))) (fun i x ρ hx hI => ?_) (fun ρ hI => ?_) ⟨acc, r, h, hr, rfl⟩
  · obtain ⟨acc, r, h, hr, rfl⟩ := hI
    obtain ⟨hi, rfl⟩ := rngD_at hx
    have hl := h.1
    rw [Int.zero_add]
    exact ⟨_, str_b (by omega) hr hi, _, _, okA_app h (fmod_pos (by decide)), fmod_pos (by decide), rfl⟩
  · obtain ⟨acc, r, h, hr, rfl⟩ := hI
    exact ⟨_, _, ⟨by have := h.1; simp at this; omega, h.2⟩, rfl⟩
theorem str_c {ds : List D} {n : Nat} {c : Int} {acc : List Int} (hn : n < 10 ^ 5) (h : okA n acc) : ∃ acc', okA (n + 60) acc' ∧ forStep (.nm 2) (evS fb__law_stream_3) (.int c) (stS ds acc .un .un .un) = .next (stS ds acc' .un .un .un) := by
  by_cases hc : (10 : Int) ^ 18 ≤ c.natAbs
  · obtain ⟨acc', r', h', e⟩ := str_la (ds := ds) (s2 := .dat (.int c)) (s5 := .un) (r := c.natAbs) hn h
    have hc' : (1000000000000000000 : Int) ≤ c.natAbs := hc
    refine ⟨acc', h', ?_⟩
    unfold stS at e ⊢
    simp [fb__law_stream_3, fs__law_stream_1, fs__law_stream_2, sizeLine, bfun, hc', e]
  · have hr := fmod_pos (a := (c.natAbs : Int)) (b := 2147483647) (by decide)
    obtain ⟨acc', r', h', e⟩ := str_lb (ds := ds) (s2 := .dat (.int c)) (s3 := .dat (.int c.natAbs)) (r := (c.natAbs : Int).fmod 2147483647) hn h hr
    have hc' : ¬ (1000000000000000000 : Int) ≤ c.natAbs := hc
    refine ⟨acc', h', ?_⟩
    unfold stS at e ⊢
    simp [fb__law_stream_3, fs__law_stream_1, fs__law_stream_2, sizeLine, bfun, hc', e]
theorem r_stream (ns : List Int) (hl : ns.length ≤ 63) : ∃ zs, GoodS zs ∧ c__law_stream.run [.ro (ns.map PyData.int)] = .ok (.dat (.list (zs.map PyData.int))) [.un] := by
  have hc : cut (ns.map PyData.int) none (some 63) = ns.map PyData.int := by
    show ((ns.map PyData.int).drop 0).take (min 63 (ns.map PyData.int).length - 0) = _
    rw [List.drop_zero]
    exact List.take_of_length_le (by simp; omega)
  have key : ∃ acc, okA (60 * ns.length) acc ∧ forL (forStep (.nm 2) (evS fb__law_stream_3)) (ns.map PyData.int) (stS (ns.map PyData.int) [] .un .un .un) = .next (stS (ns.map PyData.int) acc .un .un .un) := by
    refine forL_rule (fun i ρ => ∃ acc, okA (60 * i) acc ∧ ρ = stS (ns.map PyData.int) acc .un .un .un) (fun o => ∃ acc, okA (60 * ns.length) acc ∧ o = .next (stS (ns.map PyData.int) acc .un .un .un)) (fun i x ρ hx hI => ?_) (fun ρ hI => ?_) ⟨[], ⟨by simp, by simp⟩, rfl⟩
    · obtain ⟨acc, h, rfl⟩ := hI
      have hi : i < ns.length := by have := (List.getElem?_eq_some_iff.mp hx).1; simpa using this
      rw [List.getElem?_map, List.getElem?_eq_getElem hi] at hx
      have ex : x = .int ns[i] := (Option.some.inj hx).symm
      subst ex
      obtain ⟨acc', h', e⟩ := str_c (ds := ns.map PyData.int) (c := ns[i]) (by omega) h
      exact ⟨_, e, acc', by rw [Nat.mul_succ]; exact h', rfl⟩
    · obtain ⟨acc, h, rfl⟩ := hI
      exact ⟨acc, by simpa using h, rfl⟩
  obtain ⟨acc, ⟨hl2, hb⟩, e⟩ := key
  rw [u__law_stream]
  unfold stS at e
  rw [List.map_nil] at e
  by_cases hz : acc.length = 0
  · have ea : acc = [] := List.eq_nil_of_length_eq_zero hz
    subst ea
    refine ⟨[0], ⟨by simp, by simp, by simp⟩, ?_⟩
    rw [List.map_nil] at e
    simp [runB, b__law_stream, fs__law_stream_3, sizeLine, bfun, slice, hc, e]
  · refine ⟨acc, ⟨by omega, by omega, hb⟩, ?_⟩
    have hz' : acc ≠ [] := fun z => hz (by rw [z]; rfl)
    simp [runB, b__law_stream, fs__law_stream_3, sizeLine, bfun, slice, hc, e, hz']
open Classical in
/-- what the n-th draw tells -/
noncomputable def nx (ns : List Int) (n many : Int) : Int := if h : ∃ v, 0 ≤ v ∧ v < many ∧ c__law_next.run [.own (St ns n), .dat (.int many)] = .ok (.dat (.int v)) [.own (St ns (n + 1)), .un] then Classical.choose h else 0
theorem nx_all {ns : List Int} {n many : Int} (g : GoodS ns) (h0 : 0 ≤ n) (h1 : n < 10 ^ 9) (hm : 0 < many) : 0 ≤ nx ns n many ∧ nx ns n many < many ∧ c__law_next.run [.own (St ns n), .dat (.int many)] = .ok (.dat (.int (nx ns n many))) [.own (St ns (n + 1)), .un] := by
  have h := r_next g h0 h1 hm
  unfold nx
  rw [dif_pos h]
  exact Classical.choose_spec h
theorem r_nx {ns : List Int} {n many : Int} (g : GoodS ns) (h0 : 0 ≤ n) (h1 : n < 10 ^ 9) (hm : 0 < many) : c__law_next.run [.own (St ns n), .dat (.int many)] = .ok (.dat (.int (nx ns n many))) [.own (St ns (n + 1)), .un] := (nx_all g h0 h1 hm).2.2
theorem nx_bd {ns : List Int} {n many : Int} (g : GoodS ns) (h0 : 0 ≤ n) (h1 : n < 10 ^ 9) (hm : 0 < many) : 0 ≤ nx ns n many ∧ nx ns n many < many := ⟨(nx_all g h0 h1 hm).1, (nx_all g h0 h1 hm).2.1⟩
open Classical in
noncomputable def gx (ns : List Int) (n many : Int) : Int := if h : ∃ v, 0 ≤ v ∧ v < many ∧ c__law_great.run [.own (St ns n), .dat (.int many)] = .ok (.dat (.int v)) [.own (St ns (n + 2)), .un] then Classical.choose h else 0
theorem gx_all {ns : List Int} {n many : Int} (g : GoodS ns) (h0 : 0 ≤ n) (h1 : n < 10 ^ 9 - 2) (hm : 0 < many) : 0 ≤ gx ns n many ∧ gx ns n many < many ∧ c__law_great.run [.own (St ns n), .dat (.int many)] = .ok (.dat (.int (gx ns n many))) [.own (St ns (n + 2)), .un] := by
  have h := r_great g h0 h1 hm
  unfold gx
  rw [dif_pos h]
  exact Classical.choose_spec h
theorem r_gx {ns : List Int} {n many : Int} (g : GoodS ns) (h0 : 0 ≤ n) (h1 : n < 10 ^ 9 - 2) (hm : 0 < many) : c__law_great.run [.own (St ns n), .dat (.int many)] = .ok (.dat (.int (gx ns n many))) [.own (St ns (n + 2)), .un] := (gx_all g h0 h1 hm).2.2
theorem gx_bd {ns : List Int} {n many : Int} (g : GoodS ns) (h0 : 0 ≤ n) (h1 : n < 10 ^ 9 - 2) (hm : 0 < many) : 0 ≤ gx ns n many ∧ gx ns n many < many := ⟨(gx_all g h0 h1 hm).1, (gx_all g h0 h1 hm).2.1⟩
theorem r_divisor (a b : Int) (hb : b.natAbs < fuel) : c_divisor.run [.dat (.int a), .dat (.int b)] = .ok (.dat (.int (Int.gcd a b))) [.un, .un] := by
  have h := loop_gcd wc_divisor_1 wb_divisor_1 (fun x y => by simp [wc_divisor_1]) (fun x y hp => by
    have h1 : ¬ (y = 0) := by omega
    simp [wb_divisor_1, sizeLine, fmod_nat, h1]) fuel a.natAbs b.natAbs hb
  rw [u_divisor]
  simp [runB, b_divisor, ws_divisor_1, sizeLine, h, bfun]
  rfl
theorem r_fraction0 (a : Int) : c_fraction.run [.dat (.int a), .dat (.int 0)] = .err .notAllowed [.un, .un] := by
  rw [u_fraction]
  simp [runB, b_fraction]
def red (a b : Int) : D := .tuple [.int (a.fdiv (if b < 0 then - (Int.gcd a b : Int) else Int.gcd a b)), .int (b.fdiv (if b < 0 then - (Int.gcd a b : Int) else Int.gcd a b))]
theorem log2_lt_of {n m : Nat} (h : n < 2 ^ m) : n = 0 ∨ n.log2 < m := by
  by_cases h0 : n = 0
  · exact .inl h0
  · exact .inr ((Nat.log2_lt h0).mpr h)
theorem r_fraction (a b : Int) (h0 : b ≠ 0) (hb : b.natAbs < fuel) : c_fraction.run [.dat (.int a), .dat (.int b)] = .ok (.dat (red a b)) [.un, .un] := by
  have g0 : Int.gcd a b ≠ 0 := by simp [Int.gcd_eq_zero_iff, h0]
  have gl : (Int.gcd a b).log2 < 9000 := by
    have h1 : Int.gcd a b ≤ b.natAbs := by have := Int.gcd_dvd_right a b; exact Nat.le_of_dvd (by omega) (Int.natAbs_dvd_natAbs.mpr this |> fun z => by simpa using z)
    have h2 : Int.gcd a b < 2 ^ 9000 := Nat.lt_of_le_of_lt h1 (Nat.lt_trans hb (by decide +kernel))
    exact (Nat.log2_lt g0).mpr h2
  rw [u_fraction]
  by_cases h : b < 0
  · simp [runB, b_fraction, h0, h, r_divisor a b hb, g0, gl, sizeLine, red]
  · simp [runB, b_fraction, h0, h, r_divisor a b hb, g0, gl, sizeLine, red]
theorem r_common (a b : Int) (hb : b.natAbs < fuel) : c__law_common.run [.dat (.int a), .dat (.int b)] = .ok (.dat (.int (Int.gcd a b))) [.un, .un] := by
  have h := loop_gcd wc__law_common_1 wb__law_common_1 (fun x y => by simp [wc__law_common_1]) (fun x y hp => by
    have h1 : ¬ (y = 0) := by omega
    simp [wb__law_common_1, sizeLine, fmod_nat, h1, bfun]) fuel a.natAbs b.natAbs hb
  have m1 : ∀ x : Int, max x (0 - x) = x.natAbs := fun x => by omega
  have m2 : ∀ x : Int, max x (-x) = x.natAbs := fun x => by omega
  rw [u__law_common]
  simp [runB, b__law_common, ws__law_common_1, sizeLine, m1, m2, h, bfun]
  rfl
theorem r_reduced (a b : Int) (h0 : b ≠ 0) (hb : b.natAbs < fuel) : c__law_reduced.run [.dat (.int a), .dat (.int b)] = .ok (.dat (red a b)) [.un, .un] := by
  have g0 : Int.gcd a b ≠ 0 := by simp [Int.gcd_eq_zero_iff, h0]
  have gl : (Int.gcd a b).log2 < 9000 := by
    have h1 : Int.gcd a b ≤ b.natAbs := by have := Int.gcd_dvd_right a b; exact Nat.le_of_dvd (by omega) (Int.natAbs_dvd_natAbs.mpr this |> fun z => by simpa using z)
    have h2 : Int.gcd a b < 2 ^ 9000 := Nat.lt_of_le_of_lt h1 (Nat.lt_trans hb (by decide +kernel))
    exact (Nat.log2_lt g0).mpr h2
  rw [u__law_reduced]
  by_cases h : b < 0
  · simp [runB, b__law_reduced, h0, h, r_common a b hb, g0, gl, sizeLine, red]
  · simp [runB, b__law_reduced, h0, h, r_common a b hb, g0, gl, sizeLine, red]
theorem fdiv_dvd {g a : Int} (h : g ≠ 0) (d : g ∣ a) : (a.fdiv g).natAbs ≤ a.natAbs ∧ (a ≠ 0 → a.fdiv g ≠ 0) := by
  obtain ⟨q, rfl⟩ := d
  rw [Int.mul_fdiv_cancel_left _ h]
  refine ⟨?_, fun z e => z (by rw [e, Int.mul_zero])⟩
  rw [Int.natAbs_mul]
  have : 0 < g.natAbs := by omega
  exact Nat.le_mul_of_pos_left _ this
theorem red_of (a b : Int) (h0 : b ≠ 0) : ∃ p q : Int, red a b = .tuple [.int p, .int q] ∧ p.natAbs ≤ a.natAbs ∧ q.natAbs ≤ b.natAbs ∧ q ≠ 0 := by
  have g0 : Int.gcd a b ≠ 0 := by simp [Int.gcd_eq_zero_iff, h0]
  have d1 : (Int.gcd a b : Int) ∣ a := Int.gcd_dvd_left a b
  have d2 : (Int.gcd a b : Int) ∣ b := Int.gcd_dvd_right a b
  refine ⟨_, _, rfl, ?_, ?_, ?_⟩ <;> by_cases h : b < 0 <;> simp only [h, if_true, if_false]
  · exact (fdiv_dvd (g := -(Int.gcd a b : Int)) (by omega) (Int.neg_dvd.mpr d1)).1
  · exact (fdiv_dvd (g := (Int.gcd a b : Int)) (by omega) d1).1
  · exact (fdiv_dvd (g := -(Int.gcd a b : Int)) (by omega) (Int.neg_dvd.mpr d2)).1
  · exact (fdiv_dvd (g := (Int.gcd a b : Int)) (by omega) d2).1
  · exact (fdiv_dvd (g := -(Int.gcd a b : Int)) (by omega) (Int.neg_dvd.mpr d2)).2 h0
  · exact (fdiv_dvd (g := (Int.gcd a b : Int)) (by omega) d2).2 h0
theorem pb_red {a b : Int} (h0 : b ≠ 0) (ha : a.natAbs < big) (hb : b.natAbs < big) : pb (red a b) := by
  obtain ⟨p, q, e, h1, h2, _⟩ := red_of a b h0
  rw [e]
  exact pb_ints2 (by omega) (by omega)
theorem r_isfrac (a b : Int) (hb : b.natAbs < fuel) : c_is_fraction.run [.dat (.tuple [.int a, .int b])] = .ok (.dat (.bool (decide (0 < b) && decide (Int.gcd a b = 1)))) [.un] := by
  rw [u_is_fraction]
  by_cases h : 1 ≤ b
  · have h' : 0 < b := by omega
    have e : decide ((Int.gcd a b : Int) = 1) = decide (Int.gcd a b = 1) := by simp; omega
    simp [runB, b_is_fraction, bfun, h, h', r_divisor a b hb, e]
  · have h' : ¬ 0 < b := by omega
    simp [runB, b_is_fraction, bfun, h, h']
theorem r_isfrac_no (xs : List D) (h : xs.length ≠ 2) : c_is_fraction.run [.dat (.tuple xs)] = .ok (.dat (.bool false)) [.un] := by
  have h' : ¬ ((xs.length : Int) = 2) := by omega
  rw [u_is_fraction]
  simp [runB, b_is_fraction, bfun, h']
abbrev fr (a b : Int) : D := .tuple [.int a, .int b]
theorem r_added (a b c d : Int) (ha : a.natAbs ≤ 10 ^ 12) (hb : b.natAbs ≤ 10 ^ 12) (hc : c.natAbs ≤ 10 ^ 12) (hd : d.natAbs ≤ 10 ^ 12) (b0 : b ≠ 0) (d0 : d ≠ 0) : c_added.run [.dat (fr a b), .dat (fr c d)] = .ok (.dat (red (a * d + c * b) (b * d))) [.un, .un] := by
  have m1 := mul_ok (a := a) (b := d) (lt_big (by omega)) (lt_big (by omega))
  have m2 := mul_ok (a := c) (b := b) (lt_big (by omega)) (lt_big (by omega))
  have m3 := mul_ok (a := b) (b := d) (lt_big (by omega)) (lt_big (by omega))
  have q : (b * d).natAbs ≤ 10 ^ 12 * 10 ^ 12 := by rw [Int.natAbs_mul]; exact Nat.mul_le_mul hb hd
  have r := r_fraction (a * d + c * b) (b * d) (Int.mul_ne_zero b0 d0) (lt_fuel (by omega))
  rw [u_added]
  simp [runB, b_added, m1, m2, m3, r]
theorem r_times (a b c d : Int) (ha : a.natAbs ≤ 10 ^ 12) (hb : b.natAbs ≤ 10 ^ 12) (hc : c.natAbs ≤ 10 ^ 12) (hd : d.natAbs ≤ 10 ^ 12) (b0 : b ≠ 0) (d0 : d ≠ 0) : c_times.run [.dat (fr a b), .dat (fr c d)] = .ok (.dat (red (a * c) (b * d))) [.un, .un] := by
  have m1 := mul_ok (a := a) (b := c) (lt_big (by omega)) (lt_big (by omega))
  have m3 := mul_ok (a := b) (b := d) (lt_big (by omega)) (lt_big (by omega))
  have q : (b * d).natAbs ≤ 10 ^ 12 * 10 ^ 12 := by rw [Int.natAbs_mul]; exact Nat.mul_le_mul hb hd
  have r := r_fraction (a * c) (b * d) (Int.mul_ne_zero b0 d0) (lt_fuel (by omega))
  rw [u_times]
  simp [runB, b_times, m1, m3, r]
end L
set_option autoImplicit false
namespace L
open PySem Ell
def rnd (t b : Int) (k : Str) : Int :=
  if k = "down" ∨ t = t.fdiv b * b then t.fdiv b else if k = "up" then t.fdiv b + 1 else
  if 2 * (t - t.fdiv b * b) = b then (if k = "near" ∨ (t.fdiv b).fmod 2 = 1 then t.fdiv b + 1 else t.fdiv b) else t.fdiv b + (if b < 2 * (t - t.fdiv b * b) then 1 else 0)
theorem quo (t b : Int) (hb : 0 < b) : 0 ≤ t - t.fdiv b * b ∧ t - t.fdiv b * b < b := by
  have h1 := Int.mul_fdiv_add_fmod t b
  have h2 := fmod_pos (a := t) hb
  have h3 : b * t.fdiv b = t.fdiv b * b := Int.mul_comm _ _
  omega
theorem quo_abs (t b : Int) (hb : 0 < b) : (t.fdiv b).natAbs ≤ t.natAbs + 1 := by
  rw [Int.fdiv_eq_ediv_of_nonneg _ (Int.le_of_lt hb)]
  have := Int.natAbs_ediv_le_natAbs t b
  omega
theorem r_rounded (t b : Int) (k : Str) (hb : 0 < b) (ht : t.natAbs < 10 ^ 100) (hb2 : b.natAbs < 10 ^ 100) : c_rounded.run [.dat (.tuple [.int t, .int b]), .dat (.str k)] = .ok (.dat (.int (rnd t b k))) [.un, .un] := by
  have q := quo_abs t b hb
  have qq := quo t b hb
  have z : ¬ b = 0 := by omega
  have dv := div_ok (b := b) (lt_big (by omega))
  unfold rnd
  rw [u_rounded]
  have m1 := mul_ok (a := t.fdiv b) (b := b) (lt_big (by omega)) (lt_big (by omega))
  have m2 := mul_ok (a := 2) (b := t - t.fdiv b * b) (lt_big (by decide)) (lt_big (by omega))
  simp at m2
  generalize hL : t.fdiv b = l at q qq m1 m2 ⊢
  generalize hx : l * b = x at qq m1 m2 ⊢
  by_cases h1 : k = "down"
  · subst h1
    simp [runB, b_rounded, z, dv, hL]
  by_cases h2 : t = x
  · have h2' : (t = x) = True := eq_true h2
    simp [runB, b_rounded, z, dv, h1, hx, m1, h2', hL]
  by_cases h3 : k = "up"
  · subst h3
    simp [runB, b_rounded, z, dv, hx, m1, h1, h2, hL]
  by_cases h4 : 2 * (t - x) = b
  · by_cases h5 : k = "near"
    · subst h5
      simp [runB, b_rounded, z, dv, hx, m1, m2, hL, h1, h2, h3, h4]
    · by_cases h6 : l.fmod 2 = 1
      · simp [runB, b_rounded, z, dv, h1, h3, hx, m1, m2, hL, h2, h4, h5, h6]
      · simp [runB, b_rounded, z, dv, h1, h3, hx, m1, m2, hL, h2, h4, h5, h6]
  · by_cases h7 : b < 2 * (t - x)
    · simp [runB, b_rounded, z, dv, h1, h3, hx, m1, m2, hL, h2, h4, h7, bfun]
    · simp [runB, b_rounded, z, dv, h1, h3, hx, m1, m2, hL, h2, h4, h7, bfun]

theorem r_lround (t b : Int) (k : Str) (hb : 0 < b) (ht : t.natAbs < 10 ^ 100) (hb2 : b.natAbs < 10 ^ 100) : c__law_round.run [.dat (.int t), .dat (.int b), .dat (.str k)] = .ok (.dat (.int (rnd t b k))) [.un, .un, .un] := by
  have q := quo_abs t b hb
  have qq := quo t b hb
  have z : ¬ b = 0 := by omega
  have dv := div_ok (b := b) (lt_big (by omega))
  unfold rnd
  rw [u__law_round]
  have m1 := mul_ok (a := t.fdiv b) (b := b) (lt_big (by omega)) (lt_big (by omega))
  have m2 := mul_ok (a := 2) (b := t - t.fdiv b * b) (lt_big (by decide)) (lt_big (by omega))
  simp at m2
  generalize hL : t.fdiv b = l at q qq m1 m2 ⊢
  generalize hx : l * b = x at qq m1 m2 ⊢
  by_cases h2 : t = x
  · have h2' : (t = x) = True := eq_true h2
    have h3 : t - x = 0 := by omega
    simp [runB, b__law_round, z, dv, hx, m1, h3, h2', hL]
  have h3 : ¬ (t - x = 0) := by omega
  by_cases h1 : k = "down"
  · subst h1
    simp [runB, b__law_round, z, dv, hL, hx, m1, h3]
  by_cases h5 : k = "up"
  · subst h5
    simp [runB, b__law_round, z, dv, hx, m1, h1, h2, h3, hL]
  by_cases h4 : 2 * (t - x) = b
  · by_cases h6 : k = "near"
    · subst h6
      simp [runB, b__law_round, z, dv, hx, m1, m2, hL, h1, h2, h3, h4, h5, bfun]
    · by_cases h7 : l.fmod 2 = 1
      · simp [runB, b__law_round, z, dv, hx, m1, m2, hL, h1, h2, h3, h4, h5, h6, h7, bfun]
      · simp [runB, b__law_round, z, dv, hx, m1, m2, hL, h1, h2, h3, h4, h5, h6, h7, bfun]
  · by_cases h7 : b < 2 * (t - x)
    · simp [runB, b__law_round, z, dv, hx, m1, m2, hL, h1, h2, h3, h4, h5, h7, bfun]
    · simp [runB, b__law_round, z, dv, hx, m1, m2, hL, h1, h2, h3, h4, h5, h7, bfun]
/-! what rounding is like -/
theorem rnd_scale (g t b : Int) (k : Str) (hg : 0 < g) (hb : 0 < b) : rnd (g * t) (g * b) k = rnd t b k := by
  have hgb : 0 < g * b := Int.mul_pos hg hb
  have e : (g * t).fdiv (g * b) = t.fdiv b := by
    rw [Int.fdiv_eq_ediv_of_nonneg _ (Int.le_of_lt hgb), Int.fdiv_eq_ediv_of_nonneg _ (Int.le_of_lt hb)]
    exact Int.mul_ediv_mul_of_pos _ _ hg
  unfold rnd
  rw [e]
  generalize t.fdiv b = l
  have e1 : g * t - l * (g * b) = g * (t - l * b) := by rw [Int.mul_sub, Int.mul_left_comm]
  have e2 : 2 * (g * t - l * (g * b)) = g * (2 * (t - l * b)) := by rw [e1, Int.mul_left_comm]
  have c1 : (g * t = l * (g * b)) = (t = l * b) := by
    refine propext ⟨fun h => ?_, fun h => by rw [h, Int.mul_left_comm]⟩
    have : g * (t - l * b) = 0 := by rw [← e1, h]; omega
    rcases Int.mul_eq_zero.mp this with z | z <;> omega
  have c2 : (g * (2 * (t - l * b)) = g * b) = (2 * (t - l * b) = b) := propext ⟨fun h => Int.eq_of_mul_eq_mul_left (by omega) h, fun h => by rw [h]⟩
  have c3 : (g * b < g * (2 * (t - l * b))) = (b < 2 * (t - l * b)) := propext ⟨fun h => Int.lt_of_mul_lt_mul_left h (Int.le_of_lt hg), fun h => Int.mul_lt_mul_of_pos_left h hg⟩
  simp only [c1, e2, c2, c3]
theorem rnd_shift (t b m : Int) (k : Str) (hb : 0 < b) : rnd (t + 2 * m * b) b k = rnd t b k + 2 * m := by
  have e : (t + 2 * m * b).fdiv b = t.fdiv b + 2 * m := by
    rw [Int.fdiv_eq_ediv_of_nonneg _ (Int.le_of_lt hb), Int.fdiv_eq_ediv_of_nonneg _ (Int.le_of_lt hb)]
    exact Int.add_mul_ediv_right _ _ (by omega)
  unfold rnd
  rw [e]
  generalize t.fdiv b = l
  have e1 : (l + 2 * m) * b = l * b + 2 * m * b := Int.add_mul _ _ _
  have e2 : (l + 2 * m).fmod 2 = l.fmod 2 := by
    rw [Int.fmod_eq_emod_of_nonneg _ (by decide), Int.fmod_eq_emod_of_nonneg _ (by decide)]
    omega
  rw [e1, e2]
  generalize l * b = x
  generalize 2 * m * b = y
  have e3 : t + y - (x + y) = t - x := by omega
  have e4 : (t + y = x + y) = (t = x) := propext ⟨fun h => by omega, fun h => by omega⟩
  simp only [e3, e4]
  split
  · rfl
  · split
    · omega
    · split
      · split <;> omega
      · split <;> omega
theorem rnd_between (t b : Int) (k : Str) : t.fdiv b ≤ rnd t b k ∧ rnd t b k ≤ t.fdiv b + 1 := by
  unfold rnd
  split
  · omega
  · split
    · omega
    · split
      · split <;> omega
      · split <;> omega
theorem rnd_mono (t u b : Int) (k : Str) (hb : 0 < b) (h : t ≤ u) : rnd t b k ≤ rnd u b k := by
  have d : t.fdiv b ≤ u.fdiv b := by
    rw [Int.fdiv_eq_ediv_of_nonneg _ (Int.le_of_lt hb), Int.fdiv_eq_ediv_of_nonneg _ (Int.le_of_lt hb)]
    exact Int.ediv_le_ediv hb h
  by_cases hd : t.fdiv b = u.fdiv b
  · have q1 := quo t b hb
    have q2 := quo u b hb
    unfold rnd
    rw [hd] at q1 ⊢
    generalize u.fdiv b = l at q1 q2 ⊢
    generalize l * b = x at q1 q2 ⊢
    by_cases h1 : k = "down"
    · simp [h1]
    by_cases h3 : k = "up"
    · subst h3
      simp only [h1, false_or, if_true]
      split <;> split <;> omega
    simp only [h1, h3, false_or, if_false]
    by_cases hn : k = "near" ∨ l.fmod 2 = 1
    · simp only [hn, if_true]
      split <;> split <;> (repeat' split) <;> omega
    · simp only [hn, if_false]
      split <;> split <;> (repeat' split) <;> omega
  · have b1 := rnd_between t b k
    have b2 := rnd_between u b k
    omega
end L
set_option autoImplicit false
namespace L
open PySem Ell
def tp (p q a b : Int) (k j : Str) : D := .tuple [.tuple [.int p, .int q], .tuple [.int a, .int b], .str k, .str j]
def kin (k : Str) : Prop := k = "down" ∨ k = "up" ∨ k = "near" ∨ k = "even"
/-- a good fraction of small numbers -/
structure GF (p q : Int) : Prop where
  q1 : 1 ≤ q
  q2 : q ≤ 999
  p1 : -999 ≤ p
  p2 : p ≤ 999
  g : Int.gcd p q = 1
structure GT (p q a b : Int) (k j : Str) : Prop where
  f : GF p q
  pos : 1 ≤ p
  o : GF a b
  k : kin k
  j : kin j
theorem kin_eq {k : Str} (h : kin k) : (Str.ofString "down" = k ∨ Str.ofString "up" = k ∨ Str.ofString "near" = k ∨ Str.ofString "even" = k) = True := eq_true (by rcases h with h | h | h | h <;> simp [h])
theorem isf {p q : Int} (h : GF p q) : c_is_fraction.run [.dat (.tuple [.int p, .int q])] = .ok (.dat (.bool true)) [.un] := by
  have h1 := h.q1; have h2 := h.q2
  rw [r_isfrac p q (lt_fuel (by omega))]
  have e1 : decide (0 < q) = true := decide_eq_true (by omega)
  have e2 : decide (Int.gcd p q = 1) = true := decide_eq_true h.g
  rw [e1, e2]
  rfl
theorem ct_good {p q a b : Int} {k j : Str} (h : GT p q a b k j) : c_check_trip.run [.dat (tp p q a b k j)] = .ok (.dat .none) [.un] := by
  have k1 := isf h.f
  have k2 := isf h.o
  obtain ⟨⟨f1, f2, f3, f4, f5⟩, ps, ⟨o1, o2, o3, o4, o5⟩, hk, hj⟩ := h
  have x1 : ¬ p < 1 := by omega
  have x2 : (-999 : Int) ≤ q := by omega
  have x3 : (-999 : Int) ≤ b := by omega
  rw [u_check_trip]
  rcases hk with rfl | rfl | rfl | rfl <;> rcases hj with rfl | rfl | rfl | rfl <;>
    simp [runB, b_check_trip, lx_check_trip_1, lc_check_trip_1, tp, sizeLine, k1, k2, x1, x2, x3, f2, f3, f4, o2, o3, o4, le_check_trip_1, bfun, bools?]
theorem ct_frac1 {p q : Int} {o : D} {k j : Str} (hq : q.natAbs < fuel) (h : (decide (0 < q) && decide (Int.gcd p q = 1)) = false) : c_check_trip.run [.dat (.tuple [.tuple [.int p, .int q], o, .str k, .str j])] = .err .notAllowed [.un] := by
  have k1 := r_isfrac p q hq
  rw [h] at k1
  rw [u_check_trip]
  simp [runB, b_check_trip, lx_check_trip_1, lc_check_trip_1, k1]
theorem ct_frac2 {p q a b : Int} {k j : Str} (hp : GF p q) (hq : b.natAbs < fuel) (h : (decide (0 < b) && decide (Int.gcd a b = 1)) = false) : c_check_trip.run [.dat (tp p q a b k j)] = .err .notAllowed [.un] := by
  have k1 := isf hp
  have k2 := r_isfrac a b hq
  rw [h] at k2
  rw [u_check_trip]
  simp [runB, b_check_trip, lx_check_trip_1, lc_check_trip_1, tp, k1, k2]
theorem ct_low {p q a b : Int} {k j : Str} (k1 : c_is_fraction.run [.dat (.tuple [.int p, .int q])] = .ok (.dat (.bool true)) [.un]) (k2 : c_is_fraction.run [.dat (.tuple [.int a, .int b])] = .ok (.dat (.bool true)) [.un]) (h : p < 1) : c_check_trip.run [.dat (tp p q a b k j)] = .err .notAllowed [.un] := by
  rw [u_check_trip]
  simp [runB, b_check_trip, lx_check_trip_1, lc_check_trip_1, tp, k1, k2, h]
theorem ct_range {p q a b : Int} {k j : Str} (k1 : c_is_fraction.run [.dat (.tuple [.int p, .int q])] = .ok (.dat (.bool true)) [.un]) (k2 : c_is_fraction.run [.dat (.tuple [.int a, .int b])] = .ok (.dat (.bool true)) [.un]) (h : 1 ≤ p) (hr : ¬ (p ≤ 999 ∧ q ≤ 999 ∧ -999 ≤ a ∧ a ≤ 999 ∧ b ≤ 999)) : c_check_trip.run [.dat (tp p q a b k j)] = .err .notAllowed [.un] := by
  have x1 : ¬ p < 1 := by omega
  rw [u_check_trip]
  have e : ∀ x : Int, kB (evP le_check_trip_1 [.un, .un, .un, .un, .un, .dat (.int x)]) = kB (evP le_check_trip_1 [.un, .un, .un, .un, .un, .dat (.int x)]) := fun _ => rfl
  by_cases c1 : (-999 ≤ p) <;> by_cases c2 : p ≤ 999 <;> by_cases c3 : (-999 ≤ q) <;> by_cases c4 : q ≤ 999 <;> by_cases c5 : (-999 ≤ a) <;> by_cases c6 : a ≤ 999 <;> by_cases c7 : (-999 ≤ b) <;> by_cases c8 : b ≤ 999 <;> first | (exfalso; omega) | simp [runB, b_check_trip, lx_check_trip_1, lc_check_trip_1, tp, sizeLine, k1, k2, x1, c1, c2, c3, c4, c5, c6, c7, c8, le_check_trip_1, bfun, bools?]
theorem ct_kind {p q a b : Int} {k j : Str} (hp : GF p q) (h1 : 1 ≤ p) (ho : GF a b) (h : (∀ z, z = Str.ofString "down" ∨ z = Str.ofString "up" ∨ z = Str.ofString "near" ∨ z = Str.ofString "even" → z ≠ k) ∨ (kin k ∧ ∀ z, z = Str.ofString "down" ∨ z = Str.ofString "up" ∨ z = Str.ofString "near" ∨ z = Str.ofString "even" → z ≠ j)) : c_check_trip.run [.dat (tp p q a b k j)] = .err .notAllowed [.un] := by
  have k1 := isf hp
  have k2 := isf ho
  obtain ⟨f1, f2, f3, f4, f5⟩ := hp
  obtain ⟨o1, o2, o3, o4, o5⟩ := ho
  have x1 : ¬ p < 1 := by omega
  have x2 : (-999 : Int) ≤ q := by omega
  have x3 : (-999 : Int) ≤ b := by omega
  rw [u_check_trip]
  rcases h with h | ⟨hk, h⟩
  · have y1 := h _ (.inl rfl); have y2 := h _ (.inr (.inl rfl)); have y3 := h _ (.inr (.inr (.inl rfl))); have y4 := h _ (.inr (.inr (.inr rfl)))
    simp [runB, b_check_trip, lx_check_trip_1, lc_check_trip_1, tp, sizeLine, k1, k2, x1, x2, x3, f2, f3, f4, o2, o3, o4, le_check_trip_1, bfun, bools?, y1, y2, y3, y4]
  · have y1 := h _ (.inl rfl); have y2 := h _ (.inr (.inl rfl)); have y3 := h _ (.inr (.inr (.inl rfl))); have y4 := h _ (.inr (.inr (.inr rfl)))
    rcases hk with rfl | rfl | rfl | rfl <;> simp [runB, b_check_trip, lx_check_trip_1, lc_check_trip_1, tp, sizeLine, k1, k2, x1, x2, x3, f2, f3, f4, o2, o3, o4, le_check_trip_1, bfun, bools?, y1, y2, y3, y4]
end L
set_option autoImplicit false
namespace L
open PySem Ell
theorem red_pos (n d : Int) (h : 0 < d) : ∃ x y g : Int, red n d = .tuple [.int x, .int y] ∧ 0 < g ∧ g * x = n ∧ g * y = d ∧ 0 < y ∧ x.natAbs ≤ n.natAbs ∧ y.natAbs ≤ d.natAbs := by
  have g0 : Int.gcd n d ≠ 0 := by simp [Int.gcd_eq_zero_iff]; omega
  obtain ⟨x, hx⟩ := Int.gcd_dvd_left n d
  obtain ⟨y, hy⟩ := Int.gcd_dvd_right n d
  have h' : ¬ d < 0 := by omega
  have gp : (0 : Int) < Int.gcd n d := by omega
  have f1 := fdiv_dvd (g := (Int.gcd n d : Int)) (by omega) (Int.gcd_dvd_left n d)
  have f2 := fdiv_dvd (g := (Int.gcd n d : Int)) (by omega) (Int.gcd_dvd_right n d)
  have e1 : n.fdiv (Int.gcd n d) = x := by
    conv => lhs; arg 1; rw [hx]
    exact Int.mul_fdiv_cancel_left _ (by omega)
  have e2 : d.fdiv (Int.gcd n d) = y := by
    conv => lhs; arg 1; rw [hy]
    exact Int.mul_fdiv_cancel_left _ (by omega)
  refine ⟨x, y, Int.gcd n d, ?_, gp, hx.symm, hy.symm, ?_, by rw [← e1]; exact f1.1, by rw [← e2]; exact f2.1⟩
  · unfold red
    simp only [h', if_false, e1, e2]
  · refine Int.lt_of_mul_lt_mul_left (a := (Int.gcd n d : Int)) ?_ (Int.le_of_lt gp)
    rw [← hy, Int.mul_zero]
    exact h
theorem added_big (a b c d : Int) (ha : a.natAbs ≤ 10 ^ 25) (hb : b.natAbs ≤ 10 ^ 25) (hc : c.natAbs ≤ 10 ^ 25) (hd : d.natAbs ≤ 10 ^ 25) (b0 : b ≠ 0) (d0 : d ≠ 0) : c_added.run [.dat (.tuple [.int a, .int b]), .dat (.tuple [.int c, .int d])] = .ok (.dat (red (a * d + c * b) (b * d))) [.un, .un] := by
  have m1 := mul_ok (a := a) (b := d) (lt_big (by omega)) (lt_big (by omega))
  have m2 := mul_ok (a := c) (b := b) (lt_big (by omega)) (lt_big (by omega))
  have m3 := mul_ok (a := b) (b := d) (lt_big (by omega)) (lt_big (by omega))
  have q : (b * d).natAbs ≤ 10 ^ 25 * 10 ^ 25 := by rw [Int.natAbs_mul]; exact Nat.mul_le_mul hb hd
  have r := r_fraction (a * d + c * b) (b * d) (Int.mul_ne_zero b0 d0) (lt_fuel (by omega))
  rw [u_added]
  simp [runB, b_added, m1, m2, m3, r]
theorem times_big (a b c d : Int) (ha : a.natAbs ≤ 10 ^ 25) (hb : b.natAbs ≤ 10 ^ 25) (hc : c.natAbs ≤ 10 ^ 25) (hd : d.natAbs ≤ 10 ^ 25) (b0 : b ≠ 0) (d0 : d ≠ 0) : c_times.run [.dat (.tuple [.int a, .int b]), .dat (.tuple [.int c, .int d])] = .ok (.dat (red (a * c) (b * d))) [.un, .un] := by
  have m1 := mul_ok (a := a) (b := c) (lt_big (by omega)) (lt_big (by omega))
  have m3 := mul_ok (a := b) (b := d) (lt_big (by omega)) (lt_big (by omega))
  have q : (b * d).natAbs ≤ 10 ^ 25 * 10 ^ 25 := by rw [Int.natAbs_mul]; exact Nat.mul_le_mul hb hd
  have r := r_fraction (a * c) (b * d) (Int.mul_ne_zero b0 d0) (lt_fuel (by omega))
  rw [u_times]
  simp [runB, b_times, m1, m3, r]
theorem mabs {a b : Int} {m n : Nat} (h : a.natAbs ≤ m) (k : b.natAbs ≤ n) : (a * b).natAbs ≤ m * n := by rw [Int.natAbs_mul]; exact Nat.mul_le_mul h k
def gn (p q a b : Int) (k : Str) (r : Int) : Int := rnd (r * p * b + a * q) (q * b) k
def bk (p q a b : Int) (j : Str) (s : Int) : Int := rnd ((s * b - a) * q) (b * p) j
section
variable {p q a b : Int} {k j : Str}
theorem r_gone (h : GT p q a b k j) {r : Int} (hr : r.natAbs ≤ 10 ^ 20) : c_gone.run [.dat (tp p q a b k j), .dat (.int r)] = .ok (.dat (.int (gn p q a b k r))) [.un, .un] := by
  obtain ⟨⟨f1, f2, f3, f4, f5⟩, ps, ⟨o1, o2, o3, o4, o5⟩, hk, hj⟩ := h
  have t1 := times_big r 1 p q (by omega) (by decide) (by omega) (by omega) (by decide) (by omega)
  rw [Int.one_mul] at t1
  obtain ⟨x, y, g, er, gp, gx, gy, yp, xl, yl⟩ := red_pos (r * p) q (by omega)
  rw [er] at t1
  have l1 := mabs (m := 10 ^ 20) (n := 1000) hr (show p.natAbs ≤ 1000 by omega)
  have t2 := added_big x y a b (by omega) (by omega) (by omega) (by omega) (by omega) (by omega)
  have yb : 0 < y * b := Int.mul_pos yp (by omega)
  obtain ⟨x2, y2, g2, er2, gp2, gx2, gy2, yp2, xl2, yl2⟩ := red_pos (x * b + a * y) (y * b) yb
  rw [er2] at t2
  have l2 := mabs (a := x) (b := b) (m := 10 ^ 24) (n := 1000) (by omega) (by omega)
  have l3 := mabs (a := a) (b := y) (m := 1000) (n := 1000) (by omega) (by omega)
  have l4 := mabs (a := y) (b := b) (m := 1000) (n := 1000) (by omega) (by omega)
  have t3 := r_rounded x2 y2 k yp2 (by omega) (by omega)
  have e : rnd x2 y2 k = gn p q a b k r := by
    rw [← rnd_scale g2 x2 y2 k gp2 yp2, gx2, gy2, ← rnd_scale g _ _ k gp yb]
    unfold gn
    congr 1
    · rw [Int.mul_add, ← Int.mul_assoc, gx, Int.mul_left_comm, gy]
    · rw [← Int.mul_assoc, gy]
  rw [e] at t3
  rw [u_gone]
  simp [runB, b_gone, tp, sizeLine, t1, t2, t3]
theorem r_returned (h : GT p q a b k j) {r : Int} (hr : r.natAbs ≤ 10 ^ 20) : c_returned.run [.dat (tp p q a b k j), .dat (.int r)] = .ok (.dat (.int (bk p q a b j r))) [.un, .un] := by
  obtain ⟨⟨f1, f2, f3, f4, f5⟩, ps, ⟨o1, o2, o3, o4, o5⟩, hk, hj⟩ := h
  have t1 := added_big r 1 (-a) b (by omega) (by decide) (by omega) (by omega) (by decide) (by omega)
  rw [Int.one_mul, Int.mul_one] at t1
  obtain ⟨x, y, g, er, gp, gx, gy, yp, xl, yl⟩ := red_pos (r * b + -a) b (by omega)
  rw [er] at t1
  have l1 := mabs (m := 10 ^ 20) (n := 1000) hr (show b.natAbs ≤ 1000 by omega)
  have t0 := r_fraction q p (by omega) (lt_fuel (by omega))
  obtain ⟨u, v, g1, er1, gp1, gx1, gy1, yp1, xl1, yl1⟩ := red_pos q p (by omega)
  rw [er1] at t0
  have t2 := times_big x y u v (by omega) (by omega) (by omega) (by omega) (by omega) (by omega)
  have yv : 0 < y * v := Int.mul_pos yp yp1
  obtain ⟨x2, y2, g2, er2, gp2, gx2, gy2, yp2, xl2, yl2⟩ := red_pos (x * u) (y * v) yv
  rw [er2] at t2
  have l2 := mabs (a := x) (b := u) (m := 10 ^ 24) (n := 1000) (by omega) (by omega)
  have l4 := mabs (a := y) (b := v) (m := 1000) (n := 1000) (by omega) (by omega)
  have t3 := r_rounded x2 y2 j yp2 (by omega) (by omega)
  have e : rnd x2 y2 j = bk p q a b j r := by
    rw [← rnd_scale g2 x2 y2 j gp2 yp2, gx2, gy2, ← rnd_scale (g * g1) _ _ j (Int.mul_pos gp gp1) yv]
    unfold bk
    have e1 : g * g1 * (x * u) = (g * x) * (g1 * u) := by rw [Int.mul_assoc, Int.mul_assoc, Int.mul_left_comm g1 x u]
    have e2 : g * g1 * (y * v) = (g * y) * (g1 * v) := by rw [Int.mul_assoc, Int.mul_assoc, Int.mul_left_comm g1 y v]
    rw [e1, e2, gx, gx1, gy, gy1, Int.sub_eq_add_neg]
  rw [e] at t3
  rw [u_returned]
  simp [runB, b_returned, tp, sizeLine, t0, t1, t2, t3]
theorem gn_abs (h : GT p q a b k j) {r : Int} (hr : r.natAbs ≤ 10 ^ 13) : (gn p q a b k r).natAbs ≤ 10 ^ 20 := by
  obtain ⟨⟨f1, f2, f3, f4, f5⟩, ps, ⟨o1, o2, o3, o4, o5⟩, hk, hj⟩ := h
  have l1 := mabs (a := r) (b := p) (m := 10 ^ 13) (n := 1000) hr (by omega)
  have l2 := mabs (a := r * p) (b := b) (m := 10 ^ 16) (n := 1000) (by omega) (by omega)
  have l3 := mabs (a := a) (b := q) (m := 1000) (n := 1000) (by omega) (by omega)
  have b1 := rnd_between (r * p * b + a * q) (q * b) k
  have b2 := quo_abs (r * p * b + a * q) (q * b) (Int.mul_pos (by omega) (by omega))
  unfold gn
  omega
theorem cr_good (h : GT p q a b k j) {r : Int} (h1 : -(10 ^ 12) ≤ r) (h2 : r ≤ 10 ^ 12) : c_check_reading.run [.dat (tp p q a b k j), .dat (.int r)] = .ok (.dat .none) [.un, .un] := by
  have c := ct_good h
  have h1' : (-1000000000000 : Int) ≤ r := h1
  have h2' : r ≤ 1000000000000 := h2
  rw [u_check_reading]
  simp [runB, b_check_reading, c, h1', h2']
theorem cr_far (h : GT p q a b k j) {r : Int} (hr : ¬ (-(10 ^ 12) ≤ r ∧ r ≤ 10 ^ 12)) : c_check_reading.run [.dat (tp p q a b k j), .dat (.int r)] = .err .notAllowed [.un, .un] := by
  have c := ct_good h
  rw [u_check_reading]
  by_cases h1 : (-1000000000000 : Int) ≤ r
  · have h2 : ¬ r ≤ 1000000000000 := fun z => hr ⟨h1, z⟩
    simp [runB, b_check_reading, c, h1, h2]
  · simp [runB, b_check_reading, c, h1]
theorem cr_bad {d : D} {r : Int} (h : c_check_trip.run [.dat d] = .err .notAllowed [.un]) : c_check_reading.run [.dat d, .dat (.int r)] = .err .notAllowed [.un, .un] := by
  rw [u_check_reading]
  simp [runB, b_check_reading, h]
theorem r_there (h : GT p q a b k j) {r : Int} (hr : r.natAbs ≤ 10 ^ 20) : c__law_there.run [.dat (tp p q a b k j), .dat (.int r)] = .ok (.dat (.int (gn p q a b k r))) [.un, .un] := by
  obtain ⟨⟨f1, f2, f3, f4, f5⟩, ps, ⟨o1, o2, o3, o4, o5⟩, hk, hj⟩ := h
  have l1 := mabs (a := r) (b := p) (m := 10 ^ 20) (n := 1000) hr (by omega)
  have l2 := mabs (a := r * p) (b := b) (m := 10 ^ 24) (n := 1000) (by omega) (by omega)
  have l3 := mabs (a := a) (b := q) (m := 1000) (n := 1000) (by omega) (by omega)
  have l4 := mabs (a := q) (b := b) (m := 1000) (n := 1000) (by omega) (by omega)
  have m1 := mul_ok (a := r) (b := p) (lt_big (by omega)) (lt_big (by omega))
  have m2 := mul_ok (a := r * p) (b := b) (lt_big (by omega)) (lt_big (by omega))
  have m3 := mul_ok (a := a) (b := q) (lt_big (by omega)) (lt_big (by omega))
  have m4 := mul_ok (a := q) (b := b) (lt_big (by omega)) (lt_big (by omega))
  have t := r_lround (r * p * b + a * q) (q * b) k (Int.mul_pos (by omega) (by omega)) (by omega) (by omega)
  rw [u__law_there]
  simp [runB, b__law_there, tp, sizeLine, m1, m2, m3, m4, t, gn]
theorem r_back (h : GT p q a b k j) {r : Int} (hr : r.natAbs ≤ 10 ^ 20) : c__law_back.run [.dat (tp p q a b k j), .dat (.int r)] = .ok (.dat (.int (bk p q a b j r))) [.un, .un] := by
  obtain ⟨⟨f1, f2, f3, f4, f5⟩, ps, ⟨o1, o2, o3, o4, o5⟩, hk, hj⟩ := h
  have l1 := mabs (a := r) (b := b) (m := 10 ^ 20) (n := 1000) hr (by omega)
  have l2 := mabs (a := r * b - a) (b := q) (m := 10 ^ 24) (n := 1000) (by omega) (by omega)
  have l4 := mabs (a := b) (b := p) (m := 1000) (n := 1000) (by omega) (by omega)
  have m1 := mul_ok (a := r) (b := b) (lt_big (by omega)) (lt_big (by omega))
  have m2 := mul_ok (a := r * b - a) (b := q) (lt_big (by omega)) (lt_big (by omega))
  have m4 := mul_ok (a := b) (b := p) (lt_big (by omega)) (lt_big (by omega))
  have t := r_lround ((r * b - a) * q) (b * p) j (Int.mul_pos (by omega) (by omega)) (by omega) (by omega)
  rw [u__law_back]
  simp [runB, b__law_back, tp, sizeLine, m1, m2, m4, t, bk]
theorem gn_shift (h : GT p q a b k j) (r s : Int) : gn p q a b k (r + 2 * q * s) = gn p q a b k r + 2 * (p * s) := by
  have := rnd_shift (r * p * b + a * q) (q * b) (p * s) k (Int.mul_pos (by have := h.f.q1; omega) (by have := h.o.q1; omega))
  unfold gn
  rw [← this]
  congr 1
  simp only [Int.add_mul, Int.mul_add, Int.mul_assoc, Int.mul_comm, Int.mul_left_comm, Int.add_assoc, Int.add_comm, Int.add_left_comm]
theorem bk_shift (h : GT p q a b k j) (r s : Int) : bk p q a b j (r + 2 * (p * s)) = bk p q a b j r + 2 * q * s := by
  have := rnd_shift ((r * b - a) * q) (b * p) (q * s) j (Int.mul_pos (by have := h.o.q1; omega) (by have := h.pos; omega))
  unfold bk
  rw [show 2 * q * s = 2 * (q * s) from Int.mul_assoc _ _ _, ← this]
  congr 1
  simp only [Int.sub_eq_add_neg, Int.add_mul, Int.mul_add, Int.mul_assoc, Int.mul_comm, Int.mul_left_comm, Int.add_assoc, Int.add_comm, Int.add_left_comm]
theorem gn_mono (h : GT p q a b k j) (r : Int) : gn p q a b k r ≤ gn p q a b k (r + 1) := by
  refine rnd_mono _ _ _ _ (Int.mul_pos (by have := h.f.q1; omega) (by have := h.o.q1; omega)) ?_
  have : 0 ≤ p * b := Int.mul_nonneg (by have := h.pos; omega) (by have := h.o.q1; omega)
  rw [Int.add_mul, Int.add_mul, Int.one_mul]
  omega
theorem bk_mono (h : GT p q a b k j) {r s : Int} (hs : r ≤ s) : bk p q a b j r ≤ bk p q a b j s := by
  refine rnd_mono _ _ _ _ (Int.mul_pos (by have := h.o.q1; omega) (by have := h.pos; omega)) ?_
  refine Int.mul_le_mul_of_nonneg_right ?_ (by have := h.f.q1; omega)
  have := Int.mul_le_mul_of_nonneg_right hs (show 0 ≤ b by have := h.o.q1; omega)
  omega
end
end L
set_option autoImplicit false
namespace L
open PySem Ell
theorem red_gf {u v : Int} (h1 : 1 ≤ v) (h2 : v ≤ 999) (h3 : -999 ≤ u) (h4 : u ≤ 999) : ∃ x y : Int, red u v = .tuple [.int x, .int y] ∧ GF x y ∧ (1 ≤ u → 1 ≤ x) := by
  obtain ⟨x, y, g, e, gp, gx, gy, yp, xl, yl⟩ := red_pos u v (by omega)
  refine ⟨x, y, e, ⟨by omega, by omega, by omega, by omega, ?_⟩, fun hu => ?_⟩
  · have e2 := e
    unfold red at e2
    have h' : ¬ v < 0 := by omega
    simp only [h', if_false] at e2
    injection e2 with e2
    injection e2 with a1 a2
    injection a1 with a1
    injection a2 with a2 _
    injection a2 with a2
    have g0 : Int.gcd u v ≠ 0 := by simp [Int.gcd_eq_zero_iff]; omega
    obtain ⟨s, hs⟩ := Int.gcd_dvd_left u v
    obtain ⟨t, ht⟩ := Int.gcd_dvd_right u v
    have b1 : x = s := by
      rw [← a1]
      conv => lhs; arg 1; rw [hs]
      exact Int.mul_fdiv_cancel_left _ (by omega)
    have b2 : y = t := by
      rw [← a2]
      conv => lhs; arg 1; rw [ht]
      exact Int.mul_fdiv_cancel_left _ (by omega)
    have k : Int.gcd ((Int.gcd u v : Int) * s) ((Int.gcd u v : Int) * t) = Int.gcd u v * Int.gcd s t := by rw [Int.gcd_mul_left]; rfl
    rw [← hs, ← ht] at k
    rw [b1, b2]
    have k2 : Int.gcd u v * 1 = Int.gcd u v * Int.gcd s t := by rw [Nat.mul_one]; exact k
    exact (Nat.eq_of_mul_eq_mul_left (by omega) k2).symm
  · by_cases hx : 1 ≤ x
    · exact hx
    · have : g * x ≤ g * 0 := Int.mul_le_mul_of_nonneg_left (by omega) (Int.le_of_lt gp)
      omega
theorem r_kind {ns : List Int} {n : Int} (g : GoodS ns) (h0 : 0 ≤ n) (h1 : n < 10 ^ 9 - 20) : ∃ k, kin k ∧ c__law_kind.run [.own (St ns n)] = .ok (.dat (.str k)) [.own (St ns (n + 1))] := by
  obtain ⟨v, v0, v1, e⟩ := r_next (n := n) (many := 4) g h0 (by omega) (by decide)
  have hv : v = 0 ∨ v = 1 ∨ v = 2 ∨ v = 3 := by omega
  rw [u__law_kind]
  rcases hv with rfl | rfl | rfl | rfl
  · exact ⟨_, .inl rfl, by simp [runB, b__law_kind, sizeLine, e]⟩
  · exact ⟨_, .inr (.inl rfl), by simp [runB, b__law_kind, sizeLine, e]⟩
  · exact ⟨_, .inr (.inr (.inl rfl)), by simp [runB, b__law_kind, sizeLine, e]⟩
  · exact ⟨_, .inr (.inr (.inr rfl)), by simp [runB, b__law_kind, sizeLine, e]⟩
theorem nth3 {x y z : D} {i : Int} (h0 : 0 ≤ i) (h1 : i < 3) : nth [x, y, z] i = some x ∨ nth [x, y, z] i = some y ∨ nth [x, y, z] i = some z := by
  have : i = 0 ∨ i = 1 ∨ i = 2 := by omega
  rcases this with rfl | rfl | rfl <;> simp
theorem r_lawtrip {ns : List Int} {n : Int} (g : GoodS ns) (h0 : 0 ≤ n) (h1 : n < 10 ^ 9 - 100) : ∃ p q a b k j n', GT p q a b k j ∧ n ≤ n' ∧ n' ≤ n + 20 ∧ c__law_trip.run [.own (St ns n)] = .ok (.dat (tp p q a b k j)) [.own (St ns n')] := by
  obtain ⟨x, x0, x1, e1⟩ := r_next (n := n) (many := 3) g h0 (by omega) (by decide)
  obtain ⟨m, m0, m1, em⟩ : ∃ m : Int, 1 ≤ m ∧ m ≤ 999 ∧ nth [PyData.int 4, .int 20, .int 999] x = some (.int m) := by
    rcases nth3 (x := PyData.int 4) (y := .int 20) (z := .int 999) x0 x1 with h | h | h
    · exact ⟨4, by decide, by decide, h⟩
    · exact ⟨20, by decide, by decide, h⟩
    · exact ⟨999, by decide, by decide, h⟩
  obtain ⟨u, u0, u1, e2⟩ := r_great (n := n + 1) (many := m) g (by omega) (by omega) (by omega)
  obtain ⟨v, v0, v1, e3⟩ := r_great (n := n + 3) (many := m) g (by omega) (by omega) (by omega)
  obtain ⟨p1, q1, er, hr, hr1⟩ := red_gf (u := 1 + u) (v := 1 + v) (by omega) (by omega) (by omega) (by omega)
  have k1 := r_reduced (1 + u) (1 + v) (by omega) (lt_fuel (by omega))
  rw [er] at k1
  obtain ⟨c, c0, c1, e4⟩ := r_great (n := n + 5) (many := 2 * m) g (by omega) (by omega) (by omega)
  obtain ⟨d, d0, d1, e5⟩ := r_next (n := n + 7) (many := 3) g (by omega) (by omega) (by decide)
  obtain ⟨w, w0, w1, ew⟩ : ∃ m : Int, 1 ≤ m ∧ m ≤ 999 ∧ nth [PyData.int 2, .int 12, .int 999] d = some (.int m) := by
    rcases nth3 (x := PyData.int 2) (y := .int 12) (z := .int 999) d0 d1 with h | h | h
    · exact ⟨2, by decide, by decide, h⟩
    · exact ⟨12, by decide, by decide, h⟩
    · exact ⟨999, by decide, by decide, h⟩
  obtain ⟨f, f0, f1, e6⟩ := r_great (n := n + 8) (many := w) g (by omega) (by omega) (by omega)
  obtain ⟨a1, b1, eo, ho, _⟩ := red_gf (u := c - m) (v := 1 + f) (by omega) (by omega) (by omega) (by omega)
  have k2 := r_reduced (c - m) (1 + f) (by omega) (lt_fuel (by omega))
  rw [eo] at k2
  obtain ⟨s, s0, s1, e7⟩ := r_next (n := n + 10) (many := 3) g (by omega) (by omega) (by decide)
  obtain ⟨a, b, hab, es⟩ : ∃ a b : Int, GF a b ∧ nth [PyData.tuple [.int 0, .int 1], .tuple [.int 1, .int 2], .tuple [.int a1, .int b1]] s = some (.tuple [.int a, .int b]) := by
    rcases nth3 (x := PyData.tuple [.int 0, .int 1]) (y := .tuple [.int 1, .int 2]) (z := .tuple [.int a1, .int b1]) s0 s1 with h | h | h
    · exact ⟨0, 1, ⟨by decide, by decide, by decide, by decide, by decide⟩, h⟩
    · exact ⟨1, 2, ⟨by decide, by decide, by decide, by decide, by decide⟩, h⟩
    · exact ⟨a1, b1, ho, h⟩
  obtain ⟨t, t0, t1, e8⟩ := r_next (n := n + 11) (many := 5) g (by omega) (by omega) (by decide)
  have mm : Nat.log2 2 + m.natAbs.log2 < 1000000 := by
    have := mul_ok (a := 2) (b := m) (lt_big (by decide)) (lt_big (by omega))
    simpa using this
  have z1 : n + 1 + 2 = n + 3 := by omega
  have z2 : n + 3 + 2 = n + 5 := by omega
  have z3 : n + 5 + 2 = n + 7 := by omega
  have z4 : n + 7 + 1 = n + 8 := by omega
  have z5 : n + 8 + 2 = n + 10 := by omega
  have z6 : n + 10 + 1 = n + 11 := by omega
  have z7 : n + 11 + 1 = n + 12 := by omega
  rw [z1] at e2; rw [z2] at e3; rw [z3] at e4; rw [z4] at e5; rw [z5] at e6; rw [z6] at e7; rw [z7] at e8
  rw [u__law_trip]
  by_cases ht : t = 0
  · subst ht
    obtain ⟨y, y0, y1, e9⟩ := r_next (n := n + 12) (many := 3) g (by omega) (by omega) (by decide)
    obtain ⟨k, hk, ek⟩ := r_kind (n := n + 13) g (by omega) (by omega)
    obtain ⟨j, hj, ej⟩ := r_kind (n := n + 14) g (by omega) (by omega)
    have z8 : n + 12 + 1 = n + 13 := by omega
    have z9 : n + 13 + 1 = n + 14 := by omega
    rw [z8] at e9; rw [z9] at ek
    refine ⟨1 + y, 1, a, b, k, j, n + 14 + 1, ⟨⟨by decide, by decide, by omega, by omega, by simp⟩, by omega, hab, hk, hj⟩, by omega, by omega, ?_⟩
    simp [runB, b__law_trip, tp, sizeLine, e1, em, e2, e3, k1, e4, e5, ew, e6, k2, e7, es, e8, e9, ek, ej, mm]
  · obtain ⟨k, hk, ek⟩ := r_kind (n := n + 12) g (by omega) (by omega)
    obtain ⟨j, hj, ej⟩ := r_kind (n := n + 13) g (by omega) (by omega)
    have z9 : n + 12 + 1 = n + 13 := by omega
    rw [z9] at ek
    refine ⟨p1, q1, a, b, k, j, n + 13 + 1, ⟨hr, hr1 (by omega), hab, hk, hj⟩, by omega, by omega, ?_⟩
    simp [runB, b__law_trip, tp, sizeLine, e1, em, e2, e3, k1, e4, e5, ew, e6, k2, e7, es, e8, ek, ej, mm, ht]
theorem r_reading {ns : List Int} {n : Int} (g : GoodS ns) (h0 : 0 ≤ n) (h1 : n < 10 ^ 9 - 100) : ∃ r : Int, r.natAbs ≤ 10 ^ 12 ∧ c__law_reading.run [.own (St ns n)] = .ok (.dat (.int r)) [.own (St ns (n + 7))] := by
  obtain ⟨a, a0, a1, e1⟩ := r_next (n := n) (many := 40) g h0 (by omega) (by decide)
  obtain ⟨b, b0, b1, e2⟩ := r_great (n := n + 1) (many := 99999) g (by omega) (by omega) (by decide)
  obtain ⟨c, c0, c1, e3⟩ := r_great (n := n + 3) (many := 1000000) g (by omega) (by omega) (by decide)
  obtain ⟨d, d0, d1, e4⟩ := r_next (n := n + 5) (many := 5) g (by omega) (by omega) (by decide)
  obtain ⟨e, e0, e1', e5⟩ := r_next (n := n + 6) (many := 2) g (by omega) (by omega) (by decide)
  have k1 := mul_okL (a := c) (n := 999983) (lt_big (by omega)) (lt_big (by omega))
  have q1 : n + 1 + 2 = n + 3 := by omega
  have q2 : n + 3 + 2 = n + 5 := by omega
  have q3 : n + 5 + 1 = n + 6 := by omega
  have q4 : n + 6 + 1 = n + 7 := by omega
  rw [q1] at e2; rw [q2] at e3; rw [q3] at e4; rw [q4] at e5
  have hd : d = 0 ∨ d = 1 ∨ d = 2 ∨ d = 3 ∨ d = 4 := by omega
  have he : e = 0 ∨ e = 1 := by omega
  rw [u__law_reading]
  rcases hd with rfl | rfl | rfl | rfl | rfl <;> rcases he with rfl | rfl <;> simp [runB, b__law_reading, bfun, sizeLine, e1, e2, e3, e4, e5, k1] <;> omega
end L
set_option autoImplicit false
namespace L
open PySem Ell
section
variable {p q a b : Int} {k j : Str}
theorem isf_of {x y : Int} (h1 : 0 < y) (h2 : y.natAbs < fuel) (h3 : Int.gcd x y = 1) : c_is_fraction.run [.dat (.tuple [.int x, .int y])] = .ok (.dat (.bool true)) [.un] := by
  rw [r_isfrac x y h2, decide_eq_true h1, decide_eq_true h3]
  rfl
theorem wrong_at (h : GT p q a b k j) {d : Int} (d0 : 0 ≤ d) (d1 : d < 12) : ∃ w, c_check_trip.run [.dat w] = .err .notAllowed [.un] ∧ nth [.tuple [.tuple [.int 0, .int 1], .tuple [.int a, .int b], .str k, .str j], .tuple [.tuple [.int (-1), .int 2], .tuple [.int a, .int b], .str k, .str j],
    .tuple [.tuple [.int 2, .int 4], .tuple [.int a, .int b], .str k, .str j], .tuple [.tuple [.int 1000, .int 1], .tuple [.int a, .int b], .str k, .str j], .tuple [.tuple [.int 1, .int 1000], .tuple [.int a, .int b], .str k, .str j],
    .tuple [.tuple [.int p, .int q], .tuple [.int 1, .int (-2)], .str k, .str j], .tuple [.tuple [.int p, .int q], .tuple [.int 1000, .int 1], .str k, .str j], .tuple [.tuple [.int p, .int q], .tuple [.int (-1000), .int 1], .str k, .str j],
    .tuple [.tuple [.int p, .int q], .tuple [.int 0, .int 2], .str k, .str j], .tuple [.tuple [.int p, .int q], .tuple [.int a, .int b], .str "downs", .str j], .tuple [.tuple [.int p, .int q], .tuple [.int a, .int b], .str k, .str ""], .tuple [.tuple [.int p, .int q], .tuple [.int a, .int b], .str "Up", .str j]] d = some w := by
  obtain ⟨f, ps, o, hk, hj⟩ := h
  have k1 := isf f
  have k2 := isf o
  have hd : d = 0 ∨ d = 1 ∨ d = 2 ∨ d = 3 ∨ d = 4 ∨ d = 5 ∨ d = 6 ∨ d = 7 ∨ d = 8 ∨ d = 9 ∨ d = 10 ∨ d = 11 := by omega
  have nk : ∀ x : Str, (x ≠ "down" ∧ x ≠ "up" ∧ x ≠ "near" ∧ x ≠ "even") → ∀ z, z = Str.ofString "down" ∨ z = Str.ofString "up" ∨ z = Str.ofString "near" ∨ z = Str.ofString "even" → z ≠ x := fun x hx z hz => by
    rcases hz with rfl | rfl | rfl | rfl
    · exact fun e => hx.1 e.symm
    · exact fun e => hx.2.1 e.symm
    · exact fun e => hx.2.2.1 e.symm
    · exact fun e => hx.2.2.2 e.symm
  rcases hd with rfl | rfl | rfl | rfl | rfl | rfl | rfl | rfl | rfl | rfl | rfl | rfl
  · exact ⟨_, ct_low (isf_of (by decide) (lt_fuel (by decide)) (by decide)) k2 (by decide), rfl⟩
  · exact ⟨_, ct_low (isf_of (by decide) (lt_fuel (by decide)) (by decide)) k2 (by decide), rfl⟩
  · exact ⟨_, ct_frac1 (lt_fuel (by decide)) (by decide), rfl⟩
  · exact ⟨_, ct_range (isf_of (by decide) (lt_fuel (by decide)) (by decide)) k2 (by decide) (by omega), rfl⟩
  · exact ⟨_, ct_range (isf_of (by decide) (lt_fuel (by decide)) (by decide)) k2 (by decide) (by omega), rfl⟩
  · exact ⟨_, ct_frac2 f (lt_fuel (by decide)) (by decide), rfl⟩
  · exact ⟨_, ct_range k1 (isf_of (by decide) (lt_fuel (by decide)) (by decide)) ps (by omega), rfl⟩
  · exact ⟨_, ct_range k1 (isf_of (by decide) (lt_fuel (by decide)) (by decide)) ps (by omega), rfl⟩
  · exact ⟨_, ct_frac2 f (lt_fuel (by decide)) (by decide), rfl⟩
  · exact ⟨_, ct_kind f ps o (.inl (nk _ (by decide))), rfl⟩
  · exact ⟨_, ct_kind f ps o (.inr ⟨hk, nk _ (by decide)⟩), rfl⟩
  · exact ⟨_, ct_kind f ps o (.inl (nk _ (by decide))), rfl⟩
theorem r_wrong {ns : List Int} {n : Int} (g : GoodS ns) (h0 : 0 ≤ n) (h1 : n < 10 ^ 9 - 20) (h : GT p q a b k j) : ∃ w, c_check_trip.run [.dat w] = .err .notAllowed [.un] ∧ c__law_wrong_trip.run [.own (St ns n), .dat (tp p q a b k j)] = .ok (.dat w) [.own (St ns (n + 1)), .un] := by
  obtain ⟨d, d0, d1, e⟩ := r_next (n := n) (many := 12) g h0 (by omega) (by decide)
  obtain ⟨w, hw, hn⟩ := wrong_at h d0 d1
  refine ⟨w, hw, ?_⟩
  rw [u__law_wrong_trip]
  simp [runB, b__law_wrong_trip, lx__law_wrong_trip_1, lc__law_wrong_trip_1, le__law_wrong_trip_1, tp, sizeLine, e, hn]
theorem ix_tp0 : index (tp p q a b k j) (.int 0) = some (.tuple [.int p, .int q]) := rfl
def shTp (p q a b : Int) (k j : Str) : Str := PyData.shown (tp p q a b k j)
theorem repr_tp (h : GT p q a b k j) : bfun .repr [tp p q a b k j] = some (.dat (.str (shTp p q a b k j))) := by
  obtain ⟨⟨f1, f2, f3, f4, f5⟩, ps, ⟨o1, o2, o3, o4, o5⟩, hk, hj⟩ := h
  have l1 := (pb_int (i := p) (lt_big (by omega))).sh
  have l2 := (pb_int (i := q) (lt_big (by omega))).sh
  have l3 := (pb_int (i := a) (lt_big (by omega))).sh
  have l4 := (pb_int (i := b) (lt_big (by omega))).sh
  have sk : ∀ x : Str, kin x → PyData.strOk x = true ∧ x.length ≤ 4 := fun x hx => by
    rcases hx with rfl | rfl | rfl | rfl <;> exact ⟨by decide +kernel, by decide +kernel⟩
  obtain ⟨s1, s2⟩ := sk k hk
  obtain ⟨s3, s4⟩ := sk j hj
  refine repr_tup (xs := [.tuple [.int p, .int q], .tuple [.int a, .int b], .str k, .str j]) ⟨?_, ?_, ?_, ?_⟩
  · simp only [sw_tup, sw_cons, sw_nil, sw_str, l1, l2, l3, l4]; rfl
  · simp [s1, s3]
  · simp
  · simp; omega
end
/-! the loop over readings -/
def InK (ns : List Int) (ds : List D) (t : D) (kept : Str) (c : Int) (i : Nat) (ρ : Rho) : Prop := ∃ (n : Int) (s2 s5 s6 s7 s8 s9 s10 s11 s12 s13 : Slot), ρ = [.ro ds, .own (St ns n), s2, .dat t, .dat (.str kept), s5, s6, s7, s8, s9, s10, s11, s12, s13] ∧ 0 ≤ n ∧ n ≤ c + 9 * i ∧
  isIo s2 = false ∧ isIo s5 = false ∧ isIo s6 = false ∧ isIo s7 = false ∧ isIo s8 = false ∧ isIo s9 = false ∧ isIo s10 = false ∧ isIo s11 = false ∧ isIo s12 = false ∧ isIo s13 = false
end L
set_option autoImplicit false
namespace L
open PySem Ell
theorem nd_map {α β : Type} {f : α → β} : ∀ {xs : List α}, (∀ i ∈ xs, ∀ j ∈ xs, f i = f j → i = j) → xs.Nodup → (xs.map f).Nodup
  | [], _, _ => List.nodup_nil
  | x :: xs, h, nd => by
    obtain ⟨h1, h2⟩ := List.nodup_cons.mp nd
    rw [List.map_cons, List.nodup_cons]
    refine ⟨fun m => ?_, nd_map (fun i hi j hj => h i (List.mem_cons_of_mem _ hi) j (List.mem_cons_of_mem _ hj)) h2⟩
    obtain ⟨y, hy, e⟩ := List.mem_map.mp m
    have := h y (List.mem_cons_of_mem _ hy) x List.mem_cons_self e
    subst this
    exact h1 hy
theorem nodup_le : ∀ (l D : List Nat), l.Nodup → (∀ x ∈ l, x ∈ D) → l.length ≤ D.length
  | [], _, _, _ => Nat.zero_le _
  | x :: l, D, hn, hs => by
    obtain ⟨h1, h2⟩ := List.nodup_cons.mp hn
    have hx : x ∈ D := hs x List.mem_cons_self
    have ih := nodup_le l (D.erase x) h2 fun y hy => by
      have hne : y ≠ x := fun e => h1 (e ▸ hy)
      exact (List.mem_erase_of_ne hne).2 (hs y (List.mem_cons_of_mem _ hy))
    have e := List.length_erase_of_mem hx
    have hp : 0 < D.length := List.length_pos_of_mem hx
    rw [List.length_cons]
    omega
theorem pigeon : ∀ (m : Nat) (f : Nat → Int), (∀ j, j ≤ m → 0 ≤ f j ∧ f j < m) → ∃ i j, i < j ∧ j ≤ m ∧ f i = f j := by
  intro m f h
  apply Classical.byContradiction
  intro no
  have inj : ∀ i j, i ≤ m → j ≤ m → f i = f j → i = j := by
    intro i j hi hj e
    rcases Nat.lt_trichotomy i j with c | c | c
    · exact absurd ⟨i, j, c, hj, e⟩ no
    · exact c
    · exact absurd ⟨j, i, c, hi, e.symm⟩ no
  have nd : ((List.range (m + 1)).map fun j => (f j).toNat).Nodup := by
    refine nd_map (fun i hi j hj e => ?_) List.nodup_range
    have hi := List.mem_range.mp hi
    have hj := List.mem_range.mp hj
    have := h i (by omega)
    have := h j (by omega)
    exact inj i j (by omega) (by omega) (by omega)
  have := nodup_le _ (List.range m) nd (by
    intro x hx
    obtain ⟨j, hj, rfl⟩ := List.mem_map.mp hx
    have := h j (by have := List.mem_range.mp hj; omega)
    exact List.mem_range.mpr (by omega))
  simp at this
  omega
theorem least {p : Nat → Prop} : ∀ n, p n → ∃ k, k ≤ n ∧ p k ∧ ∀ k', k' < k → ¬ p k' := by
  intro n
  induction n using Nat.strongRecOn with
  | ind n ih =>
    intro h
    by_cases c : ∃ k', k' < n ∧ p k'
    · obtain ⟨k', h1, h2⟩ := c
      obtain ⟨k, a, b, d⟩ := ih k' h1 h2
      exact ⟨k, Nat.le_trans a (Nat.le_of_lt h1), b, d⟩
    · exact ⟨n, Nat.le_refl _, h, fun k' hk hp => c ⟨k', hk, hp⟩⟩
/-- f goes on in the same way behind P, and never turns the order -/
structure Mv (f : Int → Int) (P : Int) : Prop where
  pos : 0 < P
  mono : ∀ x y, x ≤ y → f x ≤ f y
  per : ∀ x t, f (x + P * t) = f x + P * t
def it (f : Int → Int) : Nat → Int → Int
  | 0, x => x
  | k + 1, x => f (it f k x)
section
variable {f : Int → Int} {P : Int}
theorem it_add (x : Int) (j : Nat) : ∀ k : Nat, it f (j + k) x = it f k (it f j x)
  | 0 => rfl
  | k + 1 => by show f (it f (j + k) x) = f (it f k (it f j x)); rw [it_add x j k]
theorem it_mono (M : Mv f P) {x y : Int} (h : x ≤ y) : ∀ k : Nat, it f k x ≤ it f k y
  | 0 => h
  | k + 1 => M.mono _ _ (it_mono M h k)
theorem it_per (M : Mv f P) (x t : Int) : ∀ k : Nat, it f k (x + P * t) = it f k x + P * t
  | 0 => rfl
  | k + 1 => by show f (it f k (x + P * t)) = f (it f k x) + P * t; rw [it_per M x t k, M.per]
def rs (f : Int → Int) (P x : Int) (k : Nat) : Int := (it f k x).fmod P
/-- the course of x: i trips ahead, the ring has l, and moves by s -/
structure Crs (f : Int → Int) (P x : Int) (i l : Nat) (s : Int) : Prop where
  l1 : 1 ≤ l
  few : (i : Int) + l ≤ P
  ring : it f (i + l) x = it f i x + s
  mul : ∃ t, s = P * t
  rep : rs f P x i = rs f P x (i + l)
  new : ∀ a b, a < b → b < i + l → rs f P x a ≠ rs f P x b
theorem crs (M : Mv f P) (x : Int) : ∃ i l s, Crs f P x i l s := by
  have p0 := M.pos
  have bd : ∀ k, 0 ≤ rs f P x k ∧ rs f P x k < (P.toNat : Int) := fun k => by
    have := Int.fmod_nonneg_of_pos (it f k x) p0
    have := Int.fmod_lt_of_pos (it f k x) p0
    unfold rs
    omega
  obtain ⟨i, j, h1, h2, h3⟩ := pigeon P.toNat (rs f P x) (fun j _ => bd j)
  obtain ⟨c, c1, ⟨i, c2, c3⟩, c4⟩ := least (p := fun c => ∃ i, i < c ∧ rs f P x i = rs f P x c) j ⟨i, h1, h3⟩
  obtain ⟨l, rfl⟩ : ∃ l, c = i + l := ⟨c - i, by omega⟩
  refine ⟨i, l, it f (i + l) x - it f i x, by omega, by omega, by omega, ?_, c3, fun a b hab hb e => c4 b hb ⟨a, hab, e⟩⟩
  unfold rs at c3
  have e1 := Int.mul_fdiv_add_fmod (it f i x) P
  have e2 := Int.mul_fdiv_add_fmod (it f (i + l) x) P
  refine ⟨(it f (i + l) x).fdiv P - (it f i x).fdiv P, ?_⟩
  rw [Int.mul_sub]
  omega
variable {x : Int} {i l : Nat} {s : Int}
theorem Crs.long (M : Mv f P) (C : Crs f P x i l s) {j : Nat} (hj : i ≤ j) : ∀ n : Nat, it f (j + n * l) x = it f j x + n * s
  | 0 => by rw [Nat.zero_mul, Nat.add_zero]; omega
  | n + 1 => by
    obtain ⟨t, ht⟩ := C.mul
    have key : ∀ k, i ≤ k → it f (k + l) x = it f k x + s := by
      intro k hk
      obtain ⟨d, rfl⟩ : ∃ d, k = i + d := ⟨k - i, by omega⟩
      have e : i + d + l = (i + l) + d := by omega
      rw [e, it_add, C.ring, ht, it_per M, it_add]
    have e : j + (n + 1) * l = (j + n * l) + l := by rw [Nat.succ_mul]; omega
    rw [e, key _ (by omega), C.long M hj n]
    rw [Int.natCast_succ, Int.add_mul]
    omega
theorem it_up (M : Mv f P) {y : Int} (h : y ≤ f y) : ∀ k : Nat, f y ≤ it f (k + 1) y
  | 0 => Int.le_refl _
  | k + 1 => by
    have e : it f (k + 1 + 1) y = f (it f (k + 1) y) := rfl
    rw [e]
    exact M.mono _ _ (Int.le_trans h (it_up M h k))
theorem it_dn (M : Mv f P) {y : Int} (h : f y ≤ y) : ∀ k : Nat, it f (k + 1) y ≤ f y
  | 0 => Int.le_refl _
  | k + 1 => by
    have e : it f (k + 1 + 1) y = f (it f (k + 1) y) := rfl
    rw [e]
    exact M.mono _ _ (Int.le_trans (it_dn M h k) h)
theorem Crs.rest (M : Mv f P) (C : Crs f P x i l s) (hs : s = 0) : l = 1 := by
  have l1 := C.l1
  obtain ⟨k, rfl⟩ : ∃ k, l = k + 1 := ⟨l - 1, by omega⟩
  have e := C.ring
  rw [hs, it_add, Int.add_zero] at e
  generalize hy : it f i x = y at e
  have fy : f y = y := by
    rcases Int.lt_trichotomy (f y) y with c | c | c
    · have := it_dn M (Int.le_of_lt c) k; omega
    · exact c
    · have := it_up M (Int.le_of_lt c) k; omega
  by_cases hk : k = 0
  · omega
  · have := C.new i (i + 1) (by omega) (by omega)
    refine absurd ?_ this
    unfold rs
    show (it f i x).fmod P = (f (it f i x)).fmod P
    rw [hy, fy]
theorem rot_le (M : Mv f P) (C : Crs f P x i l s) {y : Int} {i' l' : Nat} {s' : Int} (C' : Crs f P y i' l' s') : s * l' ≤ s' * l := by
  have p0 := M.pos
  -- x ≤ y + P t
  obtain ⟨t, ht⟩ : ∃ t, x ≤ y + P * t := ⟨(x - y).natAbs, by
    have : (1 : Int) * ((x - y).natAbs : Int) ≤ P * ((x - y).natAbs : Int) := Int.mul_le_mul_of_nonneg_right (by omega) (by omega)
    omega⟩
  have le : ∀ k, it f k x ≤ it f k y + P * t := fun k => by rw [← it_per M]; exact it_mono M ht k
  apply Int.le_of_not_gt
  intro hgt
  -- far out
  have far : ∀ n : Nat, it f (i + i') x + n * (s * l') ≤ it f (i + i') y + n * (s' * l) + P * t := by
    intro n
    have h1 := C.long M (j := i + i') (by omega) (n * l')
    have h2 := C'.long M (j := i + i') (by omega) (n * l)
    have e : i + i' + n * l' * l = i + i' + n * l * l' := by rw [Nat.mul_assoc, Nat.mul_assoc, Nat.mul_comm l' l]
    rw [e] at h1
    have h3 := le (i + i' + n * l * l')
    rw [h1, h2] at h3
    push_cast at h3
    have e1 : (n : Int) * (l' : Int) * s = n * (s * l') := by rw [Int.mul_assoc, Int.mul_comm (l' : Int) s]
    have e2 : (n : Int) * (l : Int) * s' = n * (s' * l) := by rw [Int.mul_assoc, Int.mul_comm (l : Int) s']
    rw [e1, e2] at h3
    exact h3
  generalize s * (l' : Int) = A at *
  generalize s' * (l : Int) = B at *
  generalize it f (i + i') x = u at *
  generalize it f (i + i') y = v at *
  generalize P * t = w at *
  have h := far ((v + w - u).natAbs + 1)
  have : (((v + w - u).natAbs + 1 : Nat) : Int) * (A - B) ≥ (((v + w - u).natAbs + 1 : Nat) : Int) * 1 := Int.mul_le_mul_of_nonneg_left (by omega) (by omega)
  rw [Int.mul_sub] at this
  omega
theorem rot_eq (M : Mv f P) (C : Crs f P x i l s) {y : Int} {i' l' : Nat} {s' : Int} (C' : Crs f P y i' l' s') : s * l' = s' * l :=
  Int.le_antisymm (rot_le M C C') (rot_le M C' C)
/-- what at_last reckons -/
theorem Crs.last (M : Mv f P) (C : Crs f P x i l s) (n : Nat) : it f n x = it f (n - (n - i) / l * l) x + ((n - i) / l : Nat) * s := by
  have h := Nat.div_mul_le_self (n - i) l
  generalize (n - i) / l = k at *
  by_cases c : k = 0
  · subst c; simp
  · have l1 := C.l1
    have : 1 ≤ k * l := Nat.mul_pos (by omega) (by omega)
    have e := C.long M (j := n - k * l) (by omega) k
    rw [← e]
    congr 1
    omega
theorem Crs.uniq (C : Crs f P x i l s) {i' l' : Nat} {s' : Int} (C' : Crs f P x i' l' s') : i = i' ∧ l = l' ∧ s = s' := by
  have h1 := C.l1
  have h2 := C'.l1
  have e : i + l = i' + l' := by
    rcases Nat.lt_trichotomy (i + l) (i' + l') with c | c | c
    · exact absurd C.rep (C'.new i (i + l) (by omega) c)
    · exact c
    · exact absurd C'.rep (C.new i' (i' + l') (by omega) c)
  have ei : i = i' := by
    have r1 := C.rep
    have r2 := C'.rep
    rw [e] at r1
    rcases Nat.lt_trichotomy i i' with c | c | c
    · exact absurd (r1.trans r2.symm) (C.new i i' c (by omega))
    · exact c
    · exact absurd (r2.trans r1.symm) (C.new i' i c (by omega))
  subst ei
  have el : l = l' := by omega
  subst el
  have := C.ring
  have := C'.ring
  exact ⟨rfl, rfl, by omega⟩
end
end L
set_option autoImplicit false
namespace L
open PySem Ell
section
variable {p q a b : Int} {k j : Str}
/-- there and back -/
def fb (p q a b : Int) (k j : Str) (r : Int) : Int := bk p q a b j (gn p q a b k r)
theorem fb_mv (h : GT p q a b k j) : Mv (fb p q a b k j) (2 * q) := by
  refine ⟨by have := h.f.q1; omega, fun x y hxy => ?_, fun x t => ?_⟩
  · refine bk_mono h ?_
    obtain ⟨n, rfl⟩ : ∃ n : Nat, y = x + n := ⟨(y - x).toNat, by omega⟩
    clear hxy
    induction n with
    | zero => simp
    | succ n ih =>
      have := gn_mono h (x + n)
      have e : x + ((n + 1 : Nat) : Int) = x + n + 1 := by omega
      rw [e]
      exact Int.le_trans ih this
  · unfold fb
    rw [gn_shift h, bk_shift h]
theorem fb_near (h : GT p q a b k j) (x : Int) : (fb p q a b k j x - x).natAbs ≤ 1000 := by
  have q1 := h.f.q1; have q2 := h.f.q2; have p1 := h.pos; have b1 := h.o.q1
  unfold fb bk gn
  have ab := rnd_between (x * p * b + a * q) (q * b) k
  have d1 := quo (x * p * b + a * q) (q * b) (Int.mul_pos (by omega) (by omega))
  generalize rnd (x * p * b + a * q) (q * b) k = g at *
  have cd := rnd_between ((g * b - a) * q) (b * p) j
  have d2 := quo ((g * b - a) * q) (b * p) (Int.mul_pos (by omega) (by omega))
  generalize rnd ((g * b - a) * q) (b * p) j = r at *
  generalize (x * p * b + a * q).fdiv (q * b) = u at *
  generalize ((g * b - a) * q).fdiv (b * p) = v at *
  have qb : 0 < q * b := Int.mul_pos (by omega) (by omega)
  have bp : 0 < b * p := Int.mul_pos (by omega) (by omega)
  -- g q b is near N, r b p is near M
  have g1 : g * (q * b) ≤ x * p * b + a * q + q * b := by
    have : g * (q * b) ≤ (u + 1) * (q * b) := Int.mul_le_mul_of_nonneg_right (by omega) (by omega)
    rw [Int.add_mul, Int.one_mul] at this
    omega
  have g2 : x * p * b + a * q - q * b ≤ g * (q * b) := by
    have : u * (q * b) ≤ g * (q * b) := Int.mul_le_mul_of_nonneg_right (by omega) (by omega)
    omega
  have r1 : r * (b * p) ≤ (g * b - a) * q + b * p := by
    have : r * (b * p) ≤ (v + 1) * (b * p) := Int.mul_le_mul_of_nonneg_right (by omega) (by omega)
    rw [Int.add_mul, Int.one_mul] at this
    omega
  have r2 : (g * b - a) * q - b * p ≤ r * (b * p) := by
    have : v * (b * p) ≤ r * (b * p) := Int.mul_le_mul_of_nonneg_right (by omega) (by omega)
    omega
  have e1 : (g * b - a) * q = g * (q * b) - a * q := by rw [Int.sub_mul, Int.mul_assoc, Int.mul_comm b q]
  have e2 : x * p * b = x * (b * p) := by rw [Int.mul_assoc, Int.mul_comm p b]
  rw [e1] at r1 r2
  rw [e2] at g1 g2
  -- |r - x| b p ≤ q b + b p
  have m1 : (r - x) * (b * p) ≤ q * b + b * p := by rw [Int.sub_mul]; omega
  have m2 : -(q * b + b * p) ≤ (r - x) * (b * p) := by rw [Int.sub_mul]; omega
  have big : q * b + b * p ≤ 1000 * (b * p) := by
    have : q * b ≤ 999 * b := Int.mul_le_mul_of_nonneg_right q2 (by omega)
    have : b * 1 ≤ b * p := Int.mul_le_mul_of_nonneg_left p1 (by omega)
    omega
  have u1 : r - x ≤ 1000 := Int.le_of_mul_le_mul_right (Int.le_trans m1 big) bp
  have u2 : -1000 ≤ r - x := Int.le_of_mul_le_mul_right (by rw [Int.neg_mul]; omega) bp
  omega
theorem it_near (h : GT p q a b k j) (x : Int) : ∀ n : Nat, (it (fb p q a b k j) n x - x).natAbs ≤ 1000 * n
  | 0 => by simp [it]
  | n + 1 => by
    have ih := it_near h x n
    have := fb_near h (it (fb p q a b k j) n x)
    show (fb p q a b k j (it (fb p q a b k j) n x) - x).natAbs ≤ 1000 * (n + 1)
    omega
theorem r_moved (h : GT p q a b k j) {r : Int} (hr : r.natAbs ≤ 10 ^ 13) : c_moved.run [.dat (tp p q a b k j), .dat (.int r)] = .ok (.dat (.int (fb p q a b k j r - r))) [.un, .un] := by
  have e1 := r_gone h (r := r) (Nat.le_trans hr (by decide))
  have e2 := r_returned h (r := gn p q a b k r) (gn_abs h hr)
  rw [u_moved]
  have ef : bk p q a b j (gn p q a b k r) = fb p q a b k j r := rfl
  rw [ef] at e2
  unfold tp at *
  simp [runB, b_moved, e1, e2]
theorem r_period (h : GT p q a b k j) : c_period.run [.dat (tp p q a b k j)] = .ok (.dat (.int (2 * q))) [.un] := by
  have : (2 : Int).natAbs.log2 + q.natAbs.log2 < 1000000 := mul_ok (lt_big (by decide)) (lt_big (Nat.lt_of_le_of_lt (show q.natAbs ≤ 999 by have := h.f.q1; have := h.f.q2; omega) (by decide +kernel)))
  rw [u_period]
  unfold tp
  simp [runB, b_period] at this ⊢
  simp [this]
end
end L
set_option autoImplicit false
namespace L
open PySem Ell
section
variable {p q a b : Int} {k j : Str}
/-- by how much a reading is changed -/
def mv (p q a b : Int) (k j : Str) (r : Int) : Int := fb p q a b k j r - r
theorem mv_per (h : GT p q a b k j) (r : Int) : mv p q a b k j (r.fmod (2 * q)) = mv p q a b k j r := by
  have e := (fb_mv h).per (r.fmod (2 * q)) (r.fdiv (2 * q))
  have d := Int.mul_fdiv_add_fmod r (2 * q)
  rw [show r.fmod (2 * q) + 2 * q * r.fdiv (2 * q) = r by omega] at e
  unfold mv
  omega
def mvs (p q a b : Int) (k j : Str) (M : Nat) : List Int := (List.range M).map fun i : Nat => mv p q a b k j i
def losts (p q a b : Int) (k j : Str) (M : Nat) : List Int := ((List.range M).filter fun i : Nat => !decide (mv p q a b k j i = 0)).map fun i : Nat => (i : Int)
def rests (p q a b : Int) (k j : Str) (M : Nat) : List Int := ((List.range M).filter fun i : Nat => decide (mv p q a b k j i = 0)).map fun i : Nat => (i : Int)
theorem find_head {α β : Type} (p : α → Bool) (f : α → β) : ∀ xs : List α, xs.findSome? (fun a => if p a = true then some (f a) else none) = ((xs.filter p).map f).head?
  | [] => rfl
  | x :: xs => by
    by_cases c : p x = true
    · rw [List.findSome?_cons, if_pos c, List.filter_cons_of_pos c]; rfl
    · rw [List.findSome?_cons, if_neg c, List.filter_cons_of_neg c]; exact find_head p f xs
section
variable {M : Nat}
theorem perM (h : GT p q a b k j) (hM : (M : Int) = 2 * q) : c_period.run [.dat (tp p q a b k j)] = .ok (.dat (.int M)) [.un] := by rw [hM]; exact r_period h
theorem r_mvd (h : GT p q a b k j) (hM : (M : Int) = 2 * q) {i : Nat} (hi : i < M) : c_moved.run [.dat (tp p q a b k j), .dat (.int i)] = .ok (.dat (.int (mv p q a b k j i))) [.un, .un] := by
  have := h.f.q2
  exact r_moved h (by omega)
theorem r_always (h : GT p q a b k j) (hM : (M : Int) = 2 * q) : c_always_back.run [.dat (tp p q a b k j)] = .ok (.dat (.bool (decide (losts p q a b k j M = [])))) [.un] := by
  have q2 := h.f.q2
  have c := ct_good h
  have pe := perM h hM
  have lx : evP lx_always_back_1 [.dat (tp p q a b k j), .un] = .ok (.tmp (.own (.lst ((List.range M).map fun i : Nat => .bool (!decide (mv p q a b k j i = 0)))))) [.dat (tp p q a b k j), .un] :=
    lc_spec (tg := .nm 1) (it := .rng1 (.call c_period (.cons (.var 0) (.nil)))) (cond := lc_always_back_1) (elt := le_always_back_1) (own := [1]) (fun i : Nat => PyData.int i) (fun i : Nat => .bool (!decide (mv p q a b k j i = 0))) (xs := List.range M) (fun i => [.dat (tp p q a b k j), .dat (.int (i : Nat))]) (by simp [pe, show (M : Int) < 4611686018427387904 by omega, rngD]) (by rw [List.length_range]; exact szle (by omega)) (by decide) (fun i _ => by rfl) (fun i _ => by rfl) (fun i _ => by simp [lc_always_back_1]) (fun i hi => by
      have e := r_mvd h hM (List.mem_range.mp hi)
      simp [le_always_back_1, e]) (by rfl)
  have ba := bools_all (p := fun i : Nat => !decide (mv p q a b k j i = 0)) (List.range M)
  have an : bfun .any [.list ((List.range M).map fun i : Nat => .bool (!decide (mv p q a b k j i = 0)))] = some (.dat (.bool (!decide (losts p q a b k j M = [])))) := by
    show (bools? _).map _ = _
    rw [ba, Option.map_some, List.any_map]
    congr 3
    unfold losts
    rw [Bool.eq_iff_iff, List.any_eq_true]
    simp
  rw [u_always_back]
  generalize decide (losts p q a b k j M = []) = B at *
  cases B <;> simp [-f_any, runB, b_always_back, c, lx, an]
theorem r_first (h : GT p q a b k j) (hM : (M : Int) = 2 * q) : c_first_lost.run [.dat (tp p q a b k j)] = match (losts p q a b k j M).head? with | none => .err .missing [.un] | some r => .ok (.dat (.int r)) [.un] := by
  have q2 := h.f.q2
  have c := ct_good h
  have pe := perM h hM
  have lo := for_ret (tg := .nm 1) (it := .rng1 (.call c_period (.cons (.var 0) (.nil)))) (b := fb_first_lost_1) (ρ := [.dat (tp p q a b k j), .un]) (ρ0 := [.dat (tp p q a b k j), .un]) (fun i : Nat => PyData.int i) (xs := List.range M) (fun i : Nat => if (!decide (mv p q a b k j i = 0)) = true then some (i : Int) else none) (fun r : Int => .dat (.int r)) (fun i : Nat => [.dat (tp p q a b k j), .dat (.int i)]) (by simp [pe, show (M : Int) < 4611686018427387904 by omega, rngD]) (fun i _ => by rfl) (fun i hi g => by
      have e := r_mvd h hM (List.mem_range.mp hi)
      have z : mv p q a b k j i = 0 := by
        by_cases z : mv p q a b k j i = 0
        · exact z
        · rw [decide_eq_false z] at g; cases g
      rw [z] at e
      simp [fb_first_lost_1, e]) (fun i hi v g => by
      have e := r_mvd h hM (List.mem_range.mp hi)
      by_cases z : mv p q a b k j i = 0
      · rw [decide_eq_true z] at g; cases g
      · rw [decide_eq_false z] at g
        cases g
        exact ⟨[.dat (tp p q a b k j), .dat (.int i)], by simp [fb_first_lost_1, e, z]⟩)
  rw [find_head] at lo
  have el : ((List.range M).filter fun i : Nat => !decide (mv p q a b k j i = 0)).map (fun i : Nat => (i : Int)) = losts p q a b k j M := rfl
  rw [el] at lo
  rw [u_first_lost]
  cases z : (losts p q a b k j M).head? with
  | none =>
    have l2 : evS fs_first_lost_1 [.dat (tp p q a b k j), .un] = _ := lo.1 z
    simp [runB, b_first_lost, c, l2]
  | some r =>
    obtain ⟨ρ', l2⟩ := lo.2 r z
    have l2 : evS fs_first_lost_1 [.dat (tp p q a b k j), .un] = _ := l2
    simp [runB, b_first_lost, c, l2]
theorem r_share (h : GT p q a b k j) (hM : (M : Int) = 2 * q) : c_lost_share.run [.dat (tp p q a b k j)] = .ok (.dat (red (losts p q a b k j M).length M)) [.un] := by
  have q1 := h.f.q1
  have q2 := h.f.q2
  have c := ct_good h
  have pe := perM h hM
  have lx : evP lx_lost_share_1 [.dat (tp p q a b k j), .un, .un] = .ok (.tmp (.own (.lst (((List.range M).filter fun i : Nat => !decide (mv p q a b k j i = 0)).map fun _ => PyData.int 1)))) [.dat (tp p q a b k j), .un, .un] :=
    lc_specF (tg := .nm 2) (it := .rng1 (.call c_period (.cons (.var 0) (.nil)))) (cond := lc_lost_share_1) (elt := le_lost_share_1) (own := [2]) (fun i : Nat => PyData.int i) (fun i : Nat => !decide (mv p q a b k j i = 0)) (fun _ => PyData.int 1) (xs := List.range M) (fun i => [.dat (tp p q a b k j), .un, .dat (.int (i : Nat))]) (by simp [pe, show (M : Int) < 4611686018427387904 by omega, rngD]) (by rw [List.length_range]; exact szle (by omega)) (by decide) (fun i _ => by rfl) (fun i _ => by rfl) (fun i hi => by
      have e := r_mvd h hM (List.mem_range.mp hi)
      simp [lc_lost_share_1, e]) (fun i _ _ => by simp [le_lost_share_1]) (by rfl)
  have len : ((losts p q a b k j M).length : Int) = (((List.range M).filter fun i : Nat => !decide (mv p q a b k j i = 0)).map fun _ => PyData.int 1).length := by unfold losts; simp
  have ef := r_fraction ((losts p q a b k j M).length : Int) (M : Int) (by omega) (lt_fuel (by omega))
  rw [len] at ef ⊢
  generalize ((List.range M).filter fun i : Nat => !decide (mv p q a b k j i = 0)).map (fun _ => PyData.int 1) = L1 at *
  rw [u_lost_share]
  simp [runB, b_lost_share, c, lx, pe, ef]
theorem r_far (h : GT p q a b k j) (hM : (M : Int) = 2 * q) : c_farthest.run [.dat (tp p q a b k j)] = .ok (.dat (.tuple [.int ((mvs p q a b k j M).foldl min ((mvs p q a b k j M).headD 0)), .int ((mvs p q a b k j M).foldl max ((mvs p q a b k j M).headD 0))])) [.un] := by
  have q1 := h.f.q1
  have q2 := h.f.q2
  have c := ct_good h
  have pe := perM h hM
  have lx : evP lx_farthest_1 [.dat (tp p q a b k j), .un, .un] = .ok (.tmp (.own (.lst ((mvs p q a b k j M).map .int)))) [.dat (tp p q a b k j), .un, .un] := by
    unfold mvs
    rw [List.map_map]
    exact lc_spec (tg := .nm 2) (it := .rng1 (.call c_period (.cons (.var 0) (.nil)))) (cond := lc_farthest_1) (elt := le_farthest_1) (own := [2]) (fun i : Nat => PyData.int i) (fun i : Nat => PyData.int (mv p q a b k j i)) (xs := List.range M) (fun i => [.dat (tp p q a b k j), .un, .dat (.int (i : Nat))]) (by simp [pe, show (M : Int) < 4611686018427387904 by omega, rngD]) (by rw [List.length_range]; exact szle (by omega)) (by decide) (fun i _ => by rfl) (fun i _ => by rfl) (fun i _ => by simp [lc_farthest_1]) (fun i hi => by
      have e := r_mvd h hM (List.mem_range.mp hi)
      simp [le_farthest_1, e]) (by rfl)
  have ne : mvs p q a b k j M ≠ [] := by
    unfold mvs
    intro z
    have := congrArg List.length z
    simp at this
    omega
  have z2 : 2 ≤ sizeLine := szle (by omega)
  generalize mvs p q a b k j M = L1 at *
  rw [u_farthest]
  simp [runB, b_farthest, c, lx, ne, z2]
theorem r_rest (h : GT p q a b k j) (hM : (M : Int) = 2 * q) : c_resting.run [.dat (tp p q a b k j)] = .ok (.own (.lst ((rests p q a b k j M).map .int))) [.un] := by
  have q2 := h.f.q2
  have c := ct_good h
  have pe := perM h hM
  have lx : evP lx_resting_1 [.dat (tp p q a b k j), .un] = .ok (.tmp (.own (.lst ((rests p q a b k j M).map .int)))) [.dat (tp p q a b k j), .un] := by
    unfold rests
    rw [List.map_map]
    exact lc_specF (tg := .nm 1) (it := .rng1 (.call c_period (.cons (.var 0) (.nil)))) (cond := lc_resting_1) (elt := le_resting_1) (own := [1]) (fun i : Nat => PyData.int i) (fun i : Nat => decide (mv p q a b k j i = 0)) (fun i : Nat => PyData.int i) (xs := List.range M) (fun i => [.dat (tp p q a b k j), .dat (.int (i : Nat))]) (by simp [pe, show (M : Int) < 4611686018427387904 by omega, rngD]) (by rw [List.length_range]; exact szle (by omega)) (by decide) (fun i _ => by rfl) (fun i _ => by rfl) (fun i hi => by
      have e := r_mvd h hM (List.mem_range.mp hi)
      simp [lc_resting_1, e]) (fun i _ _ => by simp [le_resting_1]) (by rfl)
  rw [u_resting]
  simp [runB, b_resting, c, lx]
end
/-! ### trips that lose nothing -/
theorem rnd_dn (t b : Int) (hb : 0 < b) : rnd t b "down" * b ≤ t ∧ t < rnd t b "down" * b + b := by
  have := quo t b hb
  have e : rnd t b "down" = t.fdiv b := by unfold rnd; rw [if_pos (.inl rfl)]
  rw [e]; omega
theorem rnd_up (t b : Int) (hb : 0 < b) : t ≤ rnd t b "up" * b ∧ rnd t b "up" * b < t + b := by
  have := quo t b hb
  have n1 : ("up" : Str) ≠ "down" := by decide +kernel
  unfold rnd
  by_cases c : t = t.fdiv b * b
  · rw [if_pos (.inr c)]; omega
  · rw [if_neg (by rintro (z | z); exact n1 z; exact c z), if_pos rfl, Int.add_mul]; omega
theorem rnd_nr (t b : Int) (hb : 0 < b) : 2 * t - b ≤ 2 * (rnd t b "near" * b) ∧ 2 * (rnd t b "near" * b) ≤ 2 * t + b := by
  have := quo t b hb
  have n1 : ("near" : Str) ≠ "down" := by decide +kernel
  have n2 : ("near" : Str) ≠ "up" := by decide +kernel
  unfold rnd
  by_cases c : t = t.fdiv b * b
  · rw [if_pos (.inr c)]; omega
  · rw [if_neg (by rintro (z | z); exact n1 z; exact c z), if_neg n2]
    by_cases d : 2 * (t - t.fdiv b * b) = b
    · rw [if_pos d, if_pos (.inl rfl), Int.add_mul]; omega
    · rw [if_neg d]
      by_cases e : b < 2 * (t - t.fdiv b * b)
      · rw [if_pos e, Int.add_mul]; omega
      · rw [if_neg e, Int.add_zero]; omega
theorem pin {x r p : Int} (hp : 0 < p) (h1 : r * p - p < x * p) (h2 : x * p < r * p + p) : x = r := by
  rcases Int.lt_trichotomy x r with c | c | c
  · have := Int.mul_le_mul_of_nonneg_right (show x ≤ r - 1 by omega) (Int.le_of_lt hp)
    rw [Int.sub_mul] at this
    omega
  · exact c
  · have := Int.mul_le_mul_of_nonneg_right (show r + 1 ≤ x by omega) (Int.le_of_lt hp)
    rw [Int.add_mul] at this
    omega
theorem far_all (q1 : 1 ≤ q) (pq : q ≤ p) (r : Int) : mv p q 0 1 "down" "up" r = 0 := by
  have e : fb p q 0 1 "down" "up" r = r := by
    unfold fb bk gn
    simp only [Int.mul_one, Int.zero_mul, Int.add_zero, Int.sub_zero, Int.one_mul]
    have h1 := rnd_dn (r * p) q (by omega)
    generalize rnd (r * p) q "down" = N at *
    have h2 := rnd_up (N * q) p (by omega)
    exact pin (p := p) (by omega) (by omega) (by omega)
  unfold mv; omega
theorem near_all (q1 : 1 ≤ q) (pq : q < p) (r : Int) : mv p q 0 1 "near" "near" r = 0 := by
  have e : fb p q 0 1 "near" "near" r = r := by
    unfold fb bk gn
    simp only [Int.mul_one, Int.zero_mul, Int.add_zero, Int.sub_zero, Int.one_mul]
    have h1 := rnd_nr (r * p) q (by omega)
    generalize rnd (r * p) q "near" = N at *
    have h2 := rnd_nr (N * q) p (by omega)
    exact pin (p := p) (by omega) (by omega) (by omega)
  unfold mv; omega
theorem lost_nil {M : Nat} (h : ∀ r, mv p q a b k j r = 0) : losts p q a b k j M = [] := by
  unfold losts
  rw [List.map_eq_nil_iff, List.filter_eq_nil_iff]
  intro i _
  simp [h]
end
end L
set_option autoImplicit false
namespace L
open PySem Ell
section
variable {p q a b : Int} {k j : Str} {ns : List Int} {ds : List D} {M : Nat} {n : Int}
theorem r_trip (h : GT p q a b k j) {r : Int} (h1 : -(10 ^ 12) ≤ r) (h2 : r ≤ 10 ^ 12) : c_trip_of.run [.dat (tp p q a b k j), .dat (.int r)] = .ok (.dat (.tuple [.int (gn p q a b k r), .int (bk p q a b j (gn p q a b k r))])) [.un, .un] := by
  have c := cr_good h h1 h2
  have c1 := r_gone h (r := r) (by omega)
  have c2 := r_returned h (gn_abs h (r := r) (by omega))
  rw [u_trip_of]
  simp [runB, b_trip_of, sizeLine, c, c1, c2]
theorem w_always {d : D} (h : c_check_trip.run [.dat d] = .err .notAllowed [.un]) : c_always_back.run [.dat d] = .err .notAllowed [.un] := by
  rw [u_always_back]
  simp [runB, b_always_back, h]
theorem w_first {d : D} (h : c_check_trip.run [.dat d] = .err .notAllowed [.un]) : c_first_lost.run [.dat d] = .err .notAllowed [.un] := by
  rw [u_first_lost]
  simp [runB, b_first_lost, h]
theorem w_share {d : D} (h : c_check_trip.run [.dat d] = .err .notAllowed [.un]) : c_lost_share.run [.dat d] = .err .notAllowed [.un] := by
  rw [u_lost_share]
  simp [runB, b_lost_share, h]
theorem w_far {d : D} (h : c_check_trip.run [.dat d] = .err .notAllowed [.un]) : c_farthest.run [.dat d] = .err .notAllowed [.un] := by
  rw [u_farthest]
  simp [runB, b_farthest, h]
theorem w_rest {d : D} (h : c_check_trip.run [.dat d] = .err .notAllowed [.un]) : c_resting.run [.dat d] = .err .notAllowed [.un] := by
  rw [u_resting]
  simp [runB, b_resting, h]
theorem em {i : Nat} (hi : i < M) : (mvs p q a b k j M)[i]? = some (mv p q a b k j i) := by
  unfold mvs
  rw [List.getElem?_map, List.getElem?_range hi]; rfl
theorem en (h : GT p q a b k j) (hM : (M : Int) = 2 * q) (r : Int) : nth (mvs p q a b k j M) (r.fmod M) = some (mv p q a b k j r) := by
  have q1 := h.f.q1
  have e0 : 0 ≤ r.fmod M := Int.fmod_nonneg_of_pos _ (by omega)
  have e1 : r.fmod M < M := Int.fmod_lt_of_pos _ (by omega)
  have e2 : r.fmod M = ((r.fmod M).toNat : Int) := by omega
  have e3 := em (p := p) (q := q) (a := a) (b := b) (k := k) (j := j) (M := M) (i := (r.fmod M).toNat) (by omega)
  rw [e2, nth_nat, e3, ← e2, hM, mv_per h]
theorem mv_near (h : GT p q a b k j) (r : Int) : (mv p q a b k j r).natAbs ≤ 1000 := fb_near h r
theorem fold_abs {f : Int → Int → Int} {B : Nat} (hf : ∀ x y, f x y = x ∨ f x y = y) : ∀ (l : List Int) (x : Int), x.natAbs ≤ B → (∀ y ∈ l, y.natAbs ≤ B) → (l.foldl f x).natAbs ≤ B
  | [], x, hx, _ => hx
  | y :: l, x, hx, h => by
    refine fold_abs hf l (f x y) ?_ (fun z hz => h z (List.mem_cons_of_mem _ hz))
    rcases hf x y with e | e <;> rw [e]
    · exact hx
    · exact h y List.mem_cons_self
theorem head_abs {B : Nat} : ∀ (l : List Int), (∀ y ∈ l, y.natAbs ≤ B) → (l.headD 0).natAbs ≤ B
  | [], _ => Nat.zero_le _
  | y :: l, h => h y List.mem_cons_self
theorem mvs_abs (h : GT p q a b k j) : ∀ y ∈ mvs p q a b k j M, y.natAbs ≤ 1000 := by
  intro y hy
  obtain ⟨i, _, rfl⟩ := List.mem_map.mp hy
  exact mv_near h i
abbrev lS (ns : List Int) (ds : List D) (s2 s3 s4 s5 s6 s7 s8 s9 s10 s11 s12 s13 s14 s15 s16 s17 : Ell.Slot) (n : Int) : Rho := [.ro ds, .own (St ns n), s2, s3, s4, s5, s6, s7, s8, s9, s10, s11, s12, s13, s14, s15, s16, s17]
/-! the law's lists -/
theorem l_moved (h : GT p q a b k j) (hM : (M : Int) = 2 * q) {s2 s4 s6 s7 s8 s9 : Ell.Slot} :
    evP lx_law_3 (lS ns ds s2 (.dat (tp p q a b k j)) s4 (.dat (.int M)) s6 s7 s8 s9 .un .un .un .un .un .un .un .un n) = .ok (.tmp (.own (.lst ((mvs p q a b k j M).map .int)))) (lS ns ds s2 (.dat (tp p q a b k j)) s4 (.dat (.int M)) s6 s7 s8 s9 .un .un .un .un .un .un .un .un n) := by
  have q2 := h.f.q2
  unfold mvs
  rw [List.map_map]
  exact lc_spec (tg := .nm 14) (it := .rng1 (.var 5)) (cond := lc_law_3) (elt := le_law_3) (own := [14]) (fun i : Nat => PyData.int i) (fun i : Nat => PyData.int (mv p q a b k j i)) (xs := List.range M) (fun i => lS ns ds s2 (.dat (tp p q a b k j)) s4 (.dat (.int M)) s6 s7 s8 s9 .un .un .un .un (.dat (.int (i : Nat))) .un .un .un n) (by simp [show (M : Int) < 4611686018427387904 by omega, rngD]) (by rw [List.length_range]; exact szle (by omega)) (by decide) (fun i _ => by rfl) (fun i _ => by rfl) (fun i _ => by simp [lc_law_3]) (fun i hi => by
      have hi := List.mem_range.mp hi
      have e := r_there h (r := (i : Int)) (by omega)
      have e2 := r_back h (gn_abs h (r := (i : Int)) (by omega))
      simp [le_law_3, e, e2, mv, fb]) (by rfl)
theorem l_lost (h : GT p q a b k j) (hM : (M : Int) = 2 * q) {s2 s3 s4 s7 s8 s9 : Ell.Slot} :
    evP lx_law_2 (lS ns ds s2 s3 s4 (.dat (.int M)) (.dat (.list ((mvs p q a b k j M).map .int))) s7 s8 s9 .un .un .un .un .un .un .un .un n) = .ok (.tmp (.own (.lst ((losts p q a b k j M).map .int)))) (lS ns ds s2 s3 s4 (.dat (.int M)) (.dat (.list ((mvs p q a b k j M).map .int))) s7 s8 s9 .un .un .un .un .un .un .un .un n) := by
  have q2 := h.f.q2
  have em' : ∀ i, i < M → (mvs p q a b k j M)[i]? = some (mv p q a b k j i) := fun i hi => em hi
  generalize mvs p q a b k j M = L1 at *
  unfold losts
  rw [List.map_map]
  exact lc_specF (tg := .nm 14) (it := .rng1 (.var 5)) (cond := lc_law_2) (elt := le_law_2) (own := [14]) (fun i : Nat => PyData.int i) (fun i : Nat => !decide (mv p q a b k j i = 0)) (fun i : Nat => PyData.int i) (xs := List.range M) (fun i => lS ns ds s2 s3 s4 (.dat (.int M)) (.dat (.list (L1.map .int))) s7 s8 s9 .un .un .un .un (.dat (.int (i : Nat))) .un .un .un n) (by simp [show (M : Int) < 4611686018427387904 by omega, rngD]) (by rw [List.length_range]; exact szle (by omega)) (by decide) (fun i _ => by rfl) (fun i _ => by rfl) (fun i hi => by
      have hi := List.mem_range.mp hi
      have e := em' i hi
      simp [lc_law_2, e]) (fun i _ _ => by simp [le_law_2]) (by rfl)
theorem l_rest (h : GT p q a b k j) (hM : (M : Int) = 2 * q) {s2 s3 s4 s7 s8 s9 : Ell.Slot} :
    evP lx_law_1 (lS ns ds s2 s3 s4 (.dat (.int M)) (.dat (.list ((mvs p q a b k j M).map .int))) s7 s8 s9 .un .un .un .un .un .un .un .un n) = .ok (.tmp (.own (.lst ((rests p q a b k j M).map .int)))) (lS ns ds s2 s3 s4 (.dat (.int M)) (.dat (.list ((mvs p q a b k j M).map .int))) s7 s8 s9 .un .un .un .un .un .un .un .un n) := by
  have q2 := h.f.q2
  have em' : ∀ i, i < M → (mvs p q a b k j M)[i]? = some (mv p q a b k j i) := fun i hi => em hi
  generalize mvs p q a b k j M = L1 at *
  unfold rests
  rw [List.map_map]
  exact lc_specF (tg := .nm 14) (it := .rng1 (.var 5)) (cond := lc_law_1) (elt := le_law_1) (own := [14]) (fun i : Nat => PyData.int i) (fun i : Nat => decide (mv p q a b k j i = 0)) (fun i : Nat => PyData.int i) (xs := List.range M) (fun i => lS ns ds s2 s3 s4 (.dat (.int M)) (.dat (.list (L1.map .int))) s7 s8 s9 .un .un .un .un (.dat (.int (i : Nat))) .un .un .un n) (by simp [show (M : Int) < 4611686018427387904 by omega, rngD]) (by rw [List.length_range]; exact szle (by omega)) (by decide) (fun i _ => by rfl) (fun i _ => by rfl) (fun i hi => by
      have hi := List.mem_range.mp hi
      have e := em' i hi
      simp [lc_law_1, e]) (fun i _ _ => by simp [le_law_1]) (by rfl)
/-! four readings -/
theorem e_read (h : GT p q a b k j) (hM : (M : Int) = 2 * q) (g : GoodS ns) (n0 : 0 ≤ n) (hn : n < 10 ^ 6) {s2 s4 s7 s8 s9 s10 : Ell.Slot} :
    evS fs_law_2 (lS ns ds s2 (.dat (tp p q a b k j)) s4 (.dat (.int M)) (.dat (.list ((mvs p q a b k j M).map .int))) s7 s8 s9 s10 .un .un .un .un .un .un .un n) = .next (lS ns ds s2 (.dat (tp p q a b k j)) s4 (.dat (.int M)) (.dat (.list ((mvs p q a b k j M).map .int))) s7 s8 s9 s10 .un .un .un .un .un .un .un (n + 28)) := by
  have so : PyData.strOk (Str.ofString "told") = true := by decide +kernel
  have q1 := h.f.q1
  obtain ⟨n', h2, e⟩ := for_inv (tg := .nm 11) (it := .rng1 (.lit (.int 4))) (b := fb_law_2) (ρ := lS ns ds s2 (.dat (tp p q a b k j)) s4 (.dat (.int M)) (.dat (.list ((mvs p q a b k j M).map .int))) s7 s8 s9 s10 .un .un .un .un .un .un .un n) PyData.int (xs := [0, 1, 2, 3]) (fun n => lS ns ds s2 (.dat (tp p q a b k j)) s4 (.dat (.int M)) (.dat (.list ((mvs p q a b k j M).map .int))) s7 s8 s9 s10 .un .un .un .un .un .un .un n) (fun n i => lS ns ds s2 (.dat (tp p q a b k j)) s4 (.dat (.int M)) (.dat (.list ((mvs p q a b k j M).map .int))) s7 s8 s9 s10 (.dat (.int i)) .un .un .un .un .un .un n)
    (fun i n' => n' = n + 7 * i) (s0 := n) (by simp [rngD]; rfl) (by omega) (fun s k => by rfl) (fun i u n' hi hn' => by
      have hi2 := (List.getElem?_eq_some_iff.mp hi).1
      have hi2 : i < 4 := hi2
      obtain ⟨r, rb, er⟩ := r_reading (ns := ns) (n := n') g (by omega) (by omega)
      have et := r_trip h (r := r) (by omega) (by omega)
      have e5 := en h hM r
      have z2 : 2 ≤ sizeLine := szle (by omega)
      have e6 : mv p q a b k j r = bk p q a b j (gn p q a b k r) - r := rfl
      generalize mvs p q a b k j M = L1 at *
      generalize tp p q a b k j = T at *
      have M0 : M ≠ 0 := by omega
      refine ⟨n' + 7, by omega, ?_⟩
      simp [fb_law_2, er, et, nth_mapE, e5, e6, z2, so, M0])
  have e : evS fs_law_2 (lS ns ds s2 (.dat (tp p q a b k j)) s4 (.dat (.int M)) (.dat (.list ((mvs p q a b k j M).map .int))) s7 s8 s9 s10 .un .un .un .un .un .un .un n) = _ := e
  rw [e]
  have h2 : n' = n + 7 * 4 := h2
  rw [show n' = n + 28 by omega]
/-! wrong trips -/
theorem e_bad {w : D} (hw : c_check_trip.run [.dat w] = .err .notAllowed [.un]) {s2 s3 s4 s5 s6 s7 s8 s9 s10 s16 s17 : Ell.Slot} :
    evS fs_law_1 (lS ns ds s2 s3 s4 s5 s6 s7 s8 s9 s10 .un (.dat w) .un .un .un s16 s17 n) = .next (lS ns ds s2 s3 s4 s5 s6 s7 s8 s9 s10 .un (.dat w) .un .un .un s16 s17 n) := by
  have so : PyData.strOk (Str.ofString "refused") = true := by decide +kernel
  have z1 : 1 ≤ sizeLine := szle (by omega)
  have f0 : fnOf [(Str.ofString "always_back", c_always_back), (Str.ofString "first_lost", c_first_lost), (Str.ofString "lost_share", c_lost_share), (Str.ofString "farthest", c_farthest), (Str.ofString "resting", c_resting)] (Str.ofString "always_back") = some c_always_back := by rfl
  have f1 : fnOf [(Str.ofString "always_back", c_always_back), (Str.ofString "first_lost", c_first_lost), (Str.ofString "lost_share", c_lost_share), (Str.ofString "farthest", c_farthest), (Str.ofString "resting", c_resting)] (Str.ofString "first_lost") = some c_first_lost := by rfl
  have f2 : fnOf [(Str.ofString "always_back", c_always_back), (Str.ofString "first_lost", c_first_lost), (Str.ofString "lost_share", c_lost_share), (Str.ofString "farthest", c_farthest), (Str.ofString "resting", c_resting)] (Str.ofString "lost_share") = some c_lost_share := by rfl
  have f3 : fnOf [(Str.ofString "always_back", c_always_back), (Str.ofString "first_lost", c_first_lost), (Str.ofString "lost_share", c_lost_share), (Str.ofString "farthest", c_farthest), (Str.ofString "resting", c_resting)] (Str.ofString "farthest") = some c_farthest := by rfl
  have f4 : fnOf [(Str.ofString "always_back", c_always_back), (Str.ofString "first_lost", c_first_lost), (Str.ofString "lost_share", c_lost_share), (Str.ofString "farthest", c_farthest), (Str.ofString "resting", c_resting)] (Str.ofString "resting") = some c_resting := by rfl
  simp [fs_law_1, fb_law_1, f0, f1, f2, f3, f4, w_always hw, w_first hw, w_share hw, w_far hw, w_rest hw, so, z1]
end
end L
set_option autoImplicit false
namespace L
open PySem Ell
section
variable {p q a b : Int} {k j : Str} {ns : List Int} {ds : List D} {M : Nat} {n : Int}
theorem gt_near (h : GT p q a b k j) : GT p q 0 1 (Str.ofString "near") (Str.ofString "near") := ⟨h.f, h.pos, ⟨by decide, by decide, by decide, by decide, by decide⟩, .inr (.inr (.inl rfl)), .inr (.inr (.inl rfl))⟩
theorem gt_far (h : GT p q a b k j) : GT p q 0 1 (Str.ofString "down") (Str.ofString "up") := ⟨h.f, h.pos, ⟨by decide, by decide, by decide, by decide, by decide⟩, .inl rfl, .inr (.inl rfl)⟩
theorem losts_len : (losts p q a b k j M).length ≤ M := by
  unfold losts
  rw [List.length_map]
  refine Nat.le_trans (List.length_filter_le _ _) ?_
  rw [List.length_range]; exact Nat.le_refl _
theorem rests_len : (rests p q a b k j M).length ≤ M := by
  unfold rests
  rw [List.length_map]
  refine Nat.le_trans (List.length_filter_le _ _) ?_
  rw [List.length_range]; exact Nat.le_refl _
theorem losts_lt : ∀ x ∈ losts p q a b k j M, 0 ≤ x ∧ x < M := by
  intro x hx
  obtain ⟨i, hi, rfl⟩ := List.mem_map.mp hx
  have := List.mem_range.mp (List.mem_filter.mp hi).1
  omega
theorem rests_lt : ∀ x ∈ rests p q a b k j M, 0 ≤ x ∧ x < M := by
  intro x hx
  obtain ⟨i, hi, rfl⟩ := List.mem_map.mp hx
  have := List.mem_range.mp (List.mem_filter.mp hi).1
  omega

theorem prs_ints {L1 : List Int} {B : Nat} (hB : B ≤ 5000) (hl : L1.length ≤ B) (h : ∀ x ∈ L1, x.natAbs < big) : prs (.tuple [.str "told", .list (L1.map PyData.int)]) :=
  prs_told ((pz_mapL (k := 0) (s := 1921) (n := 5000) (fun x hx => pz_int (h x hx)) (by omega)).pb (by decide) (by decide))
theorem dic_red {a b : Int} : isDic (red a b) = false := by unfold red; split <;> rfl
/-- the lines after the readings -/
theorem turn {x : D} (g : GoodS ns) (n0 : 0 ≤ n) (hn : n < 9000) : ∃ n', n ≤ n' ∧ n' ≤ n + 500 ∧ evS fb_law_3 (lS ns ds (.dat x) .un .un .un .un .un .un .un .un .un .un .un .un .un .un .un n) = .next (lS ns ds .un .un .un .un .un .un .un .un .un .un .un .un .un .un .un .un n') := by
  obtain ⟨p, q, a, b, k, j, n1, h, m0, m1, e1⟩ := r_lawtrip (n := n) g n0 (by omega)
  have er := repr_tp h
  have q1 := h.f.q1
  have q2 := h.f.q2
  obtain ⟨M, hM⟩ : ∃ M : Nat, (M : Int) = 2 * q := ⟨(2 * q).toNat, by omega⟩
  have z1 : 1 ≤ sizeLine := szle (by omega)
  have z2 : 2 ≤ sizeLine := szle (by omega)
  have z4 : 4 ≤ sizeLine := szle (by omega)
  have so : PyData.strOk (Str.ofString "told") = true := by decide +kernel
  have hl := losts_len (p := p) (q := q) (a := a) (b := b) (k := k) (j := j) (M := M)
  have hl2 := rests_len (p := p) (q := q) (a := a) (b := b) (k := k) (j := j) (M := M)
  have hlt := losts_lt (p := p) (q := q) (a := a) (b := b) (k := k) (j := j) (M := M)
  have hrt := rests_lt (p := p) (q := q) (a := a) (b := b) (k := k) (j := j) (M := M)
  have cA := r_always h hM
  have cF := r_first h hM
  have cS := r_share h hM
  have cX := r_far h hM
  have cR := r_rest h hM
  have e6 := l_moved (ns := ns) (ds := ds) (n := n1) h hM (s2 := .dat x) (s4 := .dat (.str (shTp p q a b k j))) (s6 := .un) (s7 := .un) (s8 := .un) (s9 := .un)
  have e7 := l_lost (ns := ns) (ds := ds) (n := n1) h hM (s2 := .dat x) (s3 := .dat (tp p q a b k j)) (s4 := .dat (.str (shTp p q a b k j))) (s7 := .un) (s8 := .un) (s9 := .un)
  have ms := mvs_abs (M := M) h
  have ne : mvs p q a b k j M ≠ [] := by
    unfold mvs
    intro z
    have := congrArg List.length z
    simp at this
    omega
  have b1 := fold_abs (f := min) (fun x y => by rcases Int.le_total x y with c | c; exact .inl (Int.min_eq_left c); exact .inr (Int.min_eq_right c)) (mvs p q a b k j M) _ (head_abs _ ms) ms
  have b2 := fold_abs (f := max) (fun x y => by rcases Int.le_total x y with c | c; exact .inr (Int.max_eq_right c); exact .inl (Int.max_eq_left c)) (mvs p q a b k j M) _ (head_abs _ ms) ms
  have e9 := fun s8 => l_rest (ns := ns) (ds := ds) (n := n1) h hM (s2 := .dat x) (s3 := .dat (tp p q a b k j)) (s4 := .dat (.str (shTp p q a b k j))) (s7 := .dat (.list ((losts p q a b k j M).map .int))) (s8 := .dat s8) (s9 := .un)
  have eR := fun s8 => e_read (ns := ns) (ds := ds) (n := n1) h hM g (by omega) (by omega) (s2 := .dat x) (s4 := .dat (.str (shTp p q a b k j))) (s7 := .dat (.list ((losts p q a b k j M).map .int))) (s8 := .dat s8) (s9 := .dat (.list ((rests p q a b k j M).map .int))) (s10 := .un)
  obtain ⟨w, hw, ew⟩ := r_wrong (ns := ns) (n := n1 + 28) g (by omega) (by omega) h
  have e4 := fun s8 s16 s17 => e_bad (ns := ns) (ds := ds) (n := n1 + 28 + 1) hw (s2 := .dat x) (s3 := .dat (tp p q a b k j)) (s4 := .dat (.str (shTp p q a b k j))) (s5 := .dat (.int M)) (s6 := .dat (.list ((mvs p q a b k j M).map .int))) (s7 := .dat (.list ((losts p q a b k j M).map .int))) (s8 := .dat s8) (s9 := .dat (.list ((rests p q a b k j M).map .int))) (s10 := .un) (s16 := s16) (s17 := s17)
  have rS := r_reduced ((losts p q a b k j M).length : Int) (M : Int) (by omega) (lt_fuel (by omega))
  have pA := fun c => r_same (prs_told (pb_bool (b := c)))
  have pM : c__law_same.run [.dat (.tuple [.str (Str.ofString "missing")]), .dat (.tuple [.str (Str.ofString "missing")])] = .ok (.dat (.bool true)) [.un, .un] := r_same (prs_kind .missing)
  have pS := r_same (prs_told (pb_red (a := ((losts p q a b k j M).length : Int)) (b := (M : Int)) (by omega) (lt_big (by omega)) (lt_big (by omega))))
  have pX := r_same (prs_told (pb_ints2 (lt_big (Nat.lt_of_le_of_lt b1 (by decide))) (lt_big (Nat.lt_of_le_of_lt b2 (by decide)))))
  have pR := r_same (prs_ints (B := M) (by omega) hl2 (fun x hx => lt_big (by have := hrt x hx; omega)))
  have pI : ∀ v ∈ losts p q a b k j M, c__law_same.run [.dat (.tuple [.str (Str.ofString "told"), .int v]), .dat (.tuple [.str (Str.ofString "told"), .int v])] = .ok (.dat (.bool true)) [.un, .un] := fun v hv => r_same (prs_told (pb_int (lt_big (by have := hlt v hv; omega))))
  have nA := r_always (gt_near h) hM
  have fA := r_always (gt_far h) hM
  have tN : q < p → losts p q 0 1 (Str.ofString "near") (Str.ofString "near") M = [] := fun c => lost_nil (near_all q1 c)
  have tF : q ≤ p → losts p q 0 1 (Str.ofString "down") (Str.ofString "up") M = [] := fun c => lost_nil (far_all q1 c)
  have e2q : 2 * q = (M : Int) := hM.symm
  generalize shTp p q a b k j = sh at *
  generalize (losts p q 0 1 (Str.ofString "near") (Str.ofString "near") M) = LN at *
  generalize (losts p q 0 1 (Str.ofString "down") (Str.ofString "up") M) = LF at *
  generalize losts p q a b k j M = LL at *
  generalize rests p q a b k j M = LR at *
  generalize mvs p q a b k j M = LM at *
  simp only [List.headD_eq_head?_getD] at pX cX
  refine ⟨n1 + 28 + 1, by omega, by omega, ?_⟩
  have tp0 : index (tp p q a b k j) (.int 0) = some (.tuple [.int p, .int q]) := rfl
  have tp1 : index (tp p q a b k j) (.int 1) = some (.tuple [.int a, .int b]) := rfl
  have eN : PyData.tuple [.tuple [.int p, .int q], .tuple [.int 0, .int 1], .str (Str.ofString "near"), .str (Str.ofString "near")] = tp p q 0 1 (Str.ofString "near") (Str.ofString "near") := rfl
  have eF : PyData.tuple [.tuple [.int p, .int q], .tuple [.int 0, .int 1], .str (Str.ofString "down"), .str (Str.ofString "up")] = tp p q 0 1 (Str.ofString "down") (Str.ofString "up") := rfl
  have lm : Nat.log2 2 + q.natAbs.log2 < 1000000 := mul_ok (a := 2) (b := q) (lt_big (by decide)) (lt_big (by omega))
  have z2' : 0 < sizeLine := szle (by omega)
  have LRs : LR.length < sizeLine := szle (by omega)
  cases LL with
  | nil =>
    simp only [List.head?_nil] at cF
    have e0 : (([] : List Int).length : Int) = 0 := rfl
    rw [e0] at rS pS cS
    simp only [List.map_nil] at e7 e9 eR e4
    by_cases c1 : q ≤ p
    · by_cases c2 : a = 0 ∧ b = 1
      · obtain ⟨c2, c3⟩ := c2
        have eo : PyData.eqv (.tuple [.int a, .int b]) (.tuple [.int 0, .int 1]) = true := by rw [c2, c3]; rfl
        have tF := tF c1
        rw [tF] at fA
        subst c2; subst c3
        by_cases c4 : q < p
        · have tN := tN c4
          rw [tN] at nA
          generalize tp p q 0 1 (Str.ofString "near") (Str.ofString "near") = TN at *
          generalize tp p q 0 1 (Str.ofString "down") (Str.ofString "up") = TF at *
          generalize tp p q 0 1 k j = T at *
          simp [-f_reprt, fb_law_3, lm, e1, er, tp0, tp1, e2q, e6, e7, cA, cF, cS, cX, cR, e9, eR, ew, e4, rS, pA, pM, pS, pX, pR, z1, z2, z4, LRs, so, toldL, msk, dic_red, ne, c1, c4, eN, eF, nA, fA]
        · generalize tp p q 0 1 (Str.ofString "near") (Str.ofString "near") = TN at *
          generalize tp p q 0 1 (Str.ofString "down") (Str.ofString "up") = TF at *
          generalize tp p q 0 1 k j = T at *
          simp [-f_reprt, fb_law_3, lm, e1, er, tp0, tp1, e2q, e6, e7, cA, cF, cS, cX, cR, e9, eR, ew, e4, rS, pA, pM, pS, pX, pR, z1, z2, z4, LRs, so, toldL, msk, dic_red, ne, c1, c4, eN, eF, nA, fA]
      · have eo : PyData.eqv (.tuple [.int a, .int b]) (.tuple [.int 0, .int 1]) = false := by
          by_cases c3 : a = 0
          · have c4 : b ≠ 1 := fun c4 => c2 ⟨c3, c4⟩
            simp [c3, c4]
          · simp [c3]
        generalize tp p q a b k j = T at *
        simp [-f_reprt, fb_law_3, lm, e1, er, tp0, tp1, e2q, e6, e7, cA, cF, cS, cX, cR, e9, eR, ew, e4, rS, pA, pM, pS, pX, pR, z1, z2, z4, LRs, so, toldL, msk, dic_red, ne, c1, eo]
    · generalize tp p q a b k j = T at *
      simp [-f_reprt, fb_law_3, lm, e1, er, tp0, tp1, e2q, e6, e7, cA, cF, cS, cX, cR, e9, eR, ew, e4, rS, pA, pM, pS, pX, pR, z1, z2, z4, LRs, so, toldL, msk, dic_red, ne, c1]
  | cons v LL =>
    simp only [List.head?_cons] at cF
    have pI := pI v List.mem_cons_self
    have lp : ¬ ((LL.length : Int) + 1 = 0) := by omega
    have lp2 : (0 : Int) < (LL.length : Int) + 1 := by omega
    simp only [List.length_cons, Int.natCast_add, Int.natCast_one] at rS pS cS
    simp only [List.map_cons] at e7 e9 eR e4
    by_cases c1 : q ≤ p
    · by_cases c2 : a = 0 ∧ b = 1
      · obtain ⟨c2, c3⟩ := c2
        have eo : PyData.eqv (.tuple [.int a, .int b]) (.tuple [.int 0, .int 1]) = true := by rw [c2, c3]; rfl
        have tF := tF c1
        rw [tF] at fA
        subst c2; subst c3
        by_cases c4 : q < p
        · have tN := tN c4
          rw [tN] at nA
          generalize tp p q 0 1 (Str.ofString "near") (Str.ofString "near") = TN at *
          generalize tp p q 0 1 (Str.ofString "down") (Str.ofString "up") = TF at *
          generalize tp p q 0 1 k j = T at *
          simp [-f_reprt, fb_law_3, lm, e1, er, tp0, tp1, e2q, e6, e7, cA, cF, cS, cX, cR, e9, eR, ew, e4, rS, pA, pM, pS, pX, pR, z1, z2, z4, LRs, so, toldL, msk, dic_red, ne, lp, lp2, pI, c1, c4, eN, eF, nA, fA]
        · generalize tp p q 0 1 (Str.ofString "near") (Str.ofString "near") = TN at *
          generalize tp p q 0 1 (Str.ofString "down") (Str.ofString "up") = TF at *
          generalize tp p q 0 1 k j = T at *
          simp [-f_reprt, fb_law_3, lm, e1, er, tp0, tp1, e2q, e6, e7, cA, cF, cS, cX, cR, e9, eR, ew, e4, rS, pA, pM, pS, pX, pR, z1, z2, z4, LRs, so, toldL, msk, dic_red, ne, lp, lp2, pI, c1, c4, eN, eF, nA, fA]
      · have eo : PyData.eqv (.tuple [.int a, .int b]) (.tuple [.int 0, .int 1]) = false := by
          by_cases c3 : a = 0
          · have c4 : b ≠ 1 := fun c4 => c2 ⟨c3, c4⟩
            simp [c3, c4]
          · simp [c3]
        generalize tp p q a b k j = T at *
        simp [-f_reprt, fb_law_3, lm, e1, er, tp0, tp1, e2q, e6, e7, cA, cF, cS, cX, cR, e9, eR, ew, e4, rS, pA, pM, pS, pX, pR, z1, z2, z4, LRs, so, toldL, msk, dic_red, ne, lp, lp2, pI, c1, eo]
    · generalize tp p q a b k j = T at *
      simp [-f_reprt, fb_law_3, lm, e1, er, tp0, tp1, e2q, e6, e7, cA, cF, cS, cX, cR, e9, eR, ew, e4, rS, pA, pM, pS, pX, pR, z1, z2, z4, LRs, so, toldL, msk, dic_red, ne, lp, lp2, pI, c1]
end
theorem law_pure (ns : List Int) (hl : ns.length ≤ 63) (hb : ∀ z ∈ ns, Builtin.Int.intBits z ≤ 1048576) : ∃ o, runB 18 b_law [.ro (ns.map PyData.int)] = .ok (.dat (.bool true)) o := by
  obtain ⟨zs, g, e1⟩ := r_stream ns hl
  obtain ⟨n, n0, n1, e⟩ := for_turns (tg := .nm 2) (it := .rng1 (.lit (.int 3))) (b := fb_law_3) (xs := rngD 0 3) (fun n => lS zs (ns.map .int) .un .un .un .un .un .un .un .un .un .un .un .un .un .un .un .un n) (fun x n => lS zs (ns.map .int) (.dat x) .un .un .un .un .un .un .un .un .un .un .un .un .un .un .un n) 500 (by decide) (by simp) (fun x n => by rfl) (fun x n n0 n1 => by
    have : (rngD 0 3).length = 3 := by simp
    rw [this] at n1
    exact turn g n0 (by omega))
  have e : evS fs_law_3 (lS zs (ns.map .int) .un .un .un .un .un .un .un .un .un .un .un .un .un .un .un .un 0) = _ := e
  have eS : O.lst [.list (zs.map .int), .int 0] = St zs 0 := rfl
  simp [runB, b_law, e1, sizeLine, eS, e]
end L
set_option autoImplicit false
namespace L
open PySem PySem.Spec PyProof.Rows L2 LamX Ell
def top (i : Nat) : Stmt := PySem.Challenge.pw_ellwand_k16_whole_readings_that_come_bac.main.body.getD i (.Pass ⟨0, 0, 0, 0⟩)
/-! ### the bodies have them -/
section
variable {P : Program} {w : World} {K : PySem.W.Frag} {mg : Str → Option Value} {base h : Heap} {T : List (Addr × Str)} {cl : Exc → Addr}
theorem s_divisor : FnScope ["first", "second"] ["first", "second"] (defScope (top 9)) := ⟨rfl, rfl, rfl, by decide +kernel, rfl, by decide +kernel, by decide +kernel⟩
theorem p_divisor (bi : Bi mg) : Body P w K mg base T cl 0 ["first", "second"] "divisor" (top 9) b_divisor := by
  intro f cdv A up s0 H0 EE hc g tk pa
  exact (s_cons (s_par g (d_bltB bf_abs bi.abs (o_cons d_var o_nil)) (d_bltB bf_abs bi.abs (o_cons d_var o_nil))) (s_cons (s_while pa (t_cmp oc_gt d_var d_int) (s_cons (s_par g d_var (d_bin ob_mod d_var d_var)) s_nil)) (s_kill (s_cons (s_ret d_var) s_nil))))
theorem s_is_fraction : FnScope ["value"] ["value"] (defScope (top 11)) := ⟨rfl, rfl, rfl, by decide +kernel, rfl, by decide +kernel, by decide +kernel⟩
theorem p_is_fraction (bi : Bi mg) (D_divisor : Def P w K mg base T cl 1 "divisor" c_divisor) : Body P w K mg base T cl 1 ["value"] "is_fraction" (top 11) b_is_fraction := by
  intro f cdv A up s0 H0 EE hc g tk pa
  exact (s_cons (s_ret (d_and (d_cmp (oc_eq g) (d_bltB bf_len bi.len (o_cons d_var o_nil)) d_int) (d_and (d_cmp oc_ge (d_idx g d_var d_int) d_int) (d_one (d_cmp (oc_eq g) (d_call (D_divisor.up (by decide)) g tk (o_cons (d_idx g d_var d_int) (o_cons (d_idx g d_var d_int) o_nil))) d_int))))) s_nil)
theorem s_check_trip : FnScope ["trip", "rate", "offset", "there", "back", "number"] ["trip"] (defScope (top 18)) := ⟨rfl, rfl, rfl, by decide +kernel, rfl, by decide +kernel, by decide +kernel⟩
theorem p_check_trip (bi : Bi mg) (r_NotAllowed : Rz K mg "NotAllowed" (cl .notAllowed)) (k_KINDS : ∀ X : Cx, X.mg = mg → X.K = K → GlobIs X "KINDS" (.tuple [.str "down", .str "up", .str "near", .str "even"])) (k_MAX_PART : ∀ X : Cx, X.mg = mg → X.K = K → GlobIs X "MAX_PART" (.int 999)) (D_is_fraction : Def P w K mg base T cl 2 "is_fraction" c_is_fraction) : Body P w K mg base T cl 2 ["trip", "rate", "offset", "there", "back", "number"] "check_trip" (top 18) b_check_trip := by
  intro f cdv A up s0 H0 EE hc g tk pa
  exact (s_cons (s_unp d_var (g_tp' g (gs_cons (g_nm g.nd) (gs_cons (g_nm g.nd) (gs_cons (g_nm g.nd) (gs_cons (g_nm g.nd) gs_nil)))))) (s_cons (s_if (PW.pt (w_or (t_not (t_val (d_call (D_is_fraction.up (by decide)) g tk (o_cons d_var o_nil)))) (w_or (t_not (t_val (d_call (D_is_fraction.up (by decide)) g tk (o_cons d_var o_nil)))) (w_or1 (t_cmp oc_lt (d_idx g d_var d_int) d_int))))) (s_cons (s_raiseC g tk r_NotAllowed) s_nil) s_nil) (s_cons (s_if (t_not (t_val (d_bltB (bf_all g) bi.all (o_cons (d_lc [("number", 5)] g (i_over (d_tup (d_star d_var (d_star d_var d_nil)))) (fun _ _ _ _ _ => (g_nm g.blk.nd)) (fun _ _ _ _ _ => pts_yes) (fun _ _ _ _ _ => (d_chn oc_le oc_le (d_neg (d_glob (k_MAX_PART _ rfl rfl))) d_var (d_glob (k_MAX_PART _ rfl rfl))))) o_nil)))) (s_cons (s_raiseC g tk r_NotAllowed) s_nil) s_nil) (s_cons (s_if (PW.pt (w_or (t_cmp (oc_notin g) d_var (d_glob (k_KINDS _ rfl rfl))) (w_or1 (t_cmp (oc_notin g) d_var (d_glob (k_KINDS _ rfl rfl)))))) (s_cons (s_raiseC g tk r_NotAllowed) s_nil) s_nil) s_nil))))
theorem s_check_reading : FnScope ["trip", "reading"] ["trip", "reading"] (defScope (top 19)) := ⟨rfl, rfl, rfl, by decide +kernel, rfl, by decide +kernel, by decide +kernel⟩
theorem p_check_reading (r_NotAllowed : Rz K mg "NotAllowed" (cl .notAllowed)) (k_MAX_READING : ∀ X : Cx, X.mg = mg → X.K = K → GlobIs X "MAX_READING" (.int 1000000000000)) (D_check_trip : Def P w K mg base T cl 3 "check_trip" c_check_trip) : Body P w K mg base T cl 3 ["trip", "reading"] "check_reading" (top 19) b_check_reading := by
  intro f cdv A up s0 H0 EE hc g tk pa
  exact (s_cons (s_ex (d_call (D_check_trip.up (by decide)) g tk (o_cons d_var o_nil))) (s_cons (s_if (t_not (t_chn oc_le oc_le (d_neg (d_glob (k_MAX_READING _ rfl rfl))) d_var (d_glob (k_MAX_READING _ rfl rfl)))) (s_cons (s_raiseC g tk r_NotAllowed) s_nil) s_nil) s_nil))
theorem s_fraction : FnScope ["top", "below", "common"] ["top", "below"] (defScope (top 10)) := ⟨rfl, rfl, rfl, by decide +kernel, rfl, by decide +kernel, by decide +kernel⟩
theorem p_fraction (r_NotAllowed : Rz K mg "NotAllowed" (cl .notAllowed)) (D_divisor : Def P w K mg base T cl 1 "divisor" c_divisor) : Body P w K mg base T cl 1 ["top", "below", "common"] "fraction" (top 10) b_fraction := by
  intro f cdv A up s0 H0 EE hc g tk pa
  exact (s_cons (s_if (t_cmp (oc_eq g) d_var d_int) (s_cons (s_raiseC g tk r_NotAllowed) s_nil) s_nil) (s_cons (s_set g.nd (d_call (D_divisor.up (by decide)) g tk (o_cons d_var (o_cons d_var o_nil)))) (s_cons (s_if (t_cmp oc_lt d_var d_int) (s_cons (s_set g.nd (d_neg d_var)) s_nil) s_nil) (s_cons (s_ret (d_tup (d_cons (d_bin ob_fdiv d_var d_var) (d_cons (d_bin ob_fdiv d_var d_var) d_nil)))) s_nil))))
theorem s_added : FnScope ["first", "second"] ["first", "second"] (defScope (top 12)) := ⟨rfl, rfl, rfl, by decide +kernel, rfl, by decide +kernel, by decide +kernel⟩
theorem p_added (D_fraction : Def P w K mg base T cl 2 "fraction" c_fraction) : Body P w K mg base T cl 2 ["first", "second"] "added" (top 12) b_added := by
  intro f cdv A up s0 H0 EE hc g tk pa
  exact (s_cons (s_ret (d_call (D_fraction.up (by decide)) g tk (o_cons (d_bin ob_add (d_bin ob_mul (d_idx g d_var d_int) (d_idx g d_var d_int)) (d_bin ob_mul (d_idx g d_var d_int) (d_idx g d_var d_int))) (o_cons (d_bin ob_mul (d_idx g d_var d_int) (d_idx g d_var d_int)) o_nil)))) s_nil)
theorem s_times : FnScope ["first", "second"] ["first", "second"] (defScope (top 13)) := ⟨rfl, rfl, rfl, by decide +kernel, rfl, by decide +kernel, by decide +kernel⟩
theorem p_times (D_fraction : Def P w K mg base T cl 2 "fraction" c_fraction) : Body P w K mg base T cl 2 ["first", "second"] "times" (top 13) b_times := by
  intro f cdv A up s0 H0 EE hc g tk pa
  exact (s_cons (s_ret (d_call (D_fraction.up (by decide)) g tk (o_cons (d_bin ob_mul (d_idx g d_var d_int) (d_idx g d_var d_int)) (o_cons (d_bin ob_mul (d_idx g d_var d_int) (d_idx g d_var d_int)) o_nil)))) s_nil)
theorem s_rounded : FnScope ["value", "kind", "top", "below", "low", "twice"] ["value", "kind"] (defScope (top 20)) := ⟨rfl, rfl, rfl, by decide +kernel, rfl, by decide +kernel, by decide +kernel⟩
theorem p_rounded (bi : Bi mg) : Body P w K mg base T cl 0 ["value", "kind", "top", "below", "low", "twice"] "rounded" (top 20) b_rounded := by
  intro f cdv A up s0 H0 EE hc g tk pa
  exact (s_cons (s_unp d_var (g_tp' g (gs_cons (g_nm g.nd) (gs_cons (g_nm g.nd) gs_nil)))) (s_cons (s_set g.nd (d_bin ob_fdiv d_var d_var)) (s_cons (s_if (PW.pt (w_or (t_cmp (oc_eq g) d_var d_str) (w_or1 (t_cmp (oc_eq g) d_var (d_bin ob_mul d_var d_var))))) (s_cons (s_ret d_var) s_nil) s_nil) (s_cons (s_if (t_cmp (oc_eq g) d_var d_str) (s_cons (s_ret (d_bin ob_add d_var d_int)) s_nil) s_nil) (s_cons (s_set g.nd (d_bin ob_mul d_int (d_bin ob_sub d_var (d_bin ob_mul d_var d_var)))) (s_cons (s_if (t_cmp (oc_eq g) d_var d_var) (s_cons (s_ret (d_ife (PW.pt (w_or (t_cmp (oc_eq g) d_var d_str) (w_or1 (t_cmp (oc_eq g) (d_bin ob_mod d_var d_int) d_int)))) (d_bin ob_add d_var d_int) d_var)) s_nil) s_nil) (s_cons (s_ret (d_bin ob_add d_var (d_bltT bf_int bi.int (o_cons (d_cmp oc_gt d_var d_var) o_nil)))) s_nil)))))))
theorem s_gone : FnScope ["trip", "reading", "rate", "offset", "there", "_"] ["trip", "reading"] (defScope (top 21)) := ⟨rfl, rfl, rfl, by decide +kernel, rfl, by decide +kernel, by decide +kernel⟩
theorem p_gone (D_added : Def P w K mg base T cl 3 "added" c_added) (D_rounded : Def P w K mg base T cl 1 "rounded" c_rounded) (D_times : Def P w K mg base T cl 3 "times" c_times) : Body P w K mg base T cl 3 ["trip", "reading", "rate", "offset", "there", "_"] "gone" (top 21) b_gone := by
  intro f cdv A up s0 H0 EE hc g tk pa
  exact (s_cons (s_unp d_var (g_tp' g (gs_cons (g_nm g.nd) (gs_cons (g_nm g.nd) (gs_cons (g_nm g.nd) (gs_cons (g_nm g.nd) gs_nil)))))) (s_cons (s_ret (d_call (D_rounded.up (by decide)) g tk (o_cons (d_call (D_added.up (by decide)) g tk (o_cons (d_call (D_times.up (by decide)) g tk (o_cons (d_tup (d_cons d_var (d_cons d_int d_nil))) (o_cons d_var o_nil))) (o_cons d_var o_nil))) (o_cons d_var o_nil)))) s_nil))
theorem s_returned : FnScope ["trip", "reading", "rate", "offset", "_", "back", "rest"] ["trip", "reading"] (defScope (top 22)) := ⟨rfl, rfl, rfl, by decide +kernel, rfl, by decide +kernel, by decide +kernel⟩
theorem p_returned (D_added : Def P w K mg base T cl 3 "added" c_added) (D_fraction : Def P w K mg base T cl 2 "fraction" c_fraction) (D_rounded : Def P w K mg base T cl 1 "rounded" c_rounded) (D_times : Def P w K mg base T cl 3 "times" c_times) : Body P w K mg base T cl 3 ["trip", "reading", "rate", "offset", "_", "back", "rest"] "returned" (top 22) b_returned := by
  intro f cdv A up s0 H0 EE hc g tk pa
  exact (s_cons (s_unp d_var (g_tp' g (gs_cons (g_nm g.nd) (gs_cons (g_nm g.nd) (gs_cons (g_nm g.nd) (gs_cons (g_nm g.nd) gs_nil)))))) (s_cons (s_set g.nd (d_call (D_added.up (by decide)) g tk (o_cons (d_tup (d_cons d_var (d_cons d_int d_nil))) (o_cons (d_tup (d_cons (d_neg (d_idx g d_var d_int)) (d_cons (d_idx g d_var d_int) d_nil))) o_nil)))) (s_cons (s_ret (d_call (D_rounded.up (by decide)) g tk (o_cons (d_call (D_times.up (by decide)) g tk (o_cons d_var (o_cons (d_call (D_fraction.up (by decide)) g tk (o_cons (d_idx g d_var d_int) (o_cons (d_idx g d_var d_int) o_nil))) o_nil))) (o_cons d_var o_nil)))) s_nil)))
theorem s_trip_of : FnScope ["trip", "reading", "there"] ["trip", "reading"] (defScope (top 23)) := ⟨rfl, rfl, rfl, by decide +kernel, rfl, by decide +kernel, by decide +kernel⟩
theorem p_trip_of (D_check_reading : Def P w K mg base T cl 4 "check_reading" c_check_reading) (D_gone : Def P w K mg base T cl 4 "gone" c_gone) (D_returned : Def P w K mg base T cl 4 "returned" c_returned) : Body P w K mg base T cl 4 ["trip", "reading", "there"] "trip_of" (top 23) b_trip_of := by
  intro f cdv A up s0 H0 EE hc g tk pa
  exact (s_cons (s_ex (d_call (D_check_reading.up (by decide)) g tk (o_cons d_var (o_cons d_var o_nil)))) (s_cons (s_set g.nd (d_call (D_gone.up (by decide)) g tk (o_cons d_var (o_cons d_var o_nil)))) (s_cons (s_ret (d_tup (d_cons d_var (d_cons (d_call (D_returned.up (by decide)) g tk (o_cons d_var (o_cons d_var o_nil))) d_nil)))) s_nil)))
theorem s_period : FnScope ["trip"] ["trip"] (defScope (top 24)) := ⟨rfl, rfl, rfl, by decide +kernel, rfl, by decide +kernel, by decide +kernel⟩
theorem p_period : Body P w K mg base T cl 0 ["trip"] "period" (top 24) b_period := by
  intro f cdv A up s0 H0 EE hc g tk pa
  exact (s_cons (s_ret (d_bin ob_mul d_int (d_idx g (d_idx g d_var d_int) d_int))) s_nil)
theorem s_moved : FnScope ["trip", "reading"] ["trip", "reading"] (defScope (top 25)) := ⟨rfl, rfl, rfl, by decide +kernel, rfl, by decide +kernel, by decide +kernel⟩
theorem p_moved (D_gone : Def P w K mg base T cl 4 "gone" c_gone) (D_returned : Def P w K mg base T cl 4 "returned" c_returned) : Body P w K mg base T cl 4 ["trip", "reading"] "moved" (top 25) b_moved := by
  intro f cdv A up s0 H0 EE hc g tk pa
  exact (s_cons (s_ret (d_bin ob_sub (d_call (D_returned.up (by decide)) g tk (o_cons d_var (o_cons (d_call (D_gone.up (by decide)) g tk (o_cons d_var (o_cons d_var o_nil))) o_nil))) d_var)) s_nil)
theorem s_always_back : FnScope ["trip", "reading"] ["trip"] (defScope (top 26)) := ⟨rfl, rfl, rfl, by decide +kernel, rfl, by decide +kernel, by decide +kernel⟩
theorem p_always_back (bi : Bi mg) (D_check_trip : Def P w K mg base T cl 3 "check_trip" c_check_trip) (D_moved : Def P w K mg base T cl 5 "moved" c_moved) (D_period : Def P w K mg base T cl 1 "period" c_period) : Body P w K mg base T cl 5 ["trip", "reading"] "always_back" (top 26) b_always_back := by
  intro f cdv A up s0 H0 EE hc g tk pa
  exact (s_cons (s_ex (d_call (D_check_trip.up (by decide)) g tk (o_cons d_var o_nil))) (s_cons (s_ret (d_not (d_bltB (bf_any g) bi.any (o_cons (d_lc [("reading", 1)] g (i_rng1 bi.range (d_call (D_period.up (by decide)) g tk (o_cons d_var o_nil))) (fun _ _ _ _ _ => (g_nm g.blk.nd)) (fun _ _ _ _ _ => pts_yes) (fun _ _ _ _ _ => (d_cmp (oc_ne g.blk) (d_call (D_moved.up (by decide)) g.blk tk_no (o_cons d_var (o_cons d_var o_nil))) d_int))) o_nil)))) s_nil))
theorem s_first_lost : FnScope ["trip", "reading"] ["trip"] (defScope (top 27)) := ⟨rfl, rfl, rfl, by decide +kernel, rfl, by decide +kernel, by decide +kernel⟩
theorem p_first_lost (bi : Bi mg) (r_Missing : Rz K mg "Missing" (cl .missing)) (D_check_trip : Def P w K mg base T cl 3 "check_trip" c_check_trip) (D_moved : Def P w K mg base T cl 5 "moved" c_moved) (D_period : Def P w K mg base T cl 1 "period" c_period) : Body P w K mg base T cl 5 ["trip", "reading"] "first_lost" (top 27) b_first_lost := by
  intro f cdv A up s0 H0 EE hc g tk pa
  exact (s_cons (s_ex (d_call (D_check_trip.up (by decide)) g tk (o_cons d_var o_nil))) (s_cons (s_for g pa (i_rng1 bi.range (d_call (D_period.up (by decide)) g tk (o_cons d_var o_nil))) (g_nm g.nd) (s_cons (s_if (t_cmp (oc_ne g) (d_call (D_moved.up (by decide)) g tk (o_cons d_var (o_cons d_var o_nil))) d_int) (s_cons (s_ret d_var) s_nil) s_nil) (s_kill s_nil))) (s_kill (s_cons (s_raiseC g tk r_Missing) s_nil))))
theorem s_lost_share : FnScope ["trip", "lost", "reading"] ["trip"] (defScope (top 28)) := ⟨rfl, rfl, rfl, by decide +kernel, rfl, by decide +kernel, by decide +kernel⟩
theorem p_lost_share (bi : Bi mg) (D_check_trip : Def P w K mg base T cl 3 "check_trip" c_check_trip) (D_fraction : Def P w K mg base T cl 2 "fraction" c_fraction) (D_moved : Def P w K mg base T cl 5 "moved" c_moved) (D_period : Def P w K mg base T cl 1 "period" c_period) : Body P w K mg base T cl 5 ["trip", "lost", "reading"] "lost_share" (top 28) b_lost_share := by
  intro f cdv A up s0 H0 EE hc g tk pa
  exact (s_cons (s_ex (d_call (D_check_trip.up (by decide)) g tk (o_cons d_var o_nil))) (s_cons (s_set g.nd (d_bltB bf_len bi.len (o_cons (d_lc [("reading", 2)] g (i_rng1 bi.range (d_call (D_period.up (by decide)) g tk (o_cons d_var o_nil))) (fun _ _ _ _ _ => (g_nm g.blk.nd)) (fun _ _ _ _ _ => (pts_1 (t_cmp (oc_ne g.blk) (d_call (D_moved.up (by decide)) g.blk tk_no (o_cons d_var (o_cons d_var o_nil))) d_int))) (fun _ _ _ _ _ => d_int)) o_nil))) (s_cons (s_ret (d_call (D_fraction.up (by decide)) g tk (o_cons d_var (o_cons (d_call (D_period.up (by decide)) g tk (o_cons d_var o_nil)) o_nil)))) s_nil)))
theorem s_farthest : FnScope ["trip", "found", "reading"] ["trip"] (defScope (top 29)) := ⟨rfl, rfl, rfl, by decide +kernel, rfl, by decide +kernel, by decide +kernel⟩
theorem p_farthest (bi : Bi mg) (D_check_trip : Def P w K mg base T cl 3 "check_trip" c_check_trip) (D_moved : Def P w K mg base T cl 5 "moved" c_moved) (D_period : Def P w K mg base T cl 1 "period" c_period) : Body P w K mg base T cl 5 ["trip", "found", "reading"] "farthest" (top 29) b_farthest := by
  intro f cdv A up s0 H0 EE hc g tk pa
  exact (s_cons (s_ex (d_call (D_check_trip.up (by decide)) g tk (o_cons d_var o_nil))) (s_cons (s_lc [("reading", 2)] g (i_rng1 bi.range (d_call (D_period.up (by decide)) g tk (o_cons d_var o_nil))) (fun _ _ _ _ _ => (g_nm g.blk.nd)) (fun _ _ _ _ _ => pts_yes) (fun _ _ _ _ _ => (d_call (D_moved.up (by decide)) g.blk tk_no (o_cons d_var (o_cons d_var o_nil))))) (s_frz (s_cons (s_ret (d_tup (d_cons (d_bltB (bf_minL g) bi.min (o_cons d_var o_nil)) (d_cons (d_bltB (bf_maxL g) bi.max (o_cons d_var o_nil)) d_nil)))) s_nil))))
theorem s_resting : FnScope ["trip", "reading"] ["trip"] (defScope (top 30)) := ⟨rfl, rfl, rfl, by decide +kernel, rfl, by decide +kernel, by decide +kernel⟩
theorem p_resting (bi : Bi mg) (D_check_trip : Def P w K mg base T cl 3 "check_trip" c_check_trip) (D_moved : Def P w K mg base T cl 5 "moved" c_moved) (D_period : Def P w K mg base T cl 1 "period" c_period) : Body P w K mg base T cl 5 ["trip", "reading"] "resting" (top 30) b_resting := by
  intro f cdv A up s0 H0 EE hc g tk pa
  exact (s_cons (s_ex (d_call (D_check_trip.up (by decide)) g tk (o_cons d_var o_nil))) (s_cons (s_ret (d_lc [("reading", 1)] g (i_rng1 bi.range (d_call (D_period.up (by decide)) g tk (o_cons d_var o_nil))) (fun _ _ _ _ _ => (g_nm g.blk.nd)) (fun _ _ _ _ _ => (pts_1 (t_cmp (oc_eq g.blk) (d_call (D_moved.up (by decide)) g.blk tk_no (o_cons d_var (o_cons d_var o_nil))) d_int))) (fun _ _ _ _ _ => d_var))) s_nil))
theorem s__law_same : FnScope ["told", "due"] ["told", "due"] (defScope (top 32)) := ⟨rfl, rfl, rfl, by decide +kernel, rfl, by decide +kernel, by decide +kernel⟩
theorem p__law_same (bi : Bi mg) : Body P w K mg base T cl 0 ["told", "due"] "_law_same" (top 32) b__law_same := by
  intro f cdv A up s0 H0 EE hc g tk pa
  exact (s_cons (s_ret (d_cmp (oc_eq g) (d_bltB (bf_repr g) bi.repr (o_cons (d_lst (d_cons d_var d_nil)) o_nil)) (d_bltB (bf_repr g) bi.repr (o_cons (d_lst (d_cons d_var d_nil)) o_nil)))) s_nil)
theorem s__law_stream : FnScope ["script", "numbers", "cell", "rest", "k", "stirred"] ["script"] (defScope (top 33)) := ⟨rfl, rfl, rfl, by decide +kernel, rfl, by decide +kernel, by decide +kernel⟩
theorem p__law_stream (bi : Bi mg) : Body P w K mg base T cl 0 ["script", "numbers", "cell", "rest", "k", "stirred"] "_law_stream" (top 33) b__law_stream := by
  intro f cdv A up s0 H0 EE hc g tk pa
  exact (s_cons (s_set g.nd (d_lst d_nil)) (s_cons (s_for g pa (i_over (d_slc d_var p_none (p_some d_int))) (g_nm g.nd) (s_cons (s_set g.nd (d_bltB bf_abs bi.abs (o_cons (d_bltT bf_int bi.int (o_cons d_var o_nil)) o_nil))) (s_cons (s_if (t_cmp oc_ge d_var (d_bin ob_pow d_int d_int)) (s_cons (s_for g pa (i_rng1 bi.range d_int) (g_nm g.nd) (s_cons (s_app (d_bin ob_mod (d_bltT bf_int bi.int (o_cons d_var o_nil)) d_int)) (s_cons (s_set g.nd (d_bin ob_fdiv d_var d_int)) (s_cons (s_if (t_cmp (oc_eq g) d_var d_int) (s_kill (s_cons s_brk s_nil)) s_nil) (s_kill s_nil))))) (s_kill s_nil)) (s_cons (s_set g.nd (d_bin ob_mod (d_bltT bf_int bi.int (o_cons d_var o_nil)) d_int)) (s_cons (s_for g pa (i_rng1 bi.range d_int) (g_nm g.nd) (s_cons (s_set g.nd (d_bin ob_mod (d_bltT bf_int bi.int (o_cons (d_bin ob_add (d_bin ob_add (d_bin ob_mul d_var d_int) (d_bin ob_mul d_int d_var)) d_int) o_nil)) d_int)) (s_cons (s_app (d_bin ob_mod (d_bin ob_mod (d_bltT bf_int bi.int (o_cons (d_bin ob_add (d_bin ob_mul d_var d_int) d_var) o_nil)) d_int) d_int)) (s_kill s_nil)))) (s_kill s_nil)))) (s_kill s_nil)))) (s_kill (s_cons (s_if (t_cmp (oc_eq g) (d_bltB bf_len bi.len (o_cons d_var o_nil)) d_int) (s_cons (s_app d_int) s_nil) s_nil) (s_frz (s_cons (s_ret d_var) s_nil))))))
theorem s__law_common : FnScope ["first", "second"] ["first", "second"] (defScope (top 37)) := ⟨rfl, rfl, rfl, by decide +kernel, rfl, by decide +kernel, by decide +kernel⟩
theorem p__law_common (bi : Bi mg) : Body P w K mg base T cl 0 ["first", "second"] "_law_common" (top 37) b__law_common := by
  intro f cdv A up s0 H0 EE hc g tk pa
  exact (s_cons (s_set g.nd (d_bltB (bf_max2 g) bi.max (o_cons d_var (o_cons (d_bin ob_sub d_int d_var) o_nil)))) (s_cons (s_set g.nd (d_bltB (bf_max2 g) bi.max (o_cons d_var (o_cons (d_bin ob_sub d_int d_var) o_nil)))) (s_cons (s_while pa (t_cmp oc_gt d_var d_int) (s_cons (s_par g d_var (d_bin ob_mod (d_bltT bf_int bi.int (o_cons d_var o_nil)) d_var)) s_nil)) (s_kill (s_cons (s_ret d_var) s_nil)))))
theorem s__law_reduced : FnScope ["top", "below", "common"] ["top", "below"] (defScope (top 38)) := ⟨rfl, rfl, rfl, by decide +kernel, rfl, by decide +kernel, by decide +kernel⟩
theorem p__law_reduced (D__law_common : Def P w K mg base T cl 1 "_law_common" c__law_common) : Body P w K mg base T cl 1 ["top", "below", "common"] "_law_reduced" (top 38) b__law_reduced := by
  intro f cdv A up s0 H0 EE hc g tk pa
  exact (s_cons (s_set g.nd (d_call (D__law_common.up (by decide)) g tk (o_cons d_var (o_cons d_var o_nil)))) (s_cons (s_if (t_cmp oc_lt d_var d_int) (s_cons (s_set g.nd (d_bin ob_sub d_int d_var)) s_nil) s_nil) (s_cons (s_ret (d_tup (d_cons (d_bin ob_fdiv d_var d_var) (d_cons (d_bin ob_fdiv d_var d_var) d_nil)))) s_nil)))
theorem s__law_round : FnScope ["top", "below", "kind", "low", "rest"] ["top", "below", "kind"] (defScope (top 41)) := ⟨rfl, rfl, rfl, by decide +kernel, rfl, by decide +kernel, by decide +kernel⟩
theorem p__law_round (bi : Bi mg) : Body P w K mg base T cl 0 ["top", "below", "kind", "low", "rest"] "_law_round" (top 41) b__law_round := by
  intro f cdv A up s0 H0 EE hc g tk pa
  exact (s_cons (s_set g.nd (d_bin ob_fdiv d_var d_var)) (s_cons (s_set g.nd (d_bin ob_sub d_var (d_bin ob_mul d_var d_var))) (s_cons (s_if (PW.pt (w_or (t_cmp (oc_eq g) d_var d_int) (w_or1 (t_cmp (oc_eq g) d_var d_str)))) (s_cons (s_ret d_var) s_nil) s_nil) (s_cons (s_if (t_cmp (oc_eq g) d_var d_str) (s_cons (s_ret (d_bin ob_add d_var d_int)) s_nil) s_nil) (s_cons (s_if (t_cmp (oc_ne g) (d_bin ob_mul d_int d_var) d_var) (s_cons (s_ret (d_bin ob_add d_var (d_bltT bf_int bi.int (o_cons (d_cmp oc_gt (d_bin ob_mul d_int d_var) d_var) o_nil)))) s_nil) s_nil) (s_cons (s_ret (d_bin ob_add d_var (d_bltT bf_int bi.int (o_cons (d_or (d_cmp (oc_eq g) d_var d_str) (d_one (d_cmp (oc_eq g) (d_bin ob_mod (d_bltT bf_int bi.int (o_cons d_var o_nil)) d_int) d_int))) o_nil)))) s_nil))))))
theorem s__law_there : FnScope ["trip", "reading", "rate", "offset", "there", "back"] ["trip", "reading"] (defScope (top 42)) := ⟨rfl, rfl, rfl, by decide +kernel, rfl, by decide +kernel, by decide +kernel⟩
theorem p__law_there (D__law_round : Def P w K mg base T cl 1 "_law_round" c__law_round) : Body P w K mg base T cl 1 ["trip", "reading", "rate", "offset", "there", "back"] "_law_there" (top 42) b__law_there := by
  intro f cdv A up s0 H0 EE hc g tk pa
  exact (s_cons (s_unp d_var (g_tp' g (gs_cons (g_nm g.nd) (gs_cons (g_nm g.nd) (gs_cons (g_nm g.nd) (gs_cons (g_nm g.nd) gs_nil)))))) (s_cons (s_ret (d_call (D__law_round.up (by decide)) g tk (o_cons (d_bin ob_add (d_bin ob_mul (d_bin ob_mul d_var (d_idx g d_var d_int)) (d_idx g d_var d_int)) (d_bin ob_mul (d_idx g d_var d_int) (d_idx g d_var d_int))) (o_cons (d_bin ob_mul (d_idx g d_var d_int) (d_idx g d_var d_int)) (o_cons d_var o_nil))))) s_nil))
theorem s__law_back : FnScope ["trip", "reading", "rate", "offset", "there", "back"] ["trip", "reading"] (defScope (top 43)) := ⟨rfl, rfl, rfl, by decide +kernel, rfl, by decide +kernel, by decide +kernel⟩
theorem p__law_back (D__law_round : Def P w K mg base T cl 1 "_law_round" c__law_round) : Body P w K mg base T cl 1 ["trip", "reading", "rate", "offset", "there", "back"] "_law_back" (top 43) b__law_back := by
  intro f cdv A up s0 H0 EE hc g tk pa
  exact (s_cons (s_unp d_var (g_tp' g (gs_cons (g_nm g.nd) (gs_cons (g_nm g.nd) (gs_cons (g_nm g.nd) (gs_cons (g_nm g.nd) gs_nil)))))) (s_cons (s_ret (d_call (D__law_round.up (by decide)) g tk (o_cons (d_bin ob_mul (d_bin ob_sub (d_bin ob_mul d_var (d_idx g d_var d_int)) (d_idx g d_var d_int)) (d_idx g d_var d_int)) (o_cons (d_bin ob_mul (d_idx g d_var d_int) (d_idx g d_var d_int)) (o_cons d_var o_nil))))) s_nil))
theorem s__law_next : FnScope ["state", "many", "turn"] ["state", "many"] (defScope (top 34)) := ⟨rfl, rfl, rfl, by decide +kernel, rfl, by decide +kernel, by decide +kernel⟩
theorem p__law_next (bi : Bi mg) : Body P w K mg base T cl 0 ["state", "many", "turn"] "_law_next" (top 34) b__law_next := by
  intro f cdv A up s0 H0 EE hc g tk pa
  exact (s_cons (s_seti g (d_bin ob_add (d_idx g d_var d_int) d_int) d_int) (s_cons (s_set g.nd (d_bin ob_fdiv (d_idx g d_var d_int) (d_bltB bf_len bi.len (o_cons (d_idx g d_var d_int) o_nil)))) (s_cons (s_ret (d_bin ob_mod (d_bltT bf_int bi.int (o_cons (d_bin ob_add (d_bin ob_add (d_idx g (d_idx g d_var d_int) (d_bin ob_mod (d_idx g d_var d_int) (d_bltB bf_len bi.len (o_cons (d_idx g d_var d_int) o_nil)))) (d_bin ob_mul d_var d_int)) (d_bin ob_mul (d_bin ob_mul (d_idx g d_var d_int) d_var) d_int)) o_nil)) d_var)) s_nil)))
theorem s__law_great : FnScope ["state", "many"] ["state", "many"] (defScope (top 35)) := ⟨rfl, rfl, rfl, by decide +kernel, rfl, by decide +kernel, by decide +kernel⟩
theorem p__law_great (bi : Bi mg) (D__law_next : Def P w K mg base T cl 1 "_law_next" c__law_next) : Body P w K mg base T cl 1 ["state", "many"] "_law_great" (top 35) b__law_great := by
  intro f cdv A up s0 H0 EE hc g tk pa
  exact (s_cons (s_ret (d_bin ob_mod (d_bltT bf_int bi.int (o_cons (d_bin ob_add (d_bin ob_mul (d_call (D__law_next.up (by decide)) g tk (o_cons d_var (o_cons d_int o_nil))) d_int) (d_call (D__law_next.up (by decide)) g tk (o_cons d_var (o_cons d_int o_nil)))) o_nil)) d_var)) s_nil)
theorem s__law_kind : FnScope ["state"] ["state"] (defScope (top 44)) := ⟨rfl, rfl, rfl, by decide +kernel, rfl, by decide +kernel, by decide +kernel⟩
theorem p__law_kind (D__law_next : Def P w K mg base T cl 1 "_law_next" c__law_next) : Body P w K mg base T cl 1 ["state"] "_law_kind" (top 44) b__law_kind := by
  intro f cdv A up s0 H0 EE hc g tk pa
  exact (s_cons (s_ret (d_idx g (d_lst (d_cons d_str (d_cons d_str (d_cons d_str (d_cons d_str d_nil))))) (d_call (D__law_next.up (by decide)) g tk (o_cons d_var (o_cons d_int o_nil))))) s_nil)
theorem s__law_trip : FnScope ["state", "most", "rate", "offset"] ["state"] (defScope (top 45)) := ⟨rfl, rfl, rfl, by decide +kernel, rfl, by decide +kernel, by decide +kernel⟩
theorem p__law_trip (D__law_great : Def P w K mg base T cl 2 "_law_great" c__law_great) (D__law_kind : Def P w K mg base T cl 2 "_law_kind" c__law_kind) (D__law_next : Def P w K mg base T cl 1 "_law_next" c__law_next) (D__law_reduced : Def P w K mg base T cl 2 "_law_reduced" c__law_reduced) : Body P w K mg base T cl 2 ["state", "most", "rate", "offset"] "_law_trip" (top 45) b__law_trip := by
  intro f cdv A up s0 H0 EE hc g tk pa
  exact (s_cons (s_set g.nd (d_idx g (d_lst (d_cons d_int (d_cons d_int (d_cons d_int d_nil)))) (d_call (D__law_next.up (by decide)) g tk (o_cons d_var (o_cons d_int o_nil))))) (s_cons (s_set g.nd (d_call (D__law_reduced.up (by decide)) g tk (o_cons (d_bin ob_add d_int (d_call (D__law_great.up (by decide)) g tk (o_cons d_var (o_cons d_var o_nil)))) (o_cons (d_bin ob_add d_int (d_call (D__law_great.up (by decide)) g tk (o_cons d_var (o_cons d_var o_nil)))) o_nil)))) (s_cons (s_set g.nd (d_idx g (d_lst (d_cons (d_tup (d_cons d_int (d_cons d_int d_nil))) (d_cons (d_tup (d_cons d_int (d_cons d_int d_nil))) (d_cons (d_call (D__law_reduced.up (by decide)) g tk (o_cons (d_bin ob_sub (d_call (D__law_great.up (by decide)) g tk (o_cons d_var (o_cons (d_bin ob_mul d_int d_var) o_nil))) d_var) (o_cons (d_bin ob_add d_int (d_call (D__law_great.up (by decide)) g tk (o_cons d_var (o_cons (d_idx g (d_lst (d_cons d_int (d_cons d_int (d_cons d_int d_nil)))) (d_call (D__law_next.up (by decide)) g tk (o_cons d_var (o_cons d_int o_nil)))) o_nil)))) o_nil))) d_nil)))) (d_call (D__law_next.up (by decide)) g tk (o_cons d_var (o_cons d_int o_nil))))) (s_cons (s_if (t_cmp (oc_eq g) (d_call (D__law_next.up (by decide)) g tk (o_cons d_var (o_cons d_int o_nil))) d_int) (s_cons (s_set g.nd (d_tup (d_cons (d_bin ob_add d_int (d_call (D__law_next.up (by decide)) g tk (o_cons d_var (o_cons d_int o_nil)))) (d_cons d_int d_nil)))) s_nil) s_nil) (s_cons (s_ret (d_tup (d_cons d_var (d_cons d_var (d_cons (d_call (D__law_kind.up (by decide)) g tk (o_cons d_var o_nil)) (d_cons (d_call (D__law_kind.up (by decide)) g tk (o_cons d_var o_nil)) d_nil)))))) s_nil)))))
theorem s__law_reading : FnScope ["state", "number"] ["state"] (defScope (top 46)) := ⟨rfl, rfl, rfl, by decide +kernel, rfl, by decide +kernel, by decide +kernel⟩
theorem p__law_reading (D__law_great : Def P w K mg base T cl 2 "_law_great" c__law_great) (D__law_next : Def P w K mg base T cl 1 "_law_next" c__law_next) : Body P w K mg base T cl 2 ["state", "number"] "_law_reading" (top 46) b__law_reading := by
  intro f cdv A up s0 H0 EE hc g tk pa
  exact (s_cons (s_set g.nd (d_idx g (d_lst (d_cons (d_call (D__law_next.up (by decide)) g tk (o_cons d_var (o_cons d_int o_nil))) (d_cons (d_call (D__law_great.up (by decide)) g tk (o_cons d_var (o_cons d_int o_nil))) (d_cons (d_bin ob_mul (d_call (D__law_great.up (by decide)) g tk (o_cons d_var (o_cons (d_bin ob_pow d_int d_int) o_nil))) d_int) (d_cons (d_bin ob_pow d_int d_int) d_nil))))) (d_idx g (d_lst (d_cons d_int (d_cons d_int (d_cons d_int (d_cons d_int (d_cons d_int d_nil)))))) (d_call (D__law_next.up (by decide)) g tk (o_cons d_var (o_cons d_int o_nil)))))) (s_cons (s_ret (d_idx g (d_lst (d_cons d_var (d_cons (d_bin ob_sub d_int d_var) d_nil))) (d_call (D__law_next.up (by decide)) g tk (o_cons d_var (o_cons d_int o_nil))))) s_nil))
theorem s__law_wrong_trip : FnScope ["state", "trip", "rate", "offset", "there", "back", "bad", "wrong", "one"] ["state", "trip"] (defScope (top 47)) := ⟨rfl, rfl, rfl, by decide +kernel, rfl, by decide +kernel, by decide +kernel⟩
theorem p__law_wrong_trip (D__law_next : Def P w K mg base T cl 1 "_law_next" c__law_next) : Body P w K mg base T cl 1 ["state", "trip", "rate", "offset", "there", "back", "bad", "wrong", "one"] "_law_wrong_trip" (top 47) b__law_wrong_trip := by
  intro f cdv A up s0 H0 EE hc g tk pa
  exact (s_cons (s_unp d_var (g_tp' g (gs_cons (g_nm g.nd) (gs_cons (g_nm g.nd) (gs_cons (g_nm g.nd) (gs_cons (g_nm g.nd) gs_nil)))))) (s_cons (s_set g.nd (d_lst (d_cons (d_tup (d_cons (d_tup (d_cons d_int (d_cons d_int d_nil))) (d_cons d_var d_nil))) (d_cons (d_tup (d_cons (d_tup (d_cons (d_neg d_int) (d_cons d_int d_nil))) (d_cons d_var d_nil))) (d_cons (d_tup (d_cons (d_tup (d_cons d_int (d_cons d_int d_nil))) (d_cons d_var d_nil))) (d_cons (d_tup (d_cons (d_tup (d_cons d_int (d_cons d_int d_nil))) (d_cons d_var d_nil))) (d_cons (d_tup (d_cons (d_tup (d_cons d_int (d_cons d_int d_nil))) (d_cons d_var d_nil))) (d_cons (d_tup (d_cons d_var (d_cons (d_tup (d_cons d_int (d_cons (d_neg d_int) d_nil))) d_nil))) (d_cons (d_tup (d_cons d_var (d_cons (d_tup (d_cons d_int (d_cons d_int d_nil))) d_nil))) (d_cons (d_tup (d_cons d_var (d_cons (d_tup (d_cons (d_neg d_int) (d_cons d_int d_nil))) d_nil))) (d_cons (d_tup (d_cons d_var (d_cons (d_tup (d_cons d_int (d_cons d_int d_nil))) d_nil))) d_nil))))))))))) (s_frz (s_cons (s_set g.nd (d_bin ob_add (d_lc [("one", 8)] g (i_over d_var) (fun _ _ _ _ _ => (g_nm g.blk.nd)) (fun _ _ _ _ _ => pts_yes) (fun _ _ _ _ _ => (d_bin ob_add d_var (d_tup (d_cons d_var (d_cons d_var d_nil)))))) (d_lst (d_cons (d_tup (d_cons d_var (d_cons d_var (d_cons d_str (d_cons d_var d_nil))))) (d_cons (d_tup (d_cons d_var (d_cons d_var (d_cons d_var (d_cons d_str d_nil))))) (d_cons (d_tup (d_cons d_var (d_cons d_var (d_cons d_str (d_cons d_var d_nil))))) d_nil)))))) (s_frz (s_cons (s_ret (d_idx g d_var (d_call (D__law_next.up (by decide)) g tk (o_cons d_var (o_cons d_int o_nil))))) s_nil))))))
theorem s_law : FnScope ["script", "state", "turn", "trip", "kept", "period_v", "moved_v", "lost", "first", "rests", "told", "k", "wrong", "call", "reading", "back", "near", "far"] ["script"] (defScope (top 48)) := ⟨rfl, rfl, rfl, by decide +kernel, rfl, by decide +kernel, by decide +kernel⟩
theorem p_law {c tb : Addr} {lq : Str} (bi : Bi mg) (D__law_back : Def P w K mg base [(tb, lq)] cl 2 "_law_back" c__law_back) (D__law_reading : Def P w K mg base [(tb, lq)] cl 3 "_law_reading" c__law_reading) (D__law_reduced : Def P w K mg base [(tb, lq)] cl 2 "_law_reduced" c__law_reduced) (D__law_same : Def P w K mg base [(tb, lq)] cl 1 "_law_same" c__law_same) (D__law_stream : Def P w K mg base [(tb, lq)] cl 1 "_law_stream" c__law_stream) (D__law_there : Def P w K mg base [(tb, lq)] cl 2 "_law_there" c__law_there) (D__law_trip : Def P w K mg base [(tb, lq)] cl 3 "_law_trip" c__law_trip) (D__law_wrong_trip : Def P w K mg base [(tb, lq)] cl 2 "_law_wrong_trip" c__law_wrong_trip) (D_always_back : Def P w K mg base [(tb, lq)] cl 6 "always_back" c_always_back) (D_farthest : Def P w K mg base [(tb, lq)] cl 6 "farthest" c_farthest) (D_first_lost : Def P w K mg base [(tb, lq)] cl 6 "first_lost" c_first_lost) (D_lost_share : Def P w K mg base [(tb, lq)] cl 6 "lost_share" c_lost_share) (D_resting : Def P w K mg base [(tb, lq)] cl 6 "resting" c_resting) (D_trip_of : Def P w K mg base [(tb, lq)] cl 5 "trip_of" c_trip_of) (tol : ToldD K mg [(tb, lq)] cl) (tt : PySem.W.tabIn K "law" = some (c, tb)) (tB : TabB base mg c tb) (hq : ∀ f cdv A up s0 H0 EE, (bodyCx P w K mg base ["script", "state", "turn", "trip", "kept", "period_v", "moved_v", "lost", "first", "rests", "told", "k", "wrong", "call", "reading", "back", "near", "far"] "law" (top 48) f cdv A up s0 H0 EE).env.qual ++ "<lambda>" = lq) : Body P w K mg base [(tb, lq)] cl 8 ["script", "state", "turn", "trip", "kept", "period_v", "moved_v", "lost", "first", "rests", "told", "k", "wrong", "call", "reading", "back", "near", "far"] "law" (top 48) b_law := by
  intro f cdv A up s0 H0 EE hc g tk pa
  have mk := maker_of (x := "law") (st := top 48) (N := ["script", "state", "turn", "trip", "kept", "period_v", "moved_v", "lost", "first", "rests", "told", "k", "wrong", "call", "reading", "back", "near", "far"]) (A := A) (up := up) (s0 := s0) (H0 := H0) (EE := EE) (P := P) (w := w) (f := f) tt tB hc (hq f cdv A up s0 H0 EE)
  exact (s_cons (s_set g.nd (d_lst (d_cons (d_call (D__law_stream.up (by decide)) g tk (o_cons d_var o_nil)) (d_cons d_int d_nil)))) (s_cons (s_for g pa (i_rng1 bi.range d_int) (g_nm g.nd) (s_cons (s_set g.nd (d_call (D__law_trip.up (by decide)) g tk (o_cons d_var o_nil))) (s_cons (s_set g.nd (d_bltB (bf_repr g) bi.repr (o_cons d_var o_nil))) (s_cons (s_set g.nd (d_bin ob_mul d_int (d_idx g (d_idx g d_var d_int) d_int))) (s_cons (s_set g.nd (d_lc [("reading", 14)] g (i_rng1 bi.range d_var) (fun _ _ _ _ _ => (g_nm g.blk.nd)) (fun _ _ _ _ _ => pts_yes) (fun _ _ _ _ _ => (d_bin ob_sub (d_call (D__law_back.up (by decide)) g.blk tk_no (o_cons d_var (o_cons (d_call (D__law_there.up (by decide)) g.blk tk_no (o_cons d_var (o_cons d_var o_nil))) o_nil))) d_var)))) (s_frz (s_cons (s_lc [("reading", 14)] g (i_rng1 bi.range d_var) (fun _ _ _ _ _ => (g_nm g.blk.nd)) (fun _ _ _ _ _ => (pts_1 (t_cmp (oc_ne g.blk) (d_idx g.blk d_var d_var) d_int))) (fun _ _ _ _ _ => d_var)) (s_frz (s_cons (s_set g.nd (d_tup (d_cons d_str d_nil))) (s_cons (s_if (t_cmp oc_gt (d_bltB bf_len bi.len (o_cons d_var o_nil)) d_int) (s_cons (s_set g.nd (d_tup (d_cons d_str (d_cons (d_idx g d_var d_int) d_nil)))) s_nil) s_nil) (s_cons (s_if (PW.pt (w_or (t_not (t_val (d_call (D__law_same.up (by decide)) g tk (o_cons (d_told (k := 6) g tol mk (fun _ _ _ _ _ _ _ gl tl => (d_call (D_always_back.up (by decide)) gl tl (o_cons d_var o_nil)))) (o_cons (d_tup (d_cons d_str (d_cons (d_cmp (oc_eq g) (d_bltB bf_len bi.len (o_cons d_var o_nil)) d_int) d_nil))) o_nil))))) (w_or1 (t_not (t_val (d_call (D__law_same.up (by decide)) g tk (o_cons (d_told1 (y := "one") (k := 6) g tol mk (fun _ _ _ _ _ _ _ gl tl => (d_call (D_first_lost.up (by decide)) gl tl (o_cons d_var o_nil))) pe_int) (o_cons d_var o_nil)))))))) (s_cons (s_ret d_bl) s_nil) s_nil) (s_cons (s_if (t_not (t_val (d_call (D__law_same.up (by decide)) g tk (o_cons (d_told (k := 6) g tol mk (fun _ _ _ _ _ _ _ gl tl => (d_call (D_lost_share.up (by decide)) gl tl (o_cons d_var o_nil)))) (o_cons (d_tup (d_cons d_str (d_cons (d_call (D__law_reduced.up (by decide)) g tk (o_cons (d_bltB bf_len bi.len (o_cons d_var o_nil)) (o_cons d_var o_nil))) d_nil))) o_nil))))) (s_cons (s_ret d_bl) s_nil) s_nil) (s_cons (s_if (t_not (t_val (d_call (D__law_same.up (by decide)) g tk (o_cons (d_told (k := 6) g tol mk (fun _ _ _ _ _ _ _ gl tl => (d_call (D_farthest.up (by decide)) gl tl (o_cons d_var o_nil)))) (o_cons (d_tup (d_cons d_str (d_cons (d_tup (d_cons (d_bltB (bf_minL g) bi.min (o_cons d_var o_nil)) (d_cons (d_bltB (bf_maxL g) bi.max (o_cons d_var o_nil)) d_nil))) d_nil))) o_nil))))) (s_cons (s_ret d_bl) s_nil) s_nil) (s_cons (s_lc [("reading", 14)] g (i_rng1 bi.range d_var) (fun _ _ _ _ _ => (g_nm g.blk.nd)) (fun _ _ _ _ _ => (pts_1 (t_cmp (oc_eq g.blk) (d_idx g.blk d_var d_var) d_int))) (fun _ _ _ _ _ => d_var)) (s_frz (s_forkA (k := 6) g tol mk (fun _ _ _ _ _ _ _ gl tl => (d_call (D_resting.up (by decide)) gl tl (o_cons d_var o_nil))) (t_not (t_val (d_call (D__law_same.up (by decide)) g tk (o_cons d_var (o_cons (d_tup (d_cons d_str (d_cons d_var d_nil))) o_nil))))) (s_cons (s_ret d_bl) s_nil) (d_neg d_int) (s_cons (s_if (t_not (t_val (d_call (D__law_same.up (by decide)) g tk (o_cons (d_told (k := 6) g tol mk (fun _ _ _ _ _ _ _ gl tl => (d_call (D_resting.up (by decide)) gl tl (o_cons d_var o_nil)))) (o_cons (d_tup (d_cons d_str (d_cons d_var d_nil))) o_nil))))) (s_cons (s_ret d_bl) s_nil) s_nil) (s_cons (s_for g pa (i_rng1 bi.range d_int) (g_nm g.nd) (s_cons (s_set g.nd (d_call (D__law_reading.up (by decide)) g tk (o_cons d_var o_nil))) (s_cons (s_set g.nd (d_told (k := 6) g tol mk (fun _ _ _ _ _ _ _ gl tl => (d_call (D_trip_of.up (by decide)) gl tl (o_cons d_var (o_cons d_var o_nil)))))) (s_cons (s_if (PW.pt (w_or (t_cmp (oc_ne g) (d_idx g d_var d_int) d_str) (w_or1 (t_cmp (oc_ne g) (d_bin ob_sub (d_idx g (d_idx g d_var d_int) d_int) d_var) (d_idx g d_var (d_bin ob_mod (d_bltT bf_int bi.int (o_cons d_var o_nil)) d_var)))))) (s_cons (s_ret d_bl) s_nil) s_nil) (s_kill s_nil))))) (s_kill (s_cons (s_if (PW.pt (w_and (t_cmp oc_ge (d_idx g (d_idx g d_var d_int) d_int) (d_idx g (d_idx g d_var d_int) d_int)) (w_and1 (t_cmp (oc_eq g) (d_idx g d_var d_int) (d_tup (d_cons d_int (d_cons d_int d_nil))))))) (s_cons (s_set g.nd (d_tup (d_cons (d_idx g d_var d_int) (d_cons (d_idx g d_var d_int) (d_cons d_str (d_cons d_str d_nil)))))) (s_cons (s_if (PW.pt (w_and (t_cmp oc_gt (d_idx g (d_idx g d_var d_int) d_int) (d_idx g (d_idx g d_var d_int) d_int)) (w_and1 (t_cmp (oc_ne g) (d_told (k := 6) g tol mk (fun _ _ _ _ _ _ _ gl tl => (d_call (D_always_back.up (by decide)) gl tl (o_cons d_var o_nil)))) (d_tup (d_cons d_str (d_cons d_bl d_nil))))))) (s_cons (s_ret d_bl) s_nil) s_nil) (s_cons (s_set g.nd (d_tup (d_cons (d_idx g d_var d_int) (d_cons (d_idx g d_var d_int) (d_cons d_str (d_cons d_str d_nil)))))) (s_cons (s_if (t_cmp (oc_ne g) (d_told (k := 6) g tol mk (fun _ _ _ _ _ _ _ gl tl => (d_call (D_always_back.up (by decide)) gl tl (o_cons d_var o_nil)))) (d_tup (d_cons d_str (d_cons d_bl d_nil)))) (s_cons (s_ret d_bl) s_nil) s_nil) s_nil)))) s_nil) (s_cons (s_set g.nd (d_call (D__law_wrong_trip.up (by decide)) g tk (o_cons d_var (o_cons d_var o_nil)))) (s_cons (s_forF g pa (fr_cons D_always_back (fr_cons D_first_lost (fr_cons D_lost_share (fr_cons D_farthest (fr_cons D_resting fr_nil))))) (s_cons (s_if (t_cmp (oc_ne g) (d_told (k := 6) g tol mk (fun _ _ _ _ _ _ _ gl tl => (d_callv (all_cons (D_always_back.up (by decide)) (all_cons (D_first_lost.up (by decide)) (all_cons (D_lost_share.up (by decide)) (all_cons (D_farthest.up (by decide)) (all_cons (D_resting.up (by decide)) (all_nil _)))))) gl tl (o_cons d_var o_nil)))) (d_tup (d_cons d_str d_nil))) (s_cons (s_ret d_bl) s_nil) s_nil) (s_kill s_nil))) (s_kill (s_cons (s_if (t_cmp (oc_ne g) (d_bltB (bf_repr g) bi.repr (o_cons d_var o_nil)) d_var) (s_cons (s_ret d_bl) s_nil) s_nil) (s_kill s_nil))))))))))))))))))))))))) (s_frz (s_kill (s_cons (s_ret d_bl) s_nil)))))
/-- what the head tells -/
structure Facts (K : PySem.W.Frag) (c tb E0 C0 C1 C2 C3 C4 C5 : Addr) : Prop where
  tt : PySem.W.tabIn K "law" = some (c, tb)
  tf : K.lookup tb = none
  h_divisor : Has K "divisor" (top 9)
  h_is_fraction : Has K "is_fraction" (top 11)
  h_check_trip : Has K "check_trip" (top 18)
  h_check_reading : Has K "check_reading" (top 19)
  h_fraction : Has K "fraction" (top 10)
  h_added : Has K "added" (top 12)
  h_times : Has K "times" (top 13)
  h_rounded : Has K "rounded" (top 20)
  h_gone : Has K "gone" (top 21)
  h_returned : Has K "returned" (top 22)
  h_trip_of : Has K "trip_of" (top 23)
  h_period : Has K "period" (top 24)
  h_moved : Has K "moved" (top 25)
  h_always_back : Has K "always_back" (top 26)
  h_first_lost : Has K "first_lost" (top 27)
  h_lost_share : Has K "lost_share" (top 28)
  h_farthest : Has K "farthest" (top 29)
  h_resting : Has K "resting" (top 30)
  h__law_same : Has K "_law_same" (top 32)
  h__law_stream : Has K "_law_stream" (top 33)
  h__law_common : Has K "_law_common" (top 37)
  h__law_reduced : Has K "_law_reduced" (top 38)
  h__law_round : Has K "_law_round" (top 41)
  h__law_there : Has K "_law_there" (top 42)
  h__law_back : Has K "_law_back" (top 43)
  h__law_next : Has K "_law_next" (top 34)
  h__law_great : Has K "_law_great" (top 35)
  h__law_kind : Has K "_law_kind" (top 44)
  h__law_trip : Has K "_law_trip" (top 45)
  h__law_reading : Has K "_law_reading" (top 46)
  h__law_wrong_trip : Has K "_law_wrong_trip" (top 47)
  h_law : Has K "law" (top 48)
  h_L_told : Has K "_law_told" (top 36)
  z_len : PySem.W.nsIn K mainGlobals "len" = some none
  z_abs : PySem.W.nsIn K mainGlobals "abs" = some none
  z_int : PySem.W.nsIn K mainGlobals "int" = some none
  z_max : PySem.W.nsIn K mainGlobals "max" = some none
  z_min : PySem.W.nsIn K mainGlobals "min" = some none
  z_sum : PySem.W.nsIn K mainGlobals "sum" = some none
  z_all : PySem.W.nsIn K mainGlobals "all" = some none
  z_any : PySem.W.nsIn K mainGlobals "any" = some none
  z_sorted : PySem.W.nsIn K mainGlobals "sorted" = some none
  z_tuple : PySem.W.nsIn K mainGlobals "tuple" = some none
  z_list : PySem.W.nsIn K mainGlobals "list" = some none
  z_repr : PySem.W.nsIn K mainGlobals "repr" = some none
  z_set : PySem.W.nsIn K mainGlobals "set" = some none
  z_range : PySem.W.nsIn K mainGlobals "range" = some none
  z_enumerate : PySem.W.nsIn K mainGlobals "enumerate" = some none
  z_zip : PySem.W.nsIn K mainGlobals "zip" = some none
  z_reversed : PySem.W.nsIn K mainGlobals "reversed" = some none
  z_isinstance : PySem.W.nsIn K mainGlobals "isinstance" = some none
  z_bool : PySem.W.nsIn K mainGlobals "bool" = some none
  z_str : PySem.W.nsIn K mainGlobals "str" = some none
  z_dict : PySem.W.nsIn K mainGlobals "dict" = some none
  er : ErrF K E0 C0 C1 C2 C3 C4 C5
  g_KINDS : ConstIs K "KINDS" (.tuple [.str "down", .str "up", .str "near", .str "even"])
  g_MAX_PART : ConstIs K "MAX_PART" (.int 999)
  g_MAX_READING : ConstIs K "MAX_READING" (.int 1000000000000)
theorem bi_of {c tb E0 C0 C1 C2 C3 C4 C5 : Addr} (F : Facts K c tb E0 C0 C1 C2 C3 C4 C5) (kin : K.In h) (ns : h.Ns mainGlobals mg) : Bi mg :=
  ⟨PySem.W.mg_none_of kin ns F.z_len, PySem.W.mg_none_of kin ns F.z_abs, PySem.W.mg_none_of kin ns F.z_int, PySem.W.mg_none_of kin ns F.z_max, PySem.W.mg_none_of kin ns F.z_min, PySem.W.mg_none_of kin ns F.z_sum, PySem.W.mg_none_of kin ns F.z_all, PySem.W.mg_none_of kin ns F.z_any, PySem.W.mg_none_of kin ns F.z_sorted, PySem.W.mg_none_of kin ns F.z_tuple, PySem.W.mg_none_of kin ns F.z_list, PySem.W.mg_none_of kin ns F.z_repr, PySem.W.mg_none_of kin ns F.z_set, PySem.W.mg_none_of kin ns F.z_range, PySem.W.mg_none_of kin ns F.z_enumerate, PySem.W.mg_none_of kin ns F.z_zip, PySem.W.mg_none_of kin ns F.z_reversed, PySem.W.mg_none_of kin ns F.z_isinstance, PySem.W.mg_none_of kin ns F.z_bool, PySem.W.mg_none_of kin ns F.z_str, PySem.W.mg_none_of kin ns F.z_dict⟩
/-- the whole text -/
theorem text {c tb E0 C0 C1 C2 C3 C4 C5 : Addr} {lq : Str} (F : Facts K c tb E0 C0 C1 C2 C3 C4 C5) (kin : K.In h) (ns : h.Ns mainGlobals mg) (tB : TabB base mg c tb) (hq : ∀ f cdv A up s0 H0 EE, (bodyCx P w K mg base ["script", "state", "turn", "trip", "kept", "period_v", "moved_v", "lost", "first", "rests", "told", "k", "wrong", "call", "reading", "back", "near", "far"] "law" (top 48) f cdv A up s0 H0 EE).env.qual ++ "<lambda>" = lq) : Body P w K mg base [(tb, lq)] (clOf C0 C1 C2 C3) 8 ["script", "state", "turn", "trip", "kept", "period_v", "moved_v", "lost", "first", "rests", "told", "k", "wrong", "call", "reading", "back", "near", "far"] "law" (top 48) b_law := by
  have bi := bi_of F kin ns
  have er := F.er.errs kin ns
  have r_NotAllowed := F.er.rz0 kin ns
  have r_Missing := F.er.rz2 kin ns
  have k_KINDS : ∀ X : Cx, X.mg = mg → X.K = K → GlobIs X "KINDS" (.tuple [.str "down", .str "up", .str "near", .str "even"]) := fun X e1 e2 => F.g_KINDS.glob kin ns e1 e2
  have k_MAX_PART : ∀ X : Cx, X.mg = mg → X.K = K → GlobIs X "MAX_PART" (.int 999) := fun X e1 e2 => F.g_MAX_PART.glob kin ns e1 e2
  have k_MAX_READING : ∀ X : Cx, X.mg = mg → X.K = K → GlobIs X "MAX_READING" (.int 1000000000000) := fun X e1 e2 => F.g_MAX_READING.glob kin ns e1 e2
  have tol : ToldD K mg [(tb, lq)] (clOf C0 C1 C2 C3) := told_d F.h_L_told kin ns er bi rfl (fun _ _ _ _ _ _ us hl => match us, hl with | [_], _ => rfl) (fun X q g cdv er bi => told_gives er bi rfl)
  have D_divisor : Def P w K mg base [(tb, lq)] (clOf C0 C1 C2 C3) 1 "divisor" c_divisor := def_of F.h_divisor kin ns s_divisor (fun _ _ _ _ _ _ us hl => match us, hl with | [_, _], _ => rfl) rfl (fun _ _ => .inr rfl) (p_divisor bi)
  have D_is_fraction : Def P w K mg base [(tb, lq)] (clOf C0 C1 C2 C3) 2 "is_fraction" c_is_fraction := def_of F.h_is_fraction kin ns s_is_fraction (fun _ _ _ _ _ _ us hl => match us, hl with | [_], _ => rfl) rfl (fun _ _ => .inr rfl) (p_is_fraction bi D_divisor)
  have D_check_trip : Def P w K mg base [(tb, lq)] (clOf C0 C1 C2 C3) 3 "check_trip" c_check_trip := def_of F.h_check_trip kin ns s_check_trip (fun _ _ _ _ _ _ us hl => match us, hl with | [_], _ => rfl) rfl (fun _ _ => .inr rfl) (p_check_trip bi r_NotAllowed k_KINDS k_MAX_PART D_is_fraction)
  have D_check_reading : Def P w K mg base [(tb, lq)] (clOf C0 C1 C2 C3) 4 "check_reading" c_check_reading := def_of F.h_check_reading kin ns s_check_reading (fun _ _ _ _ _ _ us hl => match us, hl with | [_, _], _ => rfl) rfl (fun _ _ => .inr rfl) (p_check_reading r_NotAllowed k_MAX_READING D_check_trip)
  have D_fraction : Def P w K mg base [(tb, lq)] (clOf C0 C1 C2 C3) 2 "fraction" c_fraction := def_of F.h_fraction kin ns s_fraction (fun _ _ _ _ _ _ us hl => match us, hl with | [_, _], _ => rfl) rfl (fun _ _ => .inr rfl) (p_fraction r_NotAllowed D_divisor)
  have D_added : Def P w K mg base [(tb, lq)] (clOf C0 C1 C2 C3) 3 "added" c_added := def_of F.h_added kin ns s_added (fun _ _ _ _ _ _ us hl => match us, hl with | [_, _], _ => rfl) rfl (fun _ _ => .inr rfl) (p_added D_fraction)
  have D_times : Def P w K mg base [(tb, lq)] (clOf C0 C1 C2 C3) 3 "times" c_times := def_of F.h_times kin ns s_times (fun _ _ _ _ _ _ us hl => match us, hl with | [_, _], _ => rfl) rfl (fun _ _ => .inr rfl) (p_times D_fraction)
  have D_rounded : Def P w K mg base [(tb, lq)] (clOf C0 C1 C2 C3) 1 "rounded" c_rounded := def_of F.h_rounded kin ns s_rounded (fun _ _ _ _ _ _ us hl => match us, hl with | [_, _], _ => rfl) rfl (fun _ _ => .inr rfl) (p_rounded bi)
  have D_gone : Def P w K mg base [(tb, lq)] (clOf C0 C1 C2 C3) 4 "gone" c_gone := def_of F.h_gone kin ns s_gone (fun _ _ _ _ _ _ us hl => match us, hl with | [_, _], _ => rfl) rfl (fun _ _ => .inr rfl) (p_gone D_added D_rounded D_times)
  have D_returned : Def P w K mg base [(tb, lq)] (clOf C0 C1 C2 C3) 4 "returned" c_returned := def_of F.h_returned kin ns s_returned (fun _ _ _ _ _ _ us hl => match us, hl with | [_, _], _ => rfl) rfl (fun _ _ => .inr rfl) (p_returned D_added D_fraction D_rounded D_times)
  have D_trip_of : Def P w K mg base [(tb, lq)] (clOf C0 C1 C2 C3) 5 "trip_of" c_trip_of := def_of F.h_trip_of kin ns s_trip_of (fun _ _ _ _ _ _ us hl => match us, hl with | [_, _], _ => rfl) rfl (fun _ _ => .inr rfl) (p_trip_of D_check_reading D_gone D_returned)
  have D_period : Def P w K mg base [(tb, lq)] (clOf C0 C1 C2 C3) 1 "period" c_period := def_of F.h_period kin ns s_period (fun _ _ _ _ _ _ us hl => match us, hl with | [_], _ => rfl) rfl (fun _ _ => .inr rfl) (p_period)
  have D_moved : Def P w K mg base [(tb, lq)] (clOf C0 C1 C2 C3) 5 "moved" c_moved := def_of F.h_moved kin ns s_moved (fun _ _ _ _ _ _ us hl => match us, hl with | [_, _], _ => rfl) rfl (fun _ _ => .inr rfl) (p_moved D_gone D_returned)
  have D_always_back : Def P w K mg base [(tb, lq)] (clOf C0 C1 C2 C3) 6 "always_back" c_always_back := def_of F.h_always_back kin ns s_always_back (fun _ _ _ _ _ _ us hl => match us, hl with | [_], _ => rfl) rfl (fun _ _ => .inr rfl) (p_always_back bi D_check_trip D_moved D_period)
  have D_first_lost : Def P w K mg base [(tb, lq)] (clOf C0 C1 C2 C3) 6 "first_lost" c_first_lost := def_of F.h_first_lost kin ns s_first_lost (fun _ _ _ _ _ _ us hl => match us, hl with | [_], _ => rfl) rfl (fun _ _ => .inr rfl) (p_first_lost bi r_Missing D_check_trip D_moved D_period)
  have D_lost_share : Def P w K mg base [(tb, lq)] (clOf C0 C1 C2 C3) 6 "lost_share" c_lost_share := def_of F.h_lost_share kin ns s_lost_share (fun _ _ _ _ _ _ us hl => match us, hl with | [_], _ => rfl) rfl (fun _ _ => .inr rfl) (p_lost_share bi D_check_trip D_fraction D_moved D_period)
  have D_farthest : Def P w K mg base [(tb, lq)] (clOf C0 C1 C2 C3) 6 "farthest" c_farthest := def_of F.h_farthest kin ns s_farthest (fun _ _ _ _ _ _ us hl => match us, hl with | [_], _ => rfl) rfl (fun _ _ => .inr rfl) (p_farthest bi D_check_trip D_moved D_period)
  have D_resting : Def P w K mg base [(tb, lq)] (clOf C0 C1 C2 C3) 6 "resting" c_resting := def_of F.h_resting kin ns s_resting (fun _ _ _ _ _ _ us hl => match us, hl with | [_], _ => rfl) rfl (fun _ _ => .inr rfl) (p_resting bi D_check_trip D_moved D_period)
  have D__law_same : Def P w K mg base [(tb, lq)] (clOf C0 C1 C2 C3) 1 "_law_same" c__law_same := def_of F.h__law_same kin ns s__law_same (fun _ _ _ _ _ _ us hl => match us, hl with | [_, _], _ => rfl) rfl (fun _ _ => .inr rfl) (p__law_same bi)
  have D__law_stream : Def P w K mg base [(tb, lq)] (clOf C0 C1 C2 C3) 1 "_law_stream" c__law_stream := def_of F.h__law_stream kin ns s__law_stream (fun _ _ _ _ _ _ us hl => match us, hl with | [_], _ => rfl) rfl (fun _ _ => .inr rfl) (p__law_stream bi)
  have D__law_common : Def P w K mg base [(tb, lq)] (clOf C0 C1 C2 C3) 1 "_law_common" c__law_common := def_of F.h__law_common kin ns s__law_common (fun _ _ _ _ _ _ us hl => match us, hl with | [_, _], _ => rfl) rfl (fun _ _ => .inr rfl) (p__law_common bi)
  have D__law_reduced : Def P w K mg base [(tb, lq)] (clOf C0 C1 C2 C3) 2 "_law_reduced" c__law_reduced := def_of F.h__law_reduced kin ns s__law_reduced (fun _ _ _ _ _ _ us hl => match us, hl with | [_, _], _ => rfl) rfl (fun _ _ => .inr rfl) (p__law_reduced D__law_common)
  have D__law_round : Def P w K mg base [(tb, lq)] (clOf C0 C1 C2 C3) 1 "_law_round" c__law_round := def_of F.h__law_round kin ns s__law_round (fun _ _ _ _ _ _ us hl => match us, hl with | [_, _, _], _ => rfl) rfl (fun _ _ => .inr rfl) (p__law_round bi)
  have D__law_there : Def P w K mg base [(tb, lq)] (clOf C0 C1 C2 C3) 2 "_law_there" c__law_there := def_of F.h__law_there kin ns s__law_there (fun _ _ _ _ _ _ us hl => match us, hl with | [_, _], _ => rfl) rfl (fun _ _ => .inr rfl) (p__law_there D__law_round)
  have D__law_back : Def P w K mg base [(tb, lq)] (clOf C0 C1 C2 C3) 2 "_law_back" c__law_back := def_of F.h__law_back kin ns s__law_back (fun _ _ _ _ _ _ us hl => match us, hl with | [_, _], _ => rfl) rfl (fun _ _ => .inr rfl) (p__law_back D__law_round)
  have D__law_next : Def P w K mg base [(tb, lq)] (clOf C0 C1 C2 C3) 1 "_law_next" c__law_next := def_of F.h__law_next kin ns s__law_next (fun _ _ _ _ _ _ us hl => match us, hl with | [_, _], _ => rfl) rfl (fun _ _ => .inr rfl) (p__law_next bi)
  have D__law_great : Def P w K mg base [(tb, lq)] (clOf C0 C1 C2 C3) 2 "_law_great" c__law_great := def_of F.h__law_great kin ns s__law_great (fun _ _ _ _ _ _ us hl => match us, hl with | [_, _], _ => rfl) rfl (fun _ _ => .inr rfl) (p__law_great bi D__law_next)
  have D__law_kind : Def P w K mg base [(tb, lq)] (clOf C0 C1 C2 C3) 2 "_law_kind" c__law_kind := def_of F.h__law_kind kin ns s__law_kind (fun _ _ _ _ _ _ us hl => match us, hl with | [_], _ => rfl) rfl (fun _ _ => .inr rfl) (p__law_kind D__law_next)
  have D__law_trip : Def P w K mg base [(tb, lq)] (clOf C0 C1 C2 C3) 3 "_law_trip" c__law_trip := def_of F.h__law_trip kin ns s__law_trip (fun _ _ _ _ _ _ us hl => match us, hl with | [_], _ => rfl) rfl (fun _ _ => .inr rfl) (p__law_trip D__law_great D__law_kind D__law_next D__law_reduced)
  have D__law_reading : Def P w K mg base [(tb, lq)] (clOf C0 C1 C2 C3) 3 "_law_reading" c__law_reading := def_of F.h__law_reading kin ns s__law_reading (fun _ _ _ _ _ _ us hl => match us, hl with | [_], _ => rfl) rfl (fun _ _ => .inr rfl) (p__law_reading D__law_great D__law_next)
  have D__law_wrong_trip : Def P w K mg base [(tb, lq)] (clOf C0 C1 C2 C3) 2 "_law_wrong_trip" c__law_wrong_trip := def_of F.h__law_wrong_trip kin ns s__law_wrong_trip (fun _ _ _ _ _ _ us hl => match us, hl with | [_, _], _ => rfl) rfl (fun _ _ => .inr rfl) (p__law_wrong_trip D__law_next)
  exact p_law bi D__law_back D__law_reading D__law_reduced D__law_same D__law_stream D__law_there D__law_trip D__law_wrong_trip D_always_back D_farthest D_first_lost D_lost_share D_resting D_trip_of tol F.tt tB hq
def lq : Str := (envOfC "law" (defScope (top 48)) 0 0 .none).qual ++ "<lambda>"
theorem fin {c tb E0 C0 C1 C2 C3 C4 C5 : Addr} (F : Facts K c tb E0 C0 C1 C2 C3 C4 C5) : ∃ (c tb : Addr) (cl : Exc → Addr), PySem.W.tabIn K "law" = some (c, tb) ∧ K.lookup tb = none ∧ Has K "law" (top 48) ∧
    ∀ base : Heap, K.In base → base.Ns mainGlobals mg → TabB base mg c tb → Body P w K mg base [(tb, lq)] cl 8 ["script", "state", "turn", "trip", "kept", "period_v", "moved_v", "lost", "first", "rests", "told", "k", "wrong", "call", "reading", "back", "near", "far"] "law" (top 48) b_law :=
  ⟨c, tb, _, F.tt, F.tf, F.h_law, fun base kb nb tB => text F kb nb tB (fun _ _ _ _ _ _ _ => rfl)⟩
end
end L
set_option autoImplicit false
open PySem PySem.W PyProof.Rows in
set_option maxRecDepth 100000 in
set_option maxHeartbeats 0 in
theorem PySem.Challenge.cw_ellwand_k16_whole_readings_that_come_bac_holds : PySem.Challenge.rw_ellwand_k16_whole_readings_that_come_bac.Holds := by
  w_on; o_law; k_head; (case hw => w_witness2)
  k_fill
  refine Ell.walk_law (l := PySem.Challenge.rw_ellwand_k16_whole_readings_that_come_bac) (n := 63) (k := 8) (x := "law") (y := "script") (lq := L.lq) (st := L.top 48) (N := ["script", "state", "turn", "trip", "kept", "period_v", "moved_v", "lost", "first", "rests", "told", "k", "wrong", "call", "reading", "back", "near", "far"]) (b := L.b_law) rfl (by decide) rfl rfl ⟨rfl, by decide, by decide⟩ (fun w h Y => by first | exact PySem.W.km_in_of Y | exact PySem.W.kIn_of Y) rfl L.s_law (fun _ _ _ _ _ _ us hl => match us, hl with | [_], _ => rfl) (fun w h mg kin ns => ?F) L.law_pure
  case F =>
    refine' L.fin ⟨Ell.tab_mk ?t_a ?t_l ?t_d ?t_e, ?tf, Ell.has_mk ?h_divisor_a ?h_divisor_l ?h_divisor_c ?h_divisor_k, Ell.has_mk ?h_is_fraction_a ?h_is_fraction_l ?h_is_fraction_c ?h_is_fraction_k, Ell.has_mk ?h_check_trip_a ?h_check_trip_l ?h_check_trip_c ?h_check_trip_k, Ell.has_mk ?h_check_reading_a ?h_check_reading_l ?h_check_reading_c ?h_check_reading_k, Ell.has_mk ?h_fraction_a ?h_fraction_l ?h_fraction_c ?h_fraction_k, Ell.has_mk ?h_added_a ?h_added_l ?h_added_c ?h_added_k, Ell.has_mk ?h_times_a ?h_times_l ?h_times_c ?h_times_k, Ell.has_mk ?h_rounded_a ?h_rounded_l ?h_rounded_c ?h_rounded_k, Ell.has_mk ?h_gone_a ?h_gone_l ?h_gone_c ?h_gone_k, Ell.has_mk ?h_returned_a ?h_returned_l ?h_returned_c ?h_returned_k, Ell.has_mk ?h_trip_of_a ?h_trip_of_l ?h_trip_of_c ?h_trip_of_k, Ell.has_mk ?h_period_a ?h_period_l ?h_period_c ?h_period_k, Ell.has_mk ?h_moved_a ?h_moved_l ?h_moved_c ?h_moved_k, Ell.has_mk ?h_always_back_a ?h_always_back_l ?h_always_back_c ?h_always_back_k, Ell.has_mk ?h_first_lost_a ?h_first_lost_l ?h_first_lost_c ?h_first_lost_k, Ell.has_mk ?h_lost_share_a ?h_lost_share_l ?h_lost_share_c ?h_lost_share_k, Ell.has_mk ?h_farthest_a ?h_farthest_l ?h_farthest_c ?h_farthest_k, Ell.has_mk ?h_resting_a ?h_resting_l ?h_resting_c ?h_resting_k, Ell.has_mk ?h__law_same_a ?h__law_same_l ?h__law_same_c ?h__law_same_k, Ell.has_mk ?h__law_stream_a ?h__law_stream_l ?h__law_stream_c ?h__law_stream_k, Ell.has_mk ?h__law_common_a ?h__law_common_l ?h__law_common_c ?h__law_common_k, Ell.has_mk ?h__law_reduced_a ?h__law_reduced_l ?h__law_reduced_c ?h__law_reduced_k, Ell.has_mk ?h__law_round_a ?h__law_round_l ?h__law_round_c ?h__law_round_k, Ell.has_mk ?h__law_there_a ?h__law_there_l ?h__law_there_c ?h__law_there_k, Ell.has_mk ?h__law_back_a ?h__law_back_l ?h__law_back_c ?h__law_back_k, Ell.has_mk ?h__law_next_a ?h__law_next_l ?h__law_next_c ?h__law_next_k, Ell.has_mk ?h__law_great_a ?h__law_great_l ?h__law_great_c ?h__law_great_k, Ell.has_mk ?h__law_kind_a ?h__law_kind_l ?h__law_kind_c ?h__law_kind_k, Ell.has_mk ?h__law_trip_a ?h__law_trip_l ?h__law_trip_c ?h__law_trip_k, Ell.has_mk ?h__law_reading_a ?h__law_reading_l ?h__law_reading_c ?h__law_reading_k, Ell.has_mk ?h__law_wrong_trip_a ?h__law_wrong_trip_l ?h__law_wrong_trip_c ?h__law_wrong_trip_k, Ell.has_mk ?h_law_a ?h_law_l ?h_law_c ?h_law_k, Ell.has_mk ?h_L_told_a ?h_L_told_l ?h_L_told_c ?h_L_told_k, ?z_len, ?z_abs, ?z_int, ?z_max, ?z_min, ?z_sum, ?z_all, ?z_any, ?z_sorted, ?z_tuple, ?z_list, ?z_repr, ?z_set, ?z_range, ?z_enumerate, ?z_zip, ?z_reversed, ?z_isinstance, ?z_bool, ?z_str, ?z_dict, ⟨?e_nE, ?e_n0, ?e_n1, ?e_n2, ?e_n3, ?e_n4, ?e_n5, ?e_hn, ?e_ht, ⟨?e0_ex, ?e0_hg, ?e0_hk, ?e0_hs, ?e0_hd, ?e0_ha, ?e0_hm, ?e0_kp, ?e0_ty, ?e0_i0, ?e0_i1, ?e0_i2, ?e0_i3, ?e0_i4, ?e0_i5, Ell.xi_mk ?e0_xi⟩, ⟨?e1_ex, ?e1_hg, ?e1_hk, ?e1_hs, ?e1_hd, ?e1_ha, ?e1_hm, ?e1_kp, ?e1_ty, ?e1_i0, ?e1_i1, ?e1_i2, ?e1_i3, ?e1_i4, ?e1_i5, Ell.xi_mk ?e1_xi⟩, ⟨?e2_ex, ?e2_hg, ?e2_hk, ?e2_hs, ?e2_hd, ?e2_ha, ?e2_hm, ?e2_kp, ?e2_ty, ?e2_i0, ?e2_i1, ?e2_i2, ?e2_i3, ?e2_i4, ?e2_i5, Ell.xi_mk ?e2_xi⟩, ⟨?e3_ex, ?e3_hg, ?e3_hk, ?e3_hs, ?e3_hd, ?e3_ha, ?e3_hm, ?e3_kp, ?e3_ty, ?e3_i0, ?e3_i1, ?e3_i2, ?e3_i3, ?e3_i4, ?e3_i5, Ell.xi_mk ?e3_xi⟩⟩, Ell.const_tup (xs := [L2.V.str "down", L2.V.str "up", L2.V.str "near", L2.V.str "even"]) ?g_KINDS ?l_KINDS ?v_KINDS ?s_KINDS (fun G => .cons (.str _) (.cons (.str _) (.cons (.str _) (.cons (.str _) (.nil))))), Ell.const_int ?g_MAX_PART, Ell.const_int ?g_MAX_READING⟩
    (case t_a => k_is)
    (case t_l => k_is)
    (case t_d => k_is)
    (case t_e => rfl)
    (case tf => kernel_rfl)
    (case h_divisor_a => k_is)
    (case h_divisor_l => k_is)
    (case h_divisor_c => k_is)
    (case h_divisor_k => k_is)
    (case h_is_fraction_a => k_is)
    (case h_is_fraction_l => k_is)
    (case h_is_fraction_c => k_is)
    (case h_is_fraction_k => k_is)
    (case h_check_trip_a => k_is)
    (case h_check_trip_l => k_is)
    (case h_check_trip_c => k_is)
    (case h_check_trip_k => k_is)
    (case h_check_reading_a => k_is)
    (case h_check_reading_l => k_is)
    (case h_check_reading_c => k_is)
    (case h_check_reading_k => k_is)
    (case h_fraction_a => k_is)
    (case h_fraction_l => k_is)
    (case h_fraction_c => k_is)
    (case h_fraction_k => k_is)
    (case h_added_a => k_is)
    (case h_added_l => k_is)
    (case h_added_c => k_is)
    (case h_added_k => k_is)
    (case h_times_a => k_is)
    (case h_times_l => k_is)
    (case h_times_c => k_is)
    (case h_times_k => k_is)
    (case h_rounded_a => k_is)
    (case h_rounded_l => k_is)
    (case h_rounded_c => k_is)
    (case h_rounded_k => k_is)
    (case h_gone_a => k_is)
    (case h_gone_l => k_is)
    (case h_gone_c => k_is)
    (case h_gone_k => k_is)
    (case h_returned_a => k_is)
    (case h_returned_l => k_is)
    (case h_returned_c => k_is)
    (case h_returned_k => k_is)
    (case h_trip_of_a => k_is)
    (case h_trip_of_l => k_is)
    (case h_trip_of_c => k_is)
    (case h_trip_of_k => k_is)
    (case h_period_a => k_is)
    (case h_period_l => k_is)
    (case h_period_c => k_is)
    (case h_period_k => k_is)
    (case h_moved_a => k_is)
    (case h_moved_l => k_is)
    (case h_moved_c => k_is)
    (case h_moved_k => k_is)
    (case h_always_back_a => k_is)
    (case h_always_back_l => k_is)
    (case h_always_back_c => k_is)
    (case h_always_back_k => k_is)
    (case h_first_lost_a => k_is)
    (case h_first_lost_l => k_is)
    (case h_first_lost_c => k_is)
    (case h_first_lost_k => k_is)
    (case h_lost_share_a => k_is)
    (case h_lost_share_l => k_is)
    (case h_lost_share_c => k_is)
    (case h_lost_share_k => k_is)
    (case h_farthest_a => k_is)
    (case h_farthest_l => k_is)
    (case h_farthest_c => k_is)
    (case h_farthest_k => k_is)
    (case h_resting_a => k_is)
    (case h_resting_l => k_is)
    (case h_resting_c => k_is)
    (case h_resting_k => k_is)
    (case h__law_same_a => k_is)
    (case h__law_same_l => k_is)
    (case h__law_same_c => k_is)
    (case h__law_same_k => k_is)
    (case h__law_stream_a => k_is)
    (case h__law_stream_l => k_is)
    (case h__law_stream_c => k_is)
    (case h__law_stream_k => k_is)
    (case h__law_common_a => k_is)
    (case h__law_common_l => k_is)
    (case h__law_common_c => k_is)
    (case h__law_common_k => k_is)
    (case h__law_reduced_a => k_is)
    (case h__law_reduced_l => k_is)
    (case h__law_reduced_c => k_is)
    (case h__law_reduced_k => k_is)
    (case h__law_round_a => k_is)
    (case h__law_round_l => k_is)
    (case h__law_round_c => k_is)
    (case h__law_round_k => k_is)
    (case h__law_there_a => k_is)
    (case h__law_there_l => k_is)
    (case h__law_there_c => k_is)
    (case h__law_there_k => k_is)
    (case h__law_back_a => k_is)
    (case h__law_back_l => k_is)
    (case h__law_back_c => k_is)
    (case h__law_back_k => k_is)
    (case h__law_next_a => k_is)
    (case h__law_next_l => k_is)
    (case h__law_next_c => k_is)
    (case h__law_next_k => k_is)
    (case h__law_great_a => k_is)
    (case h__law_great_l => k_is)
    (case h__law_great_c => k_is)
    (case h__law_great_k => k_is)
    (case h__law_kind_a => k_is)
    (case h__law_kind_l => k_is)
    (case h__law_kind_c => k_is)
    (case h__law_kind_k => k_is)
    (case h__law_trip_a => k_is)
    (case h__law_trip_l => k_is)
    (case h__law_trip_c => k_is)
    (case h__law_trip_k => k_is)
    (case h__law_reading_a => k_is)
    (case h__law_reading_l => k_is)
    (case h__law_reading_c => k_is)
    (case h__law_reading_k => k_is)
    (case h__law_wrong_trip_a => k_is)
    (case h__law_wrong_trip_l => k_is)
    (case h__law_wrong_trip_c => k_is)
    (case h__law_wrong_trip_k => k_is)
    (case h_law_a => k_is)
    (case h_law_l => k_is)
    (case h_law_c => k_is)
    (case h_law_k => k_is)
    (case h_L_told_a => k_is)
    (case h_L_told_l => k_is)
    (case h_L_told_c => k_is)
    (case h_L_told_k => k_is)
    (case z_len => k_is)
    (case z_abs => k_is)
    (case z_int => k_is)
    (case z_max => k_is)
    (case z_min => k_is)
    (case z_sum => k_is)
    (case z_all => k_is)
    (case z_any => k_is)
    (case z_sorted => k_is)
    (case z_tuple => k_is)
    (case z_list => k_is)
    (case z_repr => k_is)
    (case z_set => k_is)
    (case z_range => k_is)
    (case z_enumerate => k_is)
    (case z_zip => k_is)
    (case z_reversed => k_is)
    (case z_isinstance => k_is)
    (case z_bool => k_is)
    (case z_str => k_is)
    (case z_dict => k_is)
    (case e_nE => k_is)
    (case e_n0 => k_is)
    (case e_n1 => k_is)
    (case e_n2 => k_is)
    (case e_n3 => k_is)
    (case e_n4 => k_is)
    (case e_n5 => k_is)
    (case e_hn => k_is)
    (case e_ht => k_is)
    (case e0_ex => kernel_rfl)
    (case e0_hg => k_is)
    (case e0_hk => k_is)
    (case e0_hs => k_is)
    (case e0_hd => k_is)
    (case e0_ha => k_is)
    (case e0_hm => k_is)
    (case e0_kp => k_is)
    (case e0_ty => k_is)
    (case e0_i0 => kernel_rfl)
    (case e0_i1 => kernel_rfl)
    (case e0_i2 => kernel_rfl)
    (case e0_i3 => kernel_rfl)
    (case e0_i4 => kernel_rfl)
    (case e0_i5 => kernel_rfl)
    (case e0_xi => kernel_rfl)
    (case e1_ex => kernel_rfl)
    (case e1_hg => k_is)
    (case e1_hk => k_is)
    (case e1_hs => k_is)
    (case e1_hd => k_is)
    (case e1_ha => k_is)
    (case e1_hm => k_is)
    (case e1_kp => k_is)
    (case e1_ty => k_is)
    (case e1_i0 => kernel_rfl)
    (case e1_i1 => kernel_rfl)
    (case e1_i2 => kernel_rfl)
    (case e1_i3 => kernel_rfl)
    (case e1_i4 => kernel_rfl)
    (case e1_i5 => kernel_rfl)
    (case e1_xi => kernel_rfl)
    (case e2_ex => kernel_rfl)
    (case e2_hg => k_is)
    (case e2_hk => k_is)
    (case e2_hs => k_is)
    (case e2_hd => k_is)
    (case e2_ha => k_is)
    (case e2_hm => k_is)
    (case e2_kp => k_is)
    (case e2_ty => k_is)
    (case e2_i0 => kernel_rfl)
    (case e2_i1 => kernel_rfl)
    (case e2_i2 => kernel_rfl)
    (case e2_i3 => kernel_rfl)
    (case e2_i4 => kernel_rfl)
    (case e2_i5 => kernel_rfl)
    (case e2_xi => kernel_rfl)
    (case e3_ex => kernel_rfl)
    (case e3_hg => k_is)
    (case e3_hk => k_is)
    (case e3_hs => k_is)
    (case e3_hd => k_is)
    (case e3_ha => k_is)
    (case e3_hm => k_is)
    (case e3_kp => k_is)
    (case e3_ty => k_is)
    (case e3_i0 => kernel_rfl)
    (case e3_i1 => kernel_rfl)
    (case e3_i2 => kernel_rfl)
    (case e3_i3 => kernel_rfl)
    (case e3_i4 => kernel_rfl)
    (case e3_i5 => kernel_rfl)
    (case e3_xi => kernel_rfl)
    (case g_KINDS => k_is)
    (case l_KINDS => k_is)
    (case v_KINDS => exact .cons ⟨_, rfl⟩ (.cons ⟨_, rfl⟩ (.cons ⟨_, rfl⟩ (.cons ⟨_, rfl⟩ (.nil)))))
    (case s_KINDS => decide)
    (case g_MAX_PART => k_is)
    (case g_MAX_READING => k_is)
