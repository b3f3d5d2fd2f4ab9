import PyProof.Rows.All
import Wide.All
import OpenK.AllK
import Wide.FinOn
import HandS.ForMost
import HandS.Wide
import HandS.TupAny
import HandS.TupMul
import HandS.Deep
import HandS.Lambda
import HandS.CallSlots
import HandS.IsInst
import HandS.CallLocal
import HandS.StrMore
import HandS.ExcCtx
import HandS.Replace
import HandS.Walk
import HandS.Zip
import HandS.Codes
import HandS.Defaults
import HandS.Hot
import HandS.HotCalls
import HandS.ExcIs
import HandS.Style
import HandS.ExcOwn
import HandS.HeadHook1
import HandS.HeadHook2
import HandS.HeadHook3
import HandS.HeadHook4
import HandS.HeadEnd
import HandS.HeadWalk
import HandS.Head0
import HandS.Head1
import HandS.Head2
import KE.KStateDown
import HandS.More
import HandS.Words
import PySem.Challenge.RW_glassrings_k05_whole_bends_and_jumps
set_option Elab.async false
set_option linter.all false
-- M0
/-! Steps, glasses and runs at told times, as plain data. -/
namespace G
def minI : List Int → Option Int
  | [] => none
  | x :: xs => some (xs.foldl (fun a b => if b < a then b else a) x)
/-- steps of a plan -/
inductive St where
  | turn (i : Nat) | wait (i : Nat) | first | ring
  deriving DecidableEq
def whole (a b : Int) (q : Bool) : Int := if q then b else a
/-- how many ticks a step takes -/
def tk (xs : List Int) : St → Int
  | .turn _ => 0
  | .wait i => xs.getD i 0
  | .first => (minI (xs.filter (0 < ·))).getD 0
  | .ring => 0
def aft (ks : List Bool) (a b : Int) (xs : List Int) : St → List Int
  | .turn i => xs.set i (whole a b (ks.getD i false) - xs.getD i 0)
  | s => xs.map fun x => max 0 (x - tk xs s)
structure Run where
  xs : List Int
  t : Int
  hd : List (Int × List Bool)
def run1 (ks : List Bool) (a b : Int) (r : Run) (s : St) : Run :=
  let xs := aft ks a b r.xs s
  let t := r.t + tk r.xs s
  ⟨xs, t, if s = .ring then r.hd ++ [(t, xs.map (decide <| 0 < ·))] else r.hd⟩
def runM (ks : List Bool) (a b : Int) (ss : List St) : Run := ss.foldl (run1 ks a b) ⟨List.replicate ks.length 0, 0, []⟩
theorem aft_len {ks : List Bool} {a b : Int} {xs : List Int} {s : St} : (aft ks a b xs s).length = xs.length := by cases s <;> simp [aft]
theorem runM_snoc {ks : List Bool} {a b : Int} {pre : List St} {s : St} : runM ks a b (pre ++ [s]) = run1 ks a b (runM ks a b pre) s := by rw [runM, List.foldl_append]; rfl
theorem fold_len {ks : List Bool} {a b : Int} : ∀ (ss : List St) (r : Run), (ss.foldl (run1 ks a b) r).xs.length = r.xs.length ∧ (ss.foldl (run1 ks a b) r).hd.length ≤ r.hd.length + ss.length
  | [], r => ⟨rfl, Nat.le_refl _⟩
  | s :: ss, r => by
    obtain ⟨h1, h2⟩ := fold_len ss (run1 ks a b r s)
    refine ⟨h1.trans aft_len, Nat.le_trans h2 ?_⟩
    unfold run1
    by_cases h : s = .ring <;> simp [h] <;> omega
theorem runM_len {ks : List Bool} {a b : Int} {ss : List St} : (runM ks a b ss).xs.length = ks.length := by rw [runM, (fold_len ss _).1]; simp
theorem runM_hd {ks : List Bool} {a b : Int} {ss : List St} : (runM ks a b ss).hd.length ≤ ss.length := by simpa [runM] using (fold_len (ks := ks) (a := a) (b := b) ss ⟨List.replicate ks.length 0, 0, []⟩).2
/-- a step within its set -/
def St.ok (n : Nat) : St → Prop
  | .turn i => i < n
  | .wait i => i < n
  | _ => True
end G

-- GA
set_option maxRecDepth 100000
set_option maxHeartbeats 2000000
/-! A small pure language: what the defs of the program reckon, over plain data. -/
namespace G
open PySem
abbrev D := PyData
/-- a value: data, a thing of the store, a def of the program -/
inductive Vl where
  | dat (d : D) | loc (n : Nat) | fn (g : Nat)
/-- a thing that may change -/
inductive Ob where
  | lst (xs : List D) | dct (kvs : List (D × D))
/-- a slot: empty, a value, a thing that only this def holds -/
inductive Sl where
  | un | vl (v : Vl) | own (o : Ob)
abbrev Env := List Sl
abbrev Sto := List Ob
inductive Out (α : Type) where
  | ok (a : α) (S : Sto) | ex (c : Nat) (p : Option Int) (S : Sto)
abbrev M (α : Type) := Sto → Option (Out α)
@[reducible] def ret {α : Type} (a : α) : M α := fun S => some (.ok a S)
@[reducible] def fail {α : Type} : M α := fun _ => none
@[reducible] def raise {α : Type} (c : Nat) (p : Option Int) : M α := fun S => some (.ex c p S)
def bnd {α β : Type} (m : M α) (k : α → M β) : M β := fun S => match m S with
  | none => none
  | some (.ok a S') => k a S'
  | some (.ex c p S') => some (.ex c p S')
@[reducible] def lft {α : Type} (o : Option α) : M α := match o with
  | some a => ret a
  | none => fail
/-- what an expression gives: a value, a list that nothing else holds -/
inductive RV where
  | vl (v : Vl) | new (xs : List D)
@[reducible] def RV.d : D → RV := fun d => .vl (.dat d)
def RV.toD : RV → Option D
  | .vl (.dat d) => some d
  | .new xs => some (.list xs)
  | _ => none
def RV.toV : RV → Vl
  | .vl v => v
  | .new xs => .dat (.list xs)

/-! ### operators -/
inductive Bo where
  | add | sub | mul | fdiv | mod | pow
  deriving DecidableEq
inductive Co where
  | eq | ne | lt | le | gt | ge | isIn | notIn
  deriving DecidableEq
def gAdd : D → D → Option RV
  | .int i, .int j => some (.d (.int (i + j)))
  | .str x, .str y => if x.length + y.length ≤ sizeLine then some (.d (.str (x ++ y))) else none
  | .tuple xs, .tuple ys => if xs.length + ys.length ≤ sizeLine then some (.d (.tuple (xs ++ ys))) else none
  | .list xs, .list ys => if xs.length + ys.length ≤ sizeLine then some (.new (xs ++ ys)) else none
  | _, _ => none
def gSub : D → D → Option RV
  | .int i, .int j => some (.d (.int (i - j)))
  | .bool a, .bool b => some (.d (.int ((if a = true then 1 else 0) - (if b = true then 1 else 0))))
  | _, _ => none
def gMul : D → D → Option RV
  | .int i, .int j => if ((-(2 ^ 64) < i ∧ i < 2 ^ 64) ∨ (-(2 ^ 64) < j ∧ j < 2 ^ 64)) ∨ i.natAbs.log2 + j.natAbs.log2 < 1000000 then some (.d (.int (i * j))) else none
  | .tuple xs, .int k => if xs.isEmpty = true ∨ k = 1 then (if -1000 ≤ k ∧ k ≤ 1000 then some (.d (.tuple xs)) else none)
    else if 2 ≤ k ∧ k ≤ 1000 ∧ xs.length ≤ 1000 then some (.d (.tuple (List.replicate k.toNat xs).flatten)) else none
  | _, _ => none
def gFdiv : D → D → Option RV
  | .int i, .int j => if 0 < j ∧ j.natAbs.log2 < 9000 then some (.d (.int (i / j))) else none
  | _, _ => none
def gMod : D → D → Option RV
  | .int i, .int j => if 0 < j then some (.d (.int (i % j))) else none
  | _, _ => none
def gPow : D → D → Option RV
  | .int i, .int j => if 0 ≤ j ∧ j ≤ 1000000 ∧ i.natAbs < 2 ^ 64 then some (.d (.int (i ^ j.toNat))) else none
  | _, _ => none
def bop : Bo → D → D → Option RV
  | .add => gAdd | .sub => gSub | .mul => gMul | .fdiv => gFdiv | .mod => gMod | .pow => gPow
def gOrd (f : Int → Int → Bool) : D → D → Option Bool
  | .int i, .int j => some (f i j)
  | _, _ => none
def gEq (x y : D) : Option Bool := if SeqAt.shaped x = true ∧ SeqAt.shaped y = true then some (PyData.eqv x y) else none
def flatD : D → Bool
  | .none | .bool _ | .int _ | .str _ => true
  | _ => false
def gIn : D → D → Option Bool
  | .str x, .str y => some (!(Builtin.Str.occurrences y x 0 y.length 1).isEmpty)
  | x, .list ys => if flatD x = true ∧ ys.all flatD = true then some (ys.any fun y => PyData.eqv y x) else if SeqAt.shaped x = true ∧ SeqAt.shaped (.list ys) = true then some (ys.any fun y => PyData.eqv y x) else none
  | x, .tuple ys => if flatD x = true ∧ ys.all flatD = true then some (ys.any fun y => PyData.eqv y x) else if SeqAt.shaped x = true ∧ SeqAt.shaped (.tuple ys) = true then some (ys.any fun y => PyData.eqv y x) else none
  | _, _ => none
def cop : Co → D → D → Option Bool
  | .eq => gEq
  | .ne => fun x y => (gEq x y).map not
  | .lt => gOrd fun i j => decide (i < j)
  | .le => gOrd fun i j => decide (i ≤ j)
  | .gt => gOrd fun i j => decide (j < i)
  | .ge => gOrd fun i j => decide (j ≤ i)
  | .isIn => gIn
  | .notIn => fun x y => (gIn x y).map not
def gIx : D → D → Option D
  | .list xs, .int i => L2.atI xs i
  | .tuple xs, .int i => L2.atI xs i
  | .str z, .int i => if z.length ≤ sizeLine then (L2.atI z.cps.toList i).map fun c => .str ⟨#[c]⟩ else none
  | _, _ => none
def cutD (xs : List D) (lo hi : Option Int) : List D := (xs.drop (HT.sIx xs.length 0 lo)).take (HT.sIx xs.length xs.length hi - HT.sIx xs.length 0 lo)
def gSl : D → Option Int → Option Int → Option RV
  | .list xs, lo, hi => some (.new (cutD xs lo hi))
  | .tuple xs, lo, hi => some (.d (.tuple (cutD xs lo hi)))
  | _, _, _ => none
/-- built-ins by values -/
inductive Bf where
  | len | max2 | min2 | minL | abs | toInt | toStr | toTuple | toList | sortI
  deriving DecidableEq
def intsOf : List D → Option (List Int)
  | [] => some []
  | .int i :: r => (intsOf r).map (i :: ·)
  | _ :: _ => none
def ins (a : Int) : List Int → List Int
  | [] => [a]
  | b :: r => if a ≤ b then a :: b :: r else b :: ins a r
def isort : List Int → List Int
  | [] => []
  | a :: r => ins a (isort r)
def gBf : Bf → List D → Option RV
  | .len, [.list xs] => some (.d (.int xs.length))
  | .len, [.tuple xs] => some (.d (.int xs.length))
  | .len, [.str z] => if z.length ≤ sizeLine then some (.d (.int z.length)) else none
  | .max2, [.int i, .int j] => some (.d (.int (if j > i then j else i)))
  | .min2, [.int i, .int j] => some (.d (.int (if j < i then j else i)))
  | .minL, [.list xs] => ((intsOf xs).bind minI).map fun m => .d (.int m)
  | .abs, [.int i] => some (.d (.int (if i < 0 then -i else i)))
  | .toInt, [.int i] => some (.d (.int i))
  | .toInt, [.bool b] => some (.d (.int (if b then 1 else 0)))
  | .toStr, [.int i] => if i.natAbs.log2 < 1920 then some (.d (.str (toString i))) else none
  | .toTuple, [.list xs] => some (.d (.tuple xs))
  | .toTuple, [.tuple xs] => some (.d (.tuple xs))
  | .toList, [.list xs] => some (.new xs)
  | .toList, [.tuple xs] => some (.new xs)
  | .sortI, [.list xs] => (intsOf xs).bind fun ns => if ns.length < 64 then some (.new ((isort ns).map PyData.int)) else none
  | _, _ => none
/-- methods of texts -/
inductive Mt where
  | split | join | upper | index
  deriving DecidableEq
def strsOf : List D → Option (List Str)
  | [] => some []
  | .str x :: r => (strsOf r).map (x :: ·)
  | _ :: _ => none
def gMt : Mt → Str → List D → Option RV
  | .split, a, [.str b] => if (b.length == 0) = false ∧ a.length + 2 ≤ sizeLine then some (.new ((Txt.split a b).map PyData.str)) else none
  | .join, a, [.list xs] => (strsOf xs).bind fun ys => if (ys.map (·.length)).sum + ys.length * a.length ≤ 16777216 then some (.d (.str (Txt.join a ys))) else none
  | .index, a, [.str b] => match Builtin.Str.occurrences a b 0 a.length 1 with | i :: _ => some (.d (.int (i : Nat))) | [] => none
  | .upper, a, [] => if a.length ≤ 5592405 then some (.d (.str (Txt.upper a))) else none
  | _, _, _ => none
inductive Ty where
  | int | bool | str | tuple | list
  deriving DecidableEq
def isTy : Ty → D → Bool
  | .int, .int _ => true
  | .int, .bool _ => true
  | .bool, .bool _ => true
  | .str, .str _ => true
  | .tuple, .tuple _ => true
  | .list, .list _ => true
  | _, _ => false

/-! ### the language -/
mutual
inductive E where
  | var (i : Nat)
  | int (n : Int) | str (s : Str) | bl (b : Bool) | non
  | gc (k : Nat)
  | gf (g : Nat)
  | tup (es : Es) | lst (es : Es) | repL (es : Es) (n : E)
  | bin (o : Bo) (a b : E) | neg (a : E)
  | cmp (o : Co) (a b : E) | chn (o p : Co) (a b c : E) | isN (a : E) | notN (a : E)
  | bool (k : Bool) (es : Es) | not (a : E) | ite (c a b : E)
  | ix (a b : E) | ixl (i : Nat) (b : E) | sl (a : E) (lo hi : Oe)
  | bf (f : Bf) (es : Es) | mt (m : Mt) (a : E) (es : Es) | isi (a : E) (t : Ty)
  | call (g : Nat) (es : Es) | callv (i : Nat) (es : Es)
  | lerr (b : E)
  | comp (it : It) (tg : Tg) (own : List Nat) (c : Oe) (e : E)
  | comp2 (it : It) (tg : Tg) (it2 : It) (tg2 : Tg) (own own2 : List Nat) (e : E)
inductive Oe where
  | no | so (e : E)
inductive Es where
  | nil | cons (e : E) (es : Es)
/-- what is walked -/
inductive It where
  | seq (e : E) | rng1 (a : E) | rng2 (a b : E) | rng3 (a b : E) (c : Int) | zip (a b : E) | fns (gs : List Nat)
/-- a target -/
inductive Tg where
  | nm (i : Nat) | tp (is : List Nat)
end
/-! ### what they reckon -/
/-- the constants of the program's modules -/
def gcon : Nat → Str × D
  | 0 => ("LOWEST", .tuple [.int 0, .int 1])
  | 1 => ("HIGHEST", .tuple [.int 1, .int 0])
  | 2 => ("MOST_STEPS", .int 12)
  | 3 => ("LONGEST", .int 1000000000000)
  | 4 => ("MOST_GLASSES", .int 2)
  | 5 => ("MOST_TICKS", .int 100)
  | _ => ("GLASSES", .str "0123")
/-- the words of a plain error's classes -/
def errW : Nat → Option Str
  | 1 => some "plan value" | 2 => some "set value" | 3 => some "times value" | 4 => some "form value" | 5 => some "stretch value" | 6 => some "ratio value"
  | 7 => some "index value" | 8 => some "sight value" | 9 => some "number value" | 10 => some "step value" | 11 => some "undo value" | _ => none
/-- which error a reading ends with, in words -/
def told (m : M RV) : M RV := fun S => match m S with
  | some (.ok _ S') => some (.ok (.d (.str "")) S')
  | some (.ex c none S') => (errW c).map fun s => .ok (.d (.str s)) S'
  | _ => none
abbrev Gam := Nat → List Vl → M RV
def wipeE (env : Env) : List Nat → Env
  | [] => env
  | v :: vs => (wipeE env vs).set v .un
def unOwn : Sl → Sl
  | .own _ => .un
  | s => s
def noOwn (env : Env) : Env := env.map unOwn
def bindT : Tg → Vl → Env → Option Env
  | .nm i, v, env => some (env.set i (.vl v))
  | .tp is, .dat (.tuple ds), env => if ds.length = is.length then some ((is.zip ds).foldl (fun m p => m.set p.1 (.vl (.dat p.2))) env) else none
  | .tp _, _, _ => none
def mapV {α : Type} (f : Vl → M (Option α)) : List Vl → M (List α)
  | [] => ret []
  | v :: vs => bnd (f v) fun o => bnd (mapV f vs) fun r => ret (match o with | some a => a :: r | none => r)
def toS : D → Option Str
  | .str s => some s
  | _ => none
/-- no error leaves -/
def noEx {α : Type} (m : M α) : M α := fun S => match m S with
  | some (.ok a S') => some (.ok a S')
  | _ => none
def toB : D → Option Bool
  | .bool b => some b
  | _ => none
def toI : D → Option Int
  | .int i => some i
  | _ => none
def isNon : D → Bool
  | .none => true
  | _ => false
def getV (env : Env) (i : Nat) : Option Vl := match env[i]? with
  | some (.vl v) => some v
  | _ => none
def getL (env : Env) (i : Nat) : Option Nat := match env[i]? with
  | some (.vl (.loc n)) => some n
  | _ => none
/-- a place of a list of the store -/
def atS (n : Nat) (k : Int) : M RV := fun S => match S[n]? with
  | some (.lst xs) => (L2.atI xs k).map fun d => .ok (.d d) S
  | _ => none
def getF (env : Env) (i : Nat) : Option Nat := match env[i]? with
  | some (.vl (.fn g)) => some g
  | _ => none
def itemsOf : D → Option (List Vl)
  | .list xs => some (xs.map .dat)
  | .tuple xs => some (xs.map .dat)
  | .str z => some (z.cps.toList.map fun c => .dat (.str ⟨#[c]⟩))
  | _ => none
def rngV (lo hi : Int) : List Vl := (List.range (hi - lo).toNat).map fun k => .dat (.int (lo + (k : Nat)))
/-- every second -/
def rngV2 (lo hi : Int) : List Vl := (List.range ((hi - lo + 1) / 2).toNat).map fun k => .dat (.int (lo + (k : Nat) * 2))
def zipV : D → D → Option (List Vl)
  | .list xs, .list ys => some ((xs.zip ys).map fun p => .dat (.tuple [p.1, p.2]))
  | _, _ => none
mutual
def ev (G : Gam) : E → Env → M RV
  | .var i, env => bnd (lft (getV env i)) fun v => ret (.vl v)
  | .int n, _ => ret (.d (.int n))
  | .str s, _ => ret (.d (.str s))
  | .bl b, _ => ret (.d (.bool b))
  | .non, _ => ret (.d .none)
  | .gc k, _ => ret (.d (gcon k).2)
  | .gf g, _ => ret (.vl (.fn g))
  | .tup es, env => bnd (evs G es env) fun ds => ret (.d (.tuple ds))
  | .lst es, env => bnd (evs G es env) fun ds => ret (.new ds)
  | .repL es n, env => bnd (evs G es env) fun ds => bnd (ev G n env) fun y => bnd (lft y.toD) fun y => bnd (lft (toI y)) fun k =>
    if -1000 ≤ k ∧ k ≤ 1000 ∧ ds.length ≤ 1000 then ret (.new (List.replicate k.toNat ds).flatten) else fail
  | .bin o a b, env => bnd (ev G a env) fun x => bnd (lft x.toD) fun x => bnd (ev G b env) fun y => bnd (lft y.toD) fun y => lft (bop o x y)
  | .neg a, env => bnd (ev G a env) fun x => bnd (lft x.toD) fun x => bnd (lft (toI x)) fun i => ret (.d (.int (-i)))
  | .cmp o a b, env => bnd (ev G a env) fun x => bnd (lft x.toD) fun x => bnd (ev G b env) fun y => bnd (lft y.toD) fun y => bnd (lft (cop o x y)) fun r => ret (.d (.bool r))
  | .chn o p a b c, env => bnd (ev G a env) fun x => bnd (lft x.toD) fun x => bnd (ev G b env) fun y => bnd (lft y.toD) fun y => bnd (lft (cop o x y)) fun r =>
    if r = true then bnd (ev G c env) fun z => bnd (lft z.toD) fun z => bnd (lft (cop p y z)) fun q => ret (.d (.bool q)) else ret (.d (.bool false))
  | .isN a, env => bnd (ev G a env) fun x => bnd (lft x.toD) fun x => ret (.d (.bool (isNon x)))
  | .notN a, env => bnd (ev G a env) fun x => bnd (lft x.toD) fun x => ret (.d (.bool (!isNon x)))
  | .bool k es, env => bnd (evB G k es env) fun b => ret (.d (.bool b))
  | .not a, env => bnd (ev G a env) fun x => bnd (lft x.toD) fun x => bnd (lft (toB x)) fun b => ret (.d (.bool (!b)))
  | .ite c a b, env => bnd (ev G c env) fun x => bnd (lft x.toD) fun x => bnd (lft (toB x)) fun r => if r = true then ev G a env else ev G b env
  | .ix a b, env => bnd (ev G a env) fun x => bnd (lft x.toD) fun x => bnd (ev G b env) fun y => bnd (lft y.toD) fun y => bnd (lft (gIx x y)) fun d => ret (.d d)
  | .ixl i b, env => bnd (lft (getL env i)) fun n => bnd (ev G b env) fun y => bnd (lft y.toD) fun y => bnd (lft (toI y)) fun k => atS n k
  | .sl a lo hi, env => bnd (ev G a env) fun x => bnd (lft x.toD) fun x => bnd (evO G lo env) fun l => bnd (evO G hi env) fun h => lft (gSl x l h)
  | .bf f es, env => bnd (evs G es env) fun ds => lft (gBf f ds)
  | .mt m a es, env => bnd (ev G a env) fun x => bnd (lft x.toD) fun x => bnd (lft (toS x)) fun s => bnd (evs G es env) fun ds => lft (gMt m s ds)
  | .isi a t, env => bnd (ev G a env) fun x => bnd (lft x.toD) fun x => ret (.d (.bool (isTy t x)))
  | .call g es, env => bnd (evV G es env) fun vs => G g vs
  | .callv i es, env => bnd (lft (getF env i)) fun g => bnd (evV G es env) fun vs => G g vs
  | .lerr b, env => told (ev G b env)
  | .comp it tg own c e, env => bnd (evI G it env) fun vs => bnd (mapV (fun v => noEx (bnd (lft (bindT tg v (wipeE env own))) fun env' => bnd (evC G c env') fun b =>
      if b = true then bnd (ev G e env') fun x => bnd (lft x.toD) fun d => ret (some d) else ret none)) vs) fun ds => if ds.length ≤ sizeLine then ret (.new ds) else fail
  | .comp2 it tg it2 tg2 own own2 e, env => bnd (evI G it env) fun vs => bnd (mapV (fun v => noEx (bnd (lft (bindT tg v (wipeE env own))) fun env1 => bnd (evI G it2 (noOwn env1)) fun us =>
      bnd (mapV (fun u => noEx (bnd (lft (bindT tg2 u (wipeE (noOwn env1) own2))) fun env2 => bnd (ev G e env2) fun x => bnd (lft x.toD) fun d => ret (some d))) us) fun ds => ret (some ds))) vs) fun dss => if dss.flatten.length ≤ sizeLine then ret (.new dss.flatten) else fail
/-- an optional whole number -/
def evO (G : Gam) : Oe → Env → M (Option Int)
  | .no, _ => ret none
  | .so e, env => bnd (ev G e env) fun x => bnd (lft x.toD) fun x => bnd (lft (toI x)) fun i => ret (some i)
/-- a condition, if there is one -/
def evC (G : Gam) : Oe → Env → M Bool
  | .no, _ => ret true
  | .so e, env => bnd (ev G e env) fun x => bnd (lft x.toD) fun x => lft (toB x)
def evs (G : Gam) : Es → Env → M (List D)
  | .nil, _ => ret []
  | .cons e es, env => bnd (ev G e env) fun x => bnd (lft x.toD) fun x => bnd (evs G es env) fun r => ret (x :: r)
def evV (G : Gam) : Es → Env → M (List Vl)
  | .nil, _ => ret []
  | .cons e es, env => bnd (ev G e env) fun x => bnd (evV G es env) fun r => ret (x.toV :: r)
def evB (G : Gam) : Bool → Es → Env → M Bool
  | _, .nil, _ => fail
  | k, .cons e es, env => bnd (ev G e env) fun x => bnd (lft x.toD) fun x => bnd (lft (toB x)) fun b =>
    (match es with
      | .nil => ret b
      | .cons _ _ => if b = k then evB G k es env else ret b)
def evI (G : Gam) : It → Env → M (List Vl)
  | .seq e, env => bnd (ev G e env) fun x => bnd (lft x.toD) fun x => lft (itemsOf x)
  | .rng1 a, env => bnd (ev G a env) fun x => bnd (lft x.toD) fun x => bnd (lft (toI x)) fun i => if -(2 ^ 62) ≤ i ∧ i < 2 ^ 62 then ret (rngV 0 i) else fail
  | .rng2 a b, env => bnd (ev G a env) fun x => bnd (lft x.toD) fun x => bnd (lft (toI x)) fun i => bnd (ev G b env) fun y => bnd (lft y.toD) fun y => bnd (lft (toI y)) fun j =>
    if -(2 ^ 62) ≤ i ∧ i < 2 ^ 62 ∧ -(2 ^ 62) ≤ j ∧ j < 2 ^ 62 then ret (rngV i j) else fail
  | .rng3 a b _, env => bnd (ev G a env) fun x => bnd (lft x.toD) fun x => bnd (lft (toI x)) fun i => bnd (ev G b env) fun y => bnd (lft y.toD) fun y => bnd (lft (toI y)) fun j =>
    if 0 ≤ i ∧ i < 2 ^ 60 ∧ 0 ≤ j ∧ j < 2 ^ 60 then ret (rngV2 i j) else fail
  | .zip a b, env => bnd (ev G a env) fun x => bnd (lft x.toD) fun x => bnd (ev G b env) fun y => bnd (lft y.toD) fun y => lft (zipV x y)
  | .fns gs, _ => ret (gs.map .fn)
end
end G

-- GB
set_option maxRecDepth 100000
set_option maxHeartbeats 2000000
namespace G
open PySem L2 LamX
abbrev Frag := PySem.W.Frag
def Ext (F F' : Hp) : Prop := ∀ a o, F a = some o → F' a = some o
theorem Ext.refl (F : Hp) : Ext F F := fun _ _ h => h
theorem Ext.trans {F G H : Hp} (a : Ext F G) (b : Ext G H) : Ext F H := fun c o h => b c o (a c o h)
theorem Ext.new {H : Hp} {p : Addr} {o : HO} (h : H p = none) : Ext H (upd H p o) := fun a u e => by
  rw [upd_ne (ne_of_none e h)]
  exact e
theorem Ext.free {H H' : Hp} (e : Ext H H') {a : Addr} (h : H' a = none) : H a = none := by
  cases q : H a with
  | none => rfl
  | some o =>
    rw [e a o q] at h
    cases h
theorem Ext.upd {F F' : Hp} (e : Ext F F') {p : Addr} {o : HO} : Ext (upd F p o) (upd F' p o) := fun a u h => by
  by_cases ha : a = p
  · subst ha
    rw [upd_same] at h ⊢
    exact h
  · rw [upd_ne ha] at h ⊢
    exact e a u h
section
variable {K : Frag} {F F' : Hp}
theorem rd_mono (e : Ext F F') {a : Addr} {u : HO} (h : Rd F a u) : Rd F' a u := by
  rcases h with h | ⟨o, h⟩
  · exact .inl (e _ _ h)
  · exact .inr ⟨o, e _ _ h⟩
theorem sqL_mono (e : Ext F F') {a : Addr} {xs : List V} (h : SqL K F a xs) : SqL K F' a xs := h.imp (rd_mono e) id
theorem sqT_mono (e : Ext F F') {a : Addr} {xs : List V} (h : SqT K F a xs) : SqT K F' a xs := h.imp (rd_mono e) id
mutual
theorem dp_mono (e : Ext F F') : ∀ {d : D} {v : V}, Dp K F v d → Dp K F' v d
  | .none, _, h => by cases h; exact .non
  | .bool b, _, h => by cases h; exact .bl b
  | .int i, _, h => by cases h; exact .int i
  | .str x, _, h => by cases h; exact .str x
  | .list ds, _, h => by
    cases h with
    | lst hs ha => exact .lst (sqL_mono e hs) (dpAll_mono e ha)
  | .tuple ds, _, h => by
    cases h with
    | tup hs ha => exact .tup (sqT_mono e hs) (dpAll_mono e ha)
  | .dict _, _, h => by cases h
theorem dpAll_mono (e : Ext F F') : ∀ {ds : List D} {vs : List V}, DpAll K F vs ds → DpAll K F' vs ds
  | [], _, h => by cases h; exact .nil
  | d :: ds, _, h => by
    cases h with
    | cons h1 h2 => exact .cons (dp_mono e h1) (dpAll_mono e h2)
end
mutual
/-- no list anywhere within -/
def noL : D → Bool
  | .list _ => false
  | .tuple xs => noLs xs
  | .dict _ => false
  | _ => true
def noLs : List D → Bool
  | [] => true
  | x :: xs => noL x && noLs xs
end
/-- all but lists is known to F' -/
def ExtL (F F' : Hp) : Prop := ∀ a o, F a = some o → (∀ xs, o ≠ .lst xs) → F' a = some o
theorem sqT_L (e : ExtL F F') {a : Addr} {xs : List V} (h : SqT K F a xs) : SqT K F' a xs := h.imp (fun h => by
  rcases h with h | ⟨o, h⟩
  · exact .inl (e _ _ h (fun _ z => by cases z))
  · exact .inr ⟨o, e _ _ h (fun _ z => by cases z)⟩) id
mutual
theorem dp_L (e : ExtL F F') : ∀ {d : D} {v : V}, noL d = true → Dp K F v d → Dp K F' v d
  | .none, _, _, h => by cases h; exact .non
  | .bool b, _, _, h => by cases h; exact .bl b
  | .int i, _, _, h => by cases h; exact .int i
  | .str x, _, _, h => by cases h; exact .str x
  | .list ds, _, n, h => by cases n
  | .tuple ds, _, n, h => by
    cases h with
    | tup hs ha => exact .tup (sqT_L e hs) (dpAll_L e (by simpa [noL] using n) ha)
  | .dict _, _, _, h => by cases h
theorem dpAll_L (e : ExtL F F') : ∀ {ds : List D} {vs : List V}, noLs ds = true → DpAll K F vs ds → DpAll K F' vs ds
  | [], _, _, h => by cases h; exact .nil
  | d :: ds, _, n, h => by
    cases h with
    | cons h1 h2 =>
      have n' : noL d = true ∧ noLs ds = true := by simpa [noLs] using n
      exact .cons (dp_L e n'.1 h1) (dpAll_L e n'.2 h2)
end
theorem dpAll_len : ∀ {ds : List D} {vs : List V}, DpAll K F vs ds → vs.length = ds.length
  | [], _, h => by cases h; rfl
  | _ :: _, _, h => by
    cases h with
    | cons _ h2 => simp [dpAll_len h2]
theorem dpAll_get : ∀ {ds : List D} {vs : List V} {i : Nat} {d : D}, DpAll K F vs ds → ds[i]? = some d → ∃ v, vs[i]? = some v ∧ Dp K F v d
  | [], _, _, _, _, e => by simp at e
  | _ :: _, _, 0, _, h, e => by
    cases h with
    | cons h1 _ =>
      simp at e
      subst e
      exact ⟨_, rfl, h1⟩
  | _ :: _, _, i + 1, _, h, e => by
    cases h with
    | cons _ h2 =>
      obtain ⟨v, h3, h4⟩ := dpAll_get (i := i) h2 (by simpa using e)
      exact ⟨v, by simpa using h3, h4⟩
theorem dpAll_app : ∀ {ds es : List D} {vs us : List V}, DpAll K F vs ds → DpAll K F us es → DpAll K F (vs ++ us) (ds ++ es)
  | [], _, _, _, h, h' => by cases h; exact h'
  | _ :: _, _, _, _, h, h' => by
    cases h with
    | cons h1 h2 => exact .cons h1 (dpAll_app h2 h')
theorem dpAll_take : ∀ {ds : List D} {vs : List V} (n : Nat), DpAll K F vs ds → DpAll K F (vs.take n) (ds.take n)
  | _, _, 0, _ => by simp; exact .nil
  | [], _, _ + 1, h => by cases h; exact .nil
  | _ :: _, _, n + 1, h => by
    cases h with
    | cons h1 h2 => exact .cons h1 (dpAll_take n h2)
theorem dpAll_drop : ∀ {ds : List D} {vs : List V} (n : Nat), DpAll K F vs ds → DpAll K F (vs.drop n) (ds.drop n)
  | _, _, 0, h => by simpa using h
  | [], _, _ + 1, h => by cases h; exact .nil
  | _ :: _, _, n + 1, h => by
    cases h with
    | cons _ h2 => simpa using dpAll_drop n h2
theorem dpAll_set : ∀ {ds : List D} {vs : List V} (n : Nat) {d : D} {v : V}, DpAll K F vs ds → Dp K F v d → DpAll K F (vs.set n v) (ds.set n d)
  | [], _, _, _, _, h, _ => by cases h; exact .nil
  | _ :: _, _, 0, _, _, h, q => by
    cases h with
    | cons _ h2 => exact .cons q h2
  | _ :: _, _, n + 1, _, _, h, q => by
    cases h with
    | cons h1 h2 => exact .cons h1 (dpAll_set n h2 q)
theorem dpAll_rep {ds : List D} {vs : List V} (h : DpAll K F vs ds) : ∀ n : Nat, DpAll K F (List.replicate n vs).flatten (List.replicate n ds).flatten
  | 0 => .nil
  | n + 1 => by
    rw [List.replicate_succ, List.replicate_succ, List.flatten_cons, List.flatten_cons]
    exact dpAll_app h (dpAll_rep h n)
theorem dpAll_iff {ds : List D} {vs : List V} (hl : vs.length = ds.length) (h : ∀ (i : Nat) (v : V) (d : D), vs[i]? = some v → ds[i]? = some d → Dp K F v d) : DpAll K F vs ds := by
  induction ds generalizing vs with
  | nil =>
    cases vs with
    | nil => exact .nil
    | cons _ _ => simp at hl
  | cons d ds ih =>
    cases vs with
    | nil => simp at hl
    | cons v vs => exact .cons (h 0 v d rfl rfl) (ih (by simpa using hl) fun i v d e1 e2 => h (i + 1) v d (by simpa using e1) (by simpa using e2))
theorem dpAll_snoc {ds : List D} {vs : List V} {d : D} {v : V} (h : DpAll K F vs ds) (q : Dp K F v d) : DpAll K F (vs ++ [v]) (ds ++ [d]) := dpAll_app h (.cons q .nil)
end

/-! ### what stands -/
/-- what does not change through a law: the written part, where the defs and the classes of errors stand, the tables of code objects -/
structure Cxt where
  K : Frag
  fa : Nat → Addr
  ca : Nat → Addr
  dm : List Nat
  T : List (Addr × Str)
  LP : Cx → Prop
/-- F: what never changes again; r: where the things of the store S stand; H: all that is tracked -/
structure Wd where
  F : Hp
  r : List Addr
  S : Sto
  H : Hp
def noLo : Ob → Bool
  | .lst xs => noLs xs
  | .dct kvs => kvs.all fun p => noL p.1 && noL p.2
def ObR (K : Frag) (F H : Hp) (a : Addr) : Ob → Prop
  | .lst xs => ∃ vs, H a = some (.lst vs) ∧ DpAll K F vs xs
  | .dct _ => False
theorem ob_is {K : Frag} {F H : Hp} {a : Addr} {o : Ob} (h : ObR K F H a o) : ∃ u, H a = some u ∧ ∀ ps, u ≠ .tbl ps := by
  cases o with
  | lst xs =>
    obtain ⟨vs, h, _⟩ := h
    exact ⟨_, h, fun _ z => by cases z⟩
  | dct _ => exact h.elim
theorem ob_mono {K : Frag} {F F' H H' : Hp} {a : Addr} {o : Ob} (h : ObR K F H a o) (e : Ext F F') (k : ∀ u, H a = some u → (∀ ps, u ≠ .tbl ps) → H' a = some u) : ObR K F' H' a o := by
  cases o with
  | lst xs =>
    obtain ⟨vs, h, q⟩ := h
    exact ⟨vs, k _ h (fun _ z => by cases z), dpAll_mono e q⟩
  | dct _ => exact h.elim
structure Wd.Ok (C : Cxt) (w : Wd) : Prop where
  sub : Ext w.F w.H
  len : w.r.length = w.S.length
  obj : ∀ (n : Nat) (a : Addr) (o : Ob), w.r[n]? = some a → w.S[n]? = some o → w.F a = none ∧ noLo o = true ∧ ObR C.K w.F w.H a o
  nd : w.r.Nodup
  tab : Tabs C.T w.H
  nt : ∀ a ps, w.F a ≠ some (.tbl ps)
structure Wd.To (w w' : Wd) : Prop where
  ext : Ext w.F w'.F
  nf : ∀ a, w'.F a ≠ none → w.F a ≠ none ∨ w.H a = none
  pre : ∃ l, w'.r = w.r ++ l ∧ ∀ a ∈ l, w.H a = none
  fr : ∀ a o, w.H a = some o → a ∉ w.r → (∀ ps, o ≠ .tbl ps) → w'.H a = some o
  tb : ∀ a ps, w.H a = some (.tbl ps) → ∃ ps', w'.H a = some (.tbl ps')
theorem Wd.To.refl (w : Wd) : w.To w := ⟨Ext.refl _, fun _ h => .inl h, ⟨[], by simp⟩, fun _ _ h _ _ => h, fun _ ps h => ⟨ps, h⟩⟩
theorem Wd.Ok.at_ {C : Cxt} {w : Wd} (ok : w.Ok C) {a : Addr} (h : a ∈ w.r) : w.H a ≠ none := by
  obtain ⟨n, hn, e⟩ := List.mem_iff_getElem.mp h
  have e1 : w.r[n]? = some a := by rw [List.getElem?_eq_getElem hn, e]
  have hs : n < w.S.length := by rw [← ok.len]; exact hn
  obtain ⟨_, _, q⟩ := ok.obj n a _ e1 (List.getElem?_eq_getElem hs)
  obtain ⟨u, hu, _⟩ := ob_is q
  rw [hu]
  exact fun z => by cases z
/-- what stood still stands -/
theorem Wd.To.there {C : Cxt} {w w' : Wd} (t : w.To w') (ok' : w'.Ok C) {a : Addr} (h : w'.H a = none) : w.H a = none := by
  cases q : w.H a with
  | none => rfl
  | some o =>
    by_cases hr : a ∈ w.r
    · obtain ⟨l, e, _⟩ := t.pre
      exact absurd h (ok'.at_ (by rw [e]; exact List.mem_append_left _ hr))
    · by_cases ht : ∃ ps, o = .tbl ps
      · obtain ⟨ps, rfl⟩ := ht
        obtain ⟨ps', e⟩ := t.tb _ _ q
        rw [e] at h
        cases h
      · rw [t.fr a o q hr (fun ps z => ht ⟨ps, z⟩)] at h
        cases h
theorem Wd.To.trans {C : Cxt} {w w1 w2 : Wd} (a : w.To w1) (b : w1.To w2) (ok1 : w1.Ok C) : w.To w2 where
  ext := a.ext.trans b.ext
  nf := fun x h => by
    rcases b.nf x h with q | q
    · exact a.nf x q
    · exact .inr (a.there ok1 q)
  pre := by
    obtain ⟨l, e, h⟩ := a.pre
    obtain ⟨l', e', h'⟩ := b.pre
    refine ⟨l ++ l', by rw [e', e, List.append_assoc], fun x hx => ?_⟩
    rcases List.mem_append.mp hx with q | q
    · exact h x q
    · exact a.there ok1 (h' x q)
  fr := fun x o h n t => by
    have h1 := a.fr x o h n t
    refine b.fr x o h1 (fun hm => ?_) t
    obtain ⟨l, e, hl⟩ := a.pre
    rw [e] at hm
    rcases List.mem_append.mp hm with q | q
    · exact n q
    · rw [hl x q] at h
      cases h
  tb := fun x ps h => by
    obtain ⟨ps', h1⟩ := a.tb x ps h
    exact b.tb x ps' h1
def VlR (C : Cxt) (w : Wd) (x : V) : Vl → Prop
  | .dat d => Dp C.K w.F x d
  | .loc n => ∃ a, w.r[n]? = some a ∧ x = .ref a
  | .fn g => x = .ref (C.fa g) ∧ g ∈ C.dm
theorem Wd.To.get {w w' : Wd} (t : w.To w') {n : Nat} {a : Addr} (h : w.r[n]? = some a) : w'.r[n]? = some a := by
  obtain ⟨l, e, _⟩ := t.pre
  rw [e, List.getElem?_append_left (List.getElem?_eq_some_iff.mp h).1]
  exact h
theorem VlR.to {C : Cxt} {w w' : Wd} {x : V} {v : Vl} (h : VlR C w x v) (t : w.To w') : VlR C w' x v := by
  cases v with
  | dat d => exact dp_mono t.ext h
  | loc n =>
    obtain ⟨a, h1, h2⟩ := h
    exact ⟨a, t.get h1, h2⟩
  | fn g => exact h
def SlotR (C : Cxt) (w : Wd) (s : Option (Option V)) : Sl → Prop
  | .un => True
  | .vl v => ∃ x, s = some (some x) ∧ VlR C w x v
  | .own o => ∃ a, s = some (some (.ref a)) ∧ w.F a = none ∧ a ∉ w.r ∧ ObR C.K w.F w.H a o
structure EnvR (C : Cxt) (w : Wd) (env : Env) (σ : L2.St) : Prop where
  len : env.length = σ.length
  at_ : ∀ (i : Nat) (s : Sl), env[i]? = some s → SlotR C w σ[i]? s
  apart : ∀ (i j : Nat) (o o' : Ob) (a : Addr), env[i]? = some (.own o) → env[j]? = some (.own o') → σ[i]? = some (some (.ref a)) → σ[j]? = some (some (.ref a)) → i = j
theorem SlotR.to {C : Cxt} {w w' : Wd} {s : Option (Option V)} {l : Sl} (h : SlotR C w s l) (t : w.To w') : SlotR C w' s l := by
  cases l with
  | un => trivial
  | vl v =>
    obtain ⟨x, e, q⟩ := h
    exact ⟨x, e, q.to t⟩
  | own o =>
    obtain ⟨a, e, nf, nr, q⟩ := h
    obtain ⟨u, hu, tu⟩ := ob_is q
    refine ⟨a, e, ?_, fun hm => ?_, ob_mono q t.ext fun u h tu => t.fr a u h nr tu⟩
    · cases z : w'.F a with
      | none => rfl
      | some o' =>
        rcases t.nf a (by rw [z]; exact fun z => by cases z) with q | q
        · exact absurd nf q
        · rw [hu] at q
          cases q
    · obtain ⟨l, e, hl⟩ := t.pre
      rw [e] at hm
      rcases List.mem_append.mp hm with q | q
      · exact nr q
      · rw [hl a q] at hu
        cases hu
theorem EnvR.to {C : Cxt} {w w' : Wd} {env : Env} {σ : L2.St} (h : EnvR C w env σ) (t : w.To w') : EnvR C w' env σ := ⟨h.len, fun i s e => (h.at_ i s e).to t, h.apart⟩
/-- a result: a value; a list that nothing knows, younger than w -/
def RvR (C : Cxt) (w w' : Wd) (x : V) : RV → Prop
  | .vl v => VlR C w' x v
  | .new xs => ∃ p vs, x = .ref p ∧ w'.H p = some (.lst vs) ∧ w'.F p = none ∧ p ∉ w'.r ∧ w.H p = none ∧ DpAll C.K w'.F vs xs
def DR (C : Cxt) (_ w' : Wd) (x : V) (d : D) : Prop := Dp C.K w'.F x d
def DsR (C : Cxt) (_ w' : Wd) (xs : List V) (ds : List D) : Prop := DpAll C.K w'.F xs ds
def VsR (C : Cxt) (_ w' : Wd) (xs : List V) (vs : List Vl) : Prop := xs.length = vs.length ∧ ∀ (i : Nat) (x : V) (v : Vl), xs[i]? = some x → vs[i]? = some v → VlR C w' x v
def EqR {α : Type} (_ _ : Wd) (x : α) (y : α) : Prop := x = y
/-- an error's payload: its own dict -/
def ExR (p : Option Int) (d : Option Addr) (w : Wd) : Prop := match p with
  | none => d = none
  | some i => ∃ a nm, d = some a ∧ w.H a = some (.xd [(nm, .int i)])
def Con {X α : Type} (C : Cxt) (W : WX) (σ : L2.St) (w : Wd) (R : Wd → Wd → X → α → Prop) (o : Out α) (Q : X → Hp → Prop) : Prop := match o with
  | .ok a S' => ∀ w' x, w'.S = S' → w'.Ok C → w.To w' → R w w' x a → Q x w'.H
  | .ex c p S' => ∀ w' d, w'.S = S' → w'.Ok C → w.To w' → ExR p d w' → W (.ref (C.ca c)) d σ w'.H
/-- t reckons what f does -/
def Ref {X α : Type} (C : Cxt) (W : WX) (R : Wd → Wd → X → α → Prop) (t : L2.St → Hp → (X → Hp → Prop) → Prop) (f : Env → M α) : Prop :=
  ∀ (w : Wd) (env : Env) (σ : L2.St) (o : Out α) (Q : X → Hp → Prop), w.Ok C → EnvR C w env σ → f env w.S = some o → Con C W σ w R o Q → t σ w.H Q
/-- the relation looks back to any earlier world -/
def Back {X α : Type} (C : Cxt) (R : Wd → Wd → X → α → Prop) : Prop := ∀ w w1 w' x a, w1.Ok C → w.To w1 → R w1 w' x a → R w w' x a
theorem back_rv {C : Cxt} : Back C (RvR C) := fun w w1 w' x a ok t h => by
  cases a with
  | vl v => exact h
  | new xs =>
    obtain ⟨p, vs, h1, h2, h3, h4, h5, h6⟩ := h
    exact ⟨p, vs, h1, h2, h3, h4, t.there ok h5, h6⟩
theorem back_d {C : Cxt} : Back C (DR C) := fun _ _ _ _ _ _ _ h => h
theorem back_ds {C : Cxt} : Back C (DsR C) := fun _ _ _ _ _ _ _ h => h
theorem back_vs {C : Cxt} : Back C (VsR C) := fun _ _ _ _ _ _ _ h => h
theorem back_eq {C : Cxt} {α : Type} : Back C (EqR (α := α)) := fun _ _ _ _ _ _ _ h => h
section
variable {C : Cxt} {W : WX} {X Y α β : Type} {R : Wd → Wd → X → α → Prop} {R' : Wd → Wd → Y → β → Prop} {σ : L2.St} {w w1 : Wd} {env : Env} {f : Env → M α}
theorem Con.back {o : Out β} {Q : Y → Hp → Prop} (h : Con C W σ w R' o Q) (b : Back C R') (ok : w1.Ok C) (t : w.To w1) : Con C W σ w1 R' o Q := by
  cases o with
  | ok a S' => exact fun w' x e ok' t' r => h w' x e ok' (t.trans t' ok) (b _ _ _ _ _ ok t r)
  | ex c p S' => exact fun w' d e ok' t' r => h w' d e ok' (t.trans t' ok) r
theorem Con.done {a : β} {S' : Sto} {Q : Y → Hp → Prop} (h : Con C W σ w R' (.ok a S') Q) {w' : Wd} {x : Y} (e : w'.S = S') (ok : w'.Ok C) (t : w.To w') (r : R' w w' x a) : Q x w'.H := h w' x e ok t r
/-- f first, then k of what it gave -/
theorem Ref.bind {t : L2.St → Hp → (X → Hp → Prop) → Prop} {k : α → M β} {o : Out β} {Q : Y → Hp → Prop} {B : X → Hp → Prop} (hf : Ref C W R t f) (ok : w.Ok C) (en : EnvR C w env σ) (h : bnd (f env) k w.S = some o) (hq : Con C W σ w R' o Q) (b : Back C R')
    (hk : ∀ (a : α) (w1 : Wd) (x : X), w1.Ok C → w.To w1 → EnvR C w1 env σ → R w w1 x a → k a w1.S = some o → Con C W σ w1 R' o Q → B x w1.H) : t σ w.H B := by
  cases q : f env w.S with
  | none =>
    simp only [bnd, q] at h
    cases h
  | some r =>
    cases r with
    | ok a S1 =>
      simp only [bnd, q] at h
      refine hf w env σ _ B ok en q fun w1 x e ok1 t1 r1 => ?_
      subst e
      exact hk a w1 x ok1 t1 (en.to t1) r1 h (hq.back b ok1 t1)
    | ex c p S1 =>
      simp only [bnd, q] at h
      cases h
      exact hf w env σ _ B ok en q hq
/-- .. k told what f gave -/
theorem Ref.bindE {t : L2.St → Hp → (X → Hp → Prop) → Prop} {k : α → M β} {o : Out β} {Q : Y → Hp → Prop} {B : X → Hp → Prop} (hf : Ref C W R t f) (ok : w.Ok C) (en : EnvR C w env σ) (h : bnd (f env) k w.S = some o) (hq : Con C W σ w R' o Q) (b : Back C R')
    (hk : ∀ (a : α) (w1 : Wd) (x : X), f env w.S = some (.ok a w1.S) → w1.Ok C → w.To w1 → EnvR C w1 env σ → R w w1 x a → k a w1.S = some o → Con C W σ w1 R' o Q → B x w1.H) : t σ w.H B := by
  cases q : f env w.S with
  | none =>
    simp only [bnd, q] at h
    cases h
  | some r =>
    cases r with
    | ok a S1 =>
      simp only [bnd, q] at h
      refine hf w env σ _ B ok en q fun w1 x e ok1 t1 r1 => ?_
      subst e
      exact hk a w1 x q ok1 t1 (en.to t1) r1 h (hq.back b ok1 t1)
    | ex c p S1 =>
      simp only [bnd, q] at h
      cases h
      exact hf w env σ _ B ok en q hq
theorem bnd_ok {m : M α} {k : α → M β} {S : Sto} {b : β} {S' : Sto} (h : bnd m k S = some (.ok b S')) : ∃ a S1, m S = some (.ok a S1) ∧ k a S1 = some (.ok b S') := by
  unfold bnd at h
  split at h
  · cases h
  · rename_i a S1 q
    exact ⟨a, S1, q, h⟩
  · cases h
theorem bnd_lft {o : Option α} {k : α → M β} {S : Sto} {r : Out β} (h : bnd (lft o) k S = some r) : ∃ a, o = some a ∧ k a S = some r := by
  cases o with
  | none => simp only [bnd, lft, fail] at h; cases h
  | some a => exact ⟨a, rfl, h⟩
theorem lft_some {o : Option α} {S : Sto} {r : Out α} (h : lft o S = some r) : ∃ a, o = some a ∧ r = .ok a S := by
  cases o with
  | none => cases h
  | some a =>
    cases h
    exact ⟨a, rfl, rfl⟩
end
/-! ### worlds with one thing more -/
section
variable {C : Cxt} {w : Wd}
theorem tabs_ext {T : List (Addr × Str)} {H H' : Hp} (t : Tabs T H) (e : Ext H H') : Tabs T H' := t.ext e
/-- a new thing, known from now on -/
theorem upd_tbl {H : Hp} {p a : Addr} {o : HO} {ps : Array Value} (ho : ∀ ps, o ≠ .tbl ps) (h : upd H p o a = some (.tbl ps)) : H a = some (.tbl ps) := by
  by_cases e : a = p
  · rw [e, upd_same] at h
    cases h
    exact absurd rfl (ho ps)
  · rw [upd_ne e] at h
    exact h
theorem Wd.Ok.fresh (ok : w.Ok C) {p : Addr} {o : HO} (h : w.H p = none) (ho : ∀ ps, o ≠ .tbl ps := by intro _ z; cases z) : ({ w with F := upd w.F p o, H := upd w.H p o } : Wd).Ok C ∧ w.To { w with F := upd w.F p o, H := upd w.H p o } := by
  have eF : Ext w.F (upd w.F p o) := Ext.new (ok.sub.free h)
  have eH : Ext w.H (upd w.H p o) := Ext.new h
  refine ⟨⟨ok.sub.upd, ok.len, fun n a u h1 h2 => ?_, ok.nd, tabs_ext ok.tab eH, fun a ps q => ok.nt a ps (upd_tbl ho q)⟩, ⟨eF, fun a ha => ?_, ⟨[], by simp⟩, fun a u q _ _ => eH a u q, fun a ps q => ⟨ps, eH a _ q⟩⟩⟩
  · obtain ⟨k1, k2, k3⟩ := ok.obj n a u h1 h2
    obtain ⟨v, hv, _⟩ := ob_is k3
    exact ⟨by show upd w.F p o a = none; rw [upd_ne (ne_of_none hv h)]; exact k1, k2, ob_mono k3 eF fun u q _ => eH a u q⟩
  · by_cases e : a = p
    · rw [e]
      exact .inr h
    · have ha : upd w.F p o a ≠ none := ha
      rw [upd_ne e] at ha
      exact .inl ha
/-- a new thing that nothing knows -/
theorem Wd.Ok.loose (ok : w.Ok C) {p : Addr} {o : HO} (h : w.H p = none) (ho : ∀ ps, o ≠ .tbl ps := by intro _ z; cases z) : ({ w with H := upd w.H p o } : Wd).Ok C ∧ w.To { w with H := upd w.H p o } := by
  have eH : Ext w.H (upd w.H p o) := Ext.new h
  refine ⟨⟨ok.sub.trans eH, ok.len, fun n a u h1 h2 => ?_, ok.nd, tabs_ext ok.tab eH, ok.nt⟩, ⟨Ext.refl _, fun a ha => .inl ha, ⟨[], by simp⟩, fun a u q _ _ => eH a u q, fun a ps q => ⟨ps, eH a _ q⟩⟩⟩
  obtain ⟨k1, k2, k3⟩ := ok.obj n a u h1 h2
  exact ⟨k1, k2, ob_mono k3 (Ext.refl _) fun u q _ => eH a u q⟩
/-- a thing that nothing knew becomes known -/
theorem Wd.Ok.freeze (ok : w.Ok C) {p : Addr} {o : HO} (h : w.H p = some o) (hf : w.F p = none) (hr : p ∉ w.r) (ho : ∀ ps, o ≠ .tbl ps := by intro _ z; cases z) : ({ w with F := upd w.F p o } : Wd).Ok C := by
  have eF : Ext w.F (upd w.F p o) := Ext.new hf
  refine ⟨fun a u q => ?_, ok.len, fun n a u h1 h2 => ?_, ok.nd, ok.tab, fun a ps q => ok.nt a ps (upd_tbl ho q)⟩
  · by_cases e : a = p
    · subst e
      have q : upd w.F a o a = some u := q
      rw [upd_same] at q
      cases q
      exact h
    · have q : upd w.F p o a = some u := q
      rw [upd_ne e] at q
      exact ok.sub a u q
  · obtain ⟨k1, k2, k3⟩ := ok.obj n a u h1 h2
    have ne : a ≠ p := fun e => hr (by rw [← e]; exact List.mem_of_getElem? h1)
    exact ⟨by show upd w.F p o a = none; rw [upd_ne ne]; exact k1, k2, ob_mono k3 eF fun u q _ => q⟩
theorem Wd.To.freeze {w' : Wd} (t : w.To w') {p : Addr} {o : HO} (hf : w'.F p = none) (h0 : w.H p = none) : w.To { w' with F := upd w'.F p o } := by
  refine ⟨t.ext.trans (Ext.new hf), fun a ha => ?_, t.pre, t.fr, t.tb⟩
  by_cases e : a = p
  · rw [e]
    exact .inr h0
  · have ha : upd w'.F p o a ≠ none := ha
    rw [upd_ne e] at ha
    exact t.nf a ha
end
section
variable {C : Cxt} {W : WX}
/-- a new list is data from now on -/
theorem RvR.data {w w' : Wd} {x : V} {r : RV} {d : D} (h : RvR C w w' x r) (ok : w'.Ok C) (t : w.To w') (e : r.toD = some d) : ∃ w'' : Wd, w''.S = w'.S ∧ w''.H = w'.H ∧ w''.Ok C ∧ w.To w'' ∧ w'.r = w''.r ∧ Ext w'.F w''.F ∧ Dp C.K w''.F x d := by
  cases r with
  | vl v =>
    cases v with
    | dat d' =>
      have e : some d' = some d := e
      cases e
      exact ⟨w', rfl, rfl, ok, t, rfl, Ext.refl _, h⟩
    | loc _ => cases e
    | fn _ => cases e
  | new xs =>
    have e : some (PyData.list xs) = some d := e
    cases e
    obtain ⟨p, vs, h1, h2, h3, h4, h5, h6⟩ := h
    subst h1
    refine ⟨{ w' with F := upd w'.F p (.lst vs) }, rfl, rfl, ok.freeze h2 h3 h4, t.freeze h3 h5, rfl, Ext.new h3, .lst (.inl (.inl upd_same)) (dpAll_mono (Ext.new h3) h6)⟩
theorem Ref.toD {t : TE} {f : Env → M RV} (h : Ref C W (RvR C) t f) : Ref C W (DR C) t (fun env => bnd (f env) fun x => lft x.toD) := fun w env σ o Q ok en e hq =>
  h.bind (R' := DR C) ok en e hq back_d fun r w1 x ok1 t1 en1 r1 h1 hq1 => by
    obtain ⟨d, e1, e2⟩ := lft_some h1
    subst e2
    obtain ⟨w2, a1, a2, a3, a4, a5, a6, a7⟩ := r1.data ok1 t1 e1
    rw [← a2]
    exact hq w2 x (by rw [a1]) a3 a4 a7
theorem Ref.data {Y β : Type} {R' : Wd → Wd → Y → β → Prop} {w : Wd} {env : Env} {σ : L2.St} {t : TE} {f : Env → M RV} {k : D → M β} {o : Out β} {Q : Y → Hp → Prop} {B : V → Hp → Prop} (hf : Ref C W (RvR C) t f) (ok : w.Ok C) (en : EnvR C w env σ)
    (h : bnd (f env) (fun x => bnd (lft x.toD) k) w.S = some o) (hq : Con C W σ w R' o Q) (b : Back C R')
    (hk : ∀ (d : D) (w1 : Wd) (x : V), w1.Ok C → w.To w1 → EnvR C w1 env σ → Dp C.K w1.F x d → k d w1.S = some o → Con C W σ w1 R' o Q → B x w1.H) : t σ w.H B := by
  refine hf.toD.bind (k := k) ok en ?_ hq b hk
  rw [← h]
  funext
  show bnd (bnd (f env) fun x => lft x.toD) k w.S = _
  unfold bnd
  cases f env w.S with
  | none => rfl
  | some r =>
    cases r with
    | ok a S => rfl
    | ex _ _ _ => rfl
end
end G

-- GC
set_option maxRecDepth 100000
set_option maxHeartbeats 2000000
namespace G
open PySem L2 LamX PyProof.Rows
/-! ### operators by values -/
/-- r serves what g reckons -/
def OpS (C : Cxt) (r : R2) (g : D → D → Option RV) : Prop := ∀ (w : Wd) (x y : V) (d e : D) (v : RV) (Q : VK), w.Ok C → Dp C.K w.F x d → Dp C.K w.F y e → g d e = some v →
  (∀ w' z, w'.S = w.S → w'.Ok C → w.To w' → RvR C w w' z v → Q z w'.H) → r x y w.H Q
/-- the same of a truth value -/
def CoS (C : Cxt) (r : R2) (g : D → D → Option Bool) : Prop := ∀ (w : Wd) (x y : V) (d e : D) (b : Bool) (Q : VK), w.Ok C → Dp C.K w.F x d → Dp C.K w.F y e → g d e = some b → Q (.bl b) w.H → r x y w.H Q
section
variable {C : Cxt} {w : Wd} {Q : VK}
theorem fin_d {d : D} {z : V} (hq : ∀ w' z, w'.S = w.S → w'.Ok C → w.To w' → RvR C w w' z (.d d) → Q z w'.H) (ok : w.Ok C) (h : Dp C.K w.F z d) : Q z w.H := hq w z rfl ok (Wd.To.refl w) h
theorem fin_tup {ds : List D} {vs : List V} (hq : ∀ w' z, w'.S = w.S → w'.Ok C → w.To w' → RvR C w w' z (.d (.tuple ds)) → Q z w'.H) (ok : w.Ok C) (h : DpAll C.K w.F vs ds) {p : Addr} (hp : w.H p = none) : Q (.ref p) (upd w.H p (.tup vs)) := by
  obtain ⟨a, b⟩ := ok.fresh (o := .tup vs) hp
  exact hq { w with F := upd w.F p (.tup vs), H := upd w.H p (.tup vs) } _ rfl a b (.tup (.inl (.inl upd_same)) (dpAll_mono (Ext.new (ok.sub.free hp)) h))
theorem fin_new {ds : List D} {vs : List V} (hq : ∀ w' z, w'.S = w.S → w'.Ok C → w.To w' → RvR C w w' z (.new ds) → Q z w'.H) (ok : w.Ok C) (h : DpAll C.K w.F vs ds) {p : Addr} (hp : w.H p = none) : Q (.ref p) (upd w.H p (.lst vs)) := by
  obtain ⟨a, b⟩ := ok.loose (o := .lst vs) hp
  refine hq { w with H := upd w.H p (.lst vs) } _ rfl a b ⟨p, vs, rfl, upd_same, ok.sub.free hp, fun hm => ?_, hp, h⟩
  exact ok.at_ hm hp
theorem rd_up (e : Ext w.F w.H) {a : Addr} {xs : List V} (h : SqL C.K w.F a xs) : SqL C.K w.H a xs := sqL_mono e h
theorem rt_up (e : Ext w.F w.H) {a : Addr} {xs : List V} (h : SqT C.K w.F a xs) : SqT C.K w.H a xs := sqT_mono e h
end
section
variable {X : Cx}
/-- list + list, whatever they are -/
def rCatL (K : PySem.W.Frag) : R2 := fun x y H Q => ∃ l b xs zs, x = .ref l ∧ y = .ref b ∧ SqL K H l xs ∧ SqL K H b zs ∧ xs.length + zs.length ≤ sizeLine ∧ ∀ p, H p = none → Q (.ref p) (upd H p (.lst (xs ++ zs)))
theorem op_catL : OpR X (binaryOp .Add) (rCatL X.K) := by
  intro pins s σ H x y v u Q I rx ry h
  obtain ⟨l, b, xs, zs, rfl, rfl, hl, hb, hz, q⟩ := h
  cases rx
  cases ry
  obtain ⟨its, r, pl, z⟩ := I.list hl
  obtain ⟨its2, r2, pl2, z2⟩ := I.list hb
  obtain ⟨⟨cls, dd, data, sl⟩, ho, hc, n, hd⟩ := pl.isList
  obtain ⟨⟨cls2, dd2, data2, sl2⟩, ho2, hc2, n2, hd2⟩ := pl2.isList
  simp only at hc hd hc2 hd2
  subst hc hd hc2 hd2
  have e : its.toArray ++ its2.toArray = (its ++ its2).toArray := by simp
  have hl1 := r.length
  have hl2 := r2.length
  refine concat_meets ⟨_, ho, rfl⟩ ⟨_, ho2, rfl⟩ noFill_list_add seq_list_add PySem.F.slot_list_add PySem.F.entry_list_add (PySem.F.args_list_add_2 _ _) (list_addW l b its.toArray its2.toArray n n2 dd dd2 sl sl2 (by simp only [List.size_toArray]; omega)) ⟨ho, ho2, ?_⟩
  rw [e]
  exact ⟨.ref _, _, I.lnew (t' := s.toks) (r.append r2) (by rw [List.length_append]; omega), rfl, q _ I.fresh⟩
end
section
variable {X : Cx} {C : Cxt}
def rAdd (K : PySem.W.Frag) : R2 := fun x y H Q => rI0 (fun i j => .int (i + j)) x y H Q ∨ (∃ i j, x = .str i ∧ y = .str j ∧ i.length + j.length ≤ sizeLine ∧ Q (.str (i ++ j)) H) ∨ rCatA K x y H Q ∨ rCatL K x y H Q
theorem op_addA : OpR X (binaryOp .Add) (rAdd X.K) := op_add.or (op_add_str.or (op_catA.or op_catL))
theorem s_add : OpS C (rAdd C.K) gAdd := by
  intro w x y d e v Q ok hx hy h hq
  cases hx with
  | int i =>
    cases hy <;> simp only [gAdd] at h <;> try cases h
    exact .inl ⟨_, _, rfl, rfl, fin_d hq ok (.int _)⟩
  | str i =>
    cases hy <;> simp only [gAdd] at h <;> try cases h
    split at h
    · cases h
      exact .inr (.inl ⟨_, _, rfl, rfl, by assumption, fin_d hq ok (.str _)⟩)
    · cases h
  | tup sx ax =>
    cases hy <;> simp only [gAdd] at h <;> try cases h
    rename_i sy ay
    split at h
    · rename_i hz
      cases h
      have l1 := dpAll_len ax
      have l2 := dpAll_len ay
      refine .inr (.inr (.inl ⟨_, _, _, _, rfl, rfl, rt_up ok.sub sx, rt_up ok.sub sy, by omega, fun e => ?_, fun _ e => ?_, fun _ _ p hp => fin_tup hq ok (dpAll_app ax ay) hp⟩))
      · subst e
        cases ax
        exact fin_d hq ok (.tup sy ay)
      · subst e
        cases ay
        rw [List.append_nil] at hq
        exact fin_d hq ok (.tup sx ax)
    · cases h
  | lst sx ax =>
    cases hy <;> simp only [gAdd] at h <;> try cases h
    rename_i sy ay
    split at h
    · rename_i hz
      cases h
      have l1 := dpAll_len ax
      have l2 := dpAll_len ay
      exact .inr (.inr (.inr ⟨_, _, _, _, rfl, rfl, rd_up ok.sub sx, rd_up ok.sub sy, by omega, fun p hp => fin_new hq ok (dpAll_app ax ay) hp⟩))
    · cases h
  | non => simp only [gAdd] at h; cases h
  | bl b => simp only [gAdd] at h; cases h
/-- numbers, truth values -/
def rSubA : R2 := fun x y H Q => rI0 (fun i j => .int (i - j)) x y H Q ∨ ∃ a b : Bool, x = .bl a ∧ y = .bl b ∧ Q (.int ((if a = true then 1 else 0) - (if b = true then 1 else 0))) H
theorem op_subA {X : Cx} : OpR X (binaryOp .Sub) rSubA := by
  intro pins s σ H x y v u Q I rx ry h
  rcases h with h | ⟨a, b, rfl, rfl, q⟩
  · exact op_sub pins s σ H x y v u Q I rx ry h
  · obtain rfl : v = .bool a := rx
    obtain rfl : u = .bool b := ry
    exact PyProof.Rows.sub_bool ⟨.int _, H, I.tok _, ⟨_, rfl⟩, q⟩
theorem s_sub : OpS C rSubA gSub := by
  intro w x y d e v Q ok hx hy h hq
  cases hx <;> simp only [gSub] at h <;> try cases h
  · cases hy <;> simp only [gSub] at h <;> try cases h
    exact .inr ⟨_, _, rfl, rfl, fin_d hq ok (.int _)⟩
  · cases hy <;> simp only [gSub] at h <;> try cases h
    exact .inl ⟨_, _, rfl, rfl, fin_d hq ok (.int _)⟩
def rMul (K : PySem.W.Frag) : R2 := fun x y H Q => rI CMulW (fun i j => .int (i * j)) x y H Q ∨ rRepT K x y H Q ∨ (∃ a xs, x = .ref a ∧ y = .int 1 ∧ SqT K H a xs ∧ xs ≠ [] ∧ Q (.ref a) H)
theorem s_fdiv : OpS C (rI CDivW fun i j => .int (i / j)) gFdiv := by
  intro w x y d e v Q ok hx hy h hq
  cases hx <;> simp only [gFdiv] at h <;> try cases h
  cases hy <;> simp only [gFdiv] at h <;> try cases h
  split at h
  · cases h
    exact ⟨_, _, rfl, rfl, by assumption, fin_d hq ok (.int _)⟩
  · cases h
theorem s_mod : OpS C (rI (fun _ j => 0 < j) fun i j => .int (i % j)) gMod := by
  intro w x y d e v Q ok hx hy h hq
  cases hx <;> simp only [gMod] at h <;> try cases h
  cases hy <;> simp only [gMod] at h <;> try cases h
  split at h
  · cases h
    exact ⟨_, _, rfl, rfl, by assumption, fin_d hq ok (.int _)⟩
  · cases h
theorem s_pow : OpS C (rI CPow fun i j => .int (i ^ j.toNat)) gPow := by
  intro w x y d e v Q ok hx hy h hq
  cases hx <;> simp only [gPow] at h <;> try cases h
  cases hy <;> simp only [gPow] at h <;> try cases h
  split at h
  · cases h
    exact ⟨_, _, rfl, rfl, by assumption, fin_d hq ok (.int _)⟩
  · cases h
theorem s_ord {f : Int → Int → Bool} : CoS C (rI0 fun i j => .bl (f i j)) (gOrd f) := by
  intro w x y d e b Q ok hx hy h hq
  cases hx <;> simp only [gOrd] at h <;> try cases h
  cases hy <;> simp only [gOrd] at h <;> try cases h
  exact ⟨_, _, rfl, rfl, hq⟩
theorem s_eq : CoS C (rEqD C.K) gEq := by
  intro w x y d e b Q ok hx hy h hq
  unfold gEq at h
  split at h
  · rename_i hs
    cases h
    exact ⟨d, e, dp_mono ok.sub hx, dp_mono ok.sub hy, hs.1, hs.2, hq⟩
  · cases h
theorem s_ne : CoS C (rNeD C.K) (fun x y => (gEq x y).map not) := by
  intro w x y d e b Q ok hx hy h hq
  cases g : gEq d e with
  | none =>
    simp only [g] at h
    cases h
  | some b' =>
    simp only [g] at h
    cases h
    unfold gEq at g
    split at g
    · rename_i hs
      cases g
      exact ⟨d, e, dp_mono ok.sub hx, dp_mono ok.sub hy, hs.1, hs.2, hq⟩
    · cases g
theorem flat_of {K : PySem.W.Frag} {F : Hp} {x : V} {d : D} (h : Dp K F x d) (f : flatD d = true) : flatV x = true := by
  cases h <;> first | rfl | cases f
theorem eqv_of {K : PySem.W.Frag} {F : Hp} {x y : V} {d e : D} (h : Dp K F x d) (h' : Dp K F y e) (f : flatD d = true) (f' : flatD e = true) : eqV x y = PyData.eqv d e := by
  cases h with
  | lst _ _ => cases f
  | tup _ _ => cases f
  | non => cases h' <;> first | (exfalso; exact Bool.false_ne_true f') | (simp only [eqV, PyData.eqv])
  | bl b => cases h' <;> first | (exfalso; exact Bool.false_ne_true f') | (simp only [eqV, PyData.eqv])
  | int b => cases h' <;> first | (exfalso; exact Bool.false_ne_true f') | (simp only [eqV, PyData.eqv])
  | str b => cases h' <;> first | (exfalso; exact Bool.false_ne_true f') | (simp only [eqV, PyData.eqv])
theorem all_of {K : PySem.W.Frag} {F : Hp} : ∀ {ds : List D} {vs : List V}, DpAll K F vs ds → ds.all flatD = true → vs.all flatV = true
  | [], _, h, _ => by cases h; rfl
  | d :: ds, _, h, f => by
    cases h with
    | cons h1 h2 =>
      rw [List.all_cons, Bool.and_eq_true] at f
      rw [List.all_cons, flat_of h1 f.1, all_of h2 f.2]
      rfl
theorem any_of {K : PySem.W.Frag} {F : Hp} {x : V} {d : D} (hx : Dp K F x d) (f : flatD d = true) : ∀ {ds : List D} {vs : List V}, DpAll K F vs ds → ds.all flatD = true → inV x vs = ds.any fun y => PyData.eqv y d
  | [], _, h, _ => by cases h; rfl
  | e :: ds, _, h, g => by
    cases h with
    | cons h1 h2 =>
      rw [List.all_cons, Bool.and_eq_true] at g
      have ih := any_of hx f h2 g.2
      unfold inV at ih ⊢
      rw [List.any_cons, List.any_cons, ih, eqv_of h1 hx g.1 f]
/-- x in a tuple of data of any depth -/
def rInDT (K : PySem.W.Frag) : R2 := fun x y H Q => ∃ d ds, Dp K H x d ∧ Dp K H y (.tuple ds) ∧ SeqAt.shaped d = true ∧ SeqAt.shaped (.tuple ds) = true ∧ Q (.bl (ds.any fun z => PyData.eqv z d)) H
def rNotInDT (K : PySem.W.Frag) : R2 := fun x y H Q => ∃ d ds, Dp K H x d ∧ Dp K H y (.tuple ds) ∧ SeqAt.shaped d = true ∧ SeqAt.shaped (.tuple ds) = true ∧ Q (.bl (!ds.any fun z => PyData.eqv z d)) H
theorem op_inDT (hu : X.A.units + 65 < cLine) : OpR X (compareOp .In) (rInDT X.K) := by
  intro pins s σ H x y v u Q I rx ry h
  obtain ⟨d, ds, hd, he, sd, se, q⟩ := h
  obtain ⟨as, r1⟩ := Dp.reads I d x v hd rx
  obtain ⟨bs, r2⟩ := Dp.reads I (.tuple ds) y u he ry
  exact SeqAt.in_tuple_reads r2 r1 (SeqAt.canLay_of_shaped se) (SeqAt.canLay_of_shaped sd) (room_in_shaped sd hu) ⟨.bl _, H, I, rfl, q⟩
theorem op_notInDT (hu : X.A.units + 65 < cLine) : OpR X (compareOp .NotIn) (rNotInDT X.K) := by
  intro pins s σ H x y v u Q I rx ry h
  obtain ⟨d, ds, hd, he, sd, se, q⟩ := h
  obtain ⟨as, r1⟩ := Dp.reads I d x v hd rx
  obtain ⟨bs, r2⟩ := Dp.reads I (.tuple ds) y u he ry
  exact SeqAt.notIn_tuple_reads r2 r1 (SeqAt.canLay_of_shaped se) (SeqAt.canLay_of_shaped sd) (room_in_shaped sd hu) ⟨.bl _, H, I, rfl, q⟩
def rInA (K : PySem.W.Frag) : R2 := fun x y H Q => (∃ i j, x = .str i ∧ y = .str j ∧ Q (.bl (!(Builtin.Str.occurrences j i 0 j.length 1).isEmpty)) H) ∨ (rIn K false x y H Q ∨ (rInD K x y H Q ∨ rInDT K x y H Q))
def rNiA (K : PySem.W.Frag) : R2 := fun x y H Q => (∃ i j, x = .str i ∧ y = .str j ∧ Q (.bl (!(!(Builtin.Str.occurrences j i 0 j.length 1).isEmpty))) H) ∨ (rIn K true x y H Q ∨ (rNotInD K x y H Q ∨ rNotInDT K x y H Q))
theorem in_cases {w : Wd} {x y : V} {d e : D} {b : Bool} (ok : w.Ok C) (hx : Dp C.K w.F x d) (hy : Dp C.K w.F y e) (h : gIn d e = some b) :
    (∃ i j, x = .str i ∧ y = .str j ∧ b = !(Builtin.Str.occurrences j i 0 j.length 1).isEmpty) ∨ (∃ p xs, y = .ref p ∧ (SqL C.K w.H p xs ∨ SqT C.K w.H p xs) ∧ flatV x = true ∧ xs.all flatV = true ∧ b = inV x xs) ∨
    (∃ ds, Dp C.K w.H x d ∧ Dp C.K w.H y (.list ds) ∧ SeqAt.shaped d = true ∧ SeqAt.shaped (.list ds) = true ∧ b = ds.any fun z => PyData.eqv z d) ∨
    (∃ ds, Dp C.K w.H x d ∧ Dp C.K w.H y (.tuple ds) ∧ SeqAt.shaped d = true ∧ SeqAt.shaped (.tuple ds) = true ∧ b = ds.any fun z => PyData.eqv z d) := by
  have two : ∀ {ds : List D} {xs : List V} {e : D}, DpAll C.K w.F xs ds → (if flatD d = true ∧ ds.all flatD = true then some (ds.any fun y => PyData.eqv y d) else if SeqAt.shaped d = true ∧ SeqAt.shaped e = true then some (ds.any fun y => PyData.eqv y d) else none) = some b →
      (flatV x = true ∧ xs.all flatV = true ∧ b = inV x xs) ∨ (SeqAt.shaped d = true ∧ SeqAt.shaped e = true ∧ b = ds.any fun y => PyData.eqv y d) := fun {ds xs e} ha q => by
    split at q
    · rename_i f
      cases q
      exact .inl ⟨flat_of hx f.1, all_of ha f.2, (any_of hx f.1 ha f.2).symm⟩
    · split at q
      · rename_i f
        cases q
        exact .inr ⟨f.1, f.2, rfl⟩
      · cases q
  cases hy with
  | @lst p xs ds sy ay =>
    have h' : (if flatD d = true ∧ ds.all flatD = true then some (ds.any fun y => PyData.eqv y d) else if SeqAt.shaped d = true ∧ SeqAt.shaped (.list ds) = true then some (ds.any fun y => PyData.eqv y d) else none) = some b := by
      cases hx <;> exact h
    rcases two ay h' with ⟨a1, a2, a3⟩ | ⟨a1, a2, a3⟩
    · exact .inr (.inl ⟨_, _, rfl, .inl (rd_up ok.sub sy), a1, a2, a3⟩)
    · exact .inr (.inr (.inl ⟨ds, dp_mono ok.sub hx, dp_mono ok.sub (.lst sy ay), a1, a2, a3⟩))
  | @tup p xs ds sy ay =>
    have h' : (if flatD d = true ∧ ds.all flatD = true then some (ds.any fun y => PyData.eqv y d) else if SeqAt.shaped d = true ∧ SeqAt.shaped (.tuple ds) = true then some (ds.any fun y => PyData.eqv y d) else none) = some b := by
      cases hx <;> exact h
    rcases two ay h' with ⟨a1, a2, a3⟩ | ⟨a1, a2, a3⟩
    · exact .inr (.inl ⟨_, _, rfl, .inr (rt_up ok.sub sy), a1, a2, a3⟩)
    · exact .inr (.inr (.inr ⟨ds, dp_mono ok.sub hx, dp_mono ok.sub (.tup sy ay), a1, a2, a3⟩))
  | str j =>
    cases hx <;> simp only [gIn] at h <;> try cases h
    exact .inl ⟨_, _, rfl, rfl, rfl⟩
  | non => cases hx <;> simp only [gIn] at h <;> cases h
  | bl b => cases hx <;> simp only [gIn] at h <;> cases h
  | int b => cases hx <;> simp only [gIn] at h <;> cases h
theorem s_in : CoS C (rInA C.K) gIn := by
  intro w x y d e b Q ok hx hy h hq
  rcases in_cases ok hx hy h with ⟨i, j, rfl, rfl, rfl⟩ | ⟨p, xs, rfl, a, b1, b2, rfl⟩ | ⟨ds, a1, a2, a3, a4, rfl⟩ | ⟨ds, a1, a2, a3, a4, rfl⟩
  · exact .inl ⟨i, j, rfl, rfl, hq⟩
  · exact .inr (.inl ⟨p, xs, rfl, a, b1, b2, hq⟩)
  · exact .inr (.inr (.inl ⟨d, ds, a1, a2, a3, a4, hq⟩))
  · exact .inr (.inr (.inr ⟨d, ds, a1, a2, a3, a4, hq⟩))
theorem s_ni : CoS C (rNiA C.K) (fun x y => (gIn x y).map not) := by
  intro w x y d e b Q ok hx hy h hq
  cases g : gIn d e with
  | none =>
    simp only [g] at h
    cases h
  | some b' =>
    simp only [g] at h
    cases h
    rcases in_cases ok hx hy g with ⟨i, j, rfl, rfl, rfl⟩ | ⟨p, xs, rfl, a, b1, b2, rfl⟩ | ⟨ds, a1, a2, a3, a4, rfl⟩ | ⟨ds, a1, a2, a3, a4, rfl⟩
    · exact .inl ⟨i, j, rfl, rfl, hq⟩
    · exact .inr (.inl ⟨p, xs, rfl, a, b1, b2, hq⟩)
    · exact .inr (.inr (.inl ⟨d, ds, a1, a2, a3, a4, hq⟩))
    · exact .inr (.inr (.inr ⟨d, ds, a1, a2, a3, a4, hq⟩))
theorem op_inA (hu : X.A.units + 65 < cLine) : OpR X (compareOp .In) (rInA X.K) := op_in_str.or (op_in_seq.or ((op_inD hu).or (op_inDT hu)))
theorem op_niA (hu : X.A.units + 65 < cLine) : OpR X (compareOp .NotIn) (rNiA X.K) := op_notIn_str.or (op_notIn_seq.or ((op_notInD hu).or (op_notInDT hu)))
theorem ixN_len {n m : Nat} (h : n = m) (i : Int) : ixN n i = ixN m i := by rw [h]
theorem at_of {K : PySem.W.Frag} {F : Hp} {ds : List D} {vs : List V} {i : Int} {d : D} (h : DpAll K F vs ds) (e : atI ds i = some d) : ∃ v, atI vs i = some v ∧ Dp K F v d := by
  unfold atI at e ⊢
  rw [ixN_len (dpAll_len h)]
  cases q : ixN ds.length i with
  | none =>
    rw [q] at e
    cases e
  | some j =>
    rw [q] at e
    exact dpAll_get h e
theorem s_ix {w : Wd} {x y : V} {d e f : D} {Q : VK} (ok : w.Ok C) (hx : Dp C.K w.F x d) (hy : Dp C.K w.F y e) (h : gIx d e = some f) (hq : ∀ z, Dp C.K w.F z f → Q z w.H) : rIx C.K x y w.H Q := by
  cases hx with
  | lst sx ax =>
    cases hy <;> simp only [gIx] at h <;> try cases h
    obtain ⟨v, h1, h2⟩ := at_of ax h
    exact .inl ⟨_, _, _, v, rfl, rfl, rd_up ok.sub sx, h1, hq v h2⟩
  | tup sx ax =>
    cases hy <;> simp only [gIx] at h <;> try cases h
    obtain ⟨v, h1, h2⟩ := at_of ax h
    exact .inr (.inl ⟨_, _, _, v, rfl, rfl, rt_up ok.sub sx, h1, hq v h2⟩)
  | str z =>
    cases hy <;> simp only [gIx] at h <;> try cases h
    split at h
    · rename_i hz
      cases q : atI z.cps.toList _ with
      | none =>
        rw [q] at h
        cases h
      | some c =>
        rw [q] at h
        cases h
        exact .inr (.inr ⟨z, _, c, rfl, rfl, hz, q, hq _ (.str _)⟩)
    · cases h
  | non => simp only [gIx] at h; cases h
  | bl b => simp only [gIx] at h; cases h
  | int b => simp only [gIx] at h; cases h
/-- slices of lists and tuples -/
def rSlLT (K : PySem.W.Frag) : V → Option Int → Option Int → Hp → VK → Prop := fun x lo hi H Q => rSlL K x lo hi H Q ∨ rSlA K x lo hi H Q
theorem sl_LT : SlR X (rSlLT X.K) := sl_list.or sl_tupA
theorem cut_of {K : PySem.W.Frag} {F : Hp} {ds : List D} {vs : List V} (h : DpAll K F vs ds) (lo hi : Option Int) : DpAll K F (cutV vs lo hi) (cutD ds lo hi) := by
  unfold cutV cutD
  rw [dpAll_len h]
  exact dpAll_take _ (dpAll_drop _ h)
theorem s_sl {w : Wd} {x : V} {d : D} {lo hi : Option Int} {v : RV} {Q : VK} (ok : w.Ok C) (hx : Dp C.K w.F x d) (h : gSl d lo hi = some v) (hq : ∀ w' z, w'.S = w.S → w'.Ok C → w.To w' → RvR C w w' z v → Q z w'.H) : rSlLT C.K x lo hi w.H Q := by
  cases hx with
  | lst sx ax =>
    simp only [gSl] at h
    cases h
    exact .inl ⟨_, _, rfl, rd_up ok.sub sx, fun p hp => fin_new hq ok (cut_of ax lo hi) hp⟩
  | tup sx ax =>
    simp only [gSl] at h
    cases h
    refine .inr ⟨_, _, rfl, rt_up ok.sub sx, fun hw => ?_, fun _ p hp => fin_tup hq ok (cut_of ax lo hi) hp⟩
    rename_i ds
    have e : cutD ds lo hi = ds := by
      unfold cutD
      rw [← dpAll_len ax, hw.1, hw.2, Nat.sub_zero, List.drop_zero, dpAll_len ax, List.take_length]
    rw [e] at hq
    exact fin_d hq ok (.tup sx ax)
  | non => simp only [gSl] at h; cases h
  | bl b => simp only [gSl] at h; cases h
  | int b => simp only [gSl] at h; cases h
  | str b => simp only [gSl] at h; cases h
end
end G

-- GM
set_option maxRecDepth 100000
set_option maxHeartbeats 2000000
namespace G
open PySem L2 LamX PyProof.Rows
theorem tuple_mulS (l : Addr) (items : Array Value) (n : Nat) (dd : Option Addr) (sl : Array (Option Value)) (x : Int) (u : Tok) (c0 : (decide (x < -(2 ^ 63)) || decide (x ≥ 2 ^ 63)) = false) (c1 : (items.isEmpty || x == 1) = true) :
    Meets (Builtin.«tuple.__mul__» ⟨[.ref l, .int x u], []⟩) (fun _ R s => s.heap.get? l = some { cls := .type "tuple", dict := dd, data := .seq items n, slots := sl } ∧
      R (.ok (.ret (Value.ref l))) s) :=
  .of_wp fun prog w A R s h => by
    obtain ⟨hp, g, d, tk, os⟩ := s
    obtain ⟨hl, h⟩ := h
    have f1 := AutoSeq1.idx_int
    wp_walk using wpAny_loadPart' hl
    repeat (first
      | (refine wpAny_ite_false (decide_eq_false (by rw [c0]; exact Bool.false_ne_true)) ?_; wp_walk using wpAny_loadPart' hl)
      | (refine wpAny_ite_true (decide_eq_true (by rw [c1])) ?_; wp_walk using wpAny_loadPart' hl))
    exact ⟨_, rfl, h⟩
def rRepS (K : PySem.W.Frag) : R2 := fun x y H Q => ∃ l k xs, x = .ref l ∧ y = .int k ∧ SqT K H l xs ∧ (xs = [] ∨ k = 1) ∧ -1000 ≤ k ∧ k ≤ 1000 ∧ Q (.ref l) H
section
variable {X : Cx}
theorem op_repS : OpR X (binaryOp .Mult) (rRepS X.K) := by
  intro pins s σ H x y v u Q I rx ry h
  obtain ⟨l, k, xs, rfl, rfl, hT, hk, h0, h1, q⟩ := h
  cases rx
  obtain ⟨t, rfl⟩ := ry
  obtain ⟨its, r, ⟨⟨cls, dd, data, sl⟩, ho, hc, n, hd⟩, hs⟩ := I.tuple hT
  simp only at hc hd
  subst hc hd
  have c0 : (decide (k < -(2 ^ 63)) || decide (k ≥ 2 ^ 63)) = false := by
    rw [decide_eq_false (by omega), decide_eq_false (by omega)] <;> rfl
  have c1 : (its.toArray.isEmpty || k == 1) = true := by
    rcases hk with e | e
    · subst e
      cases r
      rfl
    · subst e
      simp
  refine wpAny_binaryOp_repeat_ref (T := "tuple") (U := "int") (by decide) ⟨_, ho, rfl⟩ (fun s' => typeIs_int s' k t) noFill_tuple_mul F.fills_int_mul F.slot_int_rmul repeat_tuple F.slot_int_index.lookup
    (call_meets F.slot_int_rmul (typeIs_int s k t) F.entry_int_rmul (F.args_int_rmul_2 _ _) (int_rmul_tuple k t l its.toArray n dd sl)
      ⟨ho, rfl, ⟨_, ho, rfl⟩, call_meets F.slot_tuple_mul ⟨_, ho, rfl⟩ F.entry_tuple_mul (F.args_tuple_mul_2 _ _) (tuple_mulS l its.toArray n dd sl k t c0 c1) ⟨ho, ?_⟩⟩)
  exact ⟨.ref l, H, I, rfl, q⟩
end
end G

-- GD
set_option maxRecDepth 100000
set_option maxHeartbeats 2000000
namespace G
open PySem L2 LamX PyProof.Rows
/-! ### which tree a term tells -/
structure Pr where
  nm : Nat → Str
  ar : Nat → Nat
  dom : List Nat
  cs : List Nat
  cn : Nat → Str
  cl : List Nat
  lam : Bool
def Pr.off (P : Pr) : Pr := { P with lam := false }
def vis (sc : Scope) (x : Str) : Bool := match sc.names.lookup x with
  | some .local => true
  | some .cell => true
  | some .free => true
  | _ => false
theorem vis_ok {sc : Scope} {x : Str} (h : vis sc x = true) : Vis sc x := by
  unfold vis at h
  unfold Vis
  split at h <;> simp_all
def loc (sc : Scope) (x : Str) : Bool := match sc.names.lookup x with
  | some .local => true
  | some .cell => true
  | _ => false
theorem loc_ok {sc : Scope} {x : Str} (h : loc sc x = true) : L2.Loc sc x := by
  unfold loc at h
  unfold L2.Loc
  split at h <;> simp_all
def nmOk (x : Str) : Bool := !(x == ("__debug__" : Str)) && !(x == ("__classdict__" : Str))
def glb (sc : Scope) (x : Str) : Bool := decide (sc.names.lookup x = some .globalImplicit) && !(x == ("__debug__" : Str)) && !decide (x = ("__name__" : Str))
def boC : Bo → Operator
  | .add => .Add | .sub => .Sub | .mul => .Mult | .fdiv => .FloorDiv | .mod => .Mod | .pow => .Pow
def coC : Co → CmpOp
  | .eq => .Eq | .ne => .NotEq | .lt => .Lt | .le => .LtE | .gt => .Gt | .ge => .GtE | .isIn => .In | .notIn => .NotIn
def bfN : Bf → Str
  | .len => "len" | .max2 => "max" | .min2 => "min" | .minL => "min" | .abs => "abs" | .toInt => "int" | .toStr => "str" | .toTuple => "tuple" | .toList => "list" | .sortI => "sorted"
def mtN : Mt → Str
  | .split => "split" | .join => "join" | .upper => "upper" | .index => "index"
def tyN : Ty → Str
  | .int => "int" | .bool => "bool" | .str => "str" | .tuple => "tuple" | .list => "list"
def ownL (N : List Str) (own : List Nat) : List (Str × Nat) := own.filterMap fun i => (N[i]?).map fun x => (x, i)
def plainLine (a b : Pos) : Bool := a.endLine == b.line
def isStar : Expr → Bool
  | .Starred _ _ => true
  | _ => false
def isSlice : Expr → Bool
  | .Slice _ _ _ _ => true
  | _ => false
/-- not super() -/
def isCall : Expr → Bool
  | .Call (.Name _ _) [] [] _ => true
  | _ => false
def isSet : Expr → Bool
  | .Set _ _ _ => true
  | _ => false
def chTg (N : List Str) (sc : Scope) : Tg → Expr → Bool
  | .nm i, .Name x _ => decide (N[i]? = some x) && loc sc x
  | .tp is, .Tuple as _ _ => is.length == as.length && (is.zip as).all fun p => match p.2 with
    | .Name x _ => decide (N[p.1]? = some x) && loc sc x
    | _ => false
  | _, _ => false
def tgIn (own : List Nat) : Tg → Bool
  | .nm i => own.contains i
  | .tp is => is.all fun i => own.contains i
def emptyA (p : Arguments) : Bool := p.posonlyargs.isEmpty && p.args.isEmpty && p.vararg.isNone && p.kwonlyargs.isEmpty && p.kw_defaults.isEmpty && p.kwarg.isNone && p.defaults.isEmpty
mutual
/-- m: as a test -/
def ch (P : Pr) (N : List Str) (sc : Scope) (m : Bool) : E → Expr → Bool
  | .var i, .Name x _ => decide (N[i]? = some x) && vis sc x && nmOk x
  | .int n, .Constant (.int k) _ _ => decide (n = k)
  | .str s, .Constant (.str k) _ _ => decide (s = k)
  | .bl b, .Constant (.bool k) _ _ => decide (b = k)
  | .non, .Constant .none _ _ => true
  | .gc k, .Name x _ => decide (x = (gcon k).1) && glb sc x && P.cs.contains k
  | .gf g, .Name x _ => decide (x = P.nm g) && glb sc x && P.dom.contains g
  | .tup es, .Tuple as _ _ => !m && chs P N sc false es as && Nat.ble as.length 64
  | .lst es, .List as _ => !m && chs P N sc false es as && Nat.ble as.length 64
  | .repL es n, .BinOp (.List as _) .Mult b _ => !m && chs P N sc false es as && ch P N sc false n b && Nat.ble as.length 64
  | .bin o a b, .BinOp x op y _ => decide (op = boC o) && ch P N sc false a x && ch P N sc false b y
  | .neg a, .UnaryOp .USub x _ => ch P N sc false a x
  | .cmp o a b, .Compare x [op] [y] _ => decide (op = coC o) && ch P N sc false a x && ch P N sc false b y && !behindInMarks op y
  | .chn o p a b c, .Compare x [op, op'] [y, z] _ => decide (op = coC o) && decide (op' = coC p) && ch P N sc false a x && ch P N sc false b y && ch P N sc false c z && !lastMarks [op, op'] [y, z]
  | .isN a, .Compare x [.Is] [.Constant .none _ _] _ => ch P N sc false a x
  | .notN a, .Compare x [.IsNot] [.Constant .none _ _] _ => ch P N sc false a x
  | .bool k es, .BoolOp op as _ => decide (op = if k then .And else .Or) && chs P N sc m es as
  | .not a, .UnaryOp .Not x _ => ch P N sc m a x
  | .ite c a b, .IfExp x y z _ => !m && ch P N sc true c x && ch P N sc false a y && ch P N sc false b z
  | .ix a b, .Subscript x y _ => ch P N sc false a x && ch P N sc false b y && !isSlice y
  | .ixl i b, .Subscript (.Name x _) y _ => decide (N[i]? = some x) && vis sc x && nmOk x && ch P N sc false b y && !isSlice y
  | .sl a lo hi, .Subscript x (.Slice l u none _) _ => !m && ch P N sc false a x && chO P N sc lo l && chO P N sc hi u
  | .bf f es, .Call (.Name x _) as [] _ => decide (x = bfN f) && glb sc x && !as.isEmpty && chs P N sc false es as
  | .mt k a es, .Call (.Attribute o x ap) as [] p => decide (x = mtN k) && ch P N sc false a o && chs P N sc false es as && plainLine ap p && decide (as.length ≤ 2) && !isCall o
  | .isi a t, .Call (.Name x _) [o, .Name y _] [] _ => decide (x = "isinstance") && glb sc x && ch P N sc false a o && decide (y = tyN t) && glb sc y
  | .call g es, .Call (.Name x _) as [] _ => decide (x = P.nm g) && glb sc x && P.dom.contains g && chs P N sc false es as && !as.isEmpty && Nat.beq as.length (P.ar g)
  | .callv i es, .Call (.Name x _) as [] _ => decide (N[i]? = some x) && vis sc x && nmOk x && chs P N sc false es as && !as.isEmpty
  | .lerr b, .Call (.Name x _) [.Lambda ps body scope _] [] _ => P.lam && decide (x = "_law_error") && glb sc x && emptyA ps && LamX.lamSB sc scope && ch P.off N scope false b body
  | .comp it tg own c e, .ListComp elt [⟨t, i, ifs, 0⟩] scope _ => !m && chI P N sc it i t && (ownL N own).length == own.length && blkC N sc scope (ownL N own) && chTg N (relS scope sc) tg t && chTg N scope tg t && tgIn own tg &&
      chC P.off N (relS scope sc) c ifs && ch P.off N (relS scope sc) false e elt
  | .comp2 it tg it2 tg2 own own2 e, .ListComp elt [⟨t, i, [], 0⟩, ⟨t2, i2, [], 0⟩] scope _ => !m && chI P N sc it i t && (ownL N own).length == own.length && blkC N sc scope (ownL N own) && chTg N (relS scope sc) tg t && chTg N scope tg t && tgIn own tg &&
      (chI P.off N (relS scope sc) it2 i2 t2 && chTg N (relS scope sc) tg2 t2 && chTg N scope tg2 t2 && tgIn own2 tg2 && own2.all (fun i => own.contains i) && ch P.off N (relS scope sc) false e elt)
  | _, _ => false
def chO (P : Pr) (N : List Str) (sc : Scope) : Oe → Option Expr → Bool
  | .no, none => true
  | .so e, some x => ch P N sc false e x
  | _, _ => false
def chC (P : Pr) (N : List Str) (sc : Scope) : Oe → List Expr → Bool
  | .no, [] => true
  | .so e, [x] => ch P N sc true e x
  | _, _ => false
def chs (P : Pr) (N : List Str) (sc : Scope) (m : Bool) : Es → List Expr → Bool
  | .nil, [] => true
  | .cons e es, x :: xs => ch P N sc m e x && chs P N sc m es xs
  | _, _ => false
/-- what is walked, and the target (zip wants a pair) -/
def chI (P : Pr) (N : List Str) (sc : Scope) : It → Expr → Expr → Bool
  | .seq e, x, _ => ch P N sc false e x && !isSet x
  | .rng1 a, .Call (.Name x _) [y] [] _, _ => decide (x = "range") && glb sc x && ch P N sc false a y
  | .rng2 a b, .Call (.Name x _) [y, z] [] _, _ => decide (x = "range") && glb sc x && ch P N sc false a y && ch P N sc false b z
  | .rng3 a b c, .Call (.Name x _) [y, z, .Constant (.int k) _ _] [] _, _ => decide (x = "range") && glb sc x && ch P N sc false a y && ch P N sc false b z && decide (k = 2) && decide (c = 2)
  | .zip a b, .Call (.Name x _) [y, z] [] _, .Tuple _ _ _ => decide (x = "zip") && glb sc x && ch P N sc false a y && ch P N sc false b z
  | _, _, _ => false
end
/-! ### where one stands -/
/-- the promise of the g-th def -/
def spF (C : Cxt) (G : Gam) (g n : Nat) : Sp := fun vs H Q E => vs.length = n ∧ ∃ (w : Wd) (as : List Vl) (o : Out RV), w.H = H ∧ w.Ok C ∧ VsR C w w vs as ∧ G g as w.S = some o ∧
  match o with
  | .ok v S' => ∀ w' x, w'.S = S' → w'.Ok C → w.To w' → RvR C w w' x v → Q x w'.H
  | .ex c p S' => ∀ w' d, w'.S = S' → w'.Ok C → w.To w' → ExR p d w' → E (.ref (C.ca c)) d w'.H
/-- a def that may be called -/
def FnC (C : Cxt) (P : Pr) (G : Gam) (X : Cx) (k g : Nat) : Prop := ∃ (fd : FuncData) (ps : List Str), X.mg (P.nm g) = some (.ref (C.fa g)) ∧ PySem.W.keepIn C.K (.ref (C.fa g)) = true ∧ L2.Binds C.K fd ps [] ∧ ps.length = P.ar g ∧
  FnOk X.prog X.w C.K X.mg X.base (L2N.CX X.prog X.w) k (C.fa g) fd ps (spF C G g (P.ar g))
def freeN : List Str := ["len", "max", "min", "abs", "int", "str", "tuple", "list", "isinstance", "bool", "range", "zip", "sorted", "enumerate"]
structure Gd (C : Cxt) (P : Pr) (G : Gam) (W : WX) (X : Cx) : Prop where
  K : X.K = C.K
  calm : X.calm = true
  nd : X.N.Nodup
  un : X.A.units + 65 < cLine
  tk : L2N.Takes X W
  bl : ∀ x ∈ freeN, X.mg x = none
  fns : ∃ k, (∀ g ∈ P.dom, FnC C P G X k g) ∧ Room k X.A ∧ (P.lam = true → Room (k + 2) X.A)
  lam : P.lam = true → C.LP X
  cs : ∀ k ∈ P.cs, ∃ u v, X.mg (gcon k).1 = some u ∧ RelV v u ∧ ∀ F, Dp C.K F v (gcon k).2
abbrev At (C : Cxt) (P : Pr) (G : Gam) (N : List Str) (sc : Scope) (W : WX) (X : Cx) : Prop := Gd C P G W X ∧ X.N = N ∧ X.env.scope = sc
def SE (C : Cxt) (P : Pr) (G : Gam) (N : List Str) (sc : Scope) (x : Expr) (f : Env → M RV) : Prop := ∀ W, ∃ t : TE, Ref C W (RvR C) t f ∧ ∀ X, At C P G N sc W X → PE X x t
def ST (C : Cxt) (P : Pr) (G : Gam) (N : List Str) (sc : Scope) (x : Expr) (f : Env → M Bool) : Prop := ∀ W, ∃ t : TT, Ref C W EqR t f ∧ ∀ X, At C P G N sc W X → PT X x t
def SA (C : Cxt) (P : Pr) (G : Gam) (N : List Str) (sc : Scope) (xs : List Expr) (f : Env → M (List D)) : Prop := ∀ W, ∃ t : TA, Ref C W (DsR C) t f ∧ ∀ X, At C P G N sc W X → PA X xs t
def SV (C : Cxt) (P : Pr) (G : Gam) (N : List Str) (sc : Scope) (xs : List Expr) (f : Env → M (List Vl)) : Prop := ∀ W, ∃ t : TA, Ref C W (VsR C) t f ∧ ∀ X, At C P G N sc W X → PA X xs t
def SO (C : Cxt) (P : Pr) (G : Gam) (N : List Str) (sc : Scope) (x : Option Expr) (f : Env → M (Option Int)) : Prop := ∀ W, ∃ t : TO, Ref C W EqR t f ∧ ∀ X, At C P G N sc W X → PO X x t
theorem glb_ok {sc : Scope} {x : Str} {X : Cx} (h : glb sc x = true) (e : X.env.scope = sc) : Gl X x ∧ (x == ("__debug__" : Str)) = false ∧ x ≠ "__name__" := by
  unfold glb at h
  simp only [Bool.and_eq_true, Bool.not_eq_true', decide_eq_true_eq, decide_eq_false_iff_not] at h
  obtain ⟨⟨h1, h2⟩, h3⟩ := h
  refine ⟨?_, h2, h3⟩
  show X.env.scope.names.lookup x = _
  rw [e]
  exact h1
end G

-- GE
set_option maxRecDepth 100000
set_option maxHeartbeats 2000000
namespace G
open PySem L2 LamX PyProof.Rows
section
variable {C : Cxt} {P : Pr} {G : Gam} {N : List Str} {sc : Scope} {x y z : Expr} {pos : Pos}
theorem dec_eq {α : Type} {a b : α} [DecidableEq α] (h : decide (a = b) = true) : a = b := of_decide_eq_true h
/-! ### leaves -/
theorem ref_pure {X α : Type} {C : Cxt} {W : WX} {R : Wd → Wd → X → α → Prop} {v : X} {a : α} (h : ∀ w : Wd, R w w v a) : Ref C W R (fun _ H Q => Q v H) (fun _ => ret a) := fun w env σ o Q ok en e hq => by
  cases e
  exact hq.done rfl ok (Wd.To.refl w) (h w)
theorem se_const {v : V} {d : D} (h : ∀ F, Dp C.K F v d) (pe : ∀ X : Cx, PE X x (tC v)) : SE C P G N sc x (fun _ => ret (.d d)) := fun W => ⟨tC v, ref_pure fun w => h w.F, fun X _ => pe X⟩
theorem se_var {i : Nat} {n : Str} (hN : N[i]? = some n) (hv : vis sc n = true) (ho : nmOk n = true) : SE C P G N sc (.Name n pos) (ev G (.var i)) := fun W => by
  simp only [nmOk, Bool.and_eq_true, Bool.not_eq_true'] at ho
  refine ⟨tVar i, fun w env σ o Q ok en e hq => ?_, fun X ⟨g, h1, h2⟩ => pe_var (by rw [h1]; exact hN) (by rw [h2]; exact vis_ok hv) ho.1 ho.2⟩
  simp only [ev] at e
  obtain ⟨v, h0, e⟩ := bnd_lft e
  cases e
  unfold getV at h0
  split at h0
  · rename_i v' hv'
    cases h0
    obtain ⟨y, h1, h2⟩ := en.at_ i _ hv'
    exact ⟨y, h1, hq.done rfl ok (Wd.To.refl w) h2⟩
  · cases h0
theorem se_gc {k : Nat} {n : Str} (hn : n = (gcon k).1) (hg : glb sc n = true) (hk : P.cs.contains k = true) : SE C P G N sc (.Name n pos) (ev G (.gc k)) := fun W => by
  -- the value hangs on where one stands: it is read off there
  refine ⟨fun _ H Q => ∀ v, (∀ F, Dp C.K F v (gcon k).2) → Q v H, fun w env σ o Q ok en e hq => ?_, fun X ⟨g, h1, h2⟩ => ?_⟩
  · cases e
    exact fun v hv => hq.done rfl ok (Wd.To.refl w) (hv w.F)
  · obtain ⟨u, v, a1, a2, a3⟩ := g.cs k (List.contains_iff_mem.mp hk)
    obtain ⟨b1, b2, b3⟩ := glb_ok hg h2
    subst hn
    exact ⟨fun pins s σ H Q I h => (pe_glob b1 a1 a2 b2).run pins s σ H Q I (h v a3)⟩
theorem se_gf {g : Nat} {n : Str} (hd : C.dm = P.dom) (hn : n = P.nm g) (hg : glb sc n = true) (hk : P.dom.contains g = true) : SE C P G N sc (.Name n pos) (ev G (.gf g)) := fun W => by
  refine ⟨tC (.ref (C.fa g)), ref_pure fun w => ⟨rfl, by rw [hd]; exact List.contains_iff_mem.mp hk⟩, fun X ⟨gd, h1, h2⟩ => ?_⟩
  obtain ⟨k, fns, _⟩ := gd.fns
  obtain ⟨fd, ps, a1, _⟩ := fns g (List.contains_iff_mem.mp hk)
  obtain ⟨b1, b2, b3⟩ := glb_ok hg h2
  subst hn
  exact pe_glob b1 a1 rfl b2
/-! ### lists of expressions -/
theorem star_ok {e : Expr} {es : List Expr} {env : PySem.Env} (h : isStar e = false) : starEach (e :: es) env = (false, eval e env) :: starEach es env := by
  cases e <;> first | rfl | cases h
theorem sa_nil : SA C P G N sc [] (fun _ => ret []) := fun W => ⟨tNil, ref_pure fun w => .nil, fun X _ => pa_nil⟩
theorem sa_cons {xs : List Expr} {f : Env → M RV} {k : Env → M (List D)} (ha : SE C P G N sc x f) (hs : SA C P G N sc xs k) (hx : isStar x = false) :
    SA C P G N sc (x :: xs) (fun env => bnd (f env) fun v => bnd (lft v.toD) fun d => bnd (k env) fun r => ret (d :: r)) := fun W => by
  obtain ⟨ta, ra, pa⟩ := ha W
  obtain ⟨ts, rs, ps⟩ := hs W
  refine ⟨tCons ta ts, fun w env σ o Q ok en e hq => ?_, fun X hX => pa_cons (pa X hX) (ps X hX) (star_ok hx)⟩
  refine ra.data ok en e hq back_ds fun d w1 v ok1 t1 en1 dv e1 hq1 => ?_
  refine rs.bind ok1 en1 e1 hq1 back_ds fun r w2 vs ok2 t2 en2 dvs e2 hq2 => ?_
  cases e2
  exact hq2.done rfl ok2 (Wd.To.refl w2) (.cons (dp_mono t2.ext dv) dvs)
theorem sv_nil : SV C P G N sc [] (fun _ => ret []) := fun W => ⟨tNil, ref_pure fun w => ⟨rfl, fun _ _ _ h _ => by cases h⟩, fun X _ => pa_nil⟩
/-- a new list handed on is data -/
theorem RvR.val {w w' : Wd} {v : V} {r : RV} (h : RvR C w w' v r) (ok : w'.Ok C) (t : w.To w') : ∃ w'' : Wd, w''.S = w'.S ∧ w''.H = w'.H ∧ w''.Ok C ∧ w.To w'' ∧ w'.r = w''.r ∧ Ext w'.F w''.F ∧ VlR C w'' v r.toV := by
  cases r with
  | vl u => exact ⟨w', rfl, rfl, ok, t, rfl, Ext.refl _, h⟩
  | new xs => exact h.data ok t rfl
theorem sv_cons {xs : List Expr} {f : Env → M RV} {k : Env → M (List Vl)} (ha : SE C P G N sc x f) (hs : SV C P G N sc xs k) (hx : isStar x = false) :
    SV C P G N sc (x :: xs) (fun env => bnd (f env) fun v => bnd (k env) fun r => ret (v.toV :: r)) := fun W => by
  obtain ⟨ta, ra, pa⟩ := ha W
  obtain ⟨ts, rs, ps⟩ := hs W
  refine ⟨tCons ta ts, fun w env σ o Q ok en e hq => ?_, fun X hX => pa_cons (pa X hX) (ps X hX) (star_ok hx)⟩
  refine ra.bind ok en e hq back_vs fun d w1 v ok1 t1 en1 dv e1 hq1 => ?_
  obtain ⟨w1', b1, b2, b3, b4, b5, b6, b7⟩ := dv.val ok1 t1
  rw [← b2]
  rw [← b1] at e1
  refine rs.bind b3 (en.to b4) e1 (hq.back back_vs b3 b4) back_vs fun r w2 vs ok2 t2 en2 dvs e2 hq2 => ?_
  cases e2
  refine hq2.done rfl ok2 (Wd.To.refl w2) ⟨by simp [dvs.1], fun i u a h1 h2 => ?_⟩
  cases i with
  | zero =>
    simp at h1 h2
    subst h1 h2
    exact b7.to t2
  | succ i => exact dvs.2 i u a (by simpa using h1) (by simpa using h2)
/-! ### displays -/
def Short (f : Env → M (List D)) : Prop := ∀ env S ds S', f env S = some (.ok ds S') → ds.length ≤ sizeLine
theorem se_tup {xs : List Expr} {k : Nat} {f : Env → M (List D)} (h : SA C P G N sc xs f) (hl : Short f) : SE C P G N sc (.Tuple xs k pos) (fun env => bnd (f env) fun ds => ret (.d (.tuple ds))) := fun W => by
  obtain ⟨t, r, p⟩ := h W
  refine ⟨tTup t, fun w env σ o Q ok en e hq => ?_, fun X hX => pe_tup (p X hX)⟩
  refine r.bindE ok en e hq back_rv fun ds w1 vs e0 ok1 t1 en1 dv e1 hq1 => ?_
  cases e1
  exact ⟨by rw [dpAll_len dv]; exact hl _ _ _ _ e0, fun p hp => fin_tup (fun w' z a b c d => hq1 w' z a b c d) ok1 dv hp⟩
theorem se_lst {xs : List Expr} {f : Env → M (List D)} (h : SA C P G N sc xs f) (hl : Short f) : SE C P G N sc (.List xs pos) (fun env => bnd (f env) fun ds => ret (.new ds)) := fun W => by
  obtain ⟨t, r, p⟩ := h W
  refine ⟨tLst t, fun w env σ o Q ok en e hq => ?_, fun X hX => pe_lst (p X hX)⟩
  refine r.bindE ok en e hq back_rv fun ds w1 vs e0 ok1 t1 en1 dv e1 hq1 => ?_
  cases e1
  exact ⟨by rw [dpAll_len dv]; exact hl _ _ _ _ e0, fun p hp => fin_new (fun w' z a b c d => hq1 w' z a b c d) ok1 dv hp⟩
theorem se_repL {xs : List Expr} {f : Env → M (List D)} {g : Env → M RV} {p2 : Pos} (h : SA C P G N sc xs f) (hn : SE C P G N sc y g) (hl : Short f) : SE C P G N sc (.BinOp (.List xs p2) .Mult y pos) (fun env => bnd (f env) fun ds => bnd (g env) fun v => bnd (lft v.toD) fun v => bnd (lft (toI v)) fun k =>
    if -1000 ≤ k ∧ k ≤ 1000 ∧ ds.length ≤ 1000 then ret (.new (List.replicate k.toNat ds).flatten) else fail) := fun W => by
  obtain ⟨t, r, p⟩ := h W
  obtain ⟨tb, rb, pb⟩ := hn W
  refine ⟨tOp rRep (tLst t) tb, fun w env σ o Q ok en e hq => ?_, fun X hX => pe_op op_rep (pe_lst (p X hX)) (pb X hX)⟩
  refine r.bindE ok en e hq back_rv fun ds w1 vs e0 ok1 t1 en1 dv e1 hq1 => ?_
  refine ⟨by rw [dpAll_len dv]; exact hl _ _ _ _ e0, fun l hp => ?_⟩
  obtain ⟨ok1', t1'⟩ := ok1.loose (o := .lst vs) hp
  have lr : l ∉ w1.r := fun hm => ok1.at_ hm hp
  refine rb.data (w := { w1 with H := upd w1.H l (.lst vs) }) ok1' (en1.to t1') e1 (hq1.back back_rv ok1' t1') back_rv fun d w2 u ok2 t2 en2 du e2 hq2 => ?_
  obtain ⟨k, h1, e3⟩ := bnd_lft e2
  split at e3
  · rename_i hk
    cases e3
    cases du <;> simp only [toI] at h1 <;> cases h1
    have hz : vs.length * k.toNat ≤ sizeLine := by
      rw [dpAll_len dv, sizeLine_eq]
      have a1 : ds.length * k.toNat ≤ 1000 * 1000 := Nat.mul_le_mul hk.2.2 (by omega)
      omega
    refine ⟨l, k, vs, rfl, rfl, t2.fr l _ upd_same lr (fun _ z => by cases z), by omega, by omega, hz, fun q hp2 => ?_⟩
    refine fin_new (fun w' z a b c d => hq2 w' z a b c d) ok2 (dpAll_rep (dpAll_mono t2.ext dv) _) hp2
  · cases e3
/-! ### operators -/
theorem se_op {f g : Env → M RV} {op : Operator} {r : PySem.W.Frag → R2} {k : D → D → Option RV} (ha : SE C P G N sc x f) (hb : SE C P G N sc y g) (ho : ∀ X : Cx, OpR X (binaryOp op) (r X.K)) (hs : OpS C (r C.K) k) :
    SE C P G N sc (.BinOp x op y pos) (fun env => bnd (f env) fun v => bnd (lft v.toD) fun v => bnd (g env) fun u => bnd (lft u.toD) fun u => lft (k v u)) := fun W => by
  obtain ⟨ta, ra, pa⟩ := ha W
  obtain ⟨tb, rb, pb⟩ := hb W
  refine ⟨tOp (r C.K) ta tb, fun w env σ o Q ok en e hq => ?_, fun X hX => pe_op (by rw [← hX.1.K]; exact ho X) (pa X hX) (pb X hX)⟩
  refine ra.data ok en e hq back_rv fun d w1 v ok1 t1 en1 dv e1 hq1 => ?_
  refine rb.data ok1 en1 e1 hq1 back_rv fun d2 w2 u ok2 t2 en2 du e2 hq2 => ?_
  obtain ⟨rv, h1, h2⟩ := lft_some e2
  subst h2
  exact hs w2 v u d d2 rv Q ok2 (dp_mono t2.ext dv) du h1 fun w' z a b c e => hq2 w' z a b c e
abbrev rMulI : R2 := fun x y H Q => rI CMul (fun i j => .int (i * j)) x y H Q ∨ rI CMulW (fun i j => .int (i * j)) x y H Q
theorem op_mulA {X : Cx} : OpR X (binaryOp .Mult) (fun x y H Q => rMulI x y H Q ∨ rRepT X.K x y H Q ∨ rRepS X.K x y H Q) := (op_mul.or op_mulW).or (op_repT.or op_repS)
theorem s_mul : OpS C (fun x y H Q => rMulI x y H Q ∨ rRepT C.K x y H Q ∨ rRepS C.K x y H Q) gMul := by
  intro w x y d e v Q ok hx hy h hq
  cases hx with
  | int i =>
    cases hy <;> simp only [gMul] at h <;> try cases h
    split at h
    · rename_i hc
      cases h
      rcases hc with hc | hc
      · exact .inl (.inl ⟨_, _, rfl, rfl, hc, fin_d hq ok (.int _)⟩)
      · exact .inl (.inr ⟨_, _, rfl, rfl, hc, fin_d hq ok (.int _)⟩)
    · cases h
  | @tup a xs ds sx ax =>
    cases hy <;> simp only [gMul] at h <;> try cases h
    have l1 := dpAll_len ax
    split at h
    · rename_i hk
      split at h
      · rename_i hb
        cases h
        refine .inr (.inr ⟨_, _, _, rfl, rfl, rt_up ok.sub sx, ?_, hb.1, hb.2, fin_d hq ok (.tup sx ax)⟩)
        rcases hk with q | q
        · cases ds with
          | nil =>
            cases ax
            exact .inl rfl
          | cons _ _ => cases q
        · exact .inr q
      · cases h
    · rename_i hk
      split at h
      · rename_i hb
        cases h
        refine .inr (.inl ⟨_, _, _, rfl, rfl, rt_up ok.sub sx, fun z => ?_, hb.1, hb.2.1, by omega, fun p hp => fin_tup hq ok (dpAll_rep ax _) hp⟩)
        subst z
        cases ax
        exact hk (.inl rfl)
      · cases h
  | lst sx ax => simp only [gMul] at h; cases h
  | non => simp only [gMul] at h; cases h
  | bl b => simp only [gMul] at h; cases h
  | str b => simp only [gMul] at h; cases h
theorem se_bin (o : Bo) {a b : E} (ha : SE C P G N sc x (ev G a)) (hb : SE C P G N sc y (ev G b)) : SE C P G N sc (.BinOp x (boC o) y pos) (ev G (.bin o a b)) := by
  cases o with
  | add => exact se_op ha hb (r := rAdd) (fun X => op_addA) s_add
  | sub => exact se_op ha hb (r := fun _ => _) (fun X => op_subA) s_sub
  | mul => exact se_op ha hb (r := fun K x y H Q => rMulI x y H Q ∨ rRepT K x y H Q ∨ rRepS K x y H Q) (fun X => op_mulA) s_mul
  | fdiv => exact se_op ha hb (r := fun _ => _) (fun X => op_fdivW) s_fdiv
  | mod => exact se_op ha hb (r := fun _ => _) (fun X => op_mod) s_mod
  | pow => exact se_op ha hb (r := fun _ => _) (fun X => op_pow) s_pow
/-! ### comparisons -/
def coR (K : PySem.W.Frag) : Co → R2
  | .eq => rEqD K | .ne => rNeD K
  | .lt => rI0 fun i j => .bl (decide (i < j)) | .le => rI0 fun i j => .bl (decide (i ≤ j)) | .gt => rI0 fun i j => .bl (decide (j < i)) | .ge => rI0 fun i j => .bl (decide (j ≤ i))
  | .isIn => rInA K | .notIn => rNiA K
theorem co_op {X : Cx} (hu : X.A.units + 65 < cLine) (o : Co) : OpR X (compareOp (coC o)) (coR X.K o) := by
  cases o with
  | eq => exact op_eqD (by omega)
  | ne => exact op_neD (by omega)
  | lt => exact op_lt
  | le => exact op_le
  | gt => exact op_gt
  | ge => exact op_ge
  | isIn => exact op_inA hu
  | notIn => exact op_niA hu
theorem co_s (o : Co) : CoS C (coR C.K o) (cop o) := by
  cases o with
  | eq => exact s_eq
  | ne => exact s_ne
  | lt => exact s_ord
  | le => exact s_ord
  | gt => exact s_ord
  | ge => exact s_ord
  | isIn => exact s_in
  | notIn => exact s_ni
theorem se_cmp (o : Co) {a b : E} (ha : SE C P G N sc x (ev G a)) (hb : SE C P G N sc y (ev G b)) (hm : behindInMarks (coC o) y = false) : SE C P G N sc (.Compare x [coC o] [y] pos) (ev G (.cmp o a b)) := fun W => by
  obtain ⟨ta, ra, pa⟩ := ha W
  obtain ⟨tb, rb, pb⟩ := hb W
  refine ⟨tOp (coR C.K o) ta tb, fun w env σ out Q ok en e hq => ?_, fun X hX => pe_cmpR (by rw [← hX.1.K]; exact co_op hX.1.un o) (pa X hX) (pb X hX) hm⟩
  refine ra.data ok en e hq back_rv fun d w1 v ok1 t1 en1 dv e1 hq1 => ?_
  refine rb.data ok1 en1 e1 hq1 back_rv fun d2 w2 u ok2 t2 en2 du e2 hq2 => ?_
  obtain ⟨b', h1, h2⟩ := bnd_lft e2
  cases h2
  exact co_s o w2 v u d d2 b' Q ok2 (dp_mono t2.ext dv) du h1 (hq2.done rfl ok2 (Wd.To.refl w2) (.bl b'))
/-- a value that is True or False, as a test -/
def tst (f : Env → M RV) : Env → M Bool := fun env => bnd (f env) fun v => bnd (lft v.toD) fun d => lft (toB d)
theorem toB_dp {K : PySem.W.Frag} {F : Hp} {v : V} {d : D} {b : Bool} (h : Dp K F v d) (e : toB d = some b) : v = .bl b := by
  cases h <;> simp only [toB] at e <;> cases e
  rfl
theorem ref_test {W : WX} {t : TE} {f : Env → M RV} (h : Ref C W (RvR C) t f) : Ref C W EqR (fun σ H Q => t σ H fun v H1 => ∃ b, v = .bl b ∧ Q b H1) (tst f) := fun w env σ o Q ok en e hq =>
  h.data ok en e hq back_eq fun d w1 v ok1 t1 en1 dv e1 hq1 => by
    obtain ⟨b, h1, h2⟩ := lft_some e1
    subst h2
    exact ⟨b, toB_dp dv h1, hq1.done rfl ok1 (Wd.To.refl w1) rfl⟩
theorem st_cmp (o : Co) {a b : E} (ha : SE C P G N sc x (ev G a)) (hb : SE C P G N sc y (ev G b)) (hm : behindInMarks (coC o) y = false) : ST C P G N sc (.Compare x [coC o] [y] pos) (tst (ev G (.cmp o a b))) := fun W => by
  obtain ⟨ta, ra, pa⟩ := ha W
  obtain ⟨tb, rb, pb⟩ := hb W
  refine ⟨tTest (tOp (coR C.K o) ta tb), ?_, fun X hX => pt_cmpR (by rw [← hX.1.K]; exact co_op hX.1.un o) (pa X hX) (pb X hX) hm⟩
  refine ref_test fun w env σ out Q ok en e hq => ?_
  refine ra.data ok en e hq back_rv fun d w1 v ok1 t1 en1 dv e1 hq1 => ?_
  refine rb.data ok1 en1 e1 hq1 back_rv fun d2 w2 u ok2 t2 en2 du e2 hq2 => ?_
  obtain ⟨b', h1, h2⟩ := bnd_lft e2
  cases h2
  exact co_s o w2 v u d d2 b' Q ok2 (dp_mono t2.ext dv) du h1 (hq2.done rfl ok2 (Wd.To.refl w2) (.bl b'))
theorem ref_chn {W : WX} {o p : Co} {a b c : E} {ta tb tc : TE} (ra : Ref C W (RvR C) ta (ev G a)) (rb : Ref C W (RvR C) tb (ev G b)) (rc : Ref C W (RvR C) tc (ev G c)) : Ref C W (RvR C) (tChain (coR C.K o) (coR C.K p) ta tb tc) (ev G (.chn o p a b c)) := fun w env σ out Q ok en e hq => by
  refine ra.data ok en e hq back_rv fun d w1 v ok1 t1 en1 dv e1 hq1 => ?_
  refine rb.data ok1 en1 e1 hq1 back_rv fun d2 w2 u ok2 t2 en2 du e2 hq2 => ?_
  obtain ⟨b', h1, h2⟩ := bnd_lft e2
  refine co_s o w2 v u d d2 b' _ ok2 (dp_mono t2.ext dv) du h1 ⟨b', rfl, ?_⟩
  cases b' with
  | false =>
    rw [if_neg Bool.false_ne_true] at h2 ⊢
    cases h2
    exact hq2.done rfl ok2 (Wd.To.refl w2) (.bl false)
  | true =>
    rw [if_pos rfl] at h2 ⊢
    refine rc.data ok2 en2 h2 hq2 back_rv fun d3 w3 z ok3 t3 en3 dz e3 hq3 => ?_
    obtain ⟨b3, h3, h4⟩ := bnd_lft e3
    cases h4
    exact co_s p w3 u z d2 d3 b3 Q ok3 (dp_mono t3.ext du) dz h3 (hq3.done rfl ok3 (Wd.To.refl w3) (.bl b3))
theorem se_chn (o p : Co) {a b c : E} (ha : SE C P G N sc x (ev G a)) (hb : SE C P G N sc y (ev G b)) (hc : SE C P G N sc z (ev G c)) (hm : lastMarks [coC o, coC p] [y, z] = false) : SE C P G N sc (.Compare x [coC o, coC p] [y, z] pos) (ev G (.chn o p a b c)) := fun W => by
  obtain ⟨ta, ra, pa⟩ := ha W
  obtain ⟨tb, rb, pb⟩ := hb W
  obtain ⟨tc, rc, pc⟩ := hc W
  exact ⟨tChain (coR C.K o) (coR C.K p) ta tb tc, ref_chn ra rb rc, fun X hX => pe_chain (by rw [← hX.1.K]; exact co_op hX.1.un o) (by rw [← hX.1.K]; exact co_op hX.1.un p) (pa X hX) (pb X hX) (pc X hX) hm⟩
theorem st_chn (o p : Co) {a b c : E} (ha : SE C P G N sc x (ev G a)) (hb : SE C P G N sc y (ev G b)) (hc : SE C P G N sc z (ev G c)) (hm : lastMarks [coC o, coC p] [y, z] = false) : ST C P G N sc (.Compare x [coC o, coC p] [y, z] pos) (tst (ev G (.chn o p a b c))) := fun W => by
  obtain ⟨ta, ra, pa⟩ := ha W
  obtain ⟨tb, rb, pb⟩ := hb W
  obtain ⟨tc, rc, pc⟩ := hc W
  exact ⟨tTest (tChain (coR C.K o) (coR C.K p) ta tb tc), ref_test (ref_chn ra rb rc), fun X hX => pt_chain (by rw [← hX.1.K]; exact co_op hX.1.un o) (by rw [← hX.1.K]; exact co_op hX.1.un p) (pa X hX) (pb X hX) (pc X hX) hm⟩
theorem non_dp {K : PySem.W.Frag} {F : Hp} {v : V} {d : D} (h : Dp K F v d) : decide (v = V.non) = isNon d := by
  cases h <;> rfl
theorem se_isN {a : E} {j : Nat} {p2 : Pos} (ha : SE C P G N sc x (ev G a)) : SE C P G N sc (.Compare x [.Is] [.Constant .none j p2] pos) (ev G (.isN a)) := fun W => by
  obtain ⟨ta, ra, pa⟩ := ha W
  refine ⟨tIsN ta, fun w env σ o Q ok en e hq => ?_, fun X hX => pe_cmp (pc_isN (pa X hX)) rfl⟩
  refine ra.data ok en e hq back_rv fun d w1 v ok1 t1 en1 dv e1 hq1 => ?_
  cases e1
  rw [non_dp dv]
  exact hq1.done rfl ok1 (Wd.To.refl w1) (.bl _)
theorem st_isN {a : E} {j : Nat} {p2 : Pos} (ha : SE C P G N sc x (ev G a)) : ST C P G N sc (.Compare x [.Is] [.Constant .none j p2] pos) (tst (ev G (.isN a))) := fun W => by
  obtain ⟨ta, ra, pa⟩ := ha W
  refine ⟨tB (tIsN ta), ?_, fun X hX => pt_cmp (pc_isN (pa X hX)) rfl⟩
  refine ref_test fun w env σ o Q ok en e hq => ?_
  refine ra.data ok en e hq back_rv fun d w1 v ok1 t1 en1 dv e1 hq1 => ?_
  cases e1
  rw [non_dp dv]
  exact hq1.done rfl ok1 (Wd.To.refl w1) (.bl _)
theorem nnon_dp {K : PySem.W.Frag} {F : Hp} {v : V} {d : D} (h : Dp K F v d) : (!decide (v = V.non)) = (!isNon d) := by
  cases h <;> rfl
theorem se_notN {a : E} {j : Nat} {p2 : Pos} (ha : SE C P G N sc x (ev G a)) : SE C P G N sc (.Compare x [.IsNot] [.Constant .none j p2] pos) (ev G (.notN a)) := fun W => by
  obtain ⟨ta, ra, pa⟩ := ha W
  refine ⟨tNotN ta, fun w env σ o Q ok en e hq => ?_, fun X hX => pe_cmp (pc_notN (pa X hX)) rfl⟩
  refine ra.data ok en e hq back_rv fun d w1 v ok1 t1 en1 dv e1 hq1 => ?_
  cases e1
  rw [nnon_dp dv]
  exact hq1.done rfl ok1 (Wd.To.refl w1) (.bl _)
theorem st_notN {a : E} {j : Nat} {p2 : Pos} (ha : SE C P G N sc x (ev G a)) : ST C P G N sc (.Compare x [.IsNot] [.Constant .none j p2] pos) (tst (ev G (.notN a))) := fun W => by
  obtain ⟨ta, ra, pa⟩ := ha W
  refine ⟨tB (tNotN ta), ?_, fun X hX => pt_cmp (pc_notN (pa X hX)) rfl⟩
  refine ref_test fun w env σ o Q ok en e hq => ?_
  refine ra.data ok en e hq back_rv fun d w1 v ok1 t1 en1 dv e1 hq1 => ?_
  cases e1
  rw [nnon_dp dv]
  exact hq1.done rfl ok1 (Wd.To.refl w1) (.bl _)
/-- an expression whose test is its value's -/
def plainT : Expr → Bool
  | .UnaryOp .Not _ _ => false
  | .BoolOp _ _ _ => false
  | .IfExp _ _ _ _ => false
  | .Compare _ _ _ _ => false
  | _ => true
theorem plainT_ok {e : Expr} (h : plainT e = true) (env : PySem.Env) : ∀ whole, isTrue e env whole = (do let v ← whole; standAt e.pos; holding [v] (truthy v)) := by
  intro whole
  cases e with
  | UnaryOp op a p => cases op <;> first | rfl | cases h
  | BoolOp _ _ _ => cases h
  | IfExp _ _ _ _ => cases h
  | Compare _ _ _ _ => cases h
  | _ => rfl
theorem st_val {f : Env → M RV} (h : SE C P G N sc x f) (hp : plainT x = true) : ST C P G N sc x (tst f) := fun W => by
  obtain ⟨t, r, p⟩ := h W
  exact ⟨tB t, ref_test r, fun X hX => pt_val (p X hX) (plainT_ok hp _)⟩
end
end G

-- GF
set_option maxRecDepth 100000
set_option maxHeartbeats 2000000
namespace G
open PySem L2 LamX PyProof.Rows
section
variable {C : Cxt} {P : Pr} {G : Gam} {N : List Str} {sc : Scope} {x y z : Expr} {pos : Pos}
theorem se_neg {a : E} (ha : SE C P G N sc x (ev G a)) : SE C P G N sc (.UnaryOp .USub x pos) (ev G (.neg a)) := fun W => by
  obtain ⟨ta, ra, pa⟩ := ha W
  refine ⟨tUn _ ta, fun w env σ o Q ok en e hq => ?_, fun X hX => pe_un un_neg (pa X hX)⟩
  refine ra.data ok en e hq back_rv fun d w1 v ok1 t1 en1 dv e1 hq1 => ?_
  obtain ⟨i, h1, e2⟩ := bnd_lft e1
  cases e2
  cases dv <;> simp only [toI] at h1 <;> cases h1
  exact ⟨_, rfl, hq1.done rfl ok1 (Wd.To.refl w1) (.int _)⟩
/-- True or False -/
def BR (_ _ : Wd) (v : V) (b : Bool) : Prop := v = .bl b
theorem back_br {C : Cxt} : Back C BR := fun _ _ _ _ _ _ _ h => h
theorem ref_br {W : WX} {t : TE} {f : Env → M RV} (h : Ref C W (RvR C) t f) : Ref C W BR t (tst f) := fun w env σ o Q ok en e hq =>
  h.data ok en e hq back_br fun d w1 v ok1 t1 en1 dv e1 hq1 => by
    obtain ⟨b, h1, h2⟩ := lft_some e1
    subst h2
    exact hq1.done rfl ok1 (Wd.To.refl w1) (toB_dp dv h1)
theorem ref_rv {W : WX} {t : TE} {f : Env → M Bool} (h : Ref C W BR t f) : Ref C W (RvR C) t (fun env => bnd (f env) fun b => ret (.d (.bool b))) := fun w env σ o Q ok en e hq =>
  h.bind ok en e hq back_rv fun b w1 v ok1 t1 en1 dv e1 hq1 => by
    cases e1
    have dv : v = .bl b := dv
    subst dv
    exact hq1.done rfl ok1 (Wd.To.refl w1) (.bl b)
theorem se_not {a : E} (ha : SE C P G N sc x (ev G a)) : SE C P G N sc (.UnaryOp .Not x pos) (ev G (.not a)) := fun W => by
  obtain ⟨ta, ra, pa⟩ := ha W
  refine ⟨tNotV ta, fun w env σ o Q ok en e hq => ?_, fun X hX => pe_not (pa X hX)⟩
  refine ra.data ok en e hq back_rv fun d w1 v ok1 t1 en1 dv e1 hq1 => ?_
  obtain ⟨b, h1, e2⟩ := bnd_lft e1
  cases e2
  have hv := toB_dp dv h1
  subst hv
  exact ⟨b, rfl, hq1.done rfl ok1 (Wd.To.refl w1) (.bl _)⟩
theorem tst_not {a : E} {env : Env} {S : Sto} {o : Out Bool} (h : tst (ev G (.not a)) env S = some o) : bnd (tst (ev G a) env) (fun b => ret (!b)) S = some o := by
  simp only [tst, ev, bnd] at h ⊢
  cases q : ev G a env S with
  | none => simp only [q] at h; cases h
  | some r =>
    cases r with
    | ex c p S1 => simp only [q] at h ⊢; exact h
    | ok v S1 =>
      simp only [q] at h ⊢
      cases q2 : v.toD with
      | none => simp only [q2, lft, fail] at h; cases h
      | some d =>
        simp only [q2] at h ⊢
        cases d <;> first | exact h | cases h
theorem st_not {a : E} (ha : ST C P G N sc x (tst (ev G a))) : ST C P G N sc (.UnaryOp .Not x pos) (tst (ev G (.not a))) := fun W => by
  obtain ⟨ta, ra, pa⟩ := ha W
  refine ⟨tNot ta, fun w env σ o Q ok en e hq => ?_, fun X hX => pt_not (pa X hX)⟩
  refine ra.bind ok en (tst_not e) hq back_eq fun b w1 v ok1 t1 en1 dv e1 hq1 => ?_
  cases e1
  have dv : v = b := dv
  subst dv
  exact hq1.done rfl ok1 (Wd.To.refl w1) rfl
/-! ### and, or -/
def bopC (k : Bool) : BoolOp := if k then .And else .Or
theorem evB_one (k : Bool) (e : E) (env : Env) : evB G k (.cons e .nil) env = fun S => tst (ev G e) env S := by
  funext S
  simp only [evB, tst, bnd]
  cases ev G e env S with
  | none => rfl
  | some r =>
    cases r with
    | ex c p S1 => rfl
    | ok v S1 =>
      simp only
      cases v.toD with
      | none => rfl
      | some d => cases d <;> rfl
theorem evB_cons (k : Bool) (e e2 : E) (es : Es) (env : Env) : evB G k (.cons e (.cons e2 es)) env = bnd (tst (ev G e) env) fun b => if b = k then evB G k (.cons e2 es) env else ret b := by
  funext S
  simp only [evB, tst, bnd]
  cases ev G e env S with
  | none => rfl
  | some r =>
    cases r with
    | ex c p S1 => rfl
    | ok v S1 =>
      simp only
      cases v.toD with
      | none => rfl
      | some d => cases d <;> rfl
def SB (C : Cxt) (P : Pr) (G : Gam) (N : List Str) (sc : Scope) (k : Bool) (xs : List Expr) (pos : Pos) (f : Env → M Bool) : Prop := ∀ W, ∃ t : TE, Ref C W BR t f ∧ ∀ X, At C P G N sc W X → PE X (.BoolOp (bopC k) xs pos) t
theorem sb_one {k : Bool} {e : E} (h : SE C P G N sc x (ev G e)) : SB C P G N sc k [x] pos (evB G k (.cons e .nil)) := fun W => by
  obtain ⟨t, r, p⟩ := h W
  refine ⟨t, ?_, fun X hX => pe_one (p X hX)⟩
  intro w env σ o Q ok en e1 hq
  rw [evB_one] at e1
  exact ref_br r w env σ o Q ok en e1 hq
theorem sb_cons {k : Bool} {e e2 : E} {es : Es} {xs : List Expr} (h : SE C P G N sc x (ev G e)) (hs : SB C P G N sc k (y :: xs) pos (evB G k (.cons e2 es))) : SB C P G N sc k (x :: y :: xs) pos (evB G k (.cons e (.cons e2 es))) := fun W => by
  obtain ⟨t, r, p⟩ := h W
  obtain ⟨ts, rs, ps⟩ := hs W
  cases k with
  | true =>
    refine ⟨tAndV t ts, fun w env σ o Q ok en e1 hq => ?_, fun X hX => pe_and (p X hX) (ps X hX)⟩
    rw [evB_cons] at e1
    refine (ref_br r).bind ok en e1 hq back_br fun b w1 v ok1 t1 en1 dv e2 hq1 => ⟨b, dv, ?_⟩
    cases b with
    | true =>
      rw [if_pos rfl] at e2 ⊢
      exact rs w1 env σ o Q ok1 en1 e2 hq1
    | false =>
      rw [if_neg Bool.false_ne_true] at e2 ⊢
      cases e2
      exact hq1.done rfl ok1 (Wd.To.refl w1) rfl
  | false =>
    refine ⟨tOrV t ts, fun w env σ o Q ok en e1 hq => ?_, fun X hX => pe_or (p X hX) (ps X hX)⟩
    rw [evB_cons] at e1
    refine (ref_br r).bind ok en e1 hq back_br fun b w1 v ok1 t1 en1 dv e2 hq1 => ⟨b, dv, ?_⟩
    cases b with
    | true =>
      rw [if_neg (fun z => by cases z)] at e2
      rw [if_pos rfl]
      cases e2
      exact hq1.done rfl ok1 (Wd.To.refl w1) rfl
    | false =>
      rw [if_pos rfl] at e2
      rw [if_neg Bool.false_ne_true]
      exact rs w1 env σ o Q ok1 en1 e2 hq1
theorem se_bool {k : Bool} {es : Es} {xs : List Expr} (h : SB C P G N sc k xs pos (evB G k es)) : SE C P G N sc (.BoolOp (bopC k) xs pos) (ev G (.bool k es)) := fun W => by
  obtain ⟨t, r, p⟩ := h W
  exact ⟨t, ref_rv r, p⟩
/-- as a test -/
def SBT (C : Cxt) (P : Pr) (G : Gam) (N : List Str) (sc : Scope) (k : Bool) (xs : List Expr) (pos : Pos) (f : Env → M Bool) : Prop := ∀ W, ∃ t : TT, Ref C W EqR t f ∧ ∀ X, At C P G N sc W X → PW X (.BoolOp (bopC k) xs pos) t
theorem sbt_one {k : Bool} {e : E} (h : ST C P G N sc x (tst (ev G e))) : SBT C P G N sc k [x] pos (evB G k (.cons e .nil)) := fun W => by
  obtain ⟨t, r, p⟩ := h W
  refine ⟨t, ?_, fun X hX => ?_⟩
  · intro w env σ o Q ok en e1 hq
    rw [evB_one] at e1
    exact r w env σ o Q ok en e1 hq
  · cases k with
    | true => exact pw_and1 (p X hX)
    | false => exact pw_or1 (p X hX)
theorem sbt_cons {k : Bool} {e e2 : E} {es : Es} {xs : List Expr} (h : ST C P G N sc x (tst (ev G e))) (hs : SBT C P G N sc k (y :: xs) pos (evB G k (.cons e2 es))) : SBT C P G N sc k (x :: y :: xs) pos (evB G k (.cons e (.cons e2 es))) := fun W => by
  obtain ⟨t, r, p⟩ := h W
  obtain ⟨ts, rs, ps⟩ := hs W
  cases k with
  | true =>
    refine ⟨tAnd t ts, fun w env σ o Q ok en e1 hq => ?_, fun X hX => pw_and (p X hX) (ps X hX)⟩
    rw [evB_cons] at e1
    refine r.bind ok en e1 hq back_eq fun b w1 v ok1 t1 en1 dv e2 hq1 => ?_
    have dv : v = b := dv
    subst dv
    cases v with
    | true =>
      rw [if_pos rfl] at e2 ⊢
      exact rs w1 env σ o Q ok1 en1 e2 hq1
    | false =>
      rw [if_neg Bool.false_ne_true] at e2 ⊢
      cases e2
      exact hq1.done rfl ok1 (Wd.To.refl w1) rfl
  | false =>
    refine ⟨tOr t ts, fun w env σ o Q ok en e1 hq => ?_, fun X hX => pw_or (p X hX) (ps X hX)⟩
    rw [evB_cons] at e1
    refine r.bind ok en e1 hq back_eq fun b w1 v ok1 t1 en1 dv e2 hq1 => ?_
    have dv : v = b := dv
    subst dv
    cases v with
    | true =>
      rw [if_neg (fun z => by cases z)] at e2
      rw [if_pos rfl]
      cases e2
      exact hq1.done rfl ok1 (Wd.To.refl w1) rfl
    | false =>
      rw [if_pos rfl] at e2
      rw [if_neg Bool.false_ne_true]
      exact rs w1 env σ o Q ok1 en1 e2 hq1
theorem tst_bool {k : Bool} {es : Es} {env : Env} {S : Sto} {o : Out Bool} (h : tst (ev G (.bool k es)) env S = some o) : evB G k es env S = some o := by
  simp only [tst, ev, bnd] at h
  cases q : evB G k es env S with
  | none => simp only [q] at h; cases h
  | some r =>
    cases r with
    | ex c p S1 => simp only [q] at h; exact h
    | ok b S1 => simp only [q, ret, RV.toD, RV.d, lft, toB] at h; exact h
theorem st_bool {k : Bool} {es : Es} {xs : List Expr} (h : SBT C P G N sc k xs pos (evB G k es)) : ST C P G N sc (.BoolOp (bopC k) xs pos) (tst (ev G (.bool k es))) := fun W => by
  obtain ⟨t, r, p⟩ := h W
  exact ⟨t, fun w env σ o Q ok en e hq => r w env σ o Q ok en (tst_bool e) hq, fun X hX => (p X hX).pt⟩
/-! ### a if c else b -/
theorem se_ite {a b c : E} (hc : ST C P G N sc z (tst (ev G c))) (ha : SE C P G N sc x (ev G a)) (hb : SE C P G N sc y (ev G b)) : SE C P G N sc (.IfExp z x y pos) (ev G (.ite c a b)) := fun W => by
  obtain ⟨tc, rc, pc⟩ := hc W
  obtain ⟨ta, ra, pa⟩ := ha W
  obtain ⟨tb, rb, pb⟩ := hb W
  refine ⟨tIf tc ta tb, fun w env σ o Q ok en e hq => ?_, fun X hX => pe_ifExp (pc X hX) (pa X hX) (pb X hX)⟩
  have e' : bnd (tst (ev G c) env) (fun r => if r = true then ev G a env else ev G b env) w.S = some o := by
    rw [← e]
    simp only [tst, ev, bnd]
    cases ev G c env w.S with
    | none => rfl
    | some r =>
      cases r with
      | ex _ _ _ => rfl
      | ok v S1 =>
        simp only
        cases v.toD with
        | none => rfl
        | some d => cases d <;> rfl
  refine rc.bind ok en e' hq back_rv fun r w1 v ok1 t1 en1 dv e1 hq1 => ?_
  have dv : v = r := dv
  subst dv
  cases v with
  | true =>
    rw [if_pos rfl] at e1 ⊢
    exact ra w1 env σ o Q ok1 en1 e1 hq1
  | false =>
    rw [if_neg Bool.false_ne_true] at e1 ⊢
    exact rb w1 env σ o Q ok1 en1 e1 hq1
/-! ### places, slices -/
theorem plain_ix {b : Expr} (h : isSlice b = false) : PlainIx b := by
  intro o i
  cases b <;> first | rfl | cases h
theorem se_ix {a b : E} (ha : SE C P G N sc x (ev G a)) (hb : SE C P G N sc y (ev G b)) (hs : isSlice y = false) : SE C P G N sc (.Subscript x y pos) (ev G (.ix a b)) := fun W => by
  obtain ⟨ta, ra, pa⟩ := ha W
  obtain ⟨tb, rb, pb⟩ := hb W
  refine ⟨tOp (rIx C.K) ta tb, fun w env σ o Q ok en e hq => ?_, fun X hX => pe_ix (by rw [← hX.1.K]; exact ix_seq) (pa X hX) (pb X hX) (plain_ix hs)⟩
  refine ra.data ok en e hq back_rv fun d w1 v ok1 t1 en1 dv e1 hq1 => ?_
  refine rb.data ok1 en1 e1 hq1 back_rv fun d2 w2 u ok2 t2 en2 du e2 hq2 => ?_
  obtain ⟨f, h1, e3⟩ := bnd_lft e2
  cases e3
  exact s_ix ok2 (dp_mono t2.ext dv) du h1 fun z hz => hq2.done rfl ok2 (Wd.To.refl w2) hz
theorem se_ixl {i : Nat} {b : E} {n : Str} {p2 : Pos} (hN : N[i]? = some n) (hv : vis sc n = true) (ho : nmOk n = true) (hb : SE C P G N sc y (ev G b)) (hs : isSlice y = false) : SE C P G N sc (.Subscript (.Name n p2) y pos) (ev G (.ixl i b)) := fun W => by
  obtain ⟨tb, rb, pb⟩ := hb W
  simp only [nmOk, Bool.and_eq_true, Bool.not_eq_true'] at ho
  refine ⟨tOp (rIx C.K) (tVar i) tb, fun w env σ o Q ok en e hq => ?_, fun X hX => pe_ix (by rw [← hX.1.K]; exact ix_seq) (pe_var (by rw [hX.2.1]; exact hN) (by rw [hX.2.2]; exact vis_ok hv) ho.1 ho.2) (pb X hX) (plain_ix hs)⟩
  simp only [ev] at e
  obtain ⟨l, h0, e1⟩ := bnd_lft e
  unfold getL at h0
  split at h0
  · rename_i l' hl
    cases h0
    obtain ⟨v, e0, a, h1, rfl⟩ := en.at_ i _ hl
    refine ⟨_, e0, ?_⟩
    refine rb.data ok en e1 hq back_rv fun d w1 u ok1 t1 en1 du e2 hq1 => ?_
    obtain ⟨k, h2, e3⟩ := bnd_lft e2
    unfold atS at e3
    split at e3
    · rename_i xs hS
      obtain ⟨nf, nl, vs, hv2, dv⟩ := ok1.obj l a _ (t1.get h1) hS
      cases q : atI xs k with
      | none => rw [q] at e3; cases e3
      | some d' =>
        rw [q] at e3
        cases e3
        obtain ⟨z, g1, g2⟩ := at_of dv q
        have hk : u = .int k := by
          cases du <;> simp only [toI] at h2 <;> cases h2
          rfl
        exact .inl ⟨a, vs, k, z, rfl, hk, .inl (.inl hv2), g1, hq1.done rfl ok1 (Wd.To.refl w1) g2⟩
    · cases e3
  · cases h0
theorem so_no : SO C P G N sc none (evO G .no) := fun W => ⟨tNoPart, fun w env σ o Q ok en e hq => by
  cases e
  exact hq.done rfl ok (Wd.To.refl w) rfl, fun X _ => po_none⟩
theorem so_so {e : E} (h : SE C P G N sc x (ev G e)) : SO C P G N sc (some x) (evO G (.so e)) := fun W => by
  obtain ⟨t, r, p⟩ := h W
  refine ⟨tPart t, fun w env σ o Q ok en e hq => ?_, fun X hX => po_some (p X hX)⟩
  refine r.data ok en e hq back_eq fun d w1 v ok1 t1 en1 dv e1 hq1 => ?_
  obtain ⟨i, h1, e2⟩ := bnd_lft e1
  cases e2
  cases dv <;> simp only [toI] at h1 <;> cases h1
  exact ⟨_, rfl, hq1.done rfl ok1 (Wd.To.refl w1) rfl⟩
theorem se_sl {a : E} {lo hi : Oe} {l u : Option Expr} {p2 : Pos} (ha : SE C P G N sc x (ev G a)) (hl : SO C P G N sc l (evO G lo)) (hu : SO C P G N sc u (evO G hi)) : SE C P G N sc (.Subscript x (.Slice l u none p2) pos) (ev G (.sl a lo hi)) := fun W => by
  obtain ⟨ta, ra, pa⟩ := ha W
  obtain ⟨tl, rl, pl⟩ := hl W
  obtain ⟨th, rh, ph⟩ := hu W
  refine ⟨tSl (rSlLT C.K) ta tl th, fun w env σ o Q ok en e hq => ?_, fun X hX => pe_slice (by rw [← hX.1.K]; exact sl_LT) (pa X hX) (pl X hX) (ph X hX)⟩
  refine ra.data ok en e hq back_rv fun d w1 v ok1 t1 en1 dv e1 hq1 => ?_
  refine rl.bind ok1 en1 e1 hq1 back_rv fun lo' w2 lv ok2 t2 en2 dl e2 hq2 => ?_
  refine rh.bind ok2 en2 e2 hq2 back_rv fun hi' w3 hv ok3 t3 en3 dh e3 hq3 => ?_
  have dl : lv = lo' := dl
  have dh : hv = hi' := dh
  subst dl dh
  obtain ⟨rv, h1, h2⟩ := lft_some e3
  subst h2
  exact s_sl ok3 (dp_mono (t2.trans t3 ok2).ext dv) h1 fun w' z a b c e => hq3 w' z a b c e
end
end G

-- GH
set_option maxRecDepth 100000
set_option maxHeartbeats 2000000
namespace G
open PySem L2 LamX PyProof.Rows
section
variable {C : Cxt} {P : Pr} {G : Gam} {N : List Str} {sc : Scope} {x y z : Expr} {pos : Pos}
/-! ### built-ins by values -/
theorem dp_all1 {K : PySem.W.Frag} {F : Hp} {d : D} {vs : List V} (h : DpAll K F vs [d]) : ∃ v, vs = [v] ∧ Dp K F v d := by
  cases h with
  | cons h1 h2 =>
    cases h2
    exact ⟨_, rfl, h1⟩
theorem dp_all2 {K : PySem.W.Frag} {F : Hp} {d e : D} {vs : List V} (h : DpAll K F vs [d, e]) : ∃ v u, vs = [v, u] ∧ Dp K F v d ∧ Dp K F u e := by
  cases h with
  | cons h1 h2 =>
    obtain ⟨u, rfl, h3⟩ := dp_all1 h2
    exact ⟨_, u, rfl, h1, h3⟩
theorem dp_int {K : PySem.W.Frag} {F : Hp} {v : V} {i : Int} (h : Dp K F v (.int i)) : v = .int i := by cases h; rfl
theorem dp_str {K : PySem.W.Frag} {F : Hp} {v : V} {i : Str} (h : Dp K F v (.str i)) : v = .str i := by cases h; rfl
theorem dp_bl {K : PySem.W.Frag} {F : Hp} {v : V} {i : Bool} (h : Dp K F v (.bool i)) : v = .bl i := by cases h; rfl
theorem dp_lst {K : PySem.W.Frag} {F : Hp} {v : V} {ds : List D} (h : Dp K F v (.list ds)) : ∃ a vs, v = .ref a ∧ SqL K F a vs ∧ DpAll K F vs ds := by
  cases h with
  | lst h1 h2 => exact ⟨_, _, rfl, h1, h2⟩
theorem dp_tup {K : PySem.W.Frag} {F : Hp} {v : V} {ds : List D} (h : Dp K F v (.tuple ds)) : ∃ a vs, v = .ref a ∧ SqT K F a vs ∧ DpAll K F vs ds := by
  cases h with
  | tup h1 h2 => exact ⟨_, _, rfl, h1, h2⟩
theorem ints_dp {K : PySem.W.Frag} {F : Hp} : ∀ {ds : List D} {ns : List Int} {vs : List V}, DpAll K F vs ds → intsOf ds = some ns → vs = ns.map V.int
  | [], ns, vs, h, e => by
    cases h
    cases e
    rfl
  | d :: ds, ns, vs, h, e => by
    cases h with
    | cons h1 h2 =>
      cases d <;> simp only [intsOf] at e <;> try cases e
      cases q : intsOf ds with
      | none => rw [q] at e; cases e
      | some ms =>
        rw [q] at e
        cases e
        rw [dp_int h1, ints_dp h2 q]
        rfl
theorem strs_dp {K : PySem.W.Frag} {F : Hp} : ∀ {ds : List D} {ns : List Str} {vs : List V}, DpAll K F vs ds → strsOf ds = some ns → vs = ns.map V.str
  | [], ns, vs, h, e => by
    cases h
    cases e
    rfl
  | d :: ds, ns, vs, h, e => by
    cases h with
    | cons h1 h2 =>
      cases d <;> simp only [strsOf] at e <;> try cases e
      cases q : strsOf ds with
      | none => rw [q] at e; cases e
      | some ms =>
        rw [q] at e
        cases e
        rw [dp_str h1, strs_dp h2 q]
        rfl
theorem strs_all {K : PySem.W.Frag} {F : Hp} : ∀ (xs : List Str), DpAll K F (xs.map V.str) (xs.map PyData.str)
  | [] => .nil
  | x :: xs => .cons (.str x) (strs_all xs)
theorem foldl_min (xs : List Int) : ∀ a : Int, (∀ y ∈ a :: xs, xs.foldl (fun a b => if b < a then b else a) a ≤ y) ∧ xs.foldl (fun a b => if b < a then b else a) a ∈ a :: xs := by
  induction xs with
  | nil => intro a; exact ⟨fun y hy => by
      have e : y = a := by simpa using hy
      rw [e]
      exact Int.le_refl _, by simp⟩
  | cons b xs ih =>
    intro a
    rw [List.foldl_cons]
    by_cases hb : b < a
    · rw [if_pos hb]
      obtain ⟨h1, h2⟩ := ih b
      have h3 := h1 b (by simp)
      refine ⟨fun y hy => ?_, List.mem_cons_of_mem _ h2⟩
      rcases List.mem_cons.mp hy with e | hy
      · rw [e]
        omega
      · exact h1 y hy
    · rw [if_neg hb]
      obtain ⟨h1, h2⟩ := ih a
      have h3 := h1 a (by simp)
      refine ⟨fun y hy => ?_, ?_⟩
      · rcases List.mem_cons.mp hy with e | hy
        · rw [e]
          exact h3
        · rcases List.mem_cons.mp hy with e | hy
          · rw [e]
            omega
          · exact h1 y (List.mem_cons_of_mem _ hy)
      · rcases List.mem_cons.mp h2 with e | h2
        · rw [e]
          simp
        · exact List.mem_cons_of_mem _ (List.mem_cons_of_mem _ h2)
theorem minI_is {ns : List Int} {m : Int} (h : minI ns = some m) : 0 < ns.length ∧ ∀ k, k ∈ ns → (∀ y, y ∈ ns → k ≤ y) → k = m := by
  cases ns with
  | nil => cases h
  | cons a xs =>
    cases h
    obtain ⟨h1, h2⟩ := foldl_min xs a
    exact ⟨by simp, fun k hk hy => by have a1 := h1 k hk; have a2 := hy _ h2; omega⟩
theorem ins_perm (a : Int) : ∀ l : List Int, (ins a l).Perm (a :: l)
  | [] => .refl _
  | b :: r => by
    unfold ins
    split
    · exact .refl _
    · exact ((ins_perm a r).cons b).trans (.swap a b r)
theorem isort_perm : ∀ l : List Int, (isort l).Perm l
  | [] => .refl _
  | a :: r => (ins_perm a _).trans ((isort_perm r).cons a)
theorem ins_sorted (a : Int) : ∀ l : List Int, l.Pairwise (· ≤ ·) → (ins a l).Pairwise (· ≤ ·)
  | [], _ => by simp [ins]
  | b :: r, h => by
    obtain ⟨h1, h2⟩ := List.pairwise_cons.mp h
    unfold ins
    split
    · rename_i hab
      refine List.pairwise_cons.mpr ⟨fun c hc => ?_, h⟩
      rcases List.mem_cons.mp hc with e | hc
      · rw [e]; exact hab
      · exact Int.le_trans hab (h1 c hc)
    · rename_i hab
      refine List.pairwise_cons.mpr ⟨fun c hc => ?_, ins_sorted a r h2⟩
      rcases List.mem_cons.mp ((ins_perm a r).mem_iff.mp hc) with e | hc
      · rw [e]; omega
      · exact h1 c hc
theorem isort_sorted : ∀ l : List Int, (isort l).Pairwise (· ≤ ·)
  | [] => .nil
  | a :: r => ins_sorted a _ (isort_sorted r)
theorem sort_uniq : ∀ {l m : List Int}, l.Perm m → l.Pairwise (· ≤ ·) → m.Pairwise (· ≤ ·) → l = m
  | [], m, p, _, _ => p.nil_eq
  | a :: l, m, p, hl, hm => by
    cases m with
    | nil => exact absurd p.symm.nil_eq (by simp)
    | cons b m =>
      obtain ⟨h1, h2⟩ := List.pairwise_cons.mp hl
      obtain ⟨h3, h4⟩ := List.pairwise_cons.mp hm
      have e : a = b := by
        have ha : a ∈ b :: m := p.mem_iff.mp List.mem_cons_self
        have hb : b ∈ a :: l := p.mem_iff.mpr List.mem_cons_self
        rcases List.mem_cons.mp ha with e | ha
        · exact e
        · rcases List.mem_cons.mp hb with e | hb
          · exact e.symm
          · have := h3 a ha
            have := h1 b hb
            omega
      subst e
      rw [sort_uniq p.cons_inv h2 h4]
/-- a call by values serves g -/
def CbS (C : Cxt) (r : List V → Hp → VK → Prop) (f : Bf) : Prop := ∀ (w : Wd) (xs : List V) (ds : List D) (v : RV) (Q : VK), w.Ok C → DpAll C.K w.F xs ds → gBf f ds = some v →
  (∀ w' z, w'.S = w.S → w'.Ok C → w.To w' → RvR C w w' z v → Q z w'.H) → r xs w.H Q
def bfR (K : PySem.W.Frag) : Bf → List V → Hp → VK → Prop
  | .len => fun xs H Q => ∃ x n, xs = [x] ∧ LenV K x H n ∧ Q (.int n) H
  | .max2 => fun xs H Q => ∃ i j, xs = [.int i, .int j] ∧ Q (.int (if j > i then j else i)) H
  | .min2 => fun xs H Q => ∃ i j, xs = [.int i, .int j] ∧ Q (.int (if j < i then j else i)) H
  | .minL => rMin K
  | .abs => fun xs H Q => ∃ i, xs = [.int i] ∧ Q (.int (if i < 0 then -i else i)) H
  | .toInt => fun xs H Q => (∃ i, xs = [.int i] ∧ Q (.int i) H) ∨ ∃ k, xs = [.bl k] ∧ Q (.int (if k then 1 else 0)) H
  | .toStr => fun xs H Q => ∃ i, xs = [.int i] ∧ i.natAbs.log2 < 1920 ∧ Q (.str (toString i)) H
  | .toTuple => fun xs H Q => ∃ p ys, xs = [.ref p] ∧ ((SqL K H p ys ∧ ∀ l, H l = none → Q (.ref l) (upd H l (.tup ys))) ∨ (SqT K H p ys ∧ Q (.ref p) H))
  | .sortI => L2.rSorted K
  | .toList => fun xs H Q => ∃ p ys, xs = [.ref p] ∧ (SqL K H p ys ∨ SqT K H p ys) ∧ ∀ l, H l = none → Q (.ref l) (upd H l (.lst ys))
theorem bf_pe {X : Cx} {n : Str} {e : Expr} {es : List Expr} {t : TA} {p2 : Pos} (f : Bf) (hc : X.calm = true) (hg : Gl X n) (hn : n = bfN f) (hm : X.mg n = none) (ha : PA X (e :: es) t) (hs : isStar e = false) (hpl : (backTo pos (starEach es X.env)).any (·.1) = false) :
    PE X (.Call (.Name n p2) (e :: es) [] pos) (tCB (bfR X.K f) t) := by
  subst hn
  cases f with
  | len => exact pe_callB call_len hg hm boot_len ha (by decide) (by decide) (star_ok hs) hpl
  | max2 => exact pe_callB (call_max2 hc) hg hm boot_max ha (by decide) (by decide) (star_ok hs) hpl
  | min2 => exact pe_callB (call_min2 hc) hg hm boot_min ha (by decide) (by decide) (star_ok hs) hpl
  | minL => exact pe_callB (cr_min hc) hg hm boot_min ha (by decide) (by decide) (star_ok hs) hpl
  | abs => exact pe_callB call_abs hg hm boot_abs ha (by decide) (by decide) (star_ok hs) hpl
  | toInt => exact pe_callTy call_int1 hg hm boot_int ha (by decide) (by decide) (star_ok hs) hpl
  | toStr => exact pe_callTy call_str_int hg hm boot_str ha (by decide) (by decide) (star_ok hs) hpl
  | toTuple => exact pe_callTy call_tuple_of hg hm boot_tuple ha (by decide) (by decide) (star_ok hs) hpl
  | sortI => exact pe_callB L2.cr_sorted hg hm boot_sorted ha (by decide) (by decide) (star_ok hs) hpl
  | toList => exact pe_callTy call_list_of hg hm boot_list ha (by decide) (by decide) (star_ok hs) hpl
theorem ints_all {K : PySem.W.Frag} {F : Hp} : ∀ ns : List Int, DpAll K F (ns.map V.int) (ns.map PyData.int)
  | [] => .nil
  | i :: ns => .cons (.int i) (ints_all ns)
theorem sort_s {C : Cxt} {w : Wd} {xs : List V} {ds : List D} {v : RV} {Q : VK} (ok : w.Ok C) (h : DpAll C.K w.F xs ds) (e : gBf .sortI ds = some v) (hq : ∀ w' z, w'.S = w.S → w'.Ok C → w.To w' → RvR C w w' z v → Q z w'.H) : L2.rSorted C.K xs w.H Q := by
  unfold gBf at e
  split at e <;> try cases e
  all_goals rename_i he
  all_goals try (cases he; done)
  obtain ⟨u, rfl, h1⟩ := dp_all1 h
  obtain ⟨a, vs, rfl, s1, s2⟩ := dp_lst h1
  rename_i ys
  cases q : intsOf ys with
  | none => rw [q] at e; cases e
  | some ns =>
    rw [q] at e
    have e : (if ns.length < 64 then some (RV.new ((isort ns).map PyData.int)) else none) = some v := e
    split at e
    · rename_i h64
      cases e
      refine ⟨a, ns, rfl, by rw [← ints_dp s2 q]; exact rd_up ok.sub s1, h64, fun ns' p perm rise hp => ?_⟩
      rw [sort_uniq (perm.trans (isort_perm ns).symm) rise (isort_sorted ns)]
      exact fin_new hq ok (ints_all _) hp
    · cases e
theorem bf_s (f : Bf) : CbS C (bfR C.K f) f := by
  intro w xs ds v Q ok h e hq
  cases f with
  | sortI => exact sort_s ok h e hq
  | len =>
    unfold gBf at e
    split at e <;> try cases e
    all_goals rename_i he
    all_goals try (cases he; done)
    · obtain ⟨u, rfl, h1⟩ := dp_all1 h
      obtain ⟨a, vs, rfl, s1, s2⟩ := dp_lst h1
      rw [← dpAll_len s2] at hq
      exact ⟨_, _, rfl, .inl ⟨vs, rd_up ok.sub s1, rfl⟩, fin_d hq ok (.int _)⟩
    · obtain ⟨u, rfl, h1⟩ := dp_all1 h
      obtain ⟨a, vs, rfl, s1, s2⟩ := dp_tup h1
      rw [← dpAll_len s2] at hq
      exact ⟨_, _, rfl, .inr ⟨vs, rt_up ok.sub s1, rfl⟩, fin_d hq ok (.int _)⟩
    · obtain ⟨u, rfl, h1⟩ := dp_all1 h
      cases dp_str h1
      split at e
      · cases e
        exact ⟨_, _, rfl, ⟨by assumption, rfl⟩, fin_d hq ok (.int _)⟩
      · cases e
  | max2 =>
    unfold gBf at e
    split at e <;> try cases e
    all_goals rename_i he
    all_goals try (cases he; done)
    obtain ⟨u1, u2, rfl, h1, h2⟩ := dp_all2 h
    cases dp_int h1
    cases dp_int h2
    exact ⟨_, _, rfl, fin_d hq ok (.int _)⟩
  | min2 =>
    unfold gBf at e
    split at e <;> try cases e
    all_goals rename_i he
    all_goals try (cases he; done)
    obtain ⟨u1, u2, rfl, h1, h2⟩ := dp_all2 h
    cases dp_int h1
    cases dp_int h2
    exact ⟨_, _, rfl, fin_d hq ok (.int _)⟩
  | minL =>
    unfold gBf at e
    split at e <;> try cases e
    all_goals rename_i he
    all_goals try (cases he; done)
    obtain ⟨u, rfl, h1⟩ := dp_all1 h
    obtain ⟨a, vs, rfl, s1, s2⟩ := dp_lst h1
    rename_i ys
    cases q : intsOf ys with
    | none => rw [q] at e; cases e
    | some ns =>
      rw [q] at e
      have e : (minI ns).map (fun m => RV.d (.int m)) = some v := e
      cases q2 : minI ns with
      | none => rw [q2] at e; cases e
      | some m =>
        rw [q2] at e
        cases e
        obtain ⟨m1, m2⟩ := minI_is q2
        refine ⟨a, ns, rfl, by rw [← ints_dp s2 q]; exact rd_up ok.sub s1, m1, fun k hk hy => ?_⟩
        rw [m2 k hk hy]
        exact fin_d hq ok (.int _)
  | abs =>
    unfold gBf at e
    split at e <;> try cases e
    all_goals rename_i he
    all_goals try (cases he; done)
    obtain ⟨u, rfl, h1⟩ := dp_all1 h
    cases dp_int h1
    exact ⟨_, rfl, fin_d hq ok (.int _)⟩
  | toInt =>
    unfold gBf at e
    split at e <;> try cases e
    all_goals rename_i he
    all_goals try (cases he; done)
    · obtain ⟨u, rfl, h1⟩ := dp_all1 h
      cases dp_int h1
      exact .inl ⟨_, rfl, fin_d hq ok (.int _)⟩
    · obtain ⟨u, rfl, h1⟩ := dp_all1 h
      cases dp_bl h1
      exact .inr ⟨_, rfl, fin_d hq ok (.int _)⟩
  | toStr =>
    unfold gBf at e
    split at e <;> try cases e
    all_goals rename_i he
    all_goals try (cases he; done)
    obtain ⟨u, rfl, h1⟩ := dp_all1 h
    cases dp_int h1
    split at e
    · cases e
      exact ⟨_, rfl, by assumption, fin_d hq ok (.str _)⟩
    · cases e
  | toTuple =>
    unfold gBf at e
    split at e <;> try cases e
    all_goals rename_i he
    all_goals try (cases he; done)
    · obtain ⟨u, rfl, h1⟩ := dp_all1 h
      obtain ⟨a, vs, rfl, s1, s2⟩ := dp_lst h1
      exact ⟨_, _, rfl, .inl ⟨rd_up ok.sub s1, fun p hp => fin_tup hq ok s2 hp⟩⟩
    · obtain ⟨u, rfl, h1⟩ := dp_all1 h
      obtain ⟨a, vs, rfl, s1, s2⟩ := dp_tup h1
      exact ⟨_, _, rfl, .inr ⟨rt_up ok.sub s1, fin_d hq ok (.tup s1 s2)⟩⟩
  | toList =>
    unfold gBf at e
    split at e <;> try cases e
    all_goals rename_i he
    all_goals try (cases he; done)
    · obtain ⟨u, rfl, h1⟩ := dp_all1 h
      obtain ⟨a, vs, rfl, s1, s2⟩ := dp_lst h1
      exact ⟨_, _, rfl, .inl (rd_up ok.sub s1), fun p hp => fin_new hq ok s2 hp⟩
    · obtain ⟨u, rfl, h1⟩ := dp_all1 h
      obtain ⟨a, vs, rfl, s1, s2⟩ := dp_tup h1
      exact ⟨_, _, rfl, .inr (rt_up ok.sub s1), fun p hp => fin_new hq ok s2 hp⟩
theorem star_all : ∀ {es : List Expr} {env : PySem.Env}, es.all (fun e => !isStar e) = true → (backTo pos (starEach es env)).any (·.1) = false
  | [], _, _ => rfl
  | e :: es, env, h => by
    rw [List.all_cons, Bool.and_eq_true, Bool.not_eq_true'] at h
    rw [star_ok h.1]
    show ((false : Bool) || (backTo pos (starEach es env)).any (·.1)) = false
    rw [star_all h.2]
    rfl
theorem se_bf {f : Bf} {n : Str} {e : Expr} {es : List Expr} {fs : Env → M (List D)} {p2 : Pos} (hn : n = bfN f) (hg : glb sc n = true) (ha : SA C P G N sc (e :: es) fs) (hs : (e :: es).all (fun e => !isStar e) = true) :
    SE C P G N sc (.Call (.Name n p2) (e :: es) [] pos) (fun env => bnd (fs env) fun ds => lft (gBf f ds)) := fun W => by
  obtain ⟨t, r, p⟩ := ha W
  rw [List.all_cons, Bool.and_eq_true, Bool.not_eq_true'] at hs
  refine ⟨tCB (bfR C.K f) t, fun w env σ o Q ok en e1 hq => ?_, fun X hX => ?_⟩
  · refine r.bind ok en e1 hq back_rv fun ds w1 vs ok1 t1 en1 dv e2 hq1 => ?_
    obtain ⟨rv, h1, h2⟩ := lft_some e2
    subst h2
    exact bf_s f w1 vs ds rv Q ok1 dv h1 fun w' z a b c d => hq1 w' z a b c d
  · obtain ⟨b1, b2, b3⟩ := glb_ok hg hX.2.2
    rw [← hX.1.K]
    exact bf_pe f hX.1.calm b1 hn (hX.1.bl n (by subst hn; cases f <;> decide)) (p X hX) hs.1 (star_all hs.2)
/-! ### isinstance -/
def tyD : D → String
  | .none => "NoneType" | .bool _ => "bool" | .int _ => "int" | .str _ => "str" | .list _ => "list" | _ => "tuple"
theorem ty_of {K : PySem.W.Frag} {F H : Hp} {v : V} {d : D} (e : Ext F H) (h : Dp K F v d) : TyX K H v (.type (tyD d)) := by
  cases h with
  | non => exact .base .non
  | bl b => exact .base (.bl b)
  | int b => exact .base (.int b)
  | str b => exact .base (.str b)
  | lst s a =>
    rcases sqL_mono e s with (h | ⟨o, h⟩) | ⟨o, its, n, h1, h2, _⟩
    · exact .base (.lst h)
    · exact .base (.frz h)
    · exact .kList h1 h2
  | tup s a =>
    rcases sqT_mono e s with (h | ⟨o, h⟩) | ⟨o, its, n, h1, h2, _⟩
    · exact .base (.tup h)
    · exact .fTuple h
    · exact .kTuple h1 h2
def tyS : Ty → String
  | .int => "int" | .bool => "bool" | .str => "str" | .tuple => "tuple" | .list => "list"
theorem kit_all (K : PySem.W.Frag) (t : Ty) (d : D) (h : ∀ kvs, d ≠ .dict kvs) : PySem.W.kitOne K (.type (tyD d)) (.type (tyS t)) = some (isTy t d) := by
  cases d with
  | dict kvs => exact absurd rfl (h kvs)
  | none =>
    cases t
    · exact kit_ty (a := "NoneType") (b := "int") (r := false) (by decide +kernel)
    · exact kit_ty (a := "NoneType") (b := "bool") (r := false) (by decide +kernel)
    · exact kit_ty (a := "NoneType") (b := "str") (r := false) (by decide +kernel)
    · exact kit_ty (a := "NoneType") (b := "tuple") (r := false) (by decide +kernel)
    · exact kit_ty (a := "NoneType") (b := "list") (r := false) (by decide +kernel)
  | bool _ =>
    cases t
    · exact kit_ty (a := "bool") (b := "int") (r := true) (by decide +kernel)
    · exact kit_ty (a := "bool") (b := "bool") (r := true) (by decide +kernel)
    · exact kit_ty (a := "bool") (b := "str") (r := false) (by decide +kernel)
    · exact kit_ty (a := "bool") (b := "tuple") (r := false) (by decide +kernel)
    · exact kit_ty (a := "bool") (b := "list") (r := false) (by decide +kernel)
  | int _ =>
    cases t
    · exact kit_ty (a := "int") (b := "int") (r := true) (by decide +kernel)
    · exact kit_ty (a := "int") (b := "bool") (r := false) (by decide +kernel)
    · exact kit_ty (a := "int") (b := "str") (r := false) (by decide +kernel)
    · exact kit_ty (a := "int") (b := "tuple") (r := false) (by decide +kernel)
    · exact kit_ty (a := "int") (b := "list") (r := false) (by decide +kernel)
  | str _ =>
    cases t
    · exact kit_ty (a := "str") (b := "int") (r := false) (by decide +kernel)
    · exact kit_ty (a := "str") (b := "bool") (r := false) (by decide +kernel)
    · exact kit_ty (a := "str") (b := "str") (r := true) (by decide +kernel)
    · exact kit_ty (a := "str") (b := "tuple") (r := false) (by decide +kernel)
    · exact kit_ty (a := "str") (b := "list") (r := false) (by decide +kernel)
  | list _ =>
    cases t
    · exact kit_ty (a := "list") (b := "int") (r := false) (by decide +kernel)
    · exact kit_ty (a := "list") (b := "bool") (r := false) (by decide +kernel)
    · exact kit_ty (a := "list") (b := "str") (r := false) (by decide +kernel)
    · exact kit_ty (a := "list") (b := "tuple") (r := false) (by decide +kernel)
    · exact kit_ty (a := "list") (b := "list") (r := true) (by decide +kernel)
  | tuple _ =>
    cases t
    · exact kit_ty (a := "tuple") (b := "int") (r := false) (by decide +kernel)
    · exact kit_ty (a := "tuple") (b := "bool") (r := false) (by decide +kernel)
    · exact kit_ty (a := "tuple") (b := "str") (r := false) (by decide +kernel)
    · exact kit_ty (a := "tuple") (b := "tuple") (r := true) (by decide +kernel)
    · exact kit_ty (a := "tuple") (b := "list") (r := false) (by decide +kernel)
theorem boot_ty (t : Ty) : bootBuiltins (tyN t) = some (.type (tyS t)) := by
  cases t
  · exact boot_int
  · exact boot_bool
  · exact boot_str
  · exact boot_tuple
  · exact boot_list
theorem se_isi {a : E} {t : Ty} {n m : Str} {p2 p3 : Pos} (hn : n = "isinstance") (hg : glb sc n = true) (ha : SE C P G N sc x (ev G a)) (hs : isStar x = false) (hm : m = tyN t) (hgm : glb sc m = true) :
    SE C P G N sc (.Call (.Name n p2) [x, .Name m p3] [] pos) (ev G (.isi a t)) := fun W => by
  obtain ⟨ta, ra, pa⟩ := ha W
  refine ⟨tCB (rIsi C.K) (tCons ta (tCons (tC (.ty (tyS t))) tNil)), fun w env σ o Q ok en e hq => ?_, fun X hX => ?_⟩
  · refine ra.data ok en e hq back_rv fun d w1 v ok1 t1 en1 dv e1 hq1 => ?_
    cases e1
    refine ⟨_, _, _, _, _, rfl, .ty _, ty_of ok1.sub dv, ?_, hq1.done rfl ok1 (Wd.To.refl w1) (.bl _)⟩
    exact kit_all C.K t d (fun kvs z => by subst z; cases dv)
  · obtain ⟨b1, b2, b3⟩ := glb_ok hg hX.2.2
    obtain ⟨c1, c2, c3⟩ := glb_ok hgm hX.2.2
    subst hn hm
    rw [← hX.1.K]
    refine pe_callB call_isi b1 (hX.1.bl _ (by decide)) boot_isinstance (pa_cons (pa X hX) (pa_cons (pe_bltn c1 (hX.1.bl _ (by cases t <;> decide)) (boot_ty t) rfl c3 c2) pa_nil (star_ok rfl)) (star_ok hs)) (by decide) (by decide) (star_ok hs) (star_all (by rfl))
end
end G

-- GI
set_option maxRecDepth 100000
set_option maxHeartbeats 2000000
namespace G
open PySem L2 LamX PyProof.Rows
section
variable {C : Cxt} {P : Pr} {G : Gam} {N : List Str} {sc : Scope} {x y z : Expr} {pos : Pos}
/-! ### methods of texts -/
theorem base_ok {o : Expr} (h : isCall o = false) (a : Str) (env : PySem.Env) : attributeBase o a env (eval o env) = eval o env := by
  cases o with
  | Call f as ks p =>
    cases f with
    | Name n q =>
      cases as with
      | nil =>
        cases ks with
        | nil => cases h
        | cons _ _ => rfl
      | cons _ _ => cases ks <;> rfl
    | _ => cases as <;> cases ks <;> rfl
  | _ => rfl
def mtId : Mt → String
  | .split => "str.split" | .join => "str.join" | .upper => "str.upper" | .index => "str.index"
def mtR (K : PySem.W.Frag) : Mt → V → List V → Hp → VK → Prop
  | .split => fun x xs H Q => ∃ a b, x = .str a ∧ xs = [.str b] ∧ (b.length == 0) = false ∧ a.length + 2 ≤ sizeLine ∧ rNewStrs (Txt.split a b) H Q
  | .join => fun x xs H Q => ∃ a p, ∃ ys : List Str, x = .str a ∧ xs = [.ref p] ∧ (SqL K H p (ys.map V.str) ∨ SqT K H p (ys.map V.str)) ∧ (ys.map (·.length)).sum + ys.length * a.length ≤ 16777216 ∧ Q (.str (Txt.join a ys)) H
  | .index => fun x xs H Q => ∃ a b i rest, x = .str a ∧ xs = [.str b] ∧ Builtin.Str.occurrences a b 0 a.length 1 = i :: rest ∧ Q (.int (i : Nat)) H
  | .upper => fun x xs H Q => ∃ a, x = .str a ∧ xs = [] ∧ a.length ≤ 5592405 ∧ Q (.str (Txt.upper a)) H
theorem mt_pe {X : Cx} {o e : Expr} {es : List Expr} {to : TE} {t : TA} {n : Str} {ap : Pos} (k : Mt) (hn : n = mtN k) (ho : PE X o to) (ha : PA X (e :: es) t) (hb : isCall o = false) (hs : (e :: es).all (fun e => !isStar e) = true) (hl : (e :: es).length ≤ 2) (hp : plainLine ap pos = true) :
    PE X (.Call (.Attribute o n ap) (e :: es) [] pos) (tBM X.K "str" (mtR X.K k) to t) := by
  subst hn
  have h0 : (ap.endLine == pos.line) = true := hp
  have h1 : starEach (e :: es) X.env = (false, eval e X.env) :: starEach es X.env := by
    rw [List.all_cons, Bool.and_eq_true, Bool.not_eq_true'] at hs
    exact star_ok hs.1
  have h2 : (backTo pos (starEach es X.env)).any (·.1) = false := by
    rw [List.all_cons, Bool.and_eq_true] at hs
    exact star_all hs.2
  have h3 : ((backTo pos (starEach (e :: es) X.env)).all (fun x => !x.1) && (backToKw pos (keywordEach [] X.env)).all (fun x => x.1.isSome)
      && decide ((e :: es).length + ([] : List Keyword).length + (if ([] : List Keyword).isEmpty then 0 else 1) < 30)) = true := by
    have a1 : (backTo pos (starEach (e :: es) X.env)).all (fun x => !x.1) = true := by
      have := star_all (pos := pos) (env := X.env) hs
      rw [List.all_eq_not_any_not]
      simp only [Bool.not_not]
      rw [this]
      rfl
    rw [a1]
    have a2 : decide ((e :: es).length + 0 + 0 < 30) = true := decide_eq_true (by omega)
    show (true && true && decide ((e :: es).length + 0 + 0 < 30)) = true
    rw [a2]
    rfl
  cases k with
  | split => exact pe_bm PySem.F.plainAttrs_str PySem.F.slot_str_split PySem.F.type_str_split mt_split ho ha (base_ok hb _ _) h3 h0 h1 h2
  | join => exact pe_bm PySem.F.plainAttrs_str PySem.F.slot_str_join PySem.F.type_str_join mt_join ho ha (base_ok hb _ _) h3 h0 h1 h2
  | index => exact pe_bm PySem.F.plainAttrs_str PySem.F.slot_str_index PySem.F.type_str_index L2.mt_sindex ho ha (base_ok hb _ _) h3 h0 h1 h2
  | upper => exact pe_bm PySem.F.plainAttrs_str PySem.F.slot_str_upper PySem.F.type_str_upper mt_upper ho ha (base_ok hb _ _) h3 h0 h1 h2
theorem mt_pe0 {X : Cx} {o : Expr} {to : TE} {n : Str} {ap : Pos} (k : Mt) (hn : n = mtN k) (ho : PE X o to) (hb : isCall o = false) (hp : plainLine ap pos = true) : PE X (.Call (.Attribute o n ap) [] [] pos) (tBM X.K "str" (mtR X.K k) to tNil) := by
  subst hn
  have h0 : (ap.endLine == pos.line) = true := hp
  cases k with
  | split => exact pe_bm0 PySem.F.plainAttrs_str PySem.F.slot_str_split PySem.F.type_str_split mt_split ho (base_ok hb _ _) h0
  | join => exact pe_bm0 PySem.F.plainAttrs_str PySem.F.slot_str_join PySem.F.type_str_join mt_join ho (base_ok hb _ _) h0
  | index => exact pe_bm0 PySem.F.plainAttrs_str PySem.F.slot_str_index PySem.F.type_str_index L2.mt_sindex ho (base_ok hb _ _) h0
  | upper => exact pe_bm0 PySem.F.plainAttrs_str PySem.F.slot_str_upper PySem.F.type_str_upper mt_upper ho (base_ok hb _ _) h0
theorem mt_s (k : Mt) {w : Wd} {a : Str} {xs : List V} {ds : List D} {v : RV} {Q : VK} (ok : w.Ok C) (h : DpAll C.K w.F xs ds) (e : gMt k a ds = some v)
    (hq : ∀ w' z, w'.S = w.S → w'.Ok C → w.To w' → RvR C w w' z v → Q z w'.H) : mtR C.K k (.str a) xs w.H Q := by
  unfold gMt at e
  split at e
  · obtain ⟨u, rfl, h1⟩ := dp_all1 h
    cases dp_str h1
    split at e
    · rename_i hz
      cases e
      exact ⟨_, _, rfl, rfl, hz.1, hz.2, fun p hp => fin_new hq ok (strs_all _) hp⟩
    · cases e
  · obtain ⟨u, rfl, h1⟩ := dp_all1 h
    obtain ⟨p, vs, rfl, s1, s2⟩ := dp_lst h1
    rename_i xs'
    cases q : strsOf xs' with
    | none => rw [q] at e; cases e
    | some ys =>
      rw [q] at e
      have e : (if (ys.map (·.length)).sum + ys.length * _ ≤ 16777216 then some (RV.d (.str (Txt.join _ ys))) else none) = some v := e
      split at e
      · rename_i hz
        cases e
        exact ⟨_, _, ys, rfl, rfl, .inl (by rw [← strs_dp s2 q]; exact rd_up ok.sub s1), hz, fin_d hq ok (.str _)⟩
      · cases e
  · obtain ⟨u, rfl, h1⟩ := dp_all1 h
    cases dp_str h1
    split at e
    · rename_i i rest hoc
      cases e
      exact ⟨_, _, i, rest, rfl, rfl, hoc, fin_d hq ok (.int _)⟩
    · cases e
  · cases h
    split at e
    · cases e
      exact ⟨_, rfl, rfl, by assumption, fin_d hq ok (.str _)⟩
    · cases e
  · cases e
theorem ref_mt {W : WX} {k : Mt} {a : E} {ta : TE} {t : TA} {fs : Env → M (List D)} (ra : Ref C W (RvR C) ta (ev G a)) (r : Ref C W (DsR C) t fs) :
    Ref C W (RvR C) (tBM C.K "str" (mtR C.K k) ta t) (fun env => bnd (ev G a env) fun v => bnd (lft v.toD) fun d => bnd (lft (toS d)) fun s => bnd (fs env) fun ds => lft (gMt k s ds)) := fun w env σ out Q ok en e hq => by
  refine ra.data ok en e hq back_rv fun d w1 v ok1 t1 en1 dv e1 hq1 => ?_
  obtain ⟨s, h0, e1⟩ := bnd_lft e1
  cases dv <;> simp only [toS] at h0 <;> cases h0
  refine ⟨rfl, r.bind (B := fun xs H2 => mtR C.K k (.str s) xs H2 Q) ok1 en1 e1 hq1 back_rv fun ds w2 vs ok2 t2 en2 dvs e2 hq2 => ?_⟩
  obtain ⟨rv, h1, h2⟩ := lft_some e2
  subst h2
  exact mt_s k ok2 dvs h1 fun w' z a b c d => hq2 w' z a b c d
theorem se_mt {k : Mt} {a : E} {o e : Expr} {n : Str} {ap : Pos} {es : List Expr} {fs : Env → M (List D)} (hn : n = mtN k) (ho : SE C P G N sc o (ev G a)) (ha : SA C P G N sc (e :: es) fs) (hb : isCall o = false) (hs : (e :: es).all (fun e => !isStar e) = true) (hl : (e :: es).length ≤ 2) (hp : plainLine ap pos = true) :
    SE C P G N sc (.Call (.Attribute o n ap) (e :: es) [] pos) (fun env => bnd (ev G a env) fun v => bnd (lft v.toD) fun d => bnd (lft (toS d)) fun s => bnd (fs env) fun ds => lft (gMt k s ds)) := fun W => by
  obtain ⟨ta, ra, pa⟩ := ho W
  obtain ⟨t, r, p⟩ := ha W
  exact ⟨_, ref_mt ra r, fun X hX => by rw [← hX.1.K]; exact mt_pe k hn (pa X hX) (p X hX) hb hs hl hp⟩
theorem se_mt0 {k : Mt} {a : E} {o : Expr} {n : Str} {ap : Pos} (hn : n = mtN k) (ho : SE C P G N sc o (ev G a)) (hb : isCall o = false) (hp : plainLine ap pos = true) : SE C P G N sc (.Call (.Attribute o n ap) [] [] pos) (ev G (.mt k a .nil)) := fun W => by
  obtain ⟨ta, ra, pa⟩ := ho W
  exact ⟨_, ref_mt ra (ref_pure fun w => .nil), fun X hX => by rw [← hX.1.K]; exact mt_pe0 k hn (pa X hX) hb hp⟩
/-! ### calls of the program's defs -/
theorem room_units {k : Nat} {A : Around} (r : Room k A) : A.units + 65 < cLine := by have := r.un; omega
theorem se_call {g : Nat} {n : Str} {p2 : Pos} {e : Expr} {es : List Expr} {fs : Env → M (List Vl)} (hn : n = P.nm g) (hg : glb sc n = true) (hk : P.dom.contains g = true) (ha : SV C P G N sc (e :: es) fs) (hs : (e :: es).all (fun e => !isStar e) = true) (hl : Nat.beq (e :: es).length (P.ar g) = true)
    (hlen : ∀ env S vs S', fs env S = some (.ok vs S') → vs.length = (e :: es).length) :
    SE C P G N sc (.Call (.Name n p2) (e :: es) [] pos) (fun env => bnd (fs env) fun vs => G g vs) := fun W => by
  obtain ⟨t, r, p⟩ := ha W
  rw [List.all_cons, Bool.and_eq_true, Bool.not_eq_true'] at hs
  refine ⟨tCallS (spF C G g (P.ar g)) (WE W) t, fun w env σ o Q ok en e1 hq => ?_, fun X hX => ?_⟩
  · refine r.bindE ok en e1 hq back_rv fun vs w1 us e0 ok1 t1 en1 dv e2 hq1 => ?_
    refine ⟨by rw [dv.1, hlen _ _ _ _ e0]; exact Nat.eq_of_beq_eq_true hl, w1, vs, o, rfl, ok1, dv, e2, ?_⟩
    cases o with
    | ok v S' => exact hq1
    | ex c p S' => exact hq1
  · obtain ⟨b1, b2, b3⟩ := glb_ok hg hX.2.2
    obtain ⟨k, fns, a6, _⟩ := hX.1.fns
    obtain ⟨fd, ps, a1, a2, a3, a4, a5⟩ := fns g (List.contains_iff_mem.mp hk)
    subst hn
    rw [← hX.1.K] at a2 a3 a5
    exact pe_callS a5 a6 b1 a1 a2 a3 (fun σ => L2N.passAt hX.1.tk σ) (p X hX) b2 (star_ok hs.1) (star_all hs.2)
/-- a call of what a slot holds -/
theorem se_callv {i : Nat} {n : Str} {p2 : Pos} {e : Expr} {es : List Expr} {fs : Env → M (List Vl)} (hd : C.dm = P.dom) (hN : N[i]? = some n) (hv : vis sc n = true) (ho : nmOk n = true) (ha : SV C P G N sc (e :: es) fs) (hs : (e :: es).all (fun e => !isStar e) = true)
    (hlen : ∀ env S vs S', fs env S = some (.ok vs S') → vs.length = (e :: es).length) (har : ∀ g ∈ P.dom, ∀ as S o, G g as S = some o → as.length = P.ar g) :
    SE C P G N sc (.Call (.Name n p2) (e :: es) [] pos) (fun env => bnd (lft (getF env i)) fun g => bnd (fs env) fun vs => G g vs) := fun W => by
  obtain ⟨t, r, p⟩ := ha W
  rw [List.all_cons, Bool.and_eq_true, Bool.not_eq_true'] at hs
  simp only [nmOk, Bool.and_eq_true, Bool.not_eq_true'] at ho
  refine ⟨fun σ H Q => ∃ g ∈ P.dom, σ[i]? = some (some (.ref (C.fa g))) ∧ t σ H fun vs H1 => spF C G g (P.ar g) vs H1 Q (WE W σ), fun w env σ o Q ok en e1 hq => ?_, fun X hX => ?_⟩
  · obtain ⟨g, h0, e1⟩ := bnd_lft e1
    unfold getF at h0
    split at h0
    · rename_i g' hg'
      cases h0
      obtain ⟨v, h1, h2, h3⟩ := en.at_ i _ hg'
      subst h2
      rw [hd] at h3
      refine ⟨g, h3, h1, r.bindE ok en e1 hq back_rv fun vs w1 us e0 ok1 t1 en1 dv e2 hq1 => ?_⟩
      refine ⟨by rw [dv.1]; exact har g h3 _ _ _ e2, w1, vs, o, rfl, ok1, dv, e2, ?_⟩
      cases o with
      | ok v S' => exact hq1
      | ex c p S' => exact hq1
    · cases h0
  · refine ⟨fun pins s σ H Q I h => ?_⟩
    obtain ⟨g, hg, h1, ht⟩ := h
    obtain ⟨k, fns, a6, _⟩ := hX.1.fns
    obtain ⟨fd, ps, a1, a2, a3, a4, a5⟩ := fns g hg
    rw [← hX.1.K] at a2 a3 a5
    refine wpAny_Call_Name_kw (thn ((pe_var (pos := p2) (i := i) (by rw [hX.2.1]; exact hN) (by rw [hX.2.2]; exact vis_ok hv) ho.1 ho.2).run pins s σ H (fun v H1 => v = .ref (C.fa g) ∧ H1 = H) I ⟨_, h1, rfl, rfl⟩) fun u s1 ⟨v, H1, I1, r1, q1⟩ => ?_)
    obtain ⟨q1, q2⟩ := q1
    subst q1 q2
    cases r1
    refine PySem.W.callWith_K (h₀ := X.base) I.ok.mod.kin a2 (thn ((p X hX).run pos pins s1 σ _ _ I1 ht) fun us s2 ⟨vs, H2, I2, r, q⟩ => ⟨I2.kIn, ?_⟩) (star_ok hs.1) (star_all hs.2)
    exact run_fnS a5 a6 a3 (L2N.passAt hX.1.tk σ) I2 r q
end
end G

-- GJ
set_option maxRecDepth 100000
set_option maxHeartbeats 2000000
namespace G
open PySem L2 LamX PyProof.Rows
section
variable {C : Cxt} {P : Pr} {G : Gam} {N : List Str} {sc : Scope} {x y z : Expr} {pos : Pos}
/-! ### what is walked -/
/-- the iterator gives vs, in any world that knows what w knows -/
def WalkW (C : Cxt) (w : Wd) (J : L2.It) (vs : List Vl) : Prop := ∀ w2 : Wd, w2.Ok C → Ext w.F w2.F → w.r <+: w2.r →
  J.stop vs.length w2.H ∧ ∀ (i : Nat) (v : Vl), vs[i]? = some v → J.go i w2.H ∧ ∀ x H', J.yld i w2.H x H' → ∃ w3 : Wd, w3.H = H' ∧ w3.S = w2.S ∧ w3.r = w2.r ∧ w3.Ok C ∧ w2.To w3 ∧ (∀ a, w2.H a ≠ none → w3.H a = w2.H a ∧ w3.F a = w2.F a) ∧ VlR C w3 x v
def IR (C : Cxt) (_ w' : Wd) (J : L2.It) (vs : List Vl) : Prop := WalkW C w' J vs
theorem back_ir {C : Cxt} : Back C (IR C) := fun _ _ _ _ _ _ _ h => h
def SI (C : Cxt) (P : Pr) (G : Gam) (N : List Str) (sc : Scope) (tg x : Expr) (f : Env → M (List Vl)) : Prop := ∀ W, ∃ t : TI, Ref C W (IR C) t f ∧ ∀ X, At C P G N sc W X → PI X tg x t
/-- ranges walk in any world -/
def isR : It → Bool
  | .rng1 _ | .rng2 _ _ | .rng3 _ _ _ => true
  | _ => false
def IRq (C : Cxt) (b : Bool) (_ w' : Wd) (J : L2.It) (vs : List Vl) : Prop := WalkW C w' J vs ∧ (b = true → ∀ w'', WalkW C w'' J vs)
theorem back_irq {C : Cxt} {b : Bool} : Back C (IRq C b) := fun _ _ _ _ _ _ _ h => h
theorem Ref.weak {Y α : Type} {W : WX} {R R' : Wd → Wd → Y → α → Prop} {t : L2.St → Hp → (Y → Hp → Prop) → Prop} {f : Env → M α} (h : Ref C W R t f) (k : ∀ w w' x a, R w w' x a → R' w w' x a) : Ref C W R' t f := fun w env σ o Q ok en e hq => by
  refine h w env σ o Q ok en e ?_
  cases o with
  | ok a S' => exact fun w' x e ok t r => hq w' x e ok t (k _ _ _ _ r)
  | ex c p S' => exact hq
def SIq (C : Cxt) (P : Pr) (G : Gam) (N : List Str) (sc : Scope) (tg x : Expr) (f : Env → M (List Vl)) (b : Bool) : Prop := ∀ W, ∃ t : TI, Ref C W (IRq C b) t f ∧ ∀ X, At C P G N sc W X → PI X tg x t
theorem SIq.si {tg : Expr} {f : Env → M (List Vl)} {b : Bool} (h : SIq C P G N sc tg x f b) : SI C P G N sc tg x f := fun W => by
  obtain ⟨t, r, p⟩ := h W
  exact ⟨t, r.weak fun _ _ _ _ h => h.1, p⟩
theorem SI.q {tg : Expr} {f : Env → M (List Vl)} (h : SI C P G N sc tg x f) : SIq C P G N sc tg x f false := fun W => by
  obtain ⟨t, r, p⟩ := h W
  exact ⟨t, r.weak fun _ _ _ _ h => ⟨h, fun z => by cases z⟩, p⟩
/-- a walk of a frozen list -/
theorem walkW_same {w : Wd} {J : L2.It} {vs : List Vl} (h : ∀ w2 : Wd, w2.Ok C → Ext w.F w2.F → w.r <+: w2.r → J.stop vs.length w2.H ∧ ∀ (i : Nat) (v : Vl), vs[i]? = some v → J.go i w2.H ∧ ∀ x H', J.yld i w2.H x H' → H' = w2.H ∧ VlR C w2 x v) : WalkW C w J vs := fun w2 ok2 e r => by
  obtain ⟨h1, h2⟩ := h w2 ok2 e r
  refine ⟨h1, fun i v hv => ?_⟩
  obtain ⟨g, k⟩ := h2 i v hv
  refine ⟨g, fun x H' y => ?_⟩
  obtain ⟨e1, e2⟩ := k x H' y
  exact ⟨w2, e1.symm, rfl, rfl, ok2, Wd.To.refl w2, fun _ _ => ⟨rfl, rfl⟩, e2⟩
theorem get_map {xs : List D} {i : Nat} {v : Vl} (h : (xs.map Vl.dat)[i]? = some v) : ∃ d, xs[i]? = some d ∧ v = .dat d := by
  rw [List.getElem?_map] at h
  cases q : xs[i]? with
  | none => rw [q] at h; cases h
  | some d =>
    rw [q] at h
    cases h
    exact ⟨d, rfl, rfl⟩
theorem walk_lst {w : Wd} {a : Addr} {us : List V} {xs : List D} (s : SqL C.K w.F a us) (h : DpAll C.K w.F us xs) : WalkW C w (Itl C.K a) (xs.map .dat) := walkW_same fun w2 ok2 e _ => by
  have hl := dpAll_len h
  have q := sqL_mono ok2.sub (sqL_mono e s)
  refine ⟨by rw [List.length_map, ← hl]; exact walk_list.stops w2.H q, fun i v hv => ?_⟩
  obtain ⟨d, h1, rfl⟩ := get_map hv
  have hi : i < us.length := by rw [hl]; exact (List.getElem?_eq_some_iff.mp h1).1
  refine ⟨walk_list.goes i w2.H hi q, fun x H' y => ?_⟩
  obtain ⟨e1, e2⟩ := walk_list.yields i w2.H x H' hi q y
  obtain ⟨v', h3, h4⟩ := dpAll_get h h1
  rw [e2] at h3
  cases h3
  exact ⟨e1, dp_mono e h4⟩
theorem walk_tp {w : Wd} {a : Addr} {us : List V} {xs : List D} (s : SqT C.K w.F a us) (h : DpAll C.K w.F us xs) : WalkW C w (Itt C.K a) (xs.map .dat) := walkW_same fun w2 ok2 e _ => by
  have hl := dpAll_len h
  have q := sqT_mono ok2.sub (sqT_mono e s)
  refine ⟨by rw [List.length_map, ← hl]; exact walk_tup.stops w2.H q, fun i v hv => ?_⟩
  obtain ⟨d, h1, rfl⟩ := get_map hv
  have hi : i < us.length := by rw [hl]; exact (List.getElem?_eq_some_iff.mp h1).1
  refine ⟨walk_tup.goes i w2.H hi q, fun x H' y => ?_⟩
  obtain ⟨e1, e2⟩ := walk_tup.yields i w2.H x H' hi q y
  obtain ⟨v', h3, h4⟩ := dpAll_get h h1
  rw [e2] at h3
  cases h3
  exact ⟨e1, dp_mono e h4⟩
theorem walk_st {w : Wd} {z : Str} : WalkW C w (Its z) (z.cps.toList.map fun c => .dat (.str ⟨#[c]⟩)) := walkW_same fun w2 ok2 e _ => by
  refine ⟨by rw [List.length_map, Array.length_toList]; exact walk_str.stops w2.H trivial, fun i v hv => ?_⟩
  rw [List.getElem?_map, Array.getElem?_toList] at hv
  cases q : z.cps[i]? with
  | none => rw [q] at hv; cases hv
  | some c =>
    rw [q] at hv
    cases hv
    have hi : i < z.cps.size := (Array.getElem?_eq_some_iff.mp q).1
    refine ⟨walk_str.goes i w2.H hi trivial, fun x H' y => ?_⟩
    obtain ⟨e1, c', e2, e3⟩ := walk_str.yields i w2.H x H' hi trivial y
    rw [q] at e2
    cases e2
    exact ⟨e1, by rw [e3]; exact .str _⟩
theorem walk_fn {w : Wd} {J : L2.It} {n : Nat} {f : Nat → Int} (k : Walk J n (fun _ => True) (YFn fun i => .int (f i))) : WalkW C w J ((List.range n).map fun i => .dat (.int (f i))) := walkW_same fun w2 ok2 e _ => by
  refine ⟨by rw [List.length_map, List.length_range]; exact k.stops w2.H trivial, fun i v hv => ?_⟩
  rw [List.getElem?_map] at hv
  cases q : (List.range n)[i]? with
  | none => rw [q] at hv; cases hv
  | some c =>
    rw [q] at hv
    cases hv
    obtain ⟨hi, e1⟩ := List.getElem?_eq_some_iff.mp q
    rw [List.length_range] at hi
    rw [List.getElem_range] at e1
    subst e1
    refine ⟨k.goes i w2.H hi trivial, fun x H' y => ?_⟩
    obtain ⟨e1, e2⟩ := k.yields i w2.H x H' hi trivial y
    exact ⟨e1, by rw [e2]; exact .int _⟩
theorem walk_zp {w : Wd} {a b : Addr} {us ts : List V} {xs ys : List D} (s : SqL C.K w.F a us) (h : DpAll C.K w.F us xs) (s' : SqL C.K w.F b ts) (h' : DpAll C.K w.F ts ys) : WalkW C w (Itz C.K a b) ((xs.zip ys).map fun p => .dat (.tuple [p.1, p.2])) := fun w2 ok2 e _ => by
  have hl := dpAll_len h
  have hl' := dpAll_len h'
  have q := sqL_mono ok2.sub (sqL_mono e s)
  have q' := sqL_mono ok2.sub (sqL_mono e s')
  have k : Walk (Itz C.K a b) (min us.length ts.length) _ _ := walk_zip rfl
  refine ⟨by rw [List.length_map, List.length_zip, ← hl, ← hl']; exact k.stops w2.H ⟨q, q'⟩, fun i v hv => ?_⟩
  rw [List.getElem?_map] at hv
  cases qz : (xs.zip ys)[i]? with
  | none => rw [qz] at hv; cases hv
  | some p =>
    rw [qz] at hv
    cases hv
    have hz := List.getElem?_zip_eq_some.mp (show (xs.zip ys)[i]? = some (p.1, p.2) from qz)
    have hi : i < min us.length ts.length := by
      have a1 := (List.getElem?_eq_some_iff.mp hz.1).1
      have a2 := (List.getElem?_eq_some_iff.mp hz.2).1
      omega
    refine ⟨k.goes i w2.H hi ⟨q, q'⟩, fun x H' y => ?_⟩
    obtain ⟨T, v1, v2, rfl, e1, e2, e3, e4⟩ := k.yields i w2.H x H' hi ⟨q, q'⟩ y
    obtain ⟨ok3, t3⟩ := ok2.fresh (o := .tup [v1, v2]) e1
    obtain ⟨u1, g1, g2⟩ := dpAll_get h hz.1
    obtain ⟨u2, g3, g4⟩ := dpAll_get h' hz.2
    have e3 : us[i]? = some v1 := e3
    have e4 : ts[i]? = some v2 := e4
    rw [e3] at g1
    rw [e4] at g3
    cases g1
    cases g3
    refine ⟨{ w2 with F := upd w2.F T (.tup [v1, v2]), H := upd w2.H T (.tup [v1, v2]) }, e2.symm, rfl, rfl, ok3, t3, fun c hc => ?_, ?_⟩
    · have ne : c ≠ T := fun z => hc (by rw [z]; exact e1)
      exact ⟨upd_ne ne, upd_ne ne⟩
    · exact .tup (.inl (.inl upd_same)) (.cons (dp_mono (e.trans t3.ext) g2) (.cons (dp_mono (e.trans t3.ext) g4) .nil))
/-! a list, a tuple, a text -/
def iAny (K : PySem.W.Frag) (te : TE) : TI := fun σ H R => te σ H fun x H1 => (∃ a, x = .ref a ∧ (∃ xs, SqL K H1 a xs) ∧ R (Itl K a) H1) ∨ (∃ a, x = .ref a ∧ (∃ xs, SqT K H1 a xs) ∧ R (Itt K a) H1) ∨ ∃ z, x = .str z ∧ R (Its z) H1
theorem pi_any {X : Cx} {tg e : Expr} {te : TE} (he : PE X e te) : PI X tg e (iAny X.K te) := by
  refine ⟨fun pins s σ H R I h => ?_⟩
  refine thn (he.run pins s σ H _ I h) fun v s1 ⟨x, H1, I1, r1, q1⟩ => ?_
  rcases q1 with ⟨a, e, ⟨xs, hq⟩, q⟩ | ⟨a, e, ⟨xs, hq⟩, q⟩ | ⟨y, ex, q⟩
  · subst e
    cases r1
    obtain ⟨its, rv, p, hz⟩ := I1.list hq
    exact wpAny_pyIter_list p.isList (pi_one (tk := s1.toks) I1 _ (turn_list a _) ⟨_, Heap.get?_push_size _ rfl, rfl, rfl⟩ q)
  · subst e
    cases r1
    obtain ⟨its, rv, p, hz⟩ := I1.tuple hq
    exact wpAny_pyIter_tuple (show s1.heap.IsTuple a its.toArray from p) (pi_one (tk := s1.toks) I1 _ (turn_tuple a _) ⟨_, Heap.get?_push_size _ rfl, rfl, rfl⟩ q)
  · subst ex
    obtain ⟨t, rfl⟩ := r1
    cases ha : y.cps.all (· < 128)
    · exact wpAny_pyIter_wide ha (pi_one (tk := s1.toks) I1 _ (turn_str _ y t "str_iterator" (.inr rfl)) ⟨_, Heap.get?_push_size _ rfl, rfl, rfl⟩ q)
    · exact wpAny_pyIter_ascii ha (pi_one (tk := s1.toks) I1 _ (turn_str _ y t "str_ascii_iterator" (.inl rfl)) ⟨_, Heap.get?_push_size _ rfl, rfl, rfl⟩ q)
theorem si_seq {tg : Expr} {e : E} (h : SE C P G N sc x (ev G e)) : SI C P G N sc tg x (evI G (.seq e)) := fun W => by
  obtain ⟨t, r, p⟩ := h W
  refine ⟨iAny C.K t, fun w env σ o Q ok en e1 hq => ?_, fun X hX => by rw [← hX.1.K]; exact pi_any (p X hX)⟩
  refine r.data ok en e1 hq back_ir fun d w1 v ok1 t1 en1 dv e2 hq1 => ?_
  obtain ⟨vs, h1, h2⟩ := lft_some e2
  subst h2
  have go : ∀ J, WalkW C w1 J vs → Q J w1.H := fun J hJ => hq1.done rfl ok1 (Wd.To.refl w1) hJ
  cases dv with
  | lst s a =>
    cases h1
    exact .inl ⟨_, rfl, ⟨_, sqL_mono ok1.sub s⟩, go _ (walk_lst s a)⟩
  | tup s a =>
    cases h1
    exact .inr (.inl ⟨_, rfl, ⟨_, sqT_mono ok1.sub s⟩, go _ (walk_tp s a)⟩)
  | str z =>
    cases h1
    exact .inr (.inr ⟨_, rfl, go _ walk_st⟩)
  | non => cases h1
  | bl _ => cases h1
  | int _ => cases h1
theorem toI_dp {K : PySem.W.Frag} {F : Hp} {v : V} {d : D} {i : Int} (h : Dp K F v d) (e : toI d = some i) : v = .int i := by
  cases h <;> simp only [toI] at e <;> cases e
  rfl
theorem rng0 {lo hi : Int} : rngV lo hi = (List.range (hi - lo).toNat).map fun i : Nat => Vl.dat (.int (lo + (i : Int))) := rfl
theorem si_rng1 {tg : Expr} {a : E} {n : Str} {p2 : Pos} (hn : n = "range") (hg : glb sc n = true) (h : SE C P G N sc x (ev G a)) (hs : isStar x = false) : SIq C P G N sc tg (.Call (.Name n p2) [x] [] pos) (evI G (.rng1 a)) true := fun W => by
  obtain ⟨t, r, p⟩ := h W
  refine ⟨iRng1 (tCons t tNil), fun w env σ o Q ok en e1 hq => ?_, fun X hX => ?_⟩
  · refine r.data ok en e1 hq back_irq fun d w1 v ok1 t1 en1 dv e2 hq1 => ?_
    obtain ⟨i, h1, e3⟩ := bnd_lft e2
    split at e3
    · rename_i hb
      cases e3
      have hv := toI_dp dv h1
      subst hv
      refine ⟨i, rfl, hb.1, hb.2, hq1.done rfl ok1 (Wd.To.refl w1) ?_⟩
      have e0 : rngV 0 i = (List.range i.toNat).map fun k => Vl.dat (.int ((fun k : Nat => (0 : Int) + (k : Int)) k)) := by
        rw [rng0, Int.sub_zero]
      refine ⟨?_, fun _ w'' => ?_⟩
      · show WalkW C w1 _ (rngV 0 i)
        rw [e0]
        exact walk_fn (f := fun k : Nat => (0 : Int) + (k : Int)) walk_range
      · show WalkW C w'' _ (rngV 0 i)
        rw [e0]
        exact walk_fn (f := fun k : Nat => (0 : Int) + (k : Int)) walk_range
    · cases e3
  · obtain ⟨b1, b2, b3⟩ := glb_ok hg hX.2.2
    subst hn
    exact pi_range1 b1 (hX.1.bl _ (by decide)) (pa_cons (p X hX) pa_nil (star_ok hs)) (star_ok hs)
theorem si_rng2 {tg : Expr} {a b : E} {n : Str} {p2 : Pos} (hn : n = "range") (hg : glb sc n = true) (h : SE C P G N sc x (ev G a)) (h' : SE C P G N sc y (ev G b)) (hs : isStar x = false) (hs' : isStar y = false) : SIq C P G N sc tg (.Call (.Name n p2) [x, y] [] pos) (evI G (.rng2 a b)) true := fun W => by
  obtain ⟨t, r, p⟩ := h W
  obtain ⟨t', r', p'⟩ := h' W
  refine ⟨iRng2 (tCons t (tCons t' tNil)), fun w env σ o Q ok en e1 hq => ?_, fun X hX => ?_⟩
  · refine r.data ok en e1 hq back_irq fun d w1 v ok1 t1 en1 dv e2 hq1 => ?_
    obtain ⟨i, h1, e3⟩ := bnd_lft e2
    refine r'.data ok1 en1 e3 hq1 back_irq fun d' w2 v' ok2 t2 en2 dv' e4 hq2 => ?_
    obtain ⟨j, h2, e5⟩ := bnd_lft e4
    split at e5
    · rename_i hb
      cases e5
      have hv := toI_dp dv h1
      have hv' := toI_dp dv' h2
      subst hv hv'
      refine ⟨i, j, rfl, hb, hq2.done rfl ok2 (Wd.To.refl w2) ?_⟩
      exact ⟨walk_fn (f := fun k : Nat => i + (k : Int)) walk_range, fun _ w'' => walk_fn (f := fun k : Nat => i + (k : Int)) walk_range⟩
    · cases e5
  · obtain ⟨b1, b2, b3⟩ := glb_ok hg hX.2.2
    subst hn
    exact pi_range2 b1 (hX.1.bl _ (by decide)) (pa_cons (p X hX) (pa_cons (p' X hX) pa_nil (star_ok hs')) (star_ok hs)) (by rw [star_ok hs, star_ok hs']; rfl) (star_ok hs')
theorem rgc2 {i j : Int} (h1 : 0 ≤ i) (h2 : i < 2 ^ 60) (h3 : 0 ≤ j) (h4 : j < 2 ^ 60) : RgC i j 2 ((j - i + 1) / 2).toNat := by
  have e : Builtin.Range.rangeSize i j 2 = (((j - i + 1) / 2).toNat : Int) := by
    unfold Builtin.Range.rangeSize
    simp only [show (2 : Int) > 0 by decide, if_true]
    split <;> omega
  refine ⟨by decide, by decide, ?_, e⟩
  unfold Builtin.Range.small
  rw [e]
  simp only [Builtin.Range.rangeFitsLong, Bool.and_eq_true, Bool.or_eq_true, decide_eq_true_eq, beq_iff_eq, show (2 : Int) > 0 by decide, if_true]
  omega
theorem si_rng3 {tg : Expr} {a b : E} {c : Int} {n : Str} {p2 p3 : Pos} {k : Nat} (hn : n = "range") (hg : glb sc n = true) (h : SE C P G N sc x (ev G a)) (h' : SE C P G N sc y (ev G b)) (hs : isStar x = false) (hs' : isStar y = false) : SIq C P G N sc tg (.Call (.Name n p2) [x, y, .Constant (.int 2) k p3] [] pos) (evI G (.rng3 a b c)) true := fun W => by
  obtain ⟨t, r, p⟩ := h W
  obtain ⟨t', r', p'⟩ := h' W
  refine ⟨iRng3 (tCons t (tCons t' (tCons (tC (.int 2)) tNil))), fun w env σ o Q ok en e1 hq => ?_, fun X hX => ?_⟩
  · refine r.data ok en e1 hq back_irq fun d w1 v ok1 t1 en1 dv e2 hq1 => ?_
    obtain ⟨i, h1, e3⟩ := bnd_lft e2
    refine r'.data ok1 en1 e3 hq1 back_irq fun d' w2 v' ok2 t2 en2 dv' e4 hq2 => ?_
    obtain ⟨j, h2, e5⟩ := bnd_lft e4
    split at e5
    · rename_i hb
      cases e5
      have hv := toI_dp dv h1
      have hv' := toI_dp dv' h2
      subst hv hv'
      refine ⟨i, j, 2, _, rfl, rgc2 hb.1 hb.2.1 hb.2.2.1 hb.2.2.2, hq2.done rfl ok2 (Wd.To.refl w2) ?_⟩
      exact ⟨walk_fn (f := fun k : Nat => i + (k : Int) * 2) walk_rangeC, fun _ w'' => walk_fn (f := fun k : Nat => i + (k : Int) * 2) walk_rangeC⟩
    · cases e5
  · obtain ⟨b1, b2, b3⟩ := glb_ok hg hX.2.2
    subst hn
    exact pi_range3 b1 (hX.1.bl _ (by decide)) (pa_cons (p X hX) (pa_cons (p' X hX) (pa_cons pe_int pa_nil (star_ok rfl)) (star_ok hs')) (star_ok hs)) (star_ok hs) (by rw [star_ok hs']; rfl)
theorem si_zip {a b : E} {n : Str} {p2 tpos : Pos} {elts : List Expr} {kk : Nat} (hn : n = "zip") (hg : glb sc n = true) (h : SE C P G N sc x (ev G a)) (h' : SE C P G N sc y (ev G b)) (hs : isStar x = false) (hs' : isStar y = false) : SI C P G N sc (.Tuple elts kk tpos) (.Call (.Name n p2) [x, y] [] pos) (evI G (.zip a b)) := fun W => by
  obtain ⟨t, r, p⟩ := h W
  obtain ⟨t', r', p'⟩ := h' W
  refine ⟨iZip C.K (tCons t (tCons t' tNil)), fun w env σ o Q ok en e1 hq => ?_, fun X hX => ?_⟩
  · refine r.data ok en e1 hq back_ir fun d w1 v ok1 t1 en1 dv e2 hq1 => ?_
    refine r'.data ok1 en1 e2 hq1 back_ir fun d' w2 v' ok2 t2 en2 dv' e4 hq2 => ?_
    obtain ⟨vs, h1, h2⟩ := lft_some e4
    subst h2
    cases d <;> try (cases h1; done)
    cases d' <;> try (cases h1; done)
    cases h1
    obtain ⟨a1, us, rfl, s1, s2⟩ := dp_lst dv
    obtain ⟨a2, ts, rfl, s3, s4⟩ := dp_lst dv'
    exact ⟨a1, a2, us, ts, rfl, sqL_mono ok2.sub (sqL_mono t2.ext s1), sqL_mono ok2.sub s3, hq2.done rfl ok2 (Wd.To.refl w2) (walk_zp (sqL_mono t2.ext s1) (dpAll_mono t2.ext s2) s3 s4)⟩
  · obtain ⟨b1, b2, b3⟩ := glb_ok hg hX.2.2
    subst hn
    rw [← hX.1.K]
    exact pi_zip b1 (hX.1.bl _ (by decide)) (pa_cons (p X hX) (pa_cons (p' X hX) pa_nil (star_ok hs')) (star_ok hs)) (star_ok hs) (by rw [star_ok hs']; rfl)
end
end G

-- GK
set_option maxRecDepth 100000
set_option maxHeartbeats 2000000
namespace G
open PySem L2 LamX PyProof.Rows
section
variable {C : Cxt} {P : Pr} {G : Gam} {N : List Str} {sc : Scope} {x y z : Expr} {pos : Pos}
/-! ### targets -/
def tgL : Tg → List Nat
  | .nm i => [i]
  | .tp is => is
theorem EnvR.set {w : Wd} {env : Env} {σ : L2.St} (en : EnvR C w env σ) {v : V} {a : Vl} (h : VlR C w v a) (i : Nat) : EnvR C w (env.set i (.vl a)) (σ.set i (some v)) := by
  refine ⟨by simp [en.len], fun j s e => ?_, fun j k o o' b e1 e2 e3 e4 => ?_⟩
  · by_cases hj : i = j
    · subst hj
      by_cases hi : i < env.length
      · rw [List.getElem?_set_self hi] at e
        cases e
        rw [List.getElem?_set_self (by rw [← en.len]; exact hi)]
        exact ⟨v, rfl, h⟩
      · rw [List.getElem?_eq_none (by simpa using hi)] at e
        cases e
    · rw [List.getElem?_set_ne hj] at e ⊢
      exact en.at_ j s e
  · have h1 : ∀ {j o}, (env.set i (Sl.vl a))[j]? = some (.own o) → i ≠ j ∧ env[j]? = some (.own o) := fun {j o} e => by
      by_cases hj : i = j
      · subst hj
        by_cases hi : i < env.length
        · rw [List.getElem?_set_self hi] at e
          cases e
        · rw [List.getElem?_eq_none (by simpa using hi)] at e
          cases e
      · rw [List.getElem?_set_ne hj] at e
        exact ⟨hj, e⟩
    obtain ⟨a1, a2⟩ := h1 e1
    obtain ⟨b1, b2⟩ := h1 e2
    rw [List.getElem?_set_ne a1] at e3
    rw [List.getElem?_set_ne b1] at e4
    exact en.apart j k o o' b a2 b2 e3 e4
theorem EnvR.wipe1 {w : Wd} {env : Env} {σ : L2.St} (en : EnvR C w env σ) (i : Nat) (u : Option V) : EnvR C w (env.set i .un) (σ.set i u) := by
  refine ⟨by simp [en.len], fun j s e => ?_, fun j k o o' b e1 e2 e3 e4 => ?_⟩
  · by_cases hj : i = j
    · subst hj
      by_cases hi : i < env.length
      · rw [List.getElem?_set_self hi] at e
        cases e
        trivial
      · rw [List.getElem?_eq_none (by simpa using hi)] at e
        cases e
    · rw [List.getElem?_set_ne hj] at e ⊢
      exact en.at_ j s e
  · have h1 : ∀ {j o}, (env.set i Sl.un)[j]? = some (.own o) → i ≠ j ∧ env[j]? = some (.own o) := fun {j o} e => by
      by_cases hj : i = j
      · subst hj
        by_cases hi : i < env.length
        · rw [List.getElem?_set_self hi] at e
          cases e
        · rw [List.getElem?_eq_none (by simpa using hi)] at e
          cases e
      · rw [List.getElem?_set_ne hj] at e
        exact ⟨hj, e⟩
    obtain ⟨a1, a2⟩ := h1 e1
    obtain ⟨b1, b2⟩ := h1 e2
    rw [List.getElem?_set_ne a1] at e3
    rw [List.getElem?_set_ne b1] at e4
    exact en.apart j k o o' b a2 b2 e3 e4
theorem EnvR.wipe {w : Wd} {env : Env} {σ : L2.St} (en : EnvR C w env σ) : ∀ own : List Nat, EnvR C w (wipeE env own) (L2.wipe σ own)
  | [] => en
  | v :: vs => by
    unfold wipeE L2.wipe
    exact (en.wipe vs).wipe1 v none
/-- σ' is σ but for the places at l -/
def OffS (l : List Nat) (σ σ' : L2.St) : Prop := σ'.length = σ.length ∧ ∀ i, i ∉ l → σ'[i]? = σ[i]?
theorem OffS.refl (l : List Nat) (σ : L2.St) : OffS l σ σ := ⟨rfl, fun _ _ => rfl⟩
theorem OffS.set {l : List Nat} {σ σ' : L2.St} (h : OffS l σ σ') {i : Nat} (hi : i ∈ l) (v : Option V) : OffS l σ (σ'.set i v) := ⟨by rw [List.length_set]; exact h.1, fun j hj => by
  rw [List.getElem?_set_ne (fun e => hj (by rw [← e]; exact hi))]
  exact h.2 j hj⟩
theorem wipe_off {l : List Nat} {σ σ' : L2.St} (h : OffS l σ σ') {own : List Nat} (hl : ∀ i ∈ l, i ∈ own) : L2.wipe σ' own = L2.wipe σ own := by
  apply List.ext_getElem?
  intro i
  by_cases hi : i ∈ own
  · have k : ∀ (ρ : L2.St) (own : List Nat), i ∈ own → (L2.wipe ρ own)[i]? = if i < ρ.length then some none else none := by
      intro ρ own
      induction own with
      | nil => intro z; cases z
      | cons v vs ih =>
        intro z
        unfold L2.wipe
        by_cases hv : v = i
        · subst hv
          by_cases hl : v < ρ.length
          · rw [List.getElem?_set_self (by rw [wipe_length]; exact hl), if_pos hl]
          · rw [List.getElem?_eq_none (by rw [List.length_set, wipe_length]; omega), if_neg hl]
        · rw [List.getElem?_set_ne hv]
          exact ih ((List.mem_cons.mp z).resolve_left (fun e => hv e.symm))
    rw [k σ' own hi, k σ own hi, h.1]
  · rw [wipe_out hi, wipe_out hi]
    exact h.2 i fun z => hi (hl i z)
theorem wipe_idem {σ : L2.St} {own : List Nat} : L2.wipe (L2.wipe σ own) own = L2.wipe σ own :=
  wipe_off (l := own) ⟨wipe_length _ _, fun i hi => wipe_out hi⟩ fun _ h => h
def TgR (C : Cxt) (tg : Tg) (g : TG) : Prop := ∀ (w : Wd) (env env' : Env) (σ : L2.St) (v : V) (a : Vl) (Q : L2.St → Hp → Prop), w.Ok C → EnvR C w env σ → VlR C w v a → bindT tg a env = some env' →
  (∀ σ', EnvR C w env' σ' → OffS (tgL tg) σ σ' → Q σ' w.H) → g v σ w.H Q
/-- the names of a target may be stored -/
def FnOk' (X : Cx) (N : List Str) (l : List Nat) : Prop := ∀ i ∈ l, ∀ x, N[i]? = some x → X.fn x = true ∨ X.env.scope.names.lookup x = some .local
def STg (C : Cxt) (N : List Str) (sc : Scope) (tg : Tg) (t : Expr) : Prop := ∃ g : TG, TgR C tg g ∧ ∀ X : Cx, X.K = C.K → X.calm = true → X.N = N → X.N.Nodup → X.env.scope = sc → FnOk' X N (tgL tg) → PG X t g
theorem stg_nm {i : Nat} {n : Str} (hN : N[i]? = some n) (hl : loc sc n = true) : STg C N sc (.nm i) (.Name n pos) := by
  refine ⟨gName i, fun w env env' σ v a Q ok en h e hq => ?_, fun X k c hXN nd hsc hf => ?_⟩
  · cases e
    exact hq _ (en.set h i) ((OffS.refl _ _).set (by simp [tgL]) _)
  · exact pg_name nd (by rw [hXN]; exact hN) (by rw [hsc]; exact loc_ok hl) (hf i (by simp [tgL]) n hN)
def gNms : List Nat → TGs
  | [] => gNil
  | i :: is => gCons (gName i) (gNms is)
theorem assignEach_name {n : Str} {es : List Expr} {env : PySem.Env} {p : Pos} : (assignEach (.Name n p :: es) env) = (false, assign (.Name n p) env) :: assignEach es env := rfl
def nmsC (N : List Str) (sc : Scope) : List Nat → List Expr → Bool
  | [], [] => true
  | i :: is, .Name x _ :: es => decide (N[i]? = some x) && loc sc x && nmsC N sc is es
  | _, _ => false
theorem nmsC_of : ∀ {is : List Nat} {as : List Expr}, (is.length == as.length && (is.zip as).all fun p => match p.2 with
    | .Name x _ => decide (N[p.1]? = some x) && loc sc x
    | _ => false) = true → nmsC N sc is as = true
  | [], [], _ => rfl
  | [], _ :: _, h => by simp at h
  | _ :: _, [], h => by simp at h
  | i :: is, a :: as, h => by
    simp only [List.length_cons, List.zip_cons_cons, List.all_cons, Bool.and_eq_true] at h
    have h2 : nmsC N sc is as = true := nmsC_of (by
      simp only [Bool.and_eq_true]
      exact ⟨by simpa using h.1, h.2.2⟩)
    cases a with
    | Name x p =>
      simp only [nmsC, Bool.and_eq_true]
      have h3 := h.2.1
      simp only [Bool.and_eq_true] at h3
      exact ⟨h3, h2⟩
    | _ => exact absurd h.2.1 (by simp)
theorem pgs_nms : ∀ {is : List Nat} {as : List Expr} {X : Cx}, nmsC N sc is as = true → X.N = N → X.N.Nodup → X.env.scope = sc → FnOk' X N is → PGs X as (gNms is)
  | [], [], _, _, _, _, _, _ => pgs_nil
  | [], _ :: _, _, h, _, _, _, _ => by cases h
  | _ :: _, [], _, h, _, _, _, _ => by simp [nmsC] at h
  | i :: is, a :: as, X, h, e1, nd, e2, hf => by
    cases a with
    | Name x p =>
      simp only [nmsC, Bool.and_eq_true] at h
      exact pgs_cons (pg_name nd (by rw [e1]; exact dec_eq h.1.1) (by rw [e2]; exact loc_ok h.1.2) (hf i (by simp) x (dec_eq h.1.1))) (pgs_nms h.2 e1 nd e2 fun j hj => hf j (by simp [hj])) rfl
    | _ => simp [nmsC] at h
theorem each_nms {env : PySem.Env} : ∀ {is : List Nat} {as : List Expr}, nmsC N sc is as = true → (assignEach as env).length = is.length ∧ (assignEach as env).findIdx? (·.1) = none
  | [], [], _ => ⟨rfl, rfl⟩
  | [], _ :: _, h => by cases h
  | _ :: _, [], h => by simp [nmsC] at h
  | i :: is, a :: as, h => by
    cases a with
    | Name x p =>
      simp only [nmsC, Bool.and_eq_true] at h
      obtain ⟨h1, h2⟩ := each_nms (env := env) h.2
      rw [assignEach_name]
      refine ⟨by simp [h1], ?_⟩
      rw [List.findIdx?_cons]
      simp [h2]
    | _ => simp [nmsC] at h
theorem gNms_ok : ∀ (is : List Nat) (ds : List D) (l : List Nat) (w : Wd) (env : Env) (σ0 σ : L2.St) (vs : List V) (Q : L2.St → Hp → Prop), (∀ i ∈ is, i ∈ l) → w.Ok C → EnvR C w env σ → OffS l σ0 σ → DpAll C.K w.F vs ds → ds.length = is.length →
    (∀ σ', EnvR C w ((is.zip ds).foldl (fun m p => m.set p.1 (.vl (.dat p.2))) env) σ' → OffS l σ0 σ' → Q σ' w.H) → gNms is vs σ w.H Q
  | [], [], _, _, _, _, _, _, _, _, _, en, of, h, _, hq => by
    cases h
    exact ⟨rfl, hq _ en of⟩
  | [], _ :: _, _, _, _, _, _, _, _, _, _, _, _, _, e, _ => by cases e
  | _ :: _, [], _, _, _, _, _, _, _, _, _, _, _, _, e, _ => by cases e
  | i :: is, d :: ds, l, w, env, σ0, σ, vs, Q, hl, ok, en, of, h, e, hq => by
    cases h with
    | cons h1 h2 =>
      refine ⟨_, _, rfl, ?_⟩
      exact gNms_ok is ds l w _ σ0 _ _ Q (fun j hj => hl j (by simp [hj])) ok (en.set (a := .dat d) h1 i) (of.set (hl i (by simp)) _) h2 (by simpa using e) hq
theorem stg_tp {is : List Nat} {as : List Expr} {k : Nat} (h : nmsC N sc is as = true) : STg C N sc (.tp is) (.Tuple as k pos) := by
  refine ⟨gTup C.K is.length (gNms is), fun w env env' σ v a Q ok en hv e hq => ?_, fun X kk c hXN nd hsc hf => ?_⟩
  · cases a with
    | dat d =>
      cases d <;> try (cases e; done)
      rename_i ds
      simp only [bindT] at e
      split at e
      · rename_i hl
        cases e
        obtain ⟨p, vs, rfl, s1, s2⟩ := dp_tup hv
        exact ⟨p, vs, rfl, sqT_mono ok.sub s1, by rw [dpAll_len s2]; exact hl, gNms_ok is ds _ w env σ σ vs Q (fun _ h => h) ok en (OffS.refl _ _) s2 hl hq⟩
      · cases e
    | loc _ => cases e
    | fn _ => cases e
  · rw [← kk]
    exact pg_tup c (pgs_nms h hXN nd hsc hf) (each_nms h).1 (each_nms h).2
theorem stg {tg : Tg} {t : Expr} (h : chTg N sc tg t = true) : STg C N sc tg t := by
  cases tg with
  | nm i =>
    cases t <;> simp only [chTg] at h <;> try (cases h; done)
    simp only [Bool.and_eq_true] at h
    exact stg_nm (dec_eq h.1) h.2
  | tp is =>
    cases t <;> simp only [chTg] at h <;> try (cases h; done)
    exact stg_tp (nmsC_of h)
/-! ### comprehensions -/
def SC (C : Cxt) (P : Pr) (G : Gam) (N : List Str) (sc : Scope) (ifs : List Expr) (f : Env → M Bool) : Prop := ∀ W, ∃ t : TT, Ref C W EqR t f ∧ ∀ X, At C P G N sc W X → PTs X ifs t
theorem sc_no : SC C P G N sc [] (evC G .no) := fun W => ⟨tYes, ref_pure fun w => rfl, fun X _ => pts_nil⟩
theorem sc_so {e : E} (h : ST C P G N sc x (tst (ev G e))) : SC C P G N sc [x] (evC G (.so e)) := fun W => by
  obtain ⟨t, r, p⟩ := h W
  refine ⟨t, ?_, fun X hX => pts_one (p X hX)⟩
  intro w env σ o Q ok en e1 hq
  refine r w env σ o Q ok en ?_ hq
  simp only [evC] at e1
  exact e1
theorem bnd_ok' {α β : Type} {m : M α} {k : α → M β} {S : Sto} {b : β} {S' : Sto} (h : bnd m k S = some (.ok b S')) : ∃ a S1, m S = some (.ok a S1) ∧ k a S1 = some (.ok b S') := bnd_ok h
theorem noEx_ok {α : Type} {m : M α} {S : Sto} {o : Out α} (h : noEx m S = some o) : ∃ a S', o = .ok a S' ∧ m S = some (.ok a S') := by
  unfold noEx at h
  split at h
  · rename_i a S' q
    cases h
    exact ⟨a, S', rfl, q⟩
  · cases h
theorem mapV_ok {α : Type} {f : Vl → M (Option α)} (hf : ∀ v S o, f v S = some o → ∃ a S', o = .ok a S') : ∀ {vs : List Vl} {S : Sto} {o : Out (List α)}, mapV f vs S = some o → ∃ ds S', o = .ok ds S'
  | [], S, o, h => by
    cases h
    exact ⟨_, _, rfl⟩
  | v :: vs, S, o, h => by
    simp only [mapV, bnd] at h
    cases q : f v S with
    | none => rw [q] at h; cases h
    | some r =>
      obtain ⟨a, S1, e⟩ := hf v S r q
      subst e
      rw [q] at h
      simp only at h
      cases q2 : mapV f vs S1 with
      | none => rw [q2] at h; cases h
      | some r2 =>
        obtain ⟨ds, S2, e⟩ := mapV_ok hf q2
        subst e
        rw [q2] at h
        cases h
        exact ⟨_, _, rfl⟩
theorem mapV_cons {α : Type} {f : Vl → M (Option α)} {v : Vl} {vs : List Vl} {S S' : Sto} {ds : List α} (h : mapV f (v :: vs) S = some (.ok ds S')) : ∃ a S1 r, f v S = some (.ok a S1) ∧ mapV f vs S1 = some (.ok r S') ∧ ds = (match a with | some a => a :: r | none => r) := by
  simp only [mapV] at h
  obtain ⟨a, S1, h1, h2⟩ := bnd_ok h
  obtain ⟨r, S2, h3, h4⟩ := bnd_ok h2
  cases h4
  exact ⟨a, S1, r, h1, h3, rfl⟩
/-- the list at D, written anew -/
theorem Wd.Ok.write {w : Wd} (ok : w.Ok C) {p : Addr} {vs us : List V} (h : w.H p = some (.lst vs)) (hf : w.F p = none) (hr : p ∉ w.r) : ({ w with H := upd w.H p (.lst us) } : Wd).Ok C := by
  refine ⟨fun a u q => ?_, ok.len, fun n a u h1 h2 => ?_, ok.nd, ?_, ok.nt⟩
  · show upd w.H p _ a = _
    rw [upd_ne (fun e => by rw [e, hf] at q; cases q)]
    exact ok.sub a u q
  · obtain ⟨k1, k2, k3⟩ := ok.obj n a u h1 h2
    have ne : a ≠ p := fun e => hr (by rw [← e]; exact List.mem_of_getElem? h1)
    cases u with
    | lst xs =>
      obtain ⟨ws, g1, g2⟩ := k3
      exact ⟨k1, k2, ws, by show upd w.H p _ a = _; rw [upd_ne ne]; exact g1, g2⟩
    | dct _ => exact k3.elim
  · have ne : ∀ {a o}, w.H a = some o → (∀ xs, o ≠ .lst xs) → upd w.H p (.lst us) a = some o := fun {a o} q n => by
      rw [upd_ne (fun e => by rw [e, h] at q; cases q; exact n _ rfl)]
      exact q
    intro q hq
    obtain ⟨ps, h1, h2, h3⟩ := ok.tab q hq
    refine ⟨ps, ne h1 (fun _ z => by cases z), h2, fun pos cv hc => ?_⟩
    obtain ⟨c, e1, e2⟩ := h3 pos cv hc
    exact ⟨c, e1, ne e2 (fun _ z => by cases z)⟩
theorem Wd.To.write {w w' : Wd} (t : w.To w') {p : Addr} {o : HO} (h0 : w.H p = none) (ht : ∀ ps, w'.H p ≠ some (.tbl ps)) : w.To { w' with H := upd w'.H p o } := by
  have h00 : ∀ {a u}, w.H a = some u → a ≠ p := fun {a u} q e => by
    rw [e, h0] at q
    cases q
  refine ⟨t.ext, t.nf, t.pre, fun a u q n tb => ?_, fun a ps q => ?_⟩
  · show upd w'.H p o a = some u
    rw [upd_ne (h00 q)]
    exact t.fr a u q n tb
  · obtain ⟨ps', q'⟩ := t.tb a ps q
    refine ⟨ps', ?_⟩
    show upd w'.H p o a = _
    rw [upd_ne (h00 q)]
    exact q'
theorem ownL_le (l : List Nat) : (ownL N l).length ≤ l.length := List.length_filterMap_le _ _
theorem ownL_snd' : ∀ own : List Nat, (ownL N own).length = own.length → (ownL N own).map (·.2) = own
  | [], _ => rfl
  | i :: own, h => by
    have le := ownL_le (N := N) own
    have e : ownL N (i :: own) = match N[i]? with | some n => (n, i) :: ownL N own | none => ownL N own := by
      unfold ownL
      rw [List.filterMap_cons]
      cases N[i]? <;> rfl
    rw [List.length_cons] at h
    cases q : N[i]? with
    | none =>
      rw [e, q] at h
      have h : (ownL N own).length = own.length + 1 := h
      omega
    | some n =>
      rw [e, q] at h ⊢
      have h : (ownL N own).length + 1 = own.length + 1 := h
      show i :: (ownL N own).map (·.2) = _
      rw [ownL_snd' own (by omega)]
theorem ownL_snd {own : List Nat} (h : ((ownL N own).length == own.length) = true) : (ownL N own).map (·.2) = own := ownL_snd' own (by simpa using h)
theorem takesN0 {X : Cx} : L2N.Takes X (fun _ _ _ _ => False) := fun _ _ x => by
  obtain ⟨_, _, _, _, _, _, _, _, x⟩ := x
  exact x.2.2.2.2.2.2.2.2.elim
theorem at_blk {W : WX} {X : Cx} {s : Shared} {H : Hp} {scope : Scope} {D : Addr} {cl : List (Str × Addr)} {fp : List Addr} (h : At C P G N sc W X) : At C P.off G N (relS scope sc) (fun _ _ _ _ => False) (X.blk s H scope (compEnvC scope cl D X.env) fp) := by
  obtain ⟨g, h1, h2⟩ := h
  refine ⟨⟨g.K, g.calm, g.nd, g.un, takesN0, g.bl, (let ⟨k, a, b, _⟩ := g.fns; ⟨k, a, b, fun z => by cases z⟩), (fun z => by cases z), g.cs⟩, h1, ?_⟩
  show relS scope X.env.scope = _
  rw [h2]
theorem Con.okd {X α : Type} {C : Cxt} {W : WX} {σ : L2.St} {w w' : Wd} {R : Wd → Wd → X → α → Prop} {a : α} {S' : Sto} {Q : X → Hp → Prop} {x : X} (h : Con C W σ w R (.ok a S') Q) (e : w'.S = S') (ok : w'.Ok C) (t : w.To w') (r : R w w' x a) : Q x w'.H := h w' x e ok t r
/-- as an expression, and stored at once -/
def SEc (C : Cxt) (P : Pr) (G : Gam) (N : List Str) (sc : Scope) (x : Expr) (f : Env → M RV) : Prop := ∀ W, ∃ t : TE, Ref C W (RvR C) t f ∧ ∀ X, At C P G N sc W X → PE X x t ∧
  ∀ (i : Nat) (y : Str) (py spos : Pos), X.N[i]? = some y → X.env.scope.names.lookup y = some .local → swapsWith x (some (.Name y py)) spos.line X.env = pure true → PS X (.Assign [.Name y py] x spos) (tAsg t (gName i))
theorem se_compS {it : It} {tg : Tg} {own : List Nat} {c : Oe} {e : E} {t : Expr} {ifs : List Expr} {scope : Scope} (hi : SI C P G N sc t x (evI G it)) (hs : isSet x = false) (hl : ((ownL N own).length == own.length) = true) (hb : blkC N sc scope (ownL N own) = true)
    (ht : chTg N (relS scope sc) tg t = true) (ht2 : chTg N scope tg t = true) (hin : tgIn own tg = true) (hc : SC C P.off G N (relS scope sc) ifs (evC G c)) (he : SE C P.off G N (relS scope sc) y (ev G e)) : SEc C P G N sc (.ListComp y [⟨t, x, ifs, 0⟩] scope pos) (ev G (.comp it tg own c e)) := fun W => by
  obtain ⟨wi, ri, pi⟩ := hi W
  obtain ⟨g, rg, pg⟩ := stg (C := C) ht
  obtain ⟨tt, rt, pt⟩ := hc (fun _ _ _ _ => False)
  obtain ⟨te, re, pe⟩ := he (fun _ _ _ _ => False)
  have hown := ownL_snd hl
  have hin' : ∀ i ∈ tgL tg, i ∈ own := by
    cases tg with
    | nm i => simpa [tgL, tgIn] using hin
    | tp is => simpa [tgL, tgIn] using hin
  refine ⟨tLc wi g tt te own, fun w env σ o Q ok en e1 hq => ?_, fun X hX => ?_⟩
  · simp only [ev] at e1
    refine ri.bind ok en e1 hq back_rv fun vs w1 J ok1 t1 en1 hJ e2 hq1 => ?_
    intro D hD
    have fEx : ∀ v S o, (fun v => noEx (bnd (lft (bindT tg v (wipeE env own))) fun env' => bnd (evC G c env') fun b =>
      if b = true then bnd (ev G e env') fun x => bnd (lft x.toD) fun d => ret (some d) else ret none)) v S = some o → ∃ a S', o = .ok a S' := fun v S o h => by
        obtain ⟨a, S', e, _⟩ := noEx_ok h
        exact ⟨a, S', e⟩
    generalize hf : (fun v => noEx (bnd (lft (bindT tg v (wipeE env own))) fun env' => bnd (evC G c env') fun b =>
      if b = true then bnd (ev G e env') fun x => bnd (lft x.toD) fun d => ret (some d) else ret none)) = f at e2 fEx
    -- the whole is a list
    have e3 : ∃ ds S', mapV f vs w1.S = some (.ok ds S') ∧ ds.length ≤ sizeLine ∧ o = .ok (.new ds) S' := by
      unfold bnd at e2
      split at e2
      · cases e2
      · rename_i ds S' q
        have e2 : (if ds.length ≤ sizeLine then ret (RV.new ds) else fail) S' = some o := e2
        split at e2
        · rename_i hz
          cases e2
          exact ⟨ds, S', q, hz, rfl⟩
        · cases e2
      · rename_i q
        obtain ⟨_, _, z⟩ := mapV_ok fEx q
        cases z
    obtain ⟨ds, S', e4, hz, e5⟩ := e3
    subst e5
    -- the turns
    refine ⟨fun i m H => m = vs.length - i ∧ i ≤ vs.length ∧ ∃ (wi : Wd) (us : List V) (as r : List PyData), wi.H = H ∧ wi.Ok C ∧ w1.To wi ∧ H D = some (.lst us) ∧ wi.F D = none ∧ D ∉ wi.r ∧ DpAll C.K wi.F us as ∧ mapV f (vs.drop i) wi.S = some (.ok r S') ∧ ds = as ++ r, ⟨vs.length, by simp, Nat.zero_le _, ?_⟩, ?_⟩
    · obtain ⟨ok2, t2⟩ := ok1.loose (o := .lst []) hD
      exact ⟨_, [], [], ds, rfl, ok2, t2, upd_same, ok1.sub.free hD, fun hm => ok1.at_ hm hD, .nil, by simpa using e4, by simp⟩
    · rintro i m H ⟨rfl, hi, wi, us, as, r, rfl, oki, ti, hDi, fD, rD, das, er, eds⟩
      have pre : w1.r <+: wi.r := by
        obtain ⟨l, e, _⟩ := ti.pre
        exact ⟨l, e.symm⟩
      obtain ⟨hstop, hgo⟩ := hJ wi oki ti.ext pre
      by_cases hlt : i < vs.length
      · obtain ⟨v, hv⟩ : ∃ v, vs[i]? = some v := ⟨vs[i], List.getElem?_eq_getElem hlt⟩
        obtain ⟨go, yld⟩ := hgo i v hv
        have hd : vs.drop i = v :: vs.drop (i + 1) := by
          rw [List.drop_eq_getElem_cons hlt]
          rw [List.getElem?_eq_getElem hlt] at hv
          cases hv
          rfl
        rw [hd] at er
        obtain ⟨a, S1, r', ea, er', e6⟩ := mapV_cons er
        refine .inr ⟨go, fun H' => ∃ (wi : Wd) (us : List V) (as r : List PyData), wi.H = H' ∧ wi.Ok C ∧ w1.To wi ∧ H' D = some (.lst us) ∧ wi.F D = none ∧ D ∉ wi.r ∧ DpAll C.K wi.F us as ∧ mapV f (vs.drop (i + 1)) wi.S = some (.ok r S') ∧ ds = as ++ r, fun H' h' => ⟨vs.length - (i + 1), by omega, rfl, hlt, h'⟩, fun xv H' hy => ?_⟩
        obtain ⟨w3, e7, e8, e9, ok3, t3, k3, dv⟩ := yld xv H' hy
        subst e7
        have ea' : f v wi.S = some (.ok a S1) := ea
        rw [← hf] at ea'
        obtain ⟨_, _, z, ea2⟩ := noEx_ok ea'
        cases z
        obtain ⟨env', eb, ea3⟩ := bnd_lft ea2
        obtain ⟨b, S2, ec, ea4⟩ := bnd_ok ea3
        rw [← e8] at ec
        have en3 : EnvR C w3 (wipeE env own) (L2.wipe σ own) := ((en1.to ti).to t3).wipe own
        have h3D : w3.H D = some (.lst us) ∧ w3.F D = none := by
          have := k3 D (by rw [hDi]; exact fun z => by cases z)
          rw [this.1, this.2]
          exact ⟨hDi, fD⟩
        refine rg w3 _ env' _ xv v _ ok3 en3 dv eb fun σ2 en4 of => ⟨?_, ?_⟩
        · rw [wipe_off of hin']
          exact wipe_idem
        · refine rt w3 env' σ2 _ _ ok3 en4 ec ?_
          intro w4 bv e10 ok4 t4 hbv
          have hbv : bv = b := hbv
          subst hbv
          subst e10
          have keepD : ∀ {w5 : Wd}, w5.Ok C → w3.To w5 → w5.H D = some (.lst us) ∧ w5.F D = none ∧ D ∉ w5.r := fun {w5} ok5 t5 => by
            have nr : D ∉ w3.r := by rw [e9]; exact rD
            refine ⟨t5.fr D _ h3D.1 nr (fun _ z => by cases z), ?_, fun hm => ?_⟩
            · cases z : w5.F D with
              | none => rfl
              | some o' =>
                rcases t5.nf D (by rw [z]; exact fun z => by cases z) with q | q
                · exact absurd h3D.2 q
                · rw [h3D.1] at q
                  cases q
            · obtain ⟨l, e, hl⟩ := t5.pre
              rw [e] at hm
              rcases List.mem_append.mp hm with q | q
              · exact nr q
              · rw [hl D q] at h3D
                cases h3D.1
          cases bv with
          | false =>
            rw [if_neg Bool.false_ne_true] at ea4 ⊢
            cases ea4
            obtain ⟨a1, a2, a3⟩ := keepD ok4 t4
            exact ⟨w4, us, as, r', rfl, ok4, (ti.trans t3 oki).trans t4 ok3, a1, a2, a3, dpAll_mono (t3.ext.trans t4.ext) das, er', by rw [eds, e6]⟩
          | true =>
            rw [if_pos rfl] at ea4 ⊢
            obtain ⟨rv, S3, ee, ea5⟩ := bnd_ok ea4
            obtain ⟨d, ed, ea6⟩ := bnd_lft ea5
            cases ea6
            have en5 := en4.to t4
            refine re w4 env' σ2 _ _ ok4 en5 ee ?_
            intro w5 yv e11 ok5 t5 hrv
            obtain ⟨w6, b1, b2, b3, b4, b5, b6, b7⟩ := hrv.data ok5 t5 ed
            have t6 : w3.To w6 := t4.trans b4 ok4
            obtain ⟨a1, a2, a3⟩ := keepD b3 t6
            have hlen : as.length + (1 + r'.length) ≤ sizeLine := by
              rw [eds, e6] at hz
              simp only [List.length_append, List.length_cons] at hz
              omega
            refine ⟨us, by rw [← b2]; exact a1, by have := dpAll_len das; omega, { w6 with H := upd w6.H D (.lst (us ++ [yv])) }, us ++ [yv], as ++ [d], r', by show upd w6.H D _ = upd w5.H D _; rw [b2], b3.write a1 a2 a3, ((ti.trans t3 oki).trans t6 ok3).write hD (fun ps z => by rw [a1] at z; cases z), upd_same, a2, a3, dpAll_snoc (dpAll_mono (t3.ext.trans t6.ext) das) b7, ?_, ?_⟩
            · show mapV f (vs.drop (i + 1)) w6.S = _
              rw [b1, e11]
              exact er'
            · rw [eds, e6, List.append_assoc]
              rfl
      · have ei : i = vs.length := by omega
        subst ei
        refine .inl ⟨hstop, ?_⟩
        have er0 : r = [] ∧ wi.S = S' := by
          rw [List.drop_length] at er
          cases er
          exact ⟨rfl, rfl⟩
        obtain ⟨rfl, eS⟩ := er0
        refine hq1.okd eS oki ti ⟨D, us, rfl, hDi, fD, rD, hD, ?_⟩
        rw [eds, List.append_nil]
        exact das
  · have bk : BlkOk X.N X.env.scope scope (ownL N own) := by
      rw [hX.2.1, hX.2.2]
      exact blkOk_by hb
    have fo : ∀ (s : Shared) (H : Hp) (D : Addr) (cl : List (Str × Addr)) (fp : List Addr), FnOk' (X.blk s H scope (compEnvC scope cl D X.env) fp) N (tgL tg) := fun s H D cl fp i hii n hn => by
      have k : ∀ n, N[i]? = some n → loc scope n = true := fun n hn => by
        cases tg with
        | nm j =>
          have : i = j := by simpa [tgL] using hii
          subst this
          cases t <;> simp only [chTg] at ht2 <;> try (cases ht2; done)
          simp only [Bool.and_eq_true] at ht2
          have := dec_eq ht2.1
          rw [hn] at this
          cases this
          exact ht2.2
        | tp is =>
          cases t <;> simp only [chTg] at ht2 <;> try (cases ht2; done)
          have h2 := nmsC_of ht2
          have : ∀ (is : List Nat) (as : List Expr), nmsC N scope is as = true → i ∈ is → loc scope n = true := by
            intro is as
            induction is generalizing as with
            | nil => intro _ z; cases z
            | cons j js ih =>
              intro h z
              cases as with
              | nil => simp [nmsC] at h
              | cons a as =>
                cases a <;> simp only [nmsC, Bool.and_eq_true] at h <;> try (cases h; done)
                rcases List.mem_cons.mp z with e | z
                · subst e
                  have := dec_eq h.1.1
                  rw [hn] at this
                  cases this
                  exact h.1.2
                · exact ih _ h.2 z
          exact this is _ h2 hii
      have kn := k n hn
      unfold loc at kn
      split at kn
      · rename_i q
        exact .inr (lookup_relS_keep (fun z => by cases z) q)
      · rename_i q
        refine .inl ?_
        show (scope.names.lookup n == some .cell) = true
        rw [q]
        rfl
      · cases kn
    have fg : ∀ (s : Shared) (H : Hp) (D : Addr) (cl : List (Str × Addr)) (fp : List Addr), PG (X.blk s H scope (compEnvC scope cl D X.env) fp) t g := fun s H D cl fp => pg _ hX.1.K hX.1.calm hX.2.1 hX.1.nd (by show relS scope X.env.scope = _; rw [hX.2.2]) (fo s H D cl fp)
    have fi : ∀ v, foldedSetIterable x X.env v = pure v := fun v => by cases x <;> first | rfl | cases hs
    refine ⟨?_, fun i n py spos hn hl hsw => ?_⟩
    · have := pe_lc (X := X) (elt := y) (tg := t) (iter := x) (ifs := ifs) (scope := scope) (own := ownL N own) (pos := pos) (wi := wi) (g := g) (tt := tt) (te := te) hX.1.calm hX.1.nd (pi X hX) bk fg (fun s H D cl fp => pt _ (at_blk hX)) (fun s H D cl fp => pe _ (at_blk hX)) fi
      rw [hown] at this
      exact this
    · have := ps_setLc (X := X) (i := i) (y := n) (py := py) (elt := y) (tg := t) (iter := x) (ifs := ifs) (scope := scope) (own := ownL N own) (pos := pos) (spos := spos) (wi := wi) (g := g) (tt := tt) (te := te) hX.1.calm hX.1.nd hn hl hsw (pi X hX) bk fg (fun s H D cl fp => pt _ (at_blk hX)) (fun s H D cl fp => pe _ (at_blk hX)) fi
      rw [hown] at this
      exact this
theorem SEc.se {f : Env → M RV} (h : SEc C P G N sc x f) : SE C P G N sc x f := fun W => by
  obtain ⟨t, r, p⟩ := h W
  exact ⟨t, r, fun X hX => (p X hX).1⟩
theorem se_comp {it : It} {tg : Tg} {own : List Nat} {c : Oe} {e : E} {t : Expr} {ifs : List Expr} {scope : Scope} (hi : SI C P G N sc t x (evI G it)) (hs : isSet x = false) (hl : ((ownL N own).length == own.length) = true) (hb : blkC N sc scope (ownL N own) = true)
    (ht : chTg N (relS scope sc) tg t = true) (ht2 : chTg N scope tg t = true) (hin : tgIn own tg = true) (hc : SC C P.off G N (relS scope sc) ifs (evC G c)) (he : SE C P.off G N (relS scope sc) y (ev G e)) : SE C P G N sc (.ListComp y [⟨t, x, ifs, 0⟩] scope pos) (ev G (.comp it tg own c e)) := (se_compS hi hs hl hb ht ht2 hin hc he).se
/-! ### two walks -/
theorem noOwn_at {env : Env} {i : Nat} {s : Sl} (h : (noOwn env)[i]? = some s) : ∃ s', env[i]? = some s' ∧ s = unOwn s' := by
  unfold noOwn at h
  rw [List.getElem?_map] at h
  cases q : env[i]? with
  | none => rw [q] at h; cases h
  | some s' => rw [q] at h; cases h; exact ⟨s', rfl, rfl⟩
theorem EnvR.noOwn {w : Wd} {env : Env} {σ : L2.St} (en : EnvR C w env σ) : EnvR C w (noOwn env) σ := by
  refine ⟨by unfold _root_.G.noOwn; rw [List.length_map]; exact en.len, fun i s h => ?_, fun i j o o' a h => ?_⟩
  · obtain ⟨s', h1, rfl⟩ := noOwn_at h
    have := en.at_ i s' h1
    cases s' with
    | own o => trivial
    | un => trivial
    | vl v => exact this
  · obtain ⟨s', _, e⟩ := noOwn_at h
    cases s' <;> cases e
theorem VlR.far {w w' : Wd} {x : V} {v : Vl} (h : VlR C w x v) (e : Ext w.F w'.F) (pr : w.r <+: w'.r) : VlR C w' x v := by
  cases v with
  | dat d => exact dp_mono e h
  | loc n =>
    obtain ⟨a, h1, h2⟩ := h
    obtain ⟨l, hl⟩ := pr
    exact ⟨a, by rw [← hl, List.getElem?_append_left (List.getElem?_eq_some_iff.mp h1).1]; exact h1, h2⟩
  | fn g => exact h
theorem EnvR.far {w w' : Wd} {env : Env} {σ : L2.St} (en : EnvR C w (_root_.G.noOwn env) σ) (e : Ext w.F w'.F) (pr : w.r <+: w'.r) : EnvR C w' (_root_.G.noOwn env) σ := by
  refine ⟨en.len, fun i s h => ?_, fun i j o o' a h => en.apart i j o o' a h⟩
  have := en.at_ i s h
  cases s with
  | un => trivial
  | vl v =>
    obtain ⟨x, e1, q⟩ := this
    exact ⟨x, e1, q.far e pr⟩
  | own o =>
    obtain ⟨s', _, z⟩ := noOwn_at h
    cases s' <;> cases z
theorem Wd.To.pr {w w' : Wd} (t : w.To w') : w.r <+: w'.r := by
  obtain ⟨l, e, _⟩ := t.pre
  exact ⟨l, e.symm⟩
theorem tYes_of {Z : Bool → Hp → Prop} {σ : L2.St} {H : Hp} (h : Z true H) : tYes σ H Z := h
theorem se_comp2S {it it2 : It} {tg tg2 : Tg} {own own2 : List Nat} {e : E} {x2 t t2 : Expr} {scope : Scope} (hi : SI C P G N sc t x (evI G it)) (hs : isSet x = false) (hl : ((ownL N own).length == own.length) = true) (hb : blkC N sc scope (ownL N own) = true)
    (ht : chTg N (relS scope sc) tg t = true) (ht2 : chTg N scope tg t = true) (hin : tgIn own tg = true)
    (hi2 : SI C P.off G N (relS scope sc) t2 x2 (evI G it2)) (hs2 : isSet x2 = false) (gt : chTg N (relS scope sc) tg2 t2 = true) (gt2 : chTg N scope tg2 t2 = true) (gin : tgIn own2 tg2 = true) (hsub : own2.all (fun i => own.contains i) = true)
    (he : SE C P.off G N (relS scope sc) y (ev G e)) : SEc C P G N sc (.ListComp y [⟨t, x, [], 0⟩, ⟨t2, x2, [], 0⟩] scope pos) (ev G (.comp2 it tg it2 tg2 own own2 e)) := fun W => by
  obtain ⟨wi, ri, pi⟩ := hi W
  obtain ⟨g, rg, pg⟩ := stg (C := C) ht
  obtain ⟨wi1, ri1, pi1⟩ := hi2 (fun _ _ _ _ => False)
  obtain ⟨g1, rg1, pg1⟩ := stg (C := C) gt
  obtain ⟨te, re, pe⟩ := he (fun _ _ _ _ => False)
  have hown := ownL_snd hl
  have tin : ∀ {own : List Nat} {tg : Tg}, tgIn own tg = true → ∀ i ∈ tgL tg, i ∈ own := fun {own tg} hin => by
    cases tg with
    | nm i => simpa [tgL, tgIn] using hin
    | tp is => simpa [tgL, tgIn] using hin
  have hin' := tin hin
  have gin' := tin gin
  have hsub' : ∀ i ∈ own2, i ∈ own := fun i hi => by simpa using List.all_eq_true.mp hsub i hi
  refine ⟨tLc2 wi g tYes wi1 g1 tYes te own own2, fun w env σ o Q ok en e1 hq => ?_, fun X hX => ?_⟩
  · simp only [ev] at e1
    refine ri.bind ok en e1 hq back_rv fun vs w1 J ok1 t1 en1 hJ e2 hq1 => ?_
    intro D hD
    generalize hf2 : (fun (env1 : Env) (u : Vl) => noEx (bnd (lft (bindT tg2 u (wipeE (_root_.G.noOwn env1) own2))) fun env2 => bnd (ev G e env2) fun x => bnd (lft x.toD) fun d => ret (some d))) = f2 at e2
    have fEx2 : ∀ env1 v S o, f2 env1 v S = some o → ∃ a S', o = .ok a S' := fun env1 v S o h => by
      rw [← hf2] at h
      obtain ⟨a, S', e, _⟩ := noEx_ok h
      exact ⟨a, S', e⟩
    have e2 : bnd (mapV (fun v => noEx (bnd (lft (bindT tg v (wipeE env own))) fun env1 => bnd (evI G it2 (_root_.G.noOwn env1)) fun us => bnd (mapV (f2 env1) us) fun ds => ret (some ds))) vs) (fun dss => if dss.flatten.length ≤ sizeLine then ret (.new dss.flatten) else fail) w1.S = some o := by
      rw [← hf2]
      exact e2
    have fEx : ∀ v S o, (fun v => noEx (bnd (lft (bindT tg v (wipeE env own))) fun env1 => bnd (evI G it2 (_root_.G.noOwn env1)) fun us => bnd (mapV (f2 env1) us) fun ds => ret (some ds))) v S = some o → ∃ a S', o = .ok a S' := fun v S o h => by
      obtain ⟨a, S', e, _⟩ := noEx_ok h
      exact ⟨a, S', e⟩
    generalize hf : (fun v => noEx (bnd (lft (bindT tg v (wipeE env own))) fun env1 => bnd (evI G it2 (_root_.G.noOwn env1)) fun us => bnd (mapV (f2 env1) us) fun ds => ret (some ds))) = f at e2 fEx
    have e3 : ∃ dss S', mapV f vs w1.S = some (.ok dss S') ∧ dss.flatten.length ≤ sizeLine ∧ o = .ok (.new dss.flatten) S' := by
      unfold bnd at e2
      split at e2
      · cases e2
      · rename_i dss S' q
        have e2 : (if dss.flatten.length ≤ sizeLine then ret (RV.new dss.flatten) else fail) S' = some o := e2
        split at e2
        · rename_i hz
          cases e2
          exact ⟨dss, S', q, hz, rfl⟩
        · cases e2
      · rename_i q
        obtain ⟨_, _, z⟩ := mapV_ok fEx q
        cases z
    obtain ⟨dss, S', e4, hz, e5⟩ := e3
    subst e5
    generalize hds : dss.flatten = ds at hz hq1
    refine ⟨fun i m H => m = vs.length - i ∧ i ≤ vs.length ∧ ∃ (wi : Wd) (us : List V) (as : List PyData) (r : List (List PyData)), wi.H = H ∧ wi.Ok C ∧ w1.To wi ∧ H D = some (.lst us) ∧ wi.F D = none ∧ D ∉ wi.r ∧ DpAll C.K wi.F us as ∧ mapV f (vs.drop i) wi.S = some (.ok r S') ∧ ds = as ++ r.flatten, ⟨vs.length, by simp, Nat.zero_le _, ?_⟩, ?_⟩
    · obtain ⟨ok2, t2⟩ := ok1.loose (o := .lst []) hD
      exact ⟨_, [], [], dss, rfl, ok2, t2, upd_same, ok1.sub.free hD, fun hm => ok1.at_ hm hD, .nil, by simpa using e4, by simpa using hds.symm⟩
    · rintro i m H ⟨rfl, hi, wi, us, as, r, rfl, oki, ti, hDi, fD, rD, das, er, eds⟩
      obtain ⟨hstop, hgo⟩ := hJ wi oki ti.ext ti.pr
      by_cases hlt : i < vs.length
      · obtain ⟨v, hv⟩ : ∃ v, vs[i]? = some v := ⟨vs[i], List.getElem?_eq_getElem hlt⟩
        obtain ⟨go, yld⟩ := hgo i v hv
        have hd : vs.drop i = v :: vs.drop (i + 1) := by
          rw [List.drop_eq_getElem_cons hlt]
          rw [List.getElem?_eq_getElem hlt] at hv
          cases hv
          rfl
        rw [hd] at er
        obtain ⟨a, S1, r', ea, er', e6⟩ := mapV_cons er
        refine .inr ⟨go, fun H' => ∃ (wi : Wd) (us : List V) (as : List PyData) (r : List (List PyData)), wi.H = H' ∧ wi.Ok C ∧ w1.To wi ∧ H' D = some (.lst us) ∧ wi.F D = none ∧ D ∉ wi.r ∧ DpAll C.K wi.F us as ∧ mapV f (vs.drop (i + 1)) wi.S = some (.ok r S') ∧ ds = as ++ r.flatten, fun H' h' => ⟨vs.length - (i + 1), by omega, rfl, hlt, h'⟩, fun xv H' hy => ?_⟩
        obtain ⟨w3, e7, e8, e9, ok3, t3, k3, dv⟩ := yld xv H' hy
        subst e7
        have ea' : f v wi.S = some (.ok a S1) := ea
        rw [← hf] at ea'
        obtain ⟨_, _, z, ea2⟩ := noEx_ok ea'
        cases z
        obtain ⟨env1, eb, ea3⟩ := bnd_lft ea2
        obtain ⟨us2, S2, eI, ea4⟩ := bnd_ok ea3
        obtain ⟨dsv, S3, eM, ea5⟩ := bnd_ok ea4
        cases ea5
        have e6 : r = dsv :: r' := e6
        rw [← e8] at eI
        have en3 : EnvR C w3 (wipeE env own) (L2.wipe σ own) := ((en1.to ti).to t3).wipe own
        have h3D : w3.H D = some (.lst us) ∧ w3.F D = none := by
          have := k3 D (by rw [hDi]; exact fun z => by cases z)
          rw [this.1, this.2]
          exact ⟨hDi, fD⟩
        -- D stays, from a world at which it stands
        have keepD : ∀ {wa w5 : Wd} {us : List V}, wa.H D = some (.lst us) → wa.F D = none → D ∉ wa.r → wa.To w5 → w5.H D = some (.lst us) ∧ w5.F D = none ∧ D ∉ w5.r := fun {wa w5 us} ha fa ra t5 => by
          refine ⟨t5.fr D _ ha ra (fun _ z => by cases z), ?_, fun hm => ?_⟩
          · cases z : w5.F D with
            | none => rfl
            | some o' =>
              rcases t5.nf D (by rw [z]; exact fun z => by cases z) with q | q
              · exact absurd fa q
              · rw [ha] at q
                cases q
          · obtain ⟨l, e, hl⟩ := t5.pre
            rw [e] at hm
            rcases List.mem_append.mp hm with q | q
            · exact ra q
            · rw [hl D q] at ha
              cases ha
        refine rg w3 _ env1 _ xv v _ ok3 en3 dv eb fun σ2 en4 of => ⟨?_, ?_⟩
        · rw [wipe_off of hin']
          exact wipe_idem
        · refine tYes_of ?_
          simp only [if_true]
          refine ri1 w3 (_root_.G.noOwn env1) σ2 _ _ ok3 en4.noOwn eI ?_
          intro w4 J1 e10 ok4 t4 hJ1
          have en5 : EnvR C w4 (_root_.G.noOwn env1) σ2 := en4.noOwn.to t4
          obtain ⟨a1, a2, a3⟩ := keepD h3D.1 h3D.2 (by rw [e9]; exact rD) t4
          have t14 : w1.To w4 := (ti.trans t3 oki).trans t4 ok3
          refine ⟨fun j k H => k = us2.length - j ∧ j ≤ us2.length ∧ ∃ (wj : Wd) (us : List V) (as1 r1 : List PyData), wj.H = H ∧ wj.Ok C ∧ w1.To wj ∧ Ext w4.F wj.F ∧ w4.r <+: wj.r ∧ H D = some (.lst us) ∧ wj.F D = none ∧ D ∉ wj.r ∧ DpAll C.K wj.F us as1 ∧ mapV (f2 env1) (us2.drop j) wj.S = some (.ok r1 S1) ∧ as ++ dsv = as1 ++ r1, ⟨us2.length, by simp, Nat.zero_le _, ?_⟩, ?_⟩
          · exact ⟨w4, us, as, dsv, rfl, ok4, t14, Ext.refl _, List.prefix_refl _, a1, a2, a3, dpAll_mono (t3.ext.trans t4.ext) das, by rw [e10]; simpa using eM, rfl⟩
          · rintro j k H ⟨rfl, hj, wj, us, as1, r1, rfl, okj, tj, xj, pj, hDj, fDj, rDj, das1, er1, eas1⟩
            obtain ⟨hstop1, hgo1⟩ := hJ1 wj okj xj pj
            by_cases hlt1 : j < us2.length
            · obtain ⟨u, hu⟩ : ∃ u, us2[j]? = some u := ⟨us2[j], List.getElem?_eq_getElem hlt1⟩
              obtain ⟨go1, yld1⟩ := hgo1 j u hu
              have hd1 : us2.drop j = u :: us2.drop (j + 1) := by
                rw [List.drop_eq_getElem_cons hlt1]
                rw [List.getElem?_eq_getElem hlt1] at hu
                cases hu
                rfl
              rw [hd1] at er1
              obtain ⟨b, S4, r1', eb1, er1', e61⟩ := mapV_cons er1
              refine .inr ⟨go1, fun H' => ∃ (wj : Wd) (us : List V) (as1 r1 : List PyData), wj.H = H' ∧ wj.Ok C ∧ w1.To wj ∧ Ext w4.F wj.F ∧ w4.r <+: wj.r ∧ H' D = some (.lst us) ∧ wj.F D = none ∧ D ∉ wj.r ∧ DpAll C.K wj.F us as1 ∧ mapV (f2 env1) (us2.drop (j + 1)) wj.S = some (.ok r1 S1) ∧ as ++ dsv = as1 ++ r1, fun H' h' => ⟨us2.length - (j + 1), by omega, rfl, hlt1, h'⟩, fun uv H' hy1 => ?_⟩
              obtain ⟨w6, e71, e81, e91, ok6, t6, k6, du⟩ := yld1 uv H' hy1
              subst e71
              have eb1' : f2 env1 u wj.S = some (.ok b S4) := eb1
              rw [← hf2] at eb1'
              obtain ⟨_, _, z, eb2⟩ := noEx_ok eb1'
              cases z
              obtain ⟨env2, ec, eb3⟩ := bnd_lft eb2
              obtain ⟨rv, S5, ee, eb4⟩ := bnd_ok eb3
              obtain ⟨d, ed, eb5⟩ := bnd_lft eb4
              cases eb5
              rw [← e81] at ee
              have en6 : EnvR C w6 (wipeE (_root_.G.noOwn env1) own2) (L2.wipe σ2 own2) := ((en5.far xj pj).to t6).wipe own2
              obtain ⟨b1, b2, b3⟩ := keepD hDj fDj rDj t6
              refine rg1 w6 _ env2 _ uv u _ ok6 en6 du ec fun σ3 en7 of1 => ⟨?_, ?_⟩
              · rw [wipe_off of1 gin']
                exact wipe_idem
              · refine tYes_of ?_
                simp only [if_true]
                refine re w6 env2 σ3 _ _ ok6 en7 ee ?_
                intro w7 yv e11 ok7 t7 hrv
                obtain ⟨w8, c1, c2, c3, c4, c5, c6, c7⟩ := hrv.data ok7 t7 ed
                obtain ⟨d1, d2, d3⟩ := keepD b1 b2 b3 c4
                have hlen : as1.length + (1 + r1'.length) ≤ sizeLine := by
                  have h1 : (as ++ dsv).length ≤ sizeLine := by
                    rw [eds, e6] at hz
                    simp only [List.length_append, List.flatten_cons] at hz ⊢
                    omega
                  rw [eas1, e61] at h1
                  simp only [List.length_append, List.length_cons] at h1
                  omega
                have t16 : w1.To w6 := tj.trans t6 okj
                have t18 : w1.To w8 := t16.trans c4 ok6
                refine ⟨us, by rw [← c2]; exact d1, by have := dpAll_len das1; omega, { w8 with H := upd w8.H D (.lst (us ++ [yv])) }, us ++ [yv], as1 ++ [d], r1', by show upd w8.H D _ = upd w7.H D _; rw [c2], c3.write d1 d2 d3, t18.write hD (fun ps z => by rw [d1] at z; cases z), (xj.trans t6.ext).trans c4.ext, (pj.trans t6.pr).trans c4.pr, upd_same, d2, d3, dpAll_snoc (dpAll_mono (t6.ext.trans c4.ext) das1) c7, ?_, ?_⟩
                · show mapV (f2 env1) (us2.drop (j + 1)) w8.S = _
                  rw [c1, e11]
                  exact er1'
                · rw [eas1, e61, List.append_assoc]
                  rfl
            · have ej : j = us2.length := by omega
              subst ej
              refine .inl ⟨hstop1, ?_⟩
              have er0 : r1 = [] ∧ wj.S = S1 := by
                rw [List.drop_length] at er1
                cases er1
                exact ⟨rfl, rfl⟩
              obtain ⟨rfl, eS⟩ := er0
              rw [List.append_nil] at eas1
              refine ⟨wj, us, as1, r', rfl, okj, tj, hDj, fDj, rDj, das1, by rw [eS]; exact er', ?_⟩
              rw [eds, e6, List.flatten_cons, ← List.append_assoc, eas1]
      · have ei : i = vs.length := by omega
        subst ei
        refine .inl ⟨hstop, ?_⟩
        have er0 : r = [] ∧ wi.S = S' := by
          rw [List.drop_length] at er
          cases er
          exact ⟨rfl, rfl⟩
        obtain ⟨rfl, eS⟩ := er0
        refine hq1.okd eS oki ti ⟨D, us, rfl, hDi, fD, rD, hD, ?_⟩
        rw [eds, List.flatten_nil, List.append_nil]
        exact das
  · have bk : BlkOk X.N X.env.scope scope (ownL N own) := by
      rw [hX.2.1, hX.2.2]
      exact blkOk_by hb
    have fo : ∀ {tg : Tg} {t : Expr}, chTg N scope tg t = true → ∀ (s : Shared) (H : Hp) (D : Addr) (cl : List (Str × Addr)) (fp : List Addr), FnOk' (X.blk s H scope (compEnvC scope cl D X.env) fp) N (tgL tg) := fun {tg t} ht2 s H D cl fp i hii n hn => by
      have k : ∀ n, N[i]? = some n → loc scope n = true := fun n hn => by
        cases tg with
        | nm j =>
          have : i = j := by simpa [tgL] using hii
          subst this
          cases t <;> simp only [chTg] at ht2 <;> try (cases ht2; done)
          simp only [Bool.and_eq_true] at ht2
          have := dec_eq ht2.1
          rw [hn] at this
          cases this
          exact ht2.2
        | tp is =>
          cases t <;> simp only [chTg] at ht2 <;> try (cases ht2; done)
          have h2 := nmsC_of ht2
          have : ∀ (is : List Nat) (as : List Expr), nmsC N scope is as = true → i ∈ is → loc scope n = true := by
            intro is as
            induction is generalizing as with
            | nil => intro _ z; cases z
            | cons j js ih =>
              intro h z
              cases as with
              | nil => simp [nmsC] at h
              | cons a as =>
                cases a <;> simp only [nmsC, Bool.and_eq_true] at h <;> try (cases h; done)
                rcases List.mem_cons.mp z with e | z
                · subst e
                  have := dec_eq h.1.1
                  rw [hn] at this
                  cases this
                  exact h.1.2
                · exact ih _ h.2 z
          exact this is _ h2 hii
      have kn := k n hn
      unfold loc at kn
      split at kn
      · rename_i q
        exact .inr (lookup_relS_keep (fun z => by cases z) q)
      · rename_i q
        refine .inl ?_
        show (scope.names.lookup n == some .cell) = true
        rw [q]
        rfl
      · cases kn
    have fg : ∀ (s : Shared) (H : Hp) (D : Addr) (cl : List (Str × Addr)) (fp : List Addr), PG (X.blk s H scope (compEnvC scope cl D X.env) fp) t g := fun s H D cl fp => pg _ hX.1.K hX.1.calm hX.2.1 hX.1.nd (by show relS scope X.env.scope = _; rw [hX.2.2]) (fo ht2 s H D cl fp)
    have fg1 : ∀ (s : Shared) (H : Hp) (D : Addr) (cl : List (Str × Addr)) (fp : List Addr), PG (X.blk s H scope (compEnvC scope cl D X.env) fp) t2 g1 := fun s H D cl fp => pg1 _ hX.1.K hX.1.calm hX.2.1 hX.1.nd (by show relS scope X.env.scope = _; rw [hX.2.2]) (fo gt2 s H D cl fp)
    have fi : ∀ v, foldedSetIterable x X.env v = pure v := fun v => by cases x <;> first | rfl | cases hs
    have fi2 : ∀ env v, foldedSetIterable x2 env v = pure v := fun env v => by cases x2 <;> first | rfl | cases hs2
    refine ⟨?_, fun i n py spos hn hl hsw => ?_⟩
    · have := pe_lc2 (X := X) (elt := y) (tg := t) (iter := x) (tg1 := t2) (iter1 := x2) (ifs := []) (ifs1 := []) (scope := scope) (own := ownL N own) (vs1 := own2) (pos := pos) (wi := wi) (wi1 := wi1) (g := g) (g1 := g1) (tt := tYes) (tt1 := tYes) (te := te) hX.1.calm hX.1.nd (pi X hX) bk (by rw [hown]; exact hsub') fg (fun s H D cl fp => pts_nil) (fun s H D cl fp => pi1 _ (at_blk hX)) fg1 (fun s H D cl fp => pts_nil) (fun s H D cl fp => pe _ (at_blk hX)) fi fi2
      rw [hown] at this
      exact this
    · have := ps_setLc2 (X := X) (i := i) (y := n) (py := py) (elt := y) (tg := t) (iter := x) (tg1 := t2) (iter1 := x2) (ifs := []) (ifs1 := []) (scope := scope) (own := ownL N own) (vs1 := own2) (pos := pos) (spos := spos) (wi := wi) (wi1 := wi1) (g := g) (g1 := g1) (tt := tYes) (tt1 := tYes) (te := te) hX.1.calm hX.1.nd hn hl hsw (pi X hX) bk (by rw [hown]; exact hsub') fg (fun s H D cl fp => pts_nil) (fun s H D cl fp => pi1 _ (at_blk hX)) fg1 (fun s H D cl fp => pts_nil) (fun s H D cl fp => pe _ (at_blk hX)) fi fi2
      rw [hown] at this
      exact this
end
end G

-- GZ
set_option maxRecDepth 100000
set_option maxHeartbeats 2000000
namespace G
open PySem L2 LamX PyProof.Rows
/-! ### plain parameters -/
theorem fm_congr {α β : Type} {f g : α → Option β} : ∀ {l : List α}, (∀ a ∈ l, f a = g a) → l.filterMap f = l.filterMap g
  | [], _ => rfl
  | a :: l, h => by
    rw [List.filterMap_cons, List.filterMap_cons, h a List.mem_cons_self, fm_congr fun b hb => h b (List.mem_cons_of_mem _ hb)]
theorem zip_look : ∀ {ns : List Str} {us : List Value}, ns.Nodup → us.length = ns.length → (∀ n ∈ ns, ((ns.zip us).lookup n).isSome = true) ∧ ns.filterMap (fun n => ((ns.zip us).lookup n).map (n, ·)) = ns.zip us
  | [], [], _, _ => ⟨(fun _ h => by cases h), rfl⟩
  | [], _ :: _, _, h => by cases h
  | _ :: _, [], _, h => by cases h
  | n :: ns, u :: us, nd, h => by
    obtain ⟨nn, nd'⟩ := List.nodup_cons.mp nd
    obtain ⟨h1, h2⟩ := zip_look (us := us) nd' (by simpa using h)
    have look : ∀ m ∈ ns, (((n :: ns).zip (u :: us)).lookup m) = (ns.zip us).lookup m := fun m hm => by
      rw [List.zip_cons_cons, List.lookup_cons]
      have : (m == n) = false := by
        cases q : m == n with
        | false => rfl
        | true => exact absurd (by rw [← eq_of_beq q]; exact hm) nn
      rw [this]
    have self : (((n :: ns).zip (u :: us)).lookup n) = some u := by
      rw [List.zip_cons_cons, List.lookup_cons]
      simp
    refine ⟨fun m hm => ?_, ?_⟩
    · rcases List.mem_cons.mp hm with e | hm
      · rw [e, self]
        rfl
      · rw [look m hm]
        exact h1 m hm
    · rw [List.filterMap_cons, self]
      show (n, u) :: _ = _
      have e : (ns.filterMap fun m => (((n :: ns).zip (u :: us)).lookup m).map (m, ·)) = ns.zip us := by
        rw [← h2]
        refine fm_congr fun m hm => ?_
        rw [look m hm]
      rw [e]
      rfl
def plainP (p : Arguments) (ns : List Str) : Bool := p.posonlyargs.isEmpty && p.vararg.isNone && p.kwonlyargs.isEmpty && p.kwarg.isNone && decide (p.args.map (·.arg) = ns) && decide ns.Nodup
theorem bind_plain {x qual : Str} {p : Arguments} {ns : List Str} {body : List Stmt} {scope : Scope} {kV doc pm : Value} {an : Option Addr} {cdv ct : Value} {us : List Value} (h : plainP p ns = true) (hl : us.length = ns.length) :
    bindArgs (PySem.W.fnOf x qual p body scope .none kV doc pm an cdv ct) ⟨us, []⟩ = pure (ns.zip us) := by
  obtain ⟨p1, p2, p3, p4, p5, p6, p7⟩ := p
  unfold plainP at h
  simp only [Bool.and_eq_true, decide_eq_true_eq, List.isEmpty_iff, Option.isNone_iff_eq_none] at h
  obtain ⟨⟨⟨⟨⟨h1, h2⟩, h3⟩, h4⟩, h5⟩, h6⟩ := h
  subst h1 h2 h3 h4
  obtain ⟨z1, z2⟩ := zip_look h6 hl
  have f0 : (ns.filter fun n => ((ns.zip us).lookup n).isNone) = [] := by
    rw [List.filter_eq_nil_iff]
    intro n hn
    have := z1 n hn
    cases q : (ns.zip us).lookup n with
    | none => rw [q] at this; cases this
    | some _ => simp
  have e1 : seqItems? Value.none = pure none := rfl
  unfold bindArgs PySem.W.fnOf
  simp only [List.map_nil, List.nil_append, h5, e1, pure_bind, List.forIn_nil, Option.getD_none, List.length_nil, Nat.sub_zero, List.take_length, List.drop_length, List.zip_nil_left, f0, List.isEmpty_nil, Bool.not_true, List.append_nil, z2, hl]
  simp [h5, f0, z2]
end G

-- HA
set_option maxRecDepth 100000
set_option maxHeartbeats 2000000
/-! Within an except suite: zip that ends, a list comprehension. -/
namespace G
open PySem PySem.Spec PyProof.Rows L2 HotX L2H
section
variable {prog : Program} {w : World} {A : Around} {E : Value → Shared → Prop} {s : Shared}
theorem nextOf_list_end_hot {it l x1 : Addr} {i : Nat} {items : Array Value} {Q : Value → Shared → Prop} (hot : HotAt A x1 s.heap) (hx1 : x1 ≠ it)
    (hit : s.heap.IsListIter it l i) (hl : s.heap.IsList l items) (hx : items[i]? = none)
    (hE : ∀ h' e, Heap.ExtBut it s.heap h' → (∃ o, h'.get? e = some o ∧ o.cls = .type "StopIteration") → E (.ref e) { s with heap := h' }) :
    wpAny (model prog w) A (Builtin.SmallTypes.nextOf (.ref it)) Q E s := by
  obtain ⟨o, ho, hc, hd⟩ := id hit
  obtain ⟨ol, hol, _, nl, hdl⟩ := hl
  obtain ⟨hh, o1, vs1, h1, d1, c1⟩ := hot
  unfold Builtin.SmallTypes.nextOf
  refine wpAny_bind (wpAny_callSpecial?_slot (name := Str.ofString "__next__") hit.typeIs slot_listiter_next
    (wpAny_call_entry slot_listiter_next hit.typeIs entry_listiter_next ?_ (args_listiter_next _)))
  show wpAny _ _ (field (.ref it) 0 >>= _) _ _ s
  refine wpAny_bind (wpAny_field ho hd (x := .ref l) rfl ?_)
  show wpAny _ _ (if (Value.ref l == Value.none) = true then _ else _) _ _ s
  rw [if_neg (show ¬ ((Value.ref l == Value.none) = true) from Bool.false_ne_true)]
  show wpAny _ _ (field (.ref it) 1 >>= _) _ _ s
  refine wpAny_bind (wpAny_field ho hd (x := .int i 0) rfl ?_)
  show wpAny _ _ (seqItems? (.ref l) >>= _) _ _ s
  refine wpAny_bind (wpAny_seqItems hol hdl ?_)
  simp only [Int.toNat_natCast, hx]
  refine wpAny_bind (wpAny_rule (wpAny_bind (wpAny_setField ho hd (by simp) ?_)))
  show wpAny _ _ (newExc (.type "StopIteration") [] >>= _) _ _ _
  refine wpAny_bind ?_
  simp only [newExc, newTuple]
  refine wpAny_bind (wpAny_newObj_type ?_ (by size_fits))
  refine wpAny_bind (m := firstArgMember _ _) (wpAny_of_eq (a := Value.none) (by first | rfl | (simp only [firstArgMember]; rfl)) ?_)
  refine wpAny_newObj_type ?_ (by size_fits)
  have keep : ∀ b ob, b ≠ it → s.heap.get? b = some ob → (s.heap.update it (Obj.mapFields fun fs => fs.setIfInBounds 0 .none)).get? b = some ob := fun b ob hb e => (Heap.get?_update_other _ _ (Ne.symm hb)).trans e
  have hs1 : (s.heap.update it (Obj.mapFields fun fs => fs.setIfInBounds 0 .none)).get? x1 = some o1 := keep _ _ hx1 h1
  refine raiseNew_hot ⟨hh, o1, vs1, Heap.get?_push_of_some _ (Heap.get?_push_of_some _ hs1), d1, c1⟩ (Nat.ne_of_lt (Heap.lt_size (Heap.get?_push_of_some _ hs1))) (Heap.get?_push_size _ rfl) rfl (by first | (simp; done) | (simp; omega) | (simp only [Array.size_append]; simp; omega)) ?_
  refine hE _ _ (fun b ob hb e => ?_) ⟨_, Heap.get?_update_self _ (Heap.get?_push_size _ rfl) rfl, rfl⟩
  have e1 := keep b ob hb e
  rw [Heap.get?_update_other _ _ (Nat.ne_of_gt (Heap.lt_size (Heap.get?_push_of_some _ e1)))]
  exact Heap.get?_push_of_some _ (Heap.get?_push_of_some _ e1)
theorem zip_next_end_hot {z TI TO i1 i2 l1 l2 x1 : Addr} {k1 : Nat} {xs : Array Value} {a b : Value} {Q : Fin → Shared → Prop} (hot : HotAt A x1 s.heap) (n1 : x1 ≠ z) (n2 : x1 ≠ i1) (D : ZipApart z TI TO i1 i2 l1 l2)
    (hz : IsZip s.heap z TI TO .none) (hTI : IsPair s.heap TI (.ref i1) (.ref i2)) (hTO : IsPair s.heap TO a b)
    (h1 : s.heap.IsListIter i1 l1 k1) (hl1 : s.heap.IsList l1 xs) (hx : xs[k1]? = none)
    (hE : ∀ h' e, (∀ c o, c ≠ z → c ≠ TO → c ≠ i1 → c ≠ i2 → s.heap.get? c = some o → h'.get? c = some o) → (∃ o, h'.get? e = some o ∧ o.cls = .type "StopIteration") → E (.ref e) { s with heap := h' }) :
    wpAny (model prog w) A (Builtin.«zip.__next__» ⟨[.ref z], []⟩) Q E s := by
  show wpAny _ _ (field (.ref z) 2 >>= _) _ _ _
  refine wpAny_bind (wpAny_field hz rfl (x := .bool false) rfl ?_)
  show wpAny _ _ (field (.ref z) 3 >>= _) _ _ _
  refine wpAny_bind (wpAny_field hz rfl (x := .ref TI) rfl ?_)
  refine wpAny_bind (wpAny_seqItems hTI rfl ?_)
  show wpAny _ _ (Builtin.SmallTypes.ownedTupleIsFree (.ref z) >>= _) _ _ _
  refine wpAny_bind ?_
  unfold Builtin.SmallTypes.ownedTupleIsFree
  refine wpAny_bind (wpAny_field hz rfl (x := .none) rfl (wpAny_pure ?_))
  simp only [if_true]
  refine wpAny_bind (wpAny_rule ?_)
  refine wpAny_bind (wpAny_field hz rfl (x := .ref TO) rfl ?_)
  refine wpAny_bind (wpAny_setField_rec hz (by simp) fun h₁ hz₁ hs₁ => ?_)
  replace hz₁ : IsZip h₁ z TI TO .ellipsis := hz₁
  refine wpAny_bind ?_
  simp only [List.zipIdx_cons, List.zipIdx_nil, List.forIn_cons, List.forIn_nil]
  refine wpAny_bind (wpAny_bind (wpAny_onRaise ?_))
  show wpAny _ _ (Builtin.SmallTypes.nextOf (.ref i1) >>= _) _ _ _
  have hot1 : HotAt A x1 h₁ := by
    obtain ⟨hh, o1, vs1, g1, d1, c1⟩ := hot
    exact ⟨hh, o1, vs1, hs₁.extBut _ _ n1 g1, d1, c1⟩
  refine wpAny_bind (nextOf_list_end_hot (s := { s with heap := h₁ }) hot1 n2 (h1.extBut hs₁.extBut D.i1z) (hl1.extBut hs₁.extBut D.l1z) hx fun h₂ e hs₂ he => ?_)
  obtain ⟨oe, hoe, hce⟩ := he
  have hz₂ : IsZip h₂ z TI TO .ellipsis := hs₂ _ _ D.i1z.symm hz₁
  have hez : e ≠ z := fun x => by subst x; rw [hz₂] at hoe; cases hoe; simp at hce
  refine wpAny_setField_rec hz₂ (by simp) fun h₃ _ hs₃ => hE h₃ e (fun c o c1 _ c3 _ x => hs₃.extBut _ _ c1 (hs₂ _ _ c3 (hs₁.extBut _ _ c1 x))) ⟨oe, hs₃.extBut _ _ hez hoe, hce⟩
theorem pyNext_zip_end_hot {z TI TO i1 i2 l1 l2 x1 : Addr} {k1 : Nat} {xs : Array Value} {a b : Value} {Q : Option Value → Shared → Prop} (hot : HotAt A x1 s.heap) (n1 : x1 ≠ z) (n2 : x1 ≠ i1) (D : ZipApart z TI TO i1 i2 l1 l2)
    (hz : IsZip s.heap z TI TO .none) (hTI : IsPair s.heap TI (.ref i1) (.ref i2)) (hTO : IsPair s.heap TO a b)
    (h1 : s.heap.IsListIter i1 l1 k1) (hl1 : s.heap.IsList l1 xs) (hx : xs[k1]? = none)
    (hQ : ∀ h', (∀ c o, c ≠ z → c ≠ TO → c ≠ i1 → c ≠ i2 → s.heap.get? c = some o → h'.get? c = some o) → Q none { s with heap := h' }) : wpAny (model prog w) A (pyNext (.ref z)) Q E s := by
  have hT : s.TypeIs (.ref z) "zip" := ⟨_, hz, rfl⟩
  unfold pyNext
  refine wpAny_bind (wpAny_attempt (wpAny_callSpecial?_slot (name := Str.ofString "__next__") hT F.slot_zip_next
    (wpAny_call_entry F.slot_zip_next hT F.entry_zip_next (zip_next_end_hot hot n1 n2 D hz hTI hTO h1 hl1 hx fun h' e hk he => ?_) (F.args_zip_next_1 _))))
  obtain ⟨o, ho, hc⟩ := he
  refine wpAny_bind (wpAny_isInstance (T := "StopIteration") (b := true) ⟨o, ho, hc⟩ isSubtype_stop ?_)
  exact wpAny_pure (hQ _ hk)
end
end G

-- HB
set_option maxRecDepth 100000
set_option maxHeartbeats 2000000
/-! Within an except suite: a pair unpacked, zip of two lists walked, a list comprehension. -/
namespace G
open PySem PySem.Spec PyProof.Rows L2 HotX L2H
section
variable {prog : Program} {w : World} {A : Around} {E : Value → Shared → Prop} {s : Shared}
theorem tup_end_hot {it t x1 : Addr} {i : Nat} {items : Array Value} {Q : Option Value → Shared → Prop} (hot : HotAt A x1 s.heap) (hx1 : x1 ≠ it) (hit : IsTupIter s.heap it t i) (ht : IsTup s.heap t items) (hx : items[i]? = none)
    (hQ : ∀ h', Heap.ExtBut it s.heap h' → Q none { s with heap := h' }) : wpAny (model prog w) A (pyNext (.ref it)) Q E s := by
  obtain ⟨oi, gi, ci, di⟩ := id hit
  obtain ⟨ot, gt, _, nt, dt⟩ := ht
  obtain ⟨hh, o1, vs1, h1, d1, c1⟩ := hot
  unfold pyNext
  refine wpAny_bind (wpAny_attempt (wpAny_callSpecial?_slot (name := Str.ofString "__next__") hit.typeIs slot_tupleiter_next (wpAny_call_entry slot_tupleiter_next hit.typeIs entry_tupleiter_next ?_ (args_tupleiter_next _))))
  show wpAny _ _ (field (.ref it) 0 >>= _) _ _ s
  refine wpAny_bind (wpAny_field gi di (x := .ref t) rfl ?_)
  show wpAny _ _ (if (Value.ref t == Value.none) = true then _ else _) _ _ s
  rw [if_neg (show ¬ ((Value.ref t == Value.none) = true) from Bool.false_ne_true)]
  show wpAny _ _ (field (.ref it) 1 >>= _) _ _ s
  refine wpAny_bind (wpAny_field gi di (x := .int i 0) rfl ?_)
  show wpAny _ _ (seqItems? (.ref t) >>= _) _ _ s
  refine wpAny_bind (wpAny_seqItems gt dt ?_)
  simp only [Int.toNat_natCast, hx]
  refine wpAny_bind (wpAny_rule (wpAny_bind (wpAny_setField gi di (by simp) ?_)))
  show wpAny _ _ (newExc (.type "StopIteration") [] >>= _) _ _ _
  refine wpAny_bind ?_
  simp only [newExc, newTuple]
  refine wpAny_bind (wpAny_newObj_type ?_ (by size_fits))
  refine wpAny_bind (m := firstArgMember _ _) (wpAny_of_eq (a := Value.none) (by first | rfl | (simp only [firstArgMember]; rfl)) ?_)
  refine wpAny_newObj_type ?_ (by size_fits)
  have keep : ∀ b ob, b ≠ it → s.heap.get? b = some ob → (s.heap.update it (Obj.mapFields fun fs => fs.setIfInBounds 0 .none)).get? b = some ob := fun b ob hb e => (Heap.get?_update_other _ _ (Ne.symm hb)).trans e
  have hs1 : (s.heap.update it (Obj.mapFields fun fs => fs.setIfInBounds 0 .none)).get? x1 = some o1 := keep _ _ hx1 h1
  refine raiseNew_hot ⟨hh, o1, vs1, Heap.get?_push_of_some _ (Heap.get?_push_of_some _ hs1), d1, c1⟩ (Nat.ne_of_lt (Heap.lt_size (Heap.get?_push_of_some _ hs1))) (Heap.get?_push_size _ rfl) rfl (by first | (simp; done) | (simp; omega) | (simp only [Array.size_append]; simp; omega)) ?_
  refine wpAny_bind (wpAny_isInstance (T := "StopIteration") (b := true) ⟨_, Heap.get?_update_self _ (Heap.get?_push_size _ rfl) rfl, rfl⟩ isSubtype_stop ?_)
  refine wpAny_pure (hQ _ fun b ob hb e => ?_)
  have e1 := keep b ob hb e
  rw [Heap.get?_update_other _ _ (Nat.ne_of_gt (Heap.lt_size (Heap.get?_push_of_some _ e1)))]
  exact Heap.get?_push_of_some _ (Heap.get?_push_of_some _ e1)
theorem unpack_tup_hot {t x1 : Addr} {items : Array Value} {Q : List Value → Shared → Prop} (hot : HotAt A x1 s.heap) (ht : IsTup s.heap t items)
    (hQ : ∀ h', Heap.ExtBut s.heap.objs.size s.heap h' → Q items.toList { s with heap := h' }) : wpAny (model prog w) A (unpackItems (.ref t) items.size none) Q E s := by
  obtain ⟨hh, o1, vs1, h1, d1, c1⟩ := hot
  have tl : t ≠ s.heap.objs.size := by
    obtain ⟨o, ho, _⟩ := ht
    exact Nat.ne_of_lt (Heap.lt_size ho)
  have xl : x1 ≠ s.heap.objs.size := Nat.ne_of_lt (Heap.lt_size h1)
  unfold unpackItems
  refine wpAny_bind ?_
  unfold notIterableAtAll
  refine wpAny_bind (wpAny_specialOf ht.typeIs slot_tuple_iter.lookup (wpAny_pure ?_))
  simp only [Bool.false_eq_true, if_false]
  refine wpAny_bind (wpAny_holding (iter_tuple ht ?_))
  refine wpAny_bind (wpAny_holding (draw_tuple tl items.size 0 _ _ ⟨_, Heap.get?_push_size _ rfl, rfl, rfl⟩ (ht.push _) (by omega) fun ha hit sb => ?_))
  have all : List.take items.size (List.drop 0 items.toList) = items.toList := by
    rw [List.drop_zero]
    exact List.take_of_length_le (by simp)
  rw [all, if_neg (by simp)]
  have hta : IsTup ha t items := (ht.push _).extBut sb.extBut tl
  have hota : HotAt A x1 ha := ⟨hh, o1, vs1, sb.extBut _ _ xl (Heap.get?_push_of_some _ h1), d1, c1⟩
  refine wpAny_bind (wpAny_holding (tup_end_hot (s := { s with heap := ha }) hota xl hit hta (by simp) fun hb hx => ?_))
  simp only [Option.isSome_none, Bool.false_eq_true, if_false]
  exact wpAny_pure (hQ hb fun b o ne e => hx b o ne (sb.extBut b o ne (Heap.get?_push_of_some _ e)))
theorem assign_tup_hot {env : PySem.Env} {elts : List Expr} {k : Nat} {pos : Pos} {t x1 : Addr} {items : Array Value} {Q : Unit → Shared → Prop} (hot : HotAt A x1 s.heap) (ht : IsTup s.heap t items)
    (hn : (assignEach elts env).length = items.size) (hs : (assignEach elts env).findIdx? (·.1) = none)
    (h : ∀ h', Heap.ExtBut s.heap.objs.size s.heap h' → wpAny (model prog w) A (assignInOrder ((assignEach elts env).map (·.2)) items.toList) Q E { s with heap := h' }) :
    wpAny (model prog w) A (assign (.Tuple elts k pos) env (.ref t)) Q E s := by
  rw [assign_Tuple]
  refine wpAny_bind (wpAny_standAt ?_)
  unfold unpack
  rw [hn, hs]
  exact wpAny_bind (wpAny_holding (unpack_tup_hot hot ht h))
end
section
variable {X : Cx} {pos : Pos}
theorem pg_tup_hot {es : List Expr} {k : Nat} {t : TGs} {n : Nat} (hc : HotC X) (h : PGs X es t) (hn : (assignEach es X.env).length = n) (hst : (assignEach es X.env).findIdx? (·.1) = none) : PG X (.Tuple es k pos) (gTup X.K n t) := by
  refine ⟨fun pins s σ H v u Q I r hw => ?_⟩
  obtain ⟨a, xs, e1, hq, hl, hw⟩ := hw
  subst e1
  cases r
  obtain ⟨its, rv, ht, hz⟩ := I.tuple hq
  obtain ⟨x1, hot⟩ := hc.at I
  refine assign_tup_hot hot ht (by simp [hn, ← hl, rv.length]) hst fun h' hx => ?_
  have I1 : Inv X pins σ H { s with heap := h' } := I.kept (t' := s.toks) fun b o e => hx b o (Nat.ne_of_lt (Heap.lt_size e)) e
  exact h.run pins _ σ H xs _ Q I1 (by simpa using rv) hw
/-- zip, whose first list is not the longer -/
def ItzF (K : PySem.W.Frag) (a b : Addr) : L2.It := ⟨(Itz K a b).go, (Itz K a b).yld, fun i H => ∃ xs : List V, SqL K H a xs ∧ xs.length ≤ i⟩
theorem turn_zip_hot {P : Program} {w : World} {K : PySem.W.Frag} {elts : List Expr} {kk : Nat} {tpos : Pos} {a b z TI TO i1 i2 : Addr} (D : ZipApart z TI TO i1 i2 a b) :
    TurnH P w K (.Tuple elts kk tpos) (ItzF K a b) [z, TI, TO, i1, i2] z (fun i h => IsZip h z TI TO .none ∧ IsPair h TI (.ref i1) (.ref i2) ∧ (∃ x y, IsPair h TO x y) ∧ h.IsListIter i1 a i ∧ h.IsListIter i2 b i) := by
  have T := turn_zip (P := P) (w := w) (K := K) (elts := elts) (kk := kk) (tpos := tpos) D
  refine ⟨T.mem, T.obj, T.keep, ?_, ?_, T.self⟩
  · -- an item: as the calm rule has it, but for the word calm
    intro X hP hw hK hc i pins s σ H E I hf st hg
    subst hP hw hK
    obtain ⟨q1, q2, ⟨x0, y0, q3⟩, q4, q5⟩ := st
    obtain ⟨xs, ys, x, y, hqx, hqy, hx, hy⟩ := hg
    obtain ⟨l1, r1, p1, _⟩ := I.list hqx
    obtain ⟨l2, r2, p2, _⟩ := I.list hqy
    obtain ⟨u1, hu1, ru1⟩ := r1.get hx
    obtain ⟨u2, hu2, ru2⟩ := r2.get hy
    have zl : z < s.heap.objs.size := Heap.lt_size q1
    refine wpAny_pyNext_zip_item D q1 q2 q3 q4 q5 p1.isList p2.isList (x := u1) (y := u2) (by simpa using hu1) (by simpa using hu2) fun h1 z1 O1 a1 a2 t1 sz k1 => ?_
    refine ⟨_, rfl, wpAny_letOwnedTupleGo_zip (s := { s with heap := h1 }) z1 fun h2 z2 sb => ?_⟩
    have t2 : h2.get? s.heap.objs.size = some { cls := .type "tuple", data := .seq #[u1, u2] } := (sb.2 _ (Nat.ne_of_gt zl)).trans t1
    have new : ObjOk X.prog X.w (upd H s.heap.objs.size (.tup [x, y])) h2 s.heap.objs.size (.tup [x, y]) := ⟨by show 2 ≤ sizeLine; decide, [u1, u2], .cons ru1 (.cons ru2 .nil), ⟨_, t2, rfl, _, rfl⟩⟩
    have I1 : Inv X pins σ (upd H s.heap.objs.size (.tup [x, y])) { s with heap := h2 } := I.turnedNew (t' := s.toks) (ch := [z, TI, TO, i1, i2])
      (fun c o hb q => (sb.2 c (fun e => hb (by simp [e]))).trans (k1 c o (fun e => hb (by simp [e])) (fun e => hb (by simp [e])) (fun e => hb (by simp [e])) (fun e => hb (by simp [e])) q)) hf (Nat.le_refl _) new
    refine ⟨.ref s.heap.objs.size, _, I1, rfl, ⟨_, x, y, rfl, I.hok.fresh (Nat.le_refl _), rfl, fun l hl => by rw [I.list_inj hl hqx]; exact hx, fun l hl => by rw [I.list_inj hl hqy]; exact hy⟩, ⟨z2, ?_, ⟨u1, u2, ?_⟩, ?_, ?_⟩, fun c hcm => ?_⟩
    · exact (sb.2 _ D.TIz).trans (k1 _ _ D.TIz D.TITO D.TIi1 D.TIi2 q2)
    · exact (sb.2 _ D.TOz).trans O1
    · exact a1.at fun o e => (sb.2 _ D.i1z).trans e
    · exact a2.at fun o e => (sb.2 _ D.i2z).trans e
    · have lt : c < s.heap.objs.size := by
        rcases (show c = z ∨ c = TI ∨ c = TO ∨ c = i1 ∨ c = i2 by simpa using hcm) with e | e | e | e | e
        · rw [e]; exact zl
        · rw [e]; exact Heap.lt_size q2
        · rw [e]; exact Heap.lt_size q3
        · rw [e]; obtain ⟨_, e1, _⟩ := q4; exact Heap.lt_size e1
        · rw [e]; obtain ⟨_, e2, _⟩ := q5; exact Heap.lt_size e2
      rw [upd_ne (Nat.ne_of_lt lt)]
      exact (hf c hcm).1
  · intro X hP hw hK hc i pins s σ H E I hf st hg
    subst hP hw hK
    obtain ⟨q1, q2, ⟨x0, y0, q3⟩, q4, q5⟩ := st
    obtain ⟨xs, hqx, hend⟩ := hg
    obtain ⟨l1, r1, p1, _⟩ := I.list hqx
    have e1 := r1.length
    obtain ⟨p, ⟨hh, vs1, g1, c1⟩, hp⟩ := hc
    have hot : HotAt X.A p.1 s.heap := ⟨hh, p.2, vs1, (I.pin p (List.mem_append_left _ hp)).1, g1, c1⟩
    have off : ∀ b ∈ [z, TI, TO, i1, i2], p.1 ≠ b := fun b hb => (hf b hb).2.2.2.2.2 p (List.mem_append_left _ hp)
    exact pyNext_zip_end_hot hot (off z (by simp)) (off i1 (by simp)) D q1 q2 q3 q4 p1.isList (by simp; omega) fun h' hk => ⟨rfl, I.turnedL (t' := s.toks) (ch := [z, TI, TO, i1, i2]) (fun c o hb q =>
      hk c o (fun e => hb (by simp [e])) (fun e => hb (by simp [e])) (fun e => hb (by simp [e])) (fun e => hb (by simp [e])) q) hf⟩
def iZipF (K : PySem.W.Frag) (ta : TA) : TI := fun σ H R => ta σ H fun vs H1 => ∃ a b xs ys, vs = [.ref a, .ref b] ∧ SqL K H1 a xs ∧ SqL K H1 b ys ∧ R (ItzF K a b) H1
theorem pi_zip_hot {e e2 : Expr} {ta : TA} {p tpos : Pos} {elts : List Expr} {kk : Nat} (hg : Gl X "zip") (hm : X.mg "zip" = none) (ha : PA X [e, e2] ta)
    (hs : starEach [e, e2] X.env = (false, eval e X.env) :: starEach [e2] X.env := by rfl) (hpl : (backTo pos (starEach [e2] X.env)).any (·.1) = false := by rfl) :
    PIH X (.Tuple elts kk tpos) (.Call (.Name "zip" p) [e, e2] [] pos) (iZipF X.K ta) := by
  refine ⟨fun pins s σ H R I h => ?_⟩
  refine Call_ (ld_blt I hg hm PyProof.Rows.boot_zip (PyProof.Rows.callWith_type1 (thn (ha.run pos pins s σ H _ I h) fun us s1 ⟨vs, H1, I1, r1, q1⟩ => ?_) hs hpl))
  obtain ⟨a, b, xs, ys, ex, hqx, hqy, q⟩ := q1
  subst ex
  obtain ⟨u1, u2, rfl, ra, rb⟩ := r1.two
  cases ra
  cases rb
  obtain ⟨l1, rv1, p1, _⟩ := I1.list hqx
  obtain ⟨l2, rv2, p2, _⟩ := I1.list hqy
  refine call_zip_2 p1.isList p2.isList fun h' hz hTI hTO h1 h2 hsz hk => wpAny_pyIter_zip hz ?_
  have I2 : Inv X pins σ H1 { s1 with heap := h' } := I1.kept (t' := s1.toks) hk
  refine ⟨s1.heap.objs.size + 4, [s1.heap.objs.size + 4, s1.heap.objs.size + 2, s1.heap.objs.size + 3, s1.heap.objs.size, s1.heap.objs.size + 1], _, _, H1, rfl, I2, turn_zip_hot (PySem.W.ktu_apart s1.heap.objs.size a b p1.lt p2.lt), ⟨hz, hTI, ⟨_, _, hTO⟩, h1, h2⟩, fun c hcm => ?_, q⟩
  have le : s1.heap.objs.size ≤ c := by
    rcases (show c = s1.heap.objs.size + 4 ∨ c = s1.heap.objs.size + 2 ∨ c = s1.heap.objs.size + 3 ∨ c = s1.heap.objs.size ∨ c = s1.heap.objs.size + 1 by simpa using hcm) with e | e | e | e | e <;> rw [e] <;> first | exact Nat.le_add_right _ _ | exact Nat.le_refl _
  exact I1.fpOk le (I1.hok.fresh le)
/-! ### the block -/
abbrev hblk (X : Cx) (p : Addr × Obj) (s : Shared) (H : Hp) (scope : Scope) (cenv : PySem.Env) (fp : List Addr) : Cx := (X.blk s H scope cenv fp).tr ([] ++ [p]) fun _ _ => False
theorem pe_lc_hot {elt tg iter : Expr} {ifs : List Expr} {scope : Scope} {own : List (Str × Nat)} {wi : TI} {g : TG} {tt : TT} {te : TE} {p : Addr × Obj} (hot : Hot1 X.A p) (hp : p ∈ X.pn) (hN : X.N.Nodup) (hi : PIH X tg iter wi) (ok : BlkOk X.N X.env.scope scope own)
    (hg : ∀ (s : Shared) (H : Hp) (C : Addr) (cl : List (Str × Addr)) (fp : List Addr), PG (hblk X p s H scope (compEnvC scope cl C X.env) fp) tg g) (ht : ∀ (s : Shared) (H : Hp) (C : Addr) (cl : List (Str × Addr)) (fp : List Addr), PTs (hblk X p s H scope (compEnvC scope cl C X.env) fp) ifs tt)
    (he : ∀ (s : Shared) (H : Hp) (C : Addr) (cl : List (Str × Addr)) (fp : List Addr), PE (hblk X p s H scope (compEnvC scope cl C X.env) fp) elt te) (hs : ∀ x, foldedSetIterable iter X.env x = pure x) :
    PE X (.ListComp elt [⟨tg, iter, ifs, 0⟩] scope pos) (tLc wi g tt te (own.map (·.2))) := by
  refine ⟨fun pins s σ H Q I h => ?_⟩
  rw [eval_ListComp]
  have free : ∀ y ∈ scope.names, y.2 = .free → ∃ c, X.env.cells.lookup y.1 = some c := fun y hy e => I.ok.has _ ((ok.free y hy e).elim .inl .inr)
  refine wpAny_comprehension_free (use := none) rfl hs (closure_ok free) ok.kind (fun y hy e => by rw [ok.uniq y hy, e]) (thn (hi.run pins s σ H _ I h) fun xv s1 hx => thn hx fun itv s2 h2 => ?_)
  obtain ⟨it, fp, tn, J, H2, e, I2, T, st2, f2, q⟩ := h2
  subst e
  refine wpAny_newObj_type (newEnv_comp ?_) (by show 0 ≤ sizeLine; decide)
  generalize hD : s2.heap.objs.size = D
  have nD : H2 D = none := I2.hok.fresh (Nat.le_of_eq hD)
  obtain ⟨W, ⟨m0, w0⟩, turn⟩ := q D nD
  have fpl : ∀ b ∈ fp, b < D := fun b hb => by
    obtain ⟨o, e, _⟩ := T.obj _ _ st2 b hb
    rw [← hD]
    exact Heap.lt_size e
  -- the new list is laid
  obtain ⟨s3, h3, I3, k3⟩ : ∃ s3 : Shared, s3 = { s2 with heap := s2.heap.push { cls := .type "list", data := .seq ([] : List Value).toArray } } ∧ Inv X pins σ (upd H2 D (.lst [])) s3 ∧ ∀ b o, s2.heap.get? b = some o → s3.heap.get? b = some o := by
    refine ⟨_, rfl, I2.laid (t' := s2.toks) (fun b o e => Heap.get?_push_of_some _ e) (Nat.le_of_eq hD) ⟨Nat.zero_le _, [], 0, .nil, ?_⟩, fun b o e => Heap.get?_push_of_some _ e⟩
    rw [← hD]
    exact Heap.get?_push_size _ rfl
  have sz3 : s3.heap.objs.size = D + 1 := by rw [h3, ← hD]; exact Heap.size_push ..
  have f3 : ∀ b ∈ fp, FpOk X pins (upd H2 D (.lst [])) b ∧ b < s3.heap.objs.size := fun b hb => by
    refine ⟨⟨?_, (f2 b hb).2⟩, by rw [sz3]; exact Nat.lt_succ_of_lt (fpl b hb)⟩
    rw [upd_ne (Nat.ne_of_lt (fpl b hb))]
    exact (f2 b hb).1
  rw [← h3]
  generalize upd H2 D (.lst []) = H3 at I3 f3 w0
  have I4 := block_start I3 ok hN f3
  have pg := hg s3 H3 s3.heap.objs.size (cellsFrom (s3.heap.objs.size + 1) scope.names (cloFrom X.env.cells scope.names [])) fp
  have pt := ht s3 H3 s3.heap.objs.size (cellsFrom (s3.heap.objs.size + 1) scope.names (cloFrom X.env.cells scope.names [])) fp
  have pe := he s3 H3 s3.heap.objs.size (cellsFrom (s3.heap.objs.size + 1) scope.names (cloFrom X.env.cells scope.names [])) fp
  show codeAny _ _ (.compStart (.ListComp elt [⟨tg, iter, ifs, 0⟩] scope pos) 0 (.ref it) (.ref D) (compEnvC scope (cellsFrom (s3.heap.objs.size + 1) scope.names (cloFrom X.env.cells scope.names [])) s3.heap.objs.size X.env))
    (compPost (model X.prog X.w) X.A X.xe none (EP X pins σ Q) (.ref D) s3.heap.objs.size) { s3 with heap := pushCells (s3.heap.push { cls := .type "dict", data := .dict #[] }) scope.names }
  generalize hce : compEnvC scope (cellsFrom (s3.heap.objs.size + 1) scope.names (cloFrom X.env.cells scope.names [])) s3.heap.objs.size X.env = ce at I4 pg pt pe ⊢
  have cL : ce.locals = s3.heap.objs.size := by subst hce; rfl
  have kp : ∀ b o, s3.heap.get? b = some o → (pushCells (s3.heap.push { cls := .type "dict", data := .dict #[] }) scope.names).get? b = some o := fun b o e => pushCells_keeps _ _ _ _ (Heap.get?_push_of_some _ e)
  generalize hs4 : ({ s3 with heap := pushCells (s3.heap.push { cls := .type "dict", data := .dict #[] }) scope.names } : Shared) = s4 at I4 ⊢
  have st4 : tn 0 s4.heap := T.keep _ _ _ st2 fun b _ o e => by rw [← hs4]; exact kp _ _ (k3 _ _ e)
  have pinP := I3.pin p (List.mem_append_left _ hp)
  have I5 : Inv (hblk X p s3 H3 scope ce fp) [] (wipe σ (own.map (·.2))) H3 s4 := by
    refine Inv.toTry (X := X.blk s3 H3 scope ce fp) (pins := [p]) (I4.pins_of fun r hr => ?_) fun _ _ => False
    have er : r = p := by simpa using hr
    subst er
    refine ⟨by rw [← hs4]; exact kp _ _ pinP.1, pinP.2.1, ?_, fun hm => (List.mem_cons.mp (I3.stkSub r.1 hm)).elim pinP.2.2.1 pinP.2.2.2.1, pinP.2.2.2.2⟩
    show r.1 ≠ ce.locals
    rw [cL]
    exact Nat.ne_of_lt (Heap.lt_size pinP.1)
  have hotB : HotC (hblk X p s3 H3 scope ce fp) := ⟨p, hot, by simp⟩
  have stat : ∀ {σ' : L2.St} {H' : Hp} {s' : Shared}, Inv (hblk X p s3 H3 scope ce fp) [] σ' H' s' → (∀ b ∈ fp, H' b = none) → ∀ b ∈ fp, FpOk (hblk X p s3 H3 scope ce fp) [] H' b := fun {σ' H' s'} I' hn b hb => by
    refine ⟨hn b hb, (I'.ok.exf b hb).1, I'.ok.exfs b hb, .inl hb, fun x c e => (I'.ok.exf b hb).2 x c e, fun r hr => ?_⟩
    have er : r = p := by simpa using hr
    subst er
    exact (f2 b hb).2.2.2.2.2 r (List.mem_append_left _ hp)
  have back : ∀ {H' : Hp} {s' : Shared}, Inv (hblk X p s3 H3 scope ce fp) [] (wipe σ (own.map (·.2))) H' s' → Q (.ref D) H' → compPost (model X.prog X.w) X.A X.xe none (EP X pins σ Q) (.ref D) s3.heap.objs.size (.ok .next) s' := fun {H' s'} I' qq => by
    have I7 : Inv X pins σ H' s' := I3.call' (ch := fp) I'.os I'.base I'.hok I'.bare fun b hb => ⟨(f3 b hb).1.2.2.2.1, (f3 b hb).1.2.1, (f3 b hb).1.2.2.2.2.1, (f3 b hb).1.2.2.2.2.2⟩
    have nC : H' s3.heap.objs.size = none := by
      have z : H' ce.locals = none := I'.free
      rw [cL] at z
      exact z
    obtain ⟨m, hn, _⟩ := I'.loc
    have hn : s'.heap.Ns ce.locals m := hn
    rw [cL] at hn
    obtain ⟨g0, g1, g2, g3, g4, g5⟩ := I3.fpOk (Nat.le_refl _) nC
    exact ⟨m, hn, fun h2 sb => ⟨.ref D, H', I7.turned (t' := s'.toks) (fun b o hb e => (sb.2 b hb).trans e) g0 g1 g3 g4 g5, rfl, qq⟩⟩
  have loop : codeAny (model X.prog X.w) X.A (.compLoop (.ListComp elt [⟨tg, iter, ifs, 0⟩] scope pos) 0 (.ref it) (.ref D) ce) (compPost (model X.prog X.w) X.A X.xe none (EP X pins σ Q) (.ref D) s3.heap.objs.size) s4 := by
    refine compLoop_any (fun n s' => ∃ i H', Inv (hblk X p s3 H3 scope ce fp) [] (wipe σ (own.map (·.2))) H' s' ∧ tn i s'.heap ∧ (∀ b ∈ fp, H' b = none) ∧ W i n H') ?_ m0 ⟨0, H3, I5, st4, fun b hb => (f3 b hb).1.1, w0⟩
    rintro n s5 ⟨i, H5, J5, st5, n5, w5⟩
    rcases turn i n H5 w5 with ⟨stop, qq⟩ | ⟨go, Nx, hNx, step⟩
    · have td := T.done (hblk X p s3 H3 scope ce fp) rfl rfl rfl hotB i [] s5 _ H5 (fun _ _ => False) J5 (stat J5 n5) st5 stop
      refine thnF td fun r s6 ⟨hr, J6⟩ => ?_
      subst hr
      exact back J6 qq
    · have ti := T.item (hblk X p s3 H3 scope ce fp) rfl rfl rfl hotB i [] s5 _ H5 (fun _ _ => False) J5 (stat J5 n5) st5 go
      refine thnF ti fun r s6 ⟨u, hr, h6⟩ => ?_
      subst hr
      refine thnF h6 fun _ s7 ⟨x, H7, J7, r7, y7, st7, n7⟩ => ?_
      refine thnF (pg.run _ s7 _ H7 x u _ (J7.pinned (stat J7 n7) (T.obj _ _ st7)) r7 (step x H7 y7)) fun _ s8 ⟨σ8, H8, J8, hw8, q8⟩ => ?_
      refine thnF (pt.run _ s8 σ8 H8 _ J8 q8) fun b s9 ⟨H9, J9, q9⟩ => ?_
      have fin : ∀ {s' : Shared} {H' : Hp}, Inv (hblk X p s3 H3 scope ce fp) ([] ++ pinsAt fp s7.heap) σ8 H' s' → Nx H' → ∃ m, m < n ∧ ∃ i H', Inv (hblk X p s3 H3 scope ce fp) [] (wipe σ (own.map (·.2))) H' s' ∧ tn i s'.heap ∧ (∀ b ∈ fp, H' b = none) ∧ W i m H' := fun {s' H'} I' nx => by
        obtain ⟨m', hm, w'⟩ := hNx H' nx
        have at7 : ∀ b ∈ fp, ∀ o, s7.heap.get? b = some o → s'.heap.get? b = some o ∧ H' b = none := fun b hb o e =>
          let z := I'.pin (b, o) (List.mem_append_right _ (List.mem_append_right _ (mem_pinsAt hb e)))
          ⟨z.1, z.2.1⟩
        refine ⟨m', hm, i + 1, H', (I'.unpinned (pins := [])).weak (by rw [← hw8, wipe_length]) (fun j v e => ?_), T.keep _ _ _ st7 fun b hb o e => (at7 b hb o e).1, fun b hb => ?_, w'⟩
        · rw [← hw8] at e
          exact (wipe_some e).1
        · obtain ⟨o, e, _⟩ := T.obj _ _ st7 b hb
          exact (at7 b hb o e).2
      cases b with
      | false =>
        simp only [Bool.false_eq_true, if_false] at q9 ⊢
        exact fin J9 q9
      | true =>
        simp only [if_true] at q9 ⊢
        refine thnF (pe.run _ s9 σ8 H9 _ J9 q9) fun z s10 ⟨yv, H10, J10, r10, acc, hD10, hz10, nx⟩ => ?_
        exact app_ok (X := hblk X p s3 H3 scope ce fp) J10 hD10 hz10 r10 fun s11 J11 => fin J11 nx
  exact codeAny_compStart_list loop (T.self X.A 0 _ _ _ st4 loop)
end
end G

-- HC
set_option maxRecDepth 100000
set_option maxHeartbeats 2000000
/-! The names of an error's classes, told within an except suite. -/
namespace G
open PySem PySem.Spec PyProof.Rows L2 HotX L2H
section
variable {Z : Cx} {pos : Pos}
/-! ### isinstance of the handled error -/
def rIsA (K : PySem.W.Frag) (D a : Addr) : List V → Hp → VK → Prop := fun xs H Q => ∃ (c : V) (cv : Value) (b : Bool), xs = [.ref a, c] ∧ (∀ u, RelV c u → u = cv) ∧ PySem.W.kitOne K (.ref D) cv = some b ∧ Q (.bl b) H
theorem call_isA {a D : Addr} {oe : Obj} (C : ExcC Z.K D) (hz : Zc (.ref D) none oe) (hf : ∃ vs, oe.data = .fields vs) (hp : (a, oe) ∈ Z.pn) : CallR Z (.builtin "isinstance") (rIsA Z.K D a) := by
  intro pins s σ H xs us Q I r h
  obtain ⟨c, cv, b, rfl, hcv, e, q⟩ := h
  obtain ⟨u1, u2, rfl, ra, rb⟩ := r.two
  cases ra
  have ec := hcv _ rb
  subst ec
  have hget := (I.pin (a, oe) (List.mem_append_left _ hp)).1
  obtain ⟨vs, hv⟩ := hf
  obtain ⟨oc, od, oda, osl⟩ := oe
  obtain ⟨h1, h2⟩ := hz
  dsimp only at h1 h2 hv
  subst h1 h2 hv
  have J : PySem.W.InstAt s.heap a ⟨.ref D, none, .fields vs, osl⟩ D none := ⟨hget, rfl, rfl, trivial⟩
  exact PySem.W.kia_one (PySem.W.handS_kitx_exc C.hg C.hk C.hs C.hd C.ha C.hn C.ht C.hm) I.kIn J e (fun z => nomatch z) fun tk => ⟨.bl b, H, I.kept (t' := tk) fun _ _ z => z, rfl, q⟩
theorem boot_VE : bootBuiltins "ValueError" = some (.type "ValueError") := by decide +kernel
/-- the classes' names, and whether the error's class D is of them -/
inductive NmR (K : PySem.W.Frag) (mg : Str → Option Value) (D : Addr) : List Str → List Bool → Prop where
  | nil : NmR K mg D [] []
  | own {n : Str} {c : Addr} {b : Bool} {ns : List Str} {bs : List Bool} : mg n = some (.ref c) → PySem.W.kitOne K (.ref D) (.ref c) = some b → NmR K mg D ns bs → NmR K mg D (n :: ns) (b :: bs)
  | blt {b : Bool} {ns : List Str} {bs : List Bool} : mg "ValueError" = none → PySem.W.kitOne K (.ref D) (.type "ValueError") = some b → NmR K mg D ns bs → NmR K mg D ("ValueError" :: ns) (b :: bs)
theorem NmR.len {K : PySem.W.Frag} {mg : Str → Option Value} {D : Addr} {ns : List Str} {bs : List Bool} (h : NmR K mg D ns bs) : bs.length = ns.length := by
  induction h with
  | nil => rfl
  | own _ _ _ ih => simp [ih]
  | blt _ _ _ ih => simp [ih]
/-- the calls isinstance(e, X) -/
def isisC (sc : Scope) (e : Str) : List Expr → Option (List Str)
  | [] => some []
  | .Call (.Name f _) [.Name x _, .Name n _] [] _ :: r => if decide (f = "isinstance") && glb sc f && decide (x = e) && glb sc n then (isisC sc e r).map (n :: ·) else none
  | _ => none
theorem isis_pa {a D : Addr} {oe : Obj} {sc : Scope} {e : Str} (hsc : Z.env.scope = sc) (C : ExcC Z.K D) (hz : Zc (.ref D) none oe) (hf : ∃ vs, oe.data = .fields vs) (hp : (a, oe) ∈ Z.pn) (hm : Z.mg "isinstance" = none) (hN : Z.N[0]? = some e) (hv : Vis sc e) (hd : nmOk e = true) :
    ∀ {es : List Expr} {ns : List Str} {bs : List Bool}, isisC sc e es = some ns → NmR Z.K Z.mg D ns bs → ∃ t, PA Z es t ∧ ∀ σ H Q, σ[0]? = some (some (.ref a)) → Q (bs.map V.bl) H → t σ H Q
  | [], ns, bs, h, r => by
    cases h
    cases r
    exact ⟨tNil, pa_nil, fun σ H Q _ q => q⟩
  | x :: es, ns, bs, h, r => by
    unfold isisC at h
    split at h
    · contradiction
    · rename_i f p1 x p2 n p3 p4 es' heq
      cases heq
      split at h
      · rename_i hc
        simp only [Bool.and_eq_true] at hc
        obtain ⟨⟨⟨c1, c2⟩, c3⟩, c4⟩ := hc
        have c1 := dec_eq c1
        have c3 := dec_eq c3
        subst c1 c3
        cases q : isisC sc x es with
        | none => rw [q] at h; cases h
        | some ns' =>
          rw [q] at h
          cases h
          obtain ⟨g1, g2, g3⟩ := glb_ok c2 hsc
          obtain ⟨k1, k2, k3⟩ := glb_ok c4 hsc
          simp only [nmOk, Bool.and_eq_true, Bool.not_eq_true'] at hd
          have pv : ∀ {p : Pos}, PE Z (.Name x p) (tVar 0) := fun {p} => pe_var hN (by rw [hsc]; exact hv) hd.1 hd.2
          have hd' : nmOk x = true := by simp only [nmOk, Bool.and_eq_true, Bool.not_eq_true']; exact hd
          cases r with
          | own m1 m2 r =>
            obtain ⟨t, pt, ht⟩ := isis_pa hsc C hz hf hp hm hN hv hd' q r
            refine ⟨_, pa_cons (pe_callB (call_isA C hz hf hp) g1 hm boot_isinstance (pa_cons pv (pa_cons (pe_glob k1 m1 (v := .ref _) rfl k2) pa_nil)) (by decide) (by decide)) pt, fun σ H Q h0 hq => ?_⟩
            exact ⟨_, h0, _, _, _, rfl, fun u hu => hu, m2, ht σ H _ h0 hq⟩
          | blt m1 m2 r =>
            obtain ⟨t, pt, ht⟩ := isis_pa hsc C hz hf hp hm hN hv hd' q r
            refine ⟨_, pa_cons (pe_callB (call_isA C hz hf hp) g1 hm boot_isinstance (pa_cons pv (pa_cons (pe_bltn k1 m1 boot_VE (v := .ty "ValueError") rfl k3 k2) pa_nil)) (by decide) (by decide)) pt, fun σ H Q h0 hq => ?_⟩
            exact ⟨_, h0, _, _, _, rfl, fun u hu => hu, m2, ht σ H _ h0 hq⟩
      · cases h
    · cases h
/-! ### the names as a text -/
def pick : List Str → List Bool → List Str
  | w :: ws, b :: bs => if b = true then w :: pick ws bs else pick ws bs
  | _, _ => []
theorem pick_snoc : ∀ (ws : List Str) (bs : List Bool) (i : Nat) (w : Str) (b : Bool), ws[i]? = some w → bs[i]? = some b → pick (ws.take (i + 1)) (bs.take (i + 1)) = pick (ws.take i) (bs.take i) ++ (if b = true then [w] else [])
  | [], _, _, _, _, h, _ => by simp at h
  | _ :: _, [], _, _, _, _, h => by simp at h
  | w' :: ws, b' :: bs, 0, w, b, h1, h2 => by
    simp at h1 h2
    subst h1 h2
    simp [pick]
  | w' :: ws, b' :: bs, i + 1, w, b, h1, h2 => by
    have ih := pick_snoc ws bs i w b (by simpa using h1) (by simpa using h2)
    simp only [List.take_succ_cons, pick]
    rw [ih]
    split <;> simp
theorem pick_len : ∀ (ws : List Str) (bs : List Bool), (pick ws bs).length ≤ ws.length
  | [], _ => by simp [pick]
  | _ :: _, [] => by simp [pick]
  | w :: ws, b :: bs => by
    have := pick_len ws bs
    unfold pick
    split <;> simp <;> omega
theorem pick_sub : ∀ (ws : List Str) (bs : List Bool), (pick ws bs).Sublist ws
  | [], _ => by simp [pick]
  | _ :: _, [] => by simp [pick]
  | w :: ws, b :: bs => by
    have := pick_sub ws bs
    unfold pick
    split
    · exact this.cons₂ w
    · exact this.cons w
def nmStr (sp words : Str) (bs : List Bool) : Str := Txt.join sp (pick (Txt.split words sp) bs)
/-! ### the body -/
abbrev nmN : List Str := ["e", "some", "words", "word", "good"]
theorem if_f {A B : Prop} (h : B) : if false = true then A else B := by
  rw [if_neg Bool.false_ne_true]
  exact h
theorem if_t {A B : Prop} (h : A) : if true = true then A else B := by
  rw [if_pos rfl]
  exact h
structure NmSc (sc scope : Scope) : Prop where
  lo : ∀ n ∈ (["e", "some", "words"] : List Str), sc.names.lookup n = some .local
  gl : ∀ n ∈ (["zip", "isinstance"] : List Str), glb sc n = true
  blk : blkC nmN sc scope [("word", 3), ("good", 4)] = true
  lo2 : ∀ n ∈ (["word", "good"] : List Str), (relS scope sc).names.lookup n = some .local
/-- where the body of the names' def stands, the error's object at a -/
structure NmAt (C : Cxt) (sc : Scope) (D a : Addr) (oe : Obj) (Z : Cx) : Prop where
  N : Z.N = nmN
  K : Z.K = C.K
  sc : Z.env.scope = sc
  hot : Hot1 Z.A (a, oe)
  pn : (a, oe) ∈ Z.pn
  ex : ExcC Z.K D
  zc : Zc (.ref D) none oe
  fl : ∃ vs, oe.data = .fields vs
  m1 : Z.mg "isinstance" = none
  m2 : Z.mg "zip" = none
theorem nm_body {C : Cxt} {sc scope : Scope} {D a : Addr} {oe : Obj} {es : List Expr} {ns : List Str} {bs : List Bool} {ws sp : Str} {j1 j2 j3 k1 : Nat} {p1 p2 p3 p4 p5 p6 p7 p8 p9 p10 p11 p12 p13 p14 p15 p16 p17 p18 p19 p20 p21 p22 p23 : Pos}
    (A : NmAt C sc D a oe Z) (S : NmSc sc scope) (hc : isisC sc "e" es = some ns) (r : NmR Z.K Z.mg D ns bs) (hl1 : plainLine p6 p7 = true) (hl2 : plainLine p12 p13 = true) (hsp : (sp.length == 0) = false) (hws : ws.length + 2 ≤ sizeLine)
    (hlen : (Txt.split ws sp).length = bs.length) (h64 : bs.length ≤ 64) (hj : ∀ qs : List Str, qs.Sublist (Txt.split ws sp) → (qs.map (·.length)).sum + qs.length * sp.length ≤ 16777216) :
    ∃ t, PSs Z [.Assign [.Name "some" p1] (.List es p2) p3, .Assign [.Name "words" p4] (.Constant (.str ws) j1 p5) p8,
      .Return (some (.Call (.Attribute (.Constant (.str sp) j2 p9) "join" p6) [.ListComp (.Name "word" p10) [⟨.Tuple [.Name "word" p11, .Name "good" p14] k1 p15, .Call (.Name "zip" p16) [.Call (.Attribute (.Name "words" p17) "split" p12) [.Constant (.str sp) j3 p18] [] p13, .Name "some" p19] [] p20, [.Name "good" p21], 0⟩] scope p22] [] p7)) p23] t ∧
      ∀ (w : Wd) (Q : VK), w.Ok C → (∀ w', w'.S = w.S → w'.Ok C → w.To w' → Q (.str (nmStr sp ws bs)) w'.H) → t { nx := fun _ H' => Q .non H', rt := Q } (L2.start nmN [.ref a]) w.H := by
  have eN := A.N
  have nd : Z.N.Nodup := by rw [eN]; decide
  have lo : ∀ n ∈ (["e", "some", "words"] : List Str), Z.env.scope.names.lookup n = some .local := by rw [A.sc]; exact S.lo
  obtain ⟨ti, pi, hi⟩ := isis_pa (Z := Z) A.sc A.ex A.zc A.fl A.pn A.m1 (by rw [eN]; rfl) (.inl (S.lo "e" (by simp))) (by decide) hc r
  obtain ⟨gz, gz2, gz3⟩ := glb_ok (S.gl "zip" (by simp)) A.sc
  have pw : PE Z (.Name "words" p17) (tVar 2) := pe_var (by rw [eN]; rfl) (.inl (lo "words" (by simp)))
  have ps : PE Z (.Name "some" p19) (tVar 1) := pe_var (by rw [eN]; rfl) (.inl (lo "some" (by simp)))
  have psp : PE Z (.Call (.Attribute (.Name "words" p17) "split" p12) [.Constant (.str sp) j3 p18] [] p13) _ := mt_pe (X := Z) .split rfl pw (pa_cons pe_str pa_nil) rfl rfl (by show 1 ≤ 2; decide) hl2
  have hotB : ∀ (s : Shared) (H : Hp) (c : Addr) (cl : List (Str × Addr)) (fp : List Addr), HotC (hblk Z (a, oe) s H scope (compEnvC scope cl c Z.env) fp) := fun s H c cl fp => ⟨(a, oe), A.hot, by simp⟩
  have bsc : ∀ (s : Shared) (H : Hp) (c : Addr) (cl : List (Str × Addr)) (fp : List Addr), (hblk Z (a, oe) s H scope (compEnvC scope cl c Z.env) fp).env.scope = relS scope sc := fun s H c cl fp => by
    show relS scope Z.env.scope = _
    rw [A.sc]
  have bl : ∀ (s : Shared) (H : Hp) (c : Addr) (cl : List (Str × Addr)) (fp : List Addr), ∀ n ∈ (["word", "good"] : List Str), (hblk Z (a, oe) s H scope (compEnvC scope cl c Z.env) fp).env.scope.names.lookup n = some .local := fun s H c cl fp n hn => by
    rw [bsc]
    exact S.lo2 n hn
  have pc := pe_lc_hot (X := Z) (pos := p22) (elt := .Name "word" p10) (tg := .Tuple [.Name "word" p11, .Name "good" p14] k1 p15) (ifs := [.Name "good" p21]) (scope := scope) (own := [("word", 3), ("good", 4)]) (p := (a, oe)) (g := gTup Z.K 2 (gNms [3, 4])) (tt := tB (tVar 4)) (te := tVar 3)
    A.hot A.pn nd (pi_zip_hot (X := Z) (pos := p20) (p := p16) (tpos := p15) (elts := [.Name "word" p11, .Name "good" p14]) (kk := k1) gz A.m2 (pa_cons psp (pa_cons ps pa_nil)))
    (blkOk_by (by rw [eN, A.sc]; exact S.blk))
    (fun s H c cl fp => pg_tup_hot (hotB s H c cl fp) (pgs_cons (pg_name nd (by show Z.N[3]? = _; rw [eN]; rfl) (.inl (bl s H c cl fp "word" (by simp))) (.inr (bl s H c cl fp "word" (by simp)))) (pgs_cons (pg_name nd (by show Z.N[4]? = _; rw [eN]; rfl) (.inl (bl s H c cl fp "good" (by simp))) (.inr (bl s H c cl fp "good" (by simp)))) pgs_nil rfl) rfl) rfl rfl)
    (fun s H c cl fp => pts_one (pt_val (pe_var (by show Z.N[4]? = _; rw [eN]; rfl) (.inl (bl s H c cl fp "good" (by simp)))) fun _ => rfl))
    (fun s H c cl fp => pe_var (by show Z.N[3]? = _; rw [eN]; rfl) (.inl (bl s H c cl fp "word" (by simp)))) (fun _ => rfl)
  refine ⟨_, pss_cons (ps_set (i := 1) nd (by rw [eN]; rfl) (.inl (lo "some" (by simp))) (pe_lst pi) rfl (.inr (lo "some" (by simp)))) (pss_cons (ps_set (i := 2) nd (by rw [eN]; rfl) (.inl (lo "words" (by simp))) pe_str rfl (.inr (lo "words" (by simp))))
    (pss_one (ps_ret (mt_pe (X := Z) .join rfl pe_str (pa_cons pc pa_nil) rfl rfl (by show 1 ≤ 2; decide) hl1)))), fun w Q ok hq => ?_⟩
  -- what they reckon
  refine hi _ _ _ rfl ⟨by rw [List.length_map, sizeLine_eq]; omega, fun q hq1 => ?_⟩
  obtain ⟨ok1, t1⟩ := ok.loose (o := .lst (bs.map V.bl)) hq1
  have q1r : q ∉ w.r := fun hm => ok.at_ hm hq1
  -- words.split(..)
  refine ⟨rfl, ⟨_, rfl, rfl, ws, sp, rfl, rfl, hsp, hws, fun p hp => ⟨_, rfl, p, q, (Txt.split ws sp).map V.str, bs.map V.bl, rfl, .inl (.inl upd_same), ?_, ?_⟩⟩⟩
  · have ne : q ≠ p := fun e => by
      subst e
      rw [upd_same] at hp
      cases hp
    exact .inl (.inl (by rw [upd_ne ne]; exact upd_same))
  have ne : q ≠ p := fun e => by
    subst e
    rw [upd_same] at hp
    cases hp
  obtain ⟨ok2, t2⟩ := ok1.loose (o := .lst ((Txt.split ws sp).map V.str)) hp
  have tw2 := t1.trans t2 ok1
  intro D' hD'
  have hD0 : upd (upd w.H q (.lst (bs.map V.bl))) p (.lst ((Txt.split ws sp).map V.str)) D' = none := hD'
  have nDp : D' ≠ p := fun e => by
    rw [e, upd_same] at hD0
    cases hD0
  have nDq : D' ≠ q := fun e => by
    rw [e, upd_ne ne, upd_same] at hD0
    cases hD0
  have wD : w.H D' = none := by
    rw [upd_ne nDp, upd_ne nDq] at hD0
    exact hD0
  have wp : w.H p = none := by
    have := hp
    rw [upd_ne (Ne.symm ne)] at this
    exact this
  obtain ⟨ok3, t3⟩ := ok2.loose (o := .lst []) hD0
  have n0 : bs.length = (Txt.split ws sp).length := hlen.symm
  refine ⟨fun i m H => m = bs.length - i ∧ i ≤ bs.length ∧ ∃ wi : Wd, wi.H = H ∧ wi.S = w.S ∧ wi.Ok C ∧ w.To wi ∧ H p = some (.lst ((Txt.split ws sp).map V.str)) ∧ H q = some (.lst (bs.map V.bl)) ∧ H D' = some (.lst ((pick ((Txt.split ws sp).take i) (bs.take i)).map V.str)) ∧ wi.F D' = none ∧ D' ∉ wi.r,
    ⟨bs.length, by simp, Nat.zero_le _, { w with H := upd (upd (upd w.H q (.lst (bs.map V.bl))) p (.lst ((Txt.split ws sp).map V.str))) D' (.lst []) }, rfl, rfl, ok3, tw2.trans t3 ok2, ?_, ?_, ?_, ok2.sub.free hD0, fun hm => ok2.at_ hm hD0⟩, ?_⟩
  · show upd _ D' _ p = _
    rw [upd_ne (Ne.symm nDp)]
    exact upd_same
  · show upd _ D' _ q = _
    rw [upd_ne (Ne.symm nDq)]
    show upd _ p _ q = _
    rw [upd_ne ne]
    exact upd_same
  · show upd _ D' _ D' = _
    rw [upd_same]
    rfl
  · rintro i m H ⟨rfl, hi, wi, rfl, eS, oki, ti, hpi, hqi, hDi, fD, rD⟩
    by_cases hlt : i < bs.length
    · have hlw : i < (Txt.split ws sp).length := by omega
      obtain ⟨x, hx⟩ : ∃ x, (Txt.split ws sp)[i]? = some x := ⟨_, List.getElem?_eq_getElem hlw⟩
      obtain ⟨b, hb⟩ : ∃ b, bs[i]? = some b := ⟨_, List.getElem?_eq_getElem hlt⟩
      have hx' : ((Txt.split ws sp).map V.str)[i]? = some (.str x) := by rw [List.getElem?_map, hx]; rfl
      have hb' : (bs.map V.bl)[i]? = some (.bl b) := by rw [List.getElem?_map, hb]; rfl
      refine .inr ⟨⟨_, _, _, _, .inl (.inl hpi), .inl (.inl hqi), hx', hb'⟩, fun H' => ∃ wi : Wd, wi.H = H' ∧ wi.S = w.S ∧ wi.Ok C ∧ w.To wi ∧ H' p = some (.lst ((Txt.split ws sp).map V.str)) ∧ H' q = some (.lst (bs.map V.bl)) ∧
        H' D' = some (.lst ((pick ((Txt.split ws sp).take (i + 1)) (bs.take (i + 1))).map V.str)) ∧ wi.F D' = none ∧ D' ∉ wi.r, fun H' h' => ⟨bs.length - (i + 1), by omega, rfl, hlt, h'⟩, fun v H' hy => ?_⟩
      obtain ⟨T, v1, v2, rfl, hT, rfl, e1, e2⟩ := hy
      have e1 := e1 _ (.inl (.inl hpi))
      have e2 := e2 _ (.inl (.inl hqi))
      rw [hx'] at e1
      rw [hb'] at e2
      cases e1
      cases e2
      obtain ⟨okT, tT⟩ := oki.loose (o := .tup [V.str x, V.bl b]) hT
      have nT : ∀ {c u}, wi.H c = some u → c ≠ T := fun {c u} e z => by
        rw [z, hT] at e
        cases e
      refine ⟨T, [V.str x, V.bl b], rfl, .inl (.inl upd_same), rfl, _, _, rfl, _, _, rfl, rfl, rfl, ?_⟩
      refine ⟨_, rfl, b, rfl, ?_⟩
      have hD2 : upd wi.H T (.tup [V.str x, V.bl b]) D' = some (.lst ((pick ((Txt.split ws sp).take i) (bs.take i)).map V.str)) := by
        rw [upd_ne (nT hDi)]
        exact hDi
      have hp2 : upd wi.H T (.tup [V.str x, V.bl b]) p = some (.lst ((Txt.split ws sp).map V.str)) := by
        rw [upd_ne (nT hpi)]
        exact hpi
      have hq2 : upd wi.H T (.tup [V.str x, V.bl b]) q = some (.lst (bs.map V.bl)) := by
        rw [upd_ne (nT hqi)]
        exact hqi
      have ps := pick_snoc (Txt.split ws sp) bs i x b hx hb
      cases b with
      | false =>
        refine if_f ?_
        refine ⟨{ wi with H := upd wi.H T (.tup [V.str x, V.bl false]) }, rfl, eS, okT, ti.trans tT oki, hp2, hq2, ?_, fD, rD⟩
        rw [ps, if_neg Bool.false_ne_true, List.append_nil]
        exact hD2
      | true =>
        refine if_t ?_
        refine ⟨_, rfl, _, hD2, ?_, ?_⟩
        · have a1 := pick_len ((Txt.split ws sp).take i) (bs.take i)
          rw [List.length_map, sizeLine_eq]
          rw [List.length_take] at a1
          omega
        · have okW := okT.write (p := D') (us := (pick ((Txt.split ws sp).take i) (bs.take i)).map V.str ++ [V.str x]) hD2 fD rD
          have tW : w.To { wi with H := upd (upd wi.H T (.tup [V.str x, V.bl true])) D' (.lst ((pick ((Txt.split ws sp).take i) (bs.take i)).map V.str ++ [V.str x])) } := (ti.trans tT oki).write wD (fun ps z => by
            have z : upd wi.H T (.tup [V.str x, V.bl true]) D' = some (.tbl ps) := z
            rw [hD2] at z
            cases z)
          refine ⟨{ wi with H := upd (upd wi.H T (.tup [V.str x, V.bl true])) D' (.lst ((pick ((Txt.split ws sp).take i) (bs.take i)).map V.str ++ [V.str x])) }, rfl, eS, okW, tW, ?_, ?_, ?_, fD, rD⟩
          · show upd _ D' _ p = _
            rw [upd_ne (Ne.symm nDp)]
            exact hp2
          · show upd _ D' _ q = _
            rw [upd_ne (Ne.symm nDq)]
            exact hq2
          · show upd _ D' _ D' = _
            rw [upd_same, ps, if_pos rfl, List.map_append]
            rfl
    · have ei : i = bs.length := by omega
      subst ei
      refine .inl ⟨⟨_, .inl (.inl hpi), Nat.le_of_eq (by rw [List.length_map, n0])⟩, ?_⟩
      have e1 : (Txt.split ws sp).take bs.length = Txt.split ws sp := by rw [n0]; exact List.take_length
      rw [e1, List.take_length] at hDi
      refine ⟨sp, D', pick (Txt.split ws sp) bs, rfl, rfl, .inl (.inl (.inl hDi)), hj _ (pick_sub _ _), ?_⟩
      exact hq wi eS oki ti
end
end G

-- HD
set_option maxRecDepth 100000
set_option maxHeartbeats 2000000
/-! The def that tells which error a call raises; lambdas handed to it. -/
namespace G
open PySem PySem.Spec PyProof.Rows L2 HotX L2H
abbrev Envr := PySem.Env
section
variable {P : Program} {w : World} {K : PySem.W.Frag} {mg : Str → Option Value} {base : Heap}
/-- a def called within an except suite, its promise told of the handled object -/
theorem run_hot {CX : CXT} {k : Nat} {f : Addr} {name qual : Str} {params : Arguments} {body : List Stmt} {scope : Scope} {dV kV doc pm cdv ct oc : Value} {an od : Option Addr} {osl : Array (Option Value)} {N ps : List Str}
    (lk : K.lookup f = some ⟨oc, od, .func (PySem.W.fnOf name qual params body scope dV kV doc pm an cdv ct), osl⟩) (hcd : PySem.W.codeIn K cdv qual = true) (S : FnScope N ps scope)
    {A : Around} {outer : List Envr} {s : Shared} {H : Hp} {args : Args} {us : List Value} {vs : List V} {Q : VK} {E : XK} {p : Addr × Obj} (hr : RoomH (k + 1) A) (hpin : PinOk outer H s p) (e0 : Env0 P w K mg base A outer s H)
    (hb : BindsTo s (PySem.W.fnOf name qual params body scope dV kV doc pm an cdv ct) args (ps.zip us)) (r : Vals vs us) (hl : vs.length = ps.length)
    (hbody : RoomH k (A.deeper (envOfC qual scope s.heap.objs.size f cdv)) → ∃ t, PSs (cxH CX P w K mg base N qual scope f cdv A outer s H E p) body t ∧ t { nx := fun _ H' => Q .non H', rt := Q } (L2.start N vs) H) :
    codeAny (model P w) A (.call (.ref f) args) (CR CX outer P w H s Q E) s := by
  have KX : K.In s.heap := e0.mod.kin.keeps fun b o e => (e0.bs b o e).1
  have lim : s.heap.NoLimit := e0.mod.nolimit.keeps fun b o e => (e0.bs b o e).1
  have kinds : ∀ y ∈ ps.zip us, scope.names.lookup y.1 = some .local ∨ (scope.names.lookup y.1 = some .cell ∧ ((cellsFrom (s.heap.objs.size + 1) scope.names []).lookup y.1).isSome = true) := fun y hy =>
    (S.par y.1 (List.of_mem_zip hy).1).elim .inl fun q => .inr ⟨q, PySem.W.cellsFrom_some _ _ _ (.inl q)⟩
  refine codeAny_call_function hr.depth (KX _ _ lk) rfl S.co S.gen rfl (PySem.W.codeRec_of KX hcd) (hb _ _ _ _ (wpAny_newFunctionEnv_cells S.kind kinds fun env he s1 x => ?_))
  subst he
  refine ⟨lim.keeps x.toInCall.keep, codeAny_func ?_⟩
  obtain ⟨t, ht, hq⟩ := hbody (hr.deeper _)
  have I : Inv (cxH CX P w K mg base N qual scope f cdv A outer s H E p) [] (L2.start N vs) H s1 := inv_startH S hpin e0 hl r x
  refine wpAny_mono (ht.run [] s1 (L2.start N vs) H _ I hq) (fun fl s' hs => ?_) fun e s' hs => hs
  cases fl with
  | ret u =>
    obtain ⟨v, σ', H', J, rv, q⟩ := hs
    exact ⟨v, H', J.os, J.bare, J.base, J.hok, rv, q⟩
  | next =>
    obtain ⟨σ', H', J, q⟩ := hs
    exact ⟨V.non, H', J.os, J.bare, J.base, J.hok, rfl, q⟩
  | brk =>
    obtain ⟨_, _, _, z⟩ := hs
    exact z.elim
  | cont =>
    obtain ⟨_, _, _, z⟩ := hs
    exact z.elim
end
/-! ### the def of the names, as it stands -/
/-- ns: the classes' names; sp, ws: the written words -/
structure NmDef (K : PySem.W.Frag) (mg : Str → Option Value) (ns : List Str) (sp ws : Str) where
  f : Addr
  fd : FuncData
  params : Arguments
  body : List Stmt
  scope : Scope
  kws : List (Str × V)
  F : FunD K "_law_names" "_law_names" params body scope [] kws f fd
  g : mg "_law_names" = some (.ref f)
  pl : plainP params ["e"] = true
  sc : C8.scC nmN ["e"] scope = true
  m1 : mg "isinstance" = none
  m2 : mg "zip" = none
  run : ∀ (C : Cxt) (Z : Cx) (D a : Addr) (oe : Obj) (bs : List Bool), NmAt C scope D a oe Z → NmR Z.K Z.mg D ns bs →
    ∃ t, PSs Z body t ∧ ∀ (w : Wd) (Q : VK), w.Ok C → (∀ w', w'.S = w.S → w'.Ok C → w.To w' → Q (.str (nmStr sp ws bs)) w'.H) → t { nx := fun _ H' => Q .non H', rt := Q } (L2.start nmN [.ref a]) w.H
/-- _law_names(e) in the suite that holds the error -/
theorem pe_names {C : Cxt} {X : Cx} {ns : List Str} {sp ws : Str} (T : NmDef X.K X.mg ns sp ws) {D a : Addr} {oe : Obj} {bs : List Bool} {i : Nat} {e : Str} {p1 p2 pos : Pos} (hK : X.K = C.K) (hot : Hot1 X.A (a, oe)) (hp : (a, oe) ∈ X.pn) (hr : RoomH 1 X.A) (zc : Zc (.ref D) none oe) (fl : ∃ vs, oe.data = .fields vs) (ex : ExcC X.K D)
    (r : NmR X.K X.mg D ns bs) (hg : Gl X "_law_names") (hN : X.N[i]? = some e) (hv : Vis X.env.scope e) (hd : nmOk e = true) :
    PE X (.Call (.Name "_law_names" p1) [.Name e p2] [] pos) (fun σ H Q => σ[i]? = some (some (.ref a)) ∧ ∃ w : Wd, w.H = H ∧ w.Ok C ∧ ∀ w', w'.S = w.S → w'.Ok C → w.To w' → Q (.str (nmStr sp ws bs)) w'.H) := by
  obtain ⟨f, fd, params, body, scope, kws, F, g, pl, sc, m1, m2, run⟩ := T
  simp only [nmOk, Bool.and_eq_true, Bool.not_eq_true'] at hd
  refine ⟨fun pins s σ H Q I h => ?_⟩
  obtain ⟨h1, w0, rfl, ok, hq⟩ := h
  refine wpAny_Call_Name_kw (ld_glob I hg g ?_ (by decide))
  have pa : PA X [.Name e p2] (tCons (tVar i) tNil) := pa_cons (pe_var hN hv hd.1 hd.2) pa_nil
  refine PySem.W.callWith_K (h₀ := X.base) I.ok.mod.kin F.kp (thn (pa.run pos pins s σ w0.H (fun vs H1 => vs = [.ref a] ∧ H1 = w0.H) I ⟨_, h1, rfl, rfl⟩) fun us s1 hh => ?_) rfl rfl
  obtain ⟨vs, H1, I1, r1, ev, eH⟩ := hh
  subst ev
  rw [eH] at I1
  refine ⟨I1.kIn, ?_⟩
  show wpAny _ _ (call (.ref f) us) _ _ _
  have P1 := I1.pin (a, oe) (List.mem_append_left _ hp)
  have hpin : PinOk X.stack w0.H s1 (a, oe) := ⟨P1.1, P1.2.1, fun hm => (List.mem_cons.mp (I1.stkSub a hm)).elim P1.2.2.1 P1.2.2.2.1, P1.2.2.2.2⟩
  have S := C8.fnScope_by sc
  have hl : us.length = ["e"].length := r1.length.symm
  have hb := FunD.bindsN (ps := ["e"]) (kws := kws) (F := F) fun kV doc pm an cdv ct us hu => bind_plain pl hu
  have b1 := hb s1 us I1.kIn (by rw [List.append_nil]; exact hl)
  rw [List.append_nil] at b1
  obtain ⟨oc, od, dV, kV, doc, pm, an, cdv, ct, osl, rfl, lk, hcd, _, _⟩ := F.ex
  refine wpAny_call (codeAny_mono (run_hot (CX := C8.CX0) (k := 0) (E := C8.E0) (Q := Q) (p := (a, oe)) lk hcd S hr hpin I1.env0 b1 r1 rfl fun _ => ?_) fun rr s2 hq2 => ?_)
  · obtain ⟨t, pt, ht⟩ := run C (cxH C8.CX0 X.prog X.w X.K X.mg X.base nmN "_law_names" scope f cdv X.A X.stack s1 w0.H C8.E0 (a, oe)) D a oe bs ⟨rfl, hK, rfl, ⟨hot.1, hot.2⟩, List.mem_singleton.mpr rfl, ex, zc, fl, m1, m2⟩ r
    exact ⟨t, pt, ht w0 Q ok hq⟩
  · cases rr with
    | error e => exact hq2.elim
    | ok fl =>
      cases fl with
      | ret u => exact I1.after hq2
      | next => exact hq2.elim
      | brk => exact hq2.elim
      | cont => exact hq2.elim
/-! ### a lambda's context -/
/-- as lamCx, the exceptions' context kept -/
abbrev lamCxN (X : Cx) (A : Around) (outer : List Envr) (s : Shared) (H : Hp) (E : XK) (scope : Scope) (f c' : Addr) : Cx :=
  (LamX.lamCx X A outer s H E scope f c').wish fun e s' => wpAny (model X.prog X.w) (A.deeper (LamX.lamEnv X scope s.heap.objs.size f c')) (leaving (LamX.lamEnv X scope s.heap.objs.size f c') e) (fun _ s'' => L2N.CX X.prog X.w outer H s E e s'') (fun e' s'' => L2N.CX X.prog X.w outer H s E e' s'') s'
section
variable {X : Cx} {pins : List (Addr × Obj)} {σ : L2.St} {H : Hp} {s : Shared}
/-- the lambda called, in the def that got it -/
theorem pe_actN {CXg : CXT} {Eg : XK} {Ng : List Str} {qg : Str} {sg : Scope} {g f c' : Addr} {cdg pm ctv : Value} {params : Arguments} {body : Expr} {scope : Scope} {k i : Nat} {a : Str} {pn : List (Addr × Obj)} {xe : Value → Shared → Prop} {W : WX} {E : XK} {tb : TE} {p1 p2 : Pos}
    (I : Inv X pins σ H s) (L : LamX.LamS X.env.scope scope) (hf : s.heap.get? f = some (PySem.W.kla_obj "<lambda>" (X.env.qual ++ "<lambda>") params body scope (cloFrom X.env.cells scope.names []) pm c' ctv)) (hfn : H f = none) (hfr : f ∉ frs X.stack)
    (bind : bindArgs (PySem.W.kla_fn "<lambda>" (X.env.qual ++ "<lambda>") params body scope (cloFrom X.env.cells scope.names []) pm (.ref c') ctv) ⟨[], []⟩ = pure [])
    (tk : L2N.Takes ((cxOf CXg X.prog X.w X.K X.mg X.base Ng qg sg g cdg X.A X.stack s H Eg).tr pn xe) W) (hW : ∀ cls d σ' H', E cls d H' → W cls d σ' H') (hr : Room (k + 1) (X.A.deeper (envOfC qg sg s.heap.objs.size g cdg)))
    (hbody : ∀ (A : Around) (outer : List Envr) (s : Shared) (H : Hp), Room k (A.deeper (LamX.lamEnv X scope s.heap.objs.size f c')) → PE (lamCxN X A outer s H E scope f c') body tb)
    (hN : Ng[i]? = some a) (hv : Vis sg a) (hd : (a == ("__debug__" : Str)) = false) (hcd : (a == ("__classdict__" : Str)) = false) :
    PE ((cxOf CXg X.prog X.w X.K X.mg X.base Ng qg sg g cdg X.A X.stack s H Eg).tr pn xe) (.Call (.Name a p1) [] [] p2)
      (fun σZ HZ Q => σZ[i]? = some (some (.ref f)) ∧ HZ c' = some (LamX.CodeO c' (X.env.qual ++ "<lambda>")) ∧ tb σ HZ Q) := by
  refine ⟨fun pinsZ sZ σZ HZ Q IZ ⟨hs, hc, ht⟩ => ?_⟩
  refine wpAny_Call_Name_kw (thn ((pe_var (pos := p1) (i := i) hN hv hd hcd).run pinsZ sZ σZ HZ (fun v H1 => v = .ref f ∧ H1 = HZ) IZ ⟨.ref f, hs, rfl, rfl⟩) fun u s1 ⟨v, H1, I1, r1, ev, eH⟩ => ?_)
  subst ev
  rw [eH] at I1
  obtain rfl : u = Value.ref f := r1
  have at1 : s1.heap.get? f = some (PySem.W.kla_obj "<lambda>" (X.env.qual ++ "<lambda>") params body scope (cloFrom X.env.cells scope.names []) pm c' ctv) := I1.base.keep f _ hf hfn hfr (fun z => nomatch (show f ∈ ([] : List Addr) from z))
  refine PySem.W.callWith_F0 ⟨_, _, _, _, at1⟩ ?_
  have un : Un (frs X.stack) [] H HZ s.heap s1.heap := I1.base
  obtain ⟨⟨oc, vs, t, hoc, hdc, hvc⟩, _, _⟩ := I1.hok c' _ hc
  refine wpAny_call (codeAny_mono (R := CR (L2N.CX X.prog X.w) (envOfC qg sg s.heap.objs.size g cdg :: X.stack) X.prog X.w HZ s1 Q E) ?_ fun r s' hq => ?_)
  · show codeAny (model X.prog X.w) (X.A.deeper (envOfC qg sg s.heap.objs.size g cdg)) (.call (.ref f) ⟨[], []⟩) _ _
    refine PySem.W.kla_callFunE hr.depth at1 rfl L.co L.gen rfl ⟨c', oc, vs, t, rfl, hoc, hdc, hvc⟩ ?_
    rw [bind]
    refine wpAny_pure (wpAny_newFunctionEnv (fun y hy => (L.own y hy).2) (fun y hy => absurd hy (by simp)) (fun h₁ hns hsb => ⟨I1.nolimit.fresh _ hsb, ?_⟩) L.kind)
    show codeAny _ _ (.expr body (LamX.lamEnv X scope s1.heap.objs.size f c')) _ _
    have J := LamX.lam_start2 (E := E) (f := f) (c' := c') (tk := s1.toks + ([] : List (Str × Value)).length) I L I1.env0 hr.hd un hns (fun b o e => hsb.extBut b o (Nat.ne_of_lt (Heap.lt_size e)) (Heap.get?_push_of_some _ e))
    have J2 := J.wish fun e s' => wpAny (model X.prog X.w) ((X.A.deeper (envOfC qg sg s.heap.objs.size g cdg)).deeper (LamX.lamEnv X scope s1.heap.objs.size f c')) (leaving (LamX.lamEnv X scope s1.heap.objs.size f c') e)
      (fun _ s'' => L2N.CX X.prog X.w (envOfC qg sg s.heap.objs.size g cdg :: X.stack) HZ s1 E e s'') (fun e' s'' => L2N.CX X.prog X.w (envOfC qg sg s.heap.objs.size g cdg :: X.stack) HZ s1 E e' s'') s'
    exact PySem.W.kla_codeExpr (wpAny_mono ((hbody _ _ s1 HZ (hr.deeper _)).run [] _ _ HZ Q J2 ht) (fun v s' ⟨w', H', J', rv, q⟩ => ⟨w', H', J'.os, J'.bare, J'.base, J'.hok, rv, q⟩) fun e s' hq => hq)
  · cases r with
    | error e => exact L2N.passes_call tk hW pinsZ σZ HZ s1 e s' I1 hq
    | ok fl =>
      cases fl with
      | ret u => exact I1.after hq
      | next => exact hq.elim
      | brk => exact hq.elim
      | cont => exact hq.elim
/-- a lambda is made: its code object is new, or stands in the table; every table stays one -/
theorem lam_mk {T : List (Addr × Str)} {c P : Addr} {params : Arguments} {body : Expr} {scope : Scope} {pos : Pos} {E : Value → Shared → Prop} {Q : Value → Shared → Prop} (I : Inv X pins σ H s) (TB : LamX.TabB X.base X.mg c P) (hcode : X.env.code = .ref c)
    (hm : (P, X.env.qual ++ "<lambda>") ∈ T) (hu : ∀ p ∈ T, p.1 = P → p.2 = X.env.qual ++ "<lambda>") (hT : LamX.Tabs T H) (hdef : defaultsOf params X.env = ([], [])) (free : ∀ y ∈ scope.names, y.2 = .free → ∃ c, X.env.cells.lookup y.1 = some c)
    (h : ∀ (f c' : Addr) (pm ctv : Value) (H1 : Hp) (s' : Shared), Inv X pins σ H1 s' → LamX.ExtN H H1 → LamX.Tabs T H1 → (∀ a qs, H a = some (.tbl qs) → ∃ qs', H1 a = some (.tbl qs')) →
      s'.heap.get? f = some (PySem.W.kla_obj "<lambda>" (X.env.qual ++ "<lambda>") params body scope (cloFrom X.env.cells scope.names []) pm c' ctv) → H1 f = none → f ∉ frs X.stack → H1 c' = some (LamX.CodeO c' (X.env.qual ++ "<lambda>")) → Q (.ref f) s') :
    wpAny (model X.prog X.w) X.A (eval (.Lambda params body scope pos) X.env) Q E s := by
  obtain ⟨ps, hP, tr, am⟩ := hT _ hm
  have bP := TB.bm.keeps I.bk
  have gP : s.heap.get? P = some { cls := .none, data := .fields ps } := I.hok P _ hP
  have nofr : ∀ f, s.heap.objs.size ≤ f → f ∉ frs X.stack := fun f hf z => (List.mem_cons.mp (I.stkSub _ z)).elim
    (fun e => absurd (Nat.lt_of_lt_of_le (by rw [e]; exact I.lt) hf) (Nat.lt_irrefl f)) (I.nofs hf)
  refine PySem.W.kla_eval hdef ?_
  cases hc : codeAmong pos ps.toList with
  | some cv =>
    obtain ⟨c', e, co⟩ := am pos cv hc
    subst e
    refine PySem.W.kla_makeFunctionHit (mg := X.mg) (c := c) (P := P) (ps := ps) (closure_ok free) I.ok.glob (I.mod.glob.keeps I.bk) hcode (TB.code.keeps I.bk) gP tr hc bP fun ctv h' tk hx hsz => ?_
    have J : Inv X pins σ H { s with heap := h'.push (PySem.W.kla_obj "<lambda>" (X.env.qual ++ "<lambda>") params body scope (cloFrom X.env.cells scope.names []) ((X.mg "__name__").getD .none) c' ctv), toks := tk } := I.kept fun b o e => Heap.get?_push_of_some _ (hx b o e)
    exact h _ c' _ ctv H _ J (LamX.ExtN.refl H) hT (fun a qs e => ⟨qs, e⟩) (Heap.get?_push_size _ rfl) (I.hok.fresh hsz) (nofr _ hsz) co
  | none =>
    refine PySem.W.kla_makeFunction (mg := X.mg) (c := c) (P := P) (ps := ps) (closure_ok free) I.ok.glob (I.mod.glob.keeps I.bk) hcode (TB.code.keeps I.bk) gP tr hc TB.gP bP fun c' ctv h' tk hx hge hlt hrec htb => ?_
    obtain ⟨c2, oc, vs, t, e2, g1, g2, g3⟩ := hrec
    cases e2
    have hsz : s.heap.objs.size ≤ h'.objs.size := Nat.le_trans hge (Nat.le_of_lt hlt)
    have nC : H c' = none := I.hok.fresh hge
    generalize hmore : (#[rawInt pos.line, rawInt pos.col, .ref c'] : Array Value) = more at htb
    have J := LamX.inv_table (t' := tk) (more := more) (h' := h'.push (PySem.W.kla_obj "<lambda>" (X.env.qual ++ "<lambda>") params body scope (cloFrom X.env.cells scope.names []) ((X.mg "__name__").getD .none) c' ctv)) I hP
      (fun b o hb e => Heap.get?_push_of_some _ (hx b o hb e)) (Heap.get?_push_of_some _ htb) hge ⟨oc, vs, t, Heap.get?_push_of_some _ g1, g2, g3⟩
    have old : ∀ {b o}, H b = some o → b ≠ P → upd (upd H P (.tbl (ps ++ more))) c' (LamX.CodeO c' (X.env.qual ++ "<lambda>")) b = some o := fun {b o} e n => by
      rw [upd_ne (ne_of_none e nC), upd_ne n]
      exact e
    have atP : upd (upd H P (.tbl (ps ++ more))) c' (LamX.CodeO c' (X.env.qual ++ "<lambda>")) P = some (.tbl (ps ++ more)) := by rw [upd_ne (ne_of_none hP nC), upd_same]
    have eN : LamX.ExtN H (upd (upd H P (.tbl (ps ++ more))) c' (LamX.CodeO c' (X.env.qual ++ "<lambda>"))) := fun b o e n => old e fun z => n ps (Option.some.inj (e.symm.trans (by rw [z]; exact hP)))
    refine h h'.objs.size c' _ ctv _ _ J eN (fun p hp => ?_) (fun a qs e => ?_) (Heap.get?_push_size _ rfl) ?_ (nofr _ hsz) upd_same
    · by_cases hb : p.1 = P
      · rw [hu p hp hb, hb]
        have eL : (ps ++ more).toList = ps.toList ++ [rawInt pos.line, rawInt pos.col, .ref c'] := by rw [← hmore]; simp
        refine ⟨_, atP, by rw [eL]; exact PySem.TriplesOk_snoc _ _ _ _ tr, fun p' cv hcv => ?_⟩
        rw [eL] at hcv
        rcases LamX.among_app _ tr hcv with z | z
        · obtain ⟨c0, e1, e2⟩ := am p' cv z
          exact ⟨c0, e1, eN _ _ e2 LamX.codeO_ne⟩
        · exact ⟨c', z, upd_same⟩
      · obtain ⟨qs, a1, a2, a3⟩ := hT p hp
        refine ⟨qs, old a1 hb, a2, fun p' cv hcv => ?_⟩
        obtain ⟨c0, e1, e2⟩ := a3 p' cv hcv
        exact ⟨c0, e1, eN _ _ e2 LamX.codeO_ne⟩
    · by_cases hb : a = P
      · rw [hb]
        exact ⟨_, atP⟩
      · exact ⟨qs, old e hb⟩
    · rw [upd_ne (Nat.ne_of_gt hlt), upd_ne (Nat.ne_of_gt (Nat.lt_of_lt_of_le (Heap.lt_size gP) hsz))]
      exact I.hok.fresh hsz
def tLamN (T : List (Addr × Str)) (TT : (XK → Hp → VK → Prop) → Hp → VK → Prop) (t : XK → TE) : TE := fun σ H Q => LamX.Tabs T H ∧ ∀ H1, LamX.ExtN H H1 → LamX.Tabs T H1 → (∀ a qs, H a = some (.tbl qs) → ∃ qs', H1 a = some (.tbl qs')) → TT (fun E H' Q' => t E σ H' Q') H1 Q
end
/-- what a def makes of the lambda that it calls -/
def GivesN (X : Cx) (k : Nat) (Ng : List Str) (x : Str) (sg : Scope) (g : Addr) (cdg : Value) (bg : List Stmt) (a : Str) (q : Str) (TT : (XK → Hp → VK → Prop) → Hp → VK → Prop) : Prop :=
  ∀ (f c' : Addr) (s : Shared) (H : Hp) (Q : VK) (tl : XK → Hp → VK → Prop), Room (k + 1) (X.A.deeper (envOfC x sg s.heap.objs.size g cdg)) →
    (∀ (W : WX) (pn : List (Addr × Obj)) (xe : Value → Shared → Prop) (E : XK) (p1 p2 : Pos), L2N.Takes ((cxOf C8.CX0 X.prog X.w X.K X.mg X.base Ng x sg g cdg X.A X.stack s H C8.E0).tr pn xe) W → (∀ cls d σ' H', E cls d H' → W cls d σ' H') →
      PE ((cxOf C8.CX0 X.prog X.w X.K X.mg X.base Ng x sg g cdg X.A X.stack s H C8.E0).tr pn xe) (.Call (.Name a p1) [] [] p2) (fun σZ HZ Q => σZ[0]? = some (some (.ref f)) ∧ HZ c' = some (LamX.CodeO c' q) ∧ tl E HZ Q)) →
    H c' = some (LamX.CodeO c' q) → TT tl H Q →
    ∃ t, PSs (cxOf C8.CX0 X.prog X.w X.K X.mg X.base Ng x sg g cdg X.A X.stack s H C8.E0).nox bg t ∧ t { nx := fun _ H' => Q .non H', rt := Q } (L2.start Ng [.ref f]) H
/-- x(lambda: body) -/
theorem pe_lamN {X : Cx} {T : List (Addr × Str)} {TT : (XK → Hp → VK → Prop) → Hp → VK → Prop} {x a : Str} {g c P : Addr} {k : Nat} {pg : Arguments} {bg : List Stmt} {sg : Scope} {dV kV doc pm cdv ct oc : Value} {an od : Option Addr} {osl : Array (Option Value)} {Ng : List Str}
    {params : Arguments} {body : Expr} {scope : Scope} {t : XK → TE} {p lpos pos : Pos} (hg : Gl X x) (hm : X.mg x = some (.ref g)) (hk : PySem.W.keepIn X.K (.ref g) = true)
    (lk : X.K.lookup g = some ⟨oc, od, .func (PySem.W.fnOf x x pg bg sg dV kV doc pm an cdv ct), osl⟩) (hcg : PySem.W.codeIn X.K cdv x = true) (hb : L2.Binds X.K (PySem.W.fnOf x x pg bg sg dV kV doc pm an cdv ct) [a] []) (Sg : FnScope Ng [a] sg) (hNg : Ng[0]? = some a) (hva : Vis sg a)
    (hG : GivesN X k Ng x sg g cdv bg a (X.env.qual ++ "<lambda>") TT)
    (TB : LamX.TabB X.base X.mg c P) (hcode : X.env.code = .ref c) (hmT : (P, X.env.qual ++ "<lambda>") ∈ T) (hu : ∀ p ∈ T, p.1 = P → p.2 = X.env.qual ++ "<lambda>") (hr : Room (k + 2) X.A) (L : LamX.LamS X.env.scope scope) (hdef : defaultsOf params X.env = ([], []))
    (hbind : ∀ (q : Str) (cl : List (Str × Addr)) (pm cv ctv : Value), bindArgs (PySem.W.kla_fn "<lambda>" q params body scope cl pm cv ctv) ⟨[], []⟩ = pure [])
    (hbody : ∀ (A : Around) (outer : List Envr) (s : Shared) (H : Hp) (E : XK) (f c' : Addr), Room k (A.deeper (LamX.lamEnv X scope s.heap.objs.size f c')) → PE (lamCxN X A outer s H E scope f c') body (t E))
    (hdb : (x == ("__debug__" : Str)) = false) (hd : (a == ("__debug__" : Str)) = false) (hcd : (a == ("__classdict__" : Str)) = false) :
    PE X (.Call (.Name x p) [.Lambda params body scope lpos] [] pos) (tLamN T TT t) := by
  refine ⟨fun pins s σ H Q I ⟨hT, h⟩ => ?_⟩
  refine wpAny_Call_Name_kw (ld_glob I hg hm ?_ hdb)
  refine PySem.W.callWith_K (h₀ := X.base) I.ok.mod.kin hk ?_ (by rfl) (by rfl)
  show wpAny _ _ (spliced ((false, eval (.Lambda params body scope lpos) X.env) :: backTo pos (starEach [] X.env))) _ _ s
  refine Calls.spliced_cons (lam_mk I TB hcode hmT hu hT hdef (L.has I.ok) fun f c' pm' ctv H1 s' I1 eN T1 tb1 hf hfn hfr hco => ?_)
  refine Calls.spliced_nil ⟨I1.kIn, ?_⟩
  refine wpAny_call (codeAny_mono (R := CR C8.CX0 X.stack X.prog X.w H1 s' Q C8.E0) ?_ fun r s2 hq => ?_)
  · refine LamX.run_ofS (N := Ng) (ps := [a]) (us := [.ref f]) (vs := [.ref f]) lk hcg Sg hr I1.env0 (hb s' [.ref f] I1.kIn rfl) (.cons rfl .nil) rfl fun hr' => ?_
    obtain ⟨t', ht', hq'⟩ := hG f c' s' H1 Q (fun E H' Q' => t E σ H' Q') hr' (fun W pn xe E p1 p2 tk hW => pe_actN (i := 0) I1 L hf hfn hfr (hbind _ _ _ _ _) tk hW hr' (fun A outer s H hr2 => hbody A outer s H E f c' hr2) hNg hva hd hcd) hco (h H1 eN T1 tb1)
    exact ⟨t', ht'.nox, hq'⟩
  · cases r with
    | error e => exact (show False from hq).elim
    | ok fl =>
      cases fl with
      | ret u => exact I1.after hq
      | next => exact hq.elim
      | brk => exact hq.elim
      | cont => exact hq.elim
/-! ### the def of the error's names, called with a lambda -/
/-- told: the names of the error, or "" -/
def TErr (C : Cxt) (K : PySem.W.Frag) (mg : Str → Option Value) (GE : Addr) (ns : List Str) (sp ws : Str) : (XK → Hp → VK → Prop) → Hp → VK → Prop := fun tl H Q =>
  tl (fun cls d H' => ∃ (D : Addr) (bs : List Bool) (w : Wd), cls = .ref D ∧ d = none ∧ PySem.W.exmOne K cls (.ref GE) = some true ∧ NmR K mg D ns bs ∧ ExcC K D ∧ w.H = H' ∧ w.Ok C ∧ ∀ w', w'.S = w.S → w'.Ok C → w.To w' → Q (.str (nmStr sp ws bs)) w'.H) H fun _ H' => Q (.str "") H'
theorem err_gives {C : Cxt} {X : Cx} {k : Nat} {sg : Scope} {g GE : Addr} {cdg : Value} {q : Str} {ns : List Str} {sp ws : Str} {j : Nat} {p1 p2 p3 p4 p5 p6 p7 p8 p9 p10 p11 p12 : Pos} (T : NmDef X.K X.mg ns sp ws) (hK : X.K = C.K) (hk : 1 ≤ k + 1)
    (hge : glb sg "GlassError" = true) (hgn : glb sg "_law_names" = true) (hme : X.mg "GlassError" = some (.ref GE)) (le : sg.names.lookup ("e" : Str) = some .local) :
    GivesN X k ["call", "e"] "_law_error" sg g cdg [.Try [.Expr (.Call (.Name "call" p1) [] [] p2) p3] [.ExceptHandler (some (.Name "GlassError" p4)) (some "e") [.Return (some (.Call (.Name "_law_names" p5) [.Name "e" p6] [] p7)) p8] p9] [] [] p10,
      .Return (some (.Constant (.str "") j p11)) p12] "call" q (TErr C X.K X.mg GE ns sp ws) := by
  intro f c' s H Q tl hr act hc h
  generalize hY : (cxOf C8.CX0 X.prog X.w X.K X.mg X.base ["call", "e"] "_law_error" sg g cdg X.A X.stack s H C8.E0) = Y at act ⊢
  have yK : Y.K = X.K := by rw [← hY] <;> rfl
  have ymg : Y.mg = X.mg := by rw [← hY] <;> rfl
  have yN : Y.N = (["call", "e"] : List Str) := by rw [← hY] <;> rfl
  have ysc : Y.env.scope = sg := by rw [← hY] <;> rfl
  have yA : Y.A = X.A.deeper (envOfC "_law_error" sg s.heap.objs.size g cdg) := by rw [← hY] <;> rfl
  have yst : Y.stack = Y.env :: Y.outer := by rw [← hY] <;> rfl
  have yfr : Y.env.frame = some Y.env.locals := by rw [← hY] <;> rfl
  obtain ⟨g1, g2, g3⟩ := glb_ok (X := Y) hge ysc
  obtain ⟨n1, n2, n3⟩ := glb_ok (X := Y) hgn ysc
  have T' : NmDef Y.K Y.mg ns sp ws := by rw [yK, ymg]; exact T
  have ny : Y.N.Nodup := by rw [yN]; decide
  have rH : RoomH 1 Y.A := by rw [yA]; exact (roomH_of hr).mono hk
  refine ⟨_, pss_cons (L2N.ps_try_as (X := Y.nox) (x := "GlassError") (n := "e") (i := 1) (c := .ref GE) (Wout := fun _ _ _ _ => False)
      (tb := fun W D σ H => ∃ Ech : XK, (∀ cls d σ' H', Ech cls d H' → W cls d σ' H') ∧ σ[0]? = some (some (.ref f)) ∧ H c' = some (LamX.CodeO c' q) ∧ tl Ech H fun _ H' => D.nx σ H')
      (ts := fun a cls d D σ H => (∃ ρ : L2.St, σ = ρ.set 1 (some (.ref a))) ∧ ∃ (D' : Addr) (bs : List Bool) (w : Wd), cls = .ref D' ∧ d = none ∧ NmR X.K X.mg D' ns bs ∧ ExcC X.K D' ∧ w.H = H ∧ w.Ok C ∧ ∀ w', w'.S = w.S → w'.Ok C → w.To w' → D.rt (.str (nmStr sp ws bs)) w'.H)
      yst yfr ny (by show Y.N[1]? = _; rw [yN]; rfl) (by show Y.env.scope.names.lookup ("e" : Str) = _; rw [ysc]; exact le) ⟨g1, g2, .inl (by show Y.mg _ = _; rw [ymg]; exact hme)⟩ takesN0 (fun W pn xe tk _ => ?_) (fun a oe cls d pn zn fl => ?_)) (pss_one (ps_ret pe_str)), ?_⟩
  · refine ⟨fun pins s' σ H' D I ⟨Ech, hW, h1, h2, h3⟩ => ?_⟩
    have hp := act W pn xe Ech p1 p2 tk hW
    exact (pss_one (ps_expr (pos := p3) hp rfl)).run pins s' σ H' D I ⟨h1, h2, h3⟩
  · refine ⟨fun pins s' σ H' D I ⟨⟨ρ, hρ⟩, D', bs, w, e1, e2, r, ex, e3, ok, hq⟩ => ?_⟩
    have h1 : σ[1]? = some (some (.ref a)) := by
      have hl : σ.length = Y.N.length := I.len
      rw [yN] at hl
      rw [hρ, List.length_set] at hl
      rw [hρ, List.getElem?_set_self (by rw [hl]; decide)]
    subst e1 e2
    obtain ⟨vs, hv⟩ := fl
    have pe := pe_names (C := C) (X := (Y.nox).suite a ((a, oe) :: pn)) (i := 1) (e := "e") (p1 := p5) (p2 := p6) (pos := p7) T' (by show Y.K = _; rw [yK]; exact hK) ⟨rfl, vs, hv, zn.2.2 vs hv⟩ List.mem_cons_self ⟨rH.dp, rH.un⟩ zn.zc ⟨vs, hv⟩ (by show ExcC Y.K D'; rw [yK]; exact ex) (by show NmR Y.K Y.mg D' ns bs; rw [yK, ymg]; exact r) n1
      (by show Y.N[1]? = _; rw [yN]; rfl) (.inl (by show Y.env.scope.names.lookup ("e" : Str) = _; rw [ysc]; exact le)) (by decide)
    exact (pss_one (ps_ret (pos := p8) pe)).run pins s' σ H' D I ⟨h1, w, e3, ok, hq⟩
  · refine ⟨fun cls d H' => ∃ (D : Addr) (bs : List Bool) (w : Wd), cls = .ref D ∧ d = none ∧ PySem.W.exmOne X.K cls (.ref GE) = some true ∧ NmR X.K X.mg D ns bs ∧ ExcC X.K D ∧ w.H = H' ∧ w.Ok C ∧ ∀ w', w'.S = w.S → w'.Ok C → w.To w' → Q (.str (nmStr sp ws bs)) w'.H,
      fun cls d σ' H' ⟨D, bs, w, e1, e2, e3, e4, e5, e6, e7, e8⟩ => ⟨true, by show PySem.W.exmOne Y.K cls _ = _; rw [yK]; exact e3, fun _ a _ => ⟨⟨σ', rfl⟩, D, bs, w, e1, e2, e4, e5, e6, e7, e8⟩, fun z => by cases z⟩, rfl, hc, h⟩
end G

-- HE
set_option maxRecDepth 100000
set_option maxHeartbeats 2000000
namespace G
open PySem PySem.Spec PyProof.Rows L2
/-! ### the error's def, as an expression -/
/-- what a class of errors must tell -/
def ErrC (ca : Nat → Addr) (K : PySem.W.Frag) (mg : Str → Option Value) (GE : Addr) (ns : List Str) (sp ws : Str) : Prop :=
  ∀ c s, errW c = some s → ∃ bs, PySem.W.exmOne K (.ref (ca c)) (.ref GE) = some true ∧ NmR K mg (ca c) ns bs ∧ ExcC K (ca c) ∧ nmStr sp ws bs = s
structure ErrOk (ca : Nat → Addr) (K : PySem.W.Frag) (mg : Str → Option Value) : Prop where
  ex : ∃ (g : Addr) (fd : FuncData) (params : Arguments) (body : List Stmt) (scope : Scope) (kws : List (Str × V)) (GE : Addr) (ns : List Str) (sp ws : Str), mg "_law_error" = some (.ref g) ∧ FunD K "_law_error" "_law_error" params body scope [] kws g fd ∧ plainP params ["call"] = true ∧
    C8.scC ["call", "e"] ["call"] scope = true ∧ (∀ (C : Cxt) (X : Cx) (k : Nat) (cdv : Value) (q : Str), X.K = K → X.mg = mg → X.K = C.K → GivesN X k ["call", "e"] "_law_error" scope g cdv body "call" q (TErr C K mg GE ns sp ws)) ∧ ErrC ca K mg GE ns sp ws
structure LamOk (T : List (Addr × Str)) (ca : Nat → Addr) (X : Cx) : Prop where
  tab : ∃ c Pt, LamX.TabB X.base X.mg c Pt ∧ X.env.code = .ref c ∧ (Pt, X.env.qual ++ "<lambda>") ∈ T ∧ ∀ p ∈ T, p.1 = Pt → p.2 = X.env.qual ++ "<lambda>"
  err : ErrOk ca X.K X.mg
section
variable {C : Cxt} {P : Pr} {G : Gam} {N : List Str} {sc : Scope} {x : Expr} {pos : Pos}
theorem lam_wd {w : Wd} (ok : w.Ok C) {H1 : Hp} (e : LamX.ExtN w.H H1) (t : LamX.Tabs C.T H1) (tb : ∀ a qs, w.H a = some (.tbl qs) → ∃ qs', H1 a = some (.tbl qs')) : ({ w with H := H1 } : Wd).Ok C ∧ w.To { w with H := H1 } := by
  refine ⟨⟨fun a o q => e a o (ok.sub a o q) fun ps z => ok.nt a ps (by rw [q, z]), ok.len, fun n a o h1 h2 => ?_, ok.nd, t, ok.nt⟩, ⟨Ext.refl _, fun a h => .inl h, ⟨[], by simp⟩, fun a o q _ n => e a o q n, tb⟩⟩
  · obtain ⟨k1, k2, k3⟩ := ok.obj n a o h1 h2
    exact ⟨k1, k2, ob_mono k3 (Ext.refl _) fun u q n => e a u q n⟩
/-- an error's wish, the slots left out -/
def EW (E : XK) : WX := fun c d _ H => E c d H
theorem told_some {m : M RV} {S : Sto} {o : Out RV} (h : told m S = some o) : (∃ v S', m S = some (.ok v S') ∧ o = .ok (.d (.str "")) S') ∨ ∃ c s S', m S = some (.ex c none S') ∧ errW c = some s ∧ o = .ok (.d (.str s)) S' := by
  unfold told at h
  split at h
  · rename_i v S' q
    cases h
    exact .inl ⟨v, S', q, rfl⟩
  · rename_i c S' q
    cases e : errW c with
    | none => rw [e] at h; cases h
    | some s =>
      rw [e] at h
      cases h
      exact .inr ⟨c, s, S', q, e, rfl⟩
  · cases h
theorem se_lerr {b : E} {n : Str} {ps : Arguments} {scope : Scope} {p1 p2 : Pos} (hLP : ∀ X, C.LP X → LamOk C.T C.ca X) (hlam : P.lam = true) (hn : n = "_law_error") (hg : glb sc n = true) (he : emptyA ps = true) (hl : LamX.lamSB sc scope = true) (hb : SE C P.off G N scope x (ev G b)) :
    SE C P G N sc (.Call (.Name n p1) [.Lambda ps x scope p2] [] pos) (ev G (.lerr b)) := fun W => by
  have ch : ∀ E : XK, ∃ t : TE, Ref C (EW E) (RvR C) t (ev G b) ∧ ∀ X, At C P.off G N scope (EW E) X → PE X x t := fun E => hb (EW E)
  refine ⟨fun σ H Q => ∀ (mg : Str → Option Value) (GE : Addr) (ns : List Str) (sp ws : Str), ErrC C.ca C.K mg GE ns sp ws → tLamN C.T (TErr C C.K mg GE ns sp ws) (fun E => Classical.choose (ch E)) σ H Q, fun w env σ o Q ok en e hq mg GE ns sp ws ec => ?_, fun X hX => ?_⟩
  · simp only [ev] at e
    refine ⟨ok.tab, fun H1 eN T1 tb1 => ?_⟩
    obtain ⟨ok1, t1⟩ := lam_wd ok eN T1 tb1
    obtain ⟨hr, _⟩ := Classical.choose_spec (ch (fun cls d H' => ∃ (D : Addr) (bs : List Bool) (w : Wd), cls = .ref D ∧ d = none ∧ PySem.W.exmOne C.K cls (.ref GE) = some true ∧ NmR C.K mg D ns bs ∧ ExcC C.K D ∧ w.H = H' ∧ w.Ok C ∧ ∀ w', w'.S = w.S → w'.Ok C → w.To w' → Q (.str (nmStr sp ws bs)) w'.H))
    rcases told_some e with ⟨v, S', q, rfl⟩ | ⟨c, s, S', q, es, rfl⟩
    · exact hr { w with H := H1 } env σ _ _ ok1 (en.to t1) q fun w' x' e1 ok' t' _ => hq w' (.str "") e1 ok' (t1.trans t' ok1) (.str "")
    · refine hr { w with H := H1 } env σ _ _ ok1 (en.to t1) q fun w' d e1 ok' t' hp => ?_
      obtain ⟨bs, b1, b2, b3, b4⟩ := ec c s es
      refine ⟨C.ca c, bs, w', rfl, hp, b1, b2, b3, rfl, ok', fun w2 e2 ok2 t2 => ?_⟩
      rw [b4]
      exact hq w2 (.str s) (by rw [e2, e1]) ok2 ((t1.trans t' ok1).trans t2 ok') (.str s)
  · obtain ⟨gd, h1, h2⟩ := hX
    obtain ⟨⟨c, Pt, TB, hc, hm, hu⟩, ⟨g, fd, params, body, scope', kws, GE, ns, sp, ws, e1, F, e2, e3, gv, ec⟩⟩ := hLP X (gd.lam hlam)
    obtain ⟨k, fns, r0, r2⟩ := gd.fns
    have r2 := r2 hlam
    obtain ⟨b1, b2, b3⟩ := glb_ok hg h2
    subst hn
    have eK := gd.K
    obtain ⟨q1, q2, q3, q4, q5, q6, q7⟩ := ps
    unfold emptyA at he
    simp only [Bool.and_eq_true, List.isEmpty_iff, Option.isNone_iff_eq_none] at he
    obtain ⟨⟨⟨⟨⟨⟨a1, a2⟩, a3⟩, a4⟩, a5⟩, a6⟩, a7⟩ := he
    subst a1 a2 a3 a4 a5 a6 a7
    have hb' := FunD.bindsN (ps := ["call"]) (kws := kws) (F := F) fun kV doc pm an cdv ct us hu => bind_plain e2 hu
    have Sg := C8.fnScope_by e3
    obtain ⟨oc, od, dV, kV, doc, pm, an, cdv, ct, osl, efd, lk, hcd, _, _⟩ := F.ex
    subst efd
    have pl := pe_lamN (X := X) (params := ⟨[], [], none, [], [], none, []⟩) (T := C.T) (TT := TErr C X.K X.mg GE ns sp ws) (a := "call") (t := fun E => Classical.choose (ch E)) (p := p1) (lpos := p2) (pos := pos) (k := k) b1 e1 F.kp lk hcd hb' Sg rfl ((Sg.par "call" (by simp)).elim .inl fun z => .inr (.inl z)) (gv C X k cdv _ rfl rfl eK) TB hc hm hu r2
      (LamX.lamS_by (by rw [h2]; exact hl)) rfl (fun _ _ _ _ _ => rfl) (fun A outer s H E f c' hr => (Classical.choose_spec (ch E)).2 _ ?_) b2 (by decide) (by decide)
    · refine ⟨fun pins s σ H Q I h => pl.run pins s σ H Q I ?_⟩
      rw [eK]
      exact h X.mg GE ns sp ws (by rw [← eK]; exact ec)
    · refine ⟨⟨gd.K, rfl, gd.nd, room_units hr, L2N.takes_of rfl rfl rfl rfl, gd.bl, ⟨k, fns, hr, (fun z => by cases z)⟩, (fun z => by cases z), gd.cs⟩, h1, rfl⟩
end
end G

-- GL
set_option maxRecDepth 100000
set_option maxHeartbeats 2000000
namespace G
open PySem L2 LamX PyProof.Rows
section
variable {C : Cxt} {P : Pr} {G : Gam} {N : List Str} {sc : Scope} {x y z : Expr} {pos : Pos}
/-! ### all expressions -/
theorem ch_star {m : Bool} {e : E} (h : ch P N sc m e x = true) : isStar x = false := by
  unfold ch at h
  split at h <;> first | rfl | cases h
theorem chs_star {m : Bool} : ∀ {es : Es} {xs : List Expr}, chs P N sc m es xs = true → xs.all (fun e => !isStar e) = true
  | .nil, [], _ => rfl
  | .cons e es, x :: xs, h => by
    simp only [chs, Bool.and_eq_true] at h
    rw [List.all_cons, ch_star h.1, chs_star h.2]
    rfl
  | .nil, _ :: _, h => by simp [chs] at h
  | .cons _ _, [], h => by simp [chs] at h
def Es.len : Es → Nat
  | .nil => 0
  | .cons _ r => r.len + 1
theorem chs_len {m : Bool} : ∀ {es : Es} {xs : List Expr}, chs P N sc m es xs = true → es.len = xs.length
  | .nil, [], _ => rfl
  | .cons e es, x :: xs, h => by
    simp only [chs, Bool.and_eq_true] at h
    rw [Es.len, chs_len h.2, List.length_cons]
  | .nil, _ :: _, h => by simp [chs] at h
  | .cons _ _, [], h => by simp [chs] at h
theorem evs_len : ∀ {es : Es} {env : Env} {S S' : Sto} {ds : List D}, evs G es env S = some (.ok ds S') → ds.length = es.len
  | .nil, _, _, _, _, h => by
    simp only [evs] at h
    cases h
    rfl
  | .cons e es, env, S, S', ds, h => by
    simp only [evs] at h
    obtain ⟨v, S1, h1, h2⟩ := bnd_ok h
    obtain ⟨d, h3, h4⟩ := bnd_lft h2
    obtain ⟨r, S2, h5, h6⟩ := bnd_ok h4
    cases h6
    rw [List.length_cons, evs_len h5, Es.len]
theorem evV_len : ∀ {es : Es} {env : Env} {S S' : Sto} {ds : List Vl}, evV G es env S = some (.ok ds S') → ds.length = es.len
  | .nil, _, _, _, _, h => by
    simp only [evV] at h
    cases h
    rfl
  | .cons e es, env, S, S', ds, h => by
    simp only [evV] at h
    obtain ⟨v, S1, h1, h2⟩ := bnd_ok h
    obtain ⟨r, S2, h5, h6⟩ := bnd_ok h2
    cases h6
    rw [List.length_cons, evV_len h5, Es.len]
theorem short_of {m : Bool} {es : Es} {xs : List Expr} (h : chs P N sc m es xs = true) (hl : Nat.ble xs.length 64 = true) : Short (evs G es) := fun env S ds S' e => by
  rw [evs_len e, chs_len h, sizeLine_eq]
  have := Nat.le_of_ble_eq_true hl
  omega
theorem SE.of {f g : Env → M RV} (h : SE C P G N sc x f) (e : ∀ env, g env = f env) : SE C P G N sc x g := by
  rw [show g = f from funext e]
  exact h
theorem SA.of {xs : List Expr} {f g : Env → M (List D)} (h : SA C P G N sc xs f) (e : ∀ env, g env = f env) : SA C P G N sc xs g := by
  rw [show g = f from funext e]
  exact h
theorem SV.of {xs : List Expr} {f g : Env → M (List Vl)} (h : SV C P G N sc xs f) (e : ∀ env, g env = f env) : SV C P G N sc xs g := by
  rw [show g = f from funext e]
  exact h
/-- both ways of standing -/
def SB2 (C : Cxt) (P : Pr) (G : Gam) (N : List Str) (sc : Scope) (m : Bool) (x : Expr) (f : Env → M RV) : Prop := (m = false → SE C P G N sc x f) ∧ (m = true → ST C P G N sc x (tst f))
theorem SB2.val {m : Bool} {f : Env → M RV} (h : SE C P G N sc x f) (hp : plainT x = true) : SB2 C P G N sc m x f := ⟨fun _ => h, fun _ => st_val h hp⟩
theorem SB2.ex {m : Bool} {f : Env → M RV} (h : SE C P G N sc x f) (hm : m = false) : SB2 C P G N sc m x f := ⟨fun _ => h, fun e => by rw [hm] at e; cases e⟩
def Pr.wl (P : Pr) (l : Bool) : Pr := { P with lam := l }
structure Okn (C : Cxt) (P : Pr) (G : Gam) (n : Nat) : Prop where
  e : ∀ (l : Bool) (N : List Str) (e : E), sizeOf e < n → ∀ m sc x, ch (P.wl l) N sc m e x = true → SB2 C (P.wl l) G N sc m x (ev G e)
  o : ∀ (l : Bool) (N : List Str) (o : Oe), sizeOf o < n → ∀ sc x, chO (P.wl l) N sc o x = true → SO C (P.wl l) G N sc x (evO G o)
  c : ∀ (l : Bool) (N : List Str) (o : Oe), sizeOf o < n → ∀ sc x, chC (P.wl l) N sc o x = true → SC C (P.wl l) G N sc x (evC G o)
  s : ∀ (l : Bool) (N : List Str) (es : Es), sizeOf es < n → ∀ sc xs, chs (P.wl l) N sc false es xs = true → SA C (P.wl l) G N sc xs (evs G es) ∧ SV C (P.wl l) G N sc xs (evV G es)
  b : ∀ (l : Bool) (N : List Str) (e : E) (es : Es), sizeOf (Es.cons e es) < n → ∀ k m sc xs pos, chs (P.wl l) N sc m (.cons e es) xs = true → (m = false → SB C (P.wl l) G N sc k xs pos (evB G k (.cons e es))) ∧ (m = true → SBT C (P.wl l) G N sc k xs pos (evB G k (.cons e es)))
  i : ∀ (l : Bool) (N : List Str) (it : It), sizeOf it < n → ∀ sc x t, chI (P.wl l) N sc it x t = true → SIq C (P.wl l) G N sc t x (evI G it) (isR it) ∧ isSet x = false
theorem ok_e (hd : C.dm = P.dom) (hLP : ∀ X, C.LP X → LamOk C.T C.ca X) (har : ∀ g ∈ P.dom, ∀ as S o, G g as S = some o → as.length = P.ar g) {n : Nat} (ih : Okn C P G n) (l : Bool) (N : List Str) (e : E) (hn : sizeOf e < n + 1) (m : Bool) (sc : Scope) (x : Expr) (h : ch (P.wl l) N sc m e x = true) : SB2 C (P.wl l) G N sc m x (ev G e) := by
  have se : ∀ {l : Bool} {e : E} {sc x}, sizeOf e < n → ch (P.wl l) N sc false e x = true → SE C (P.wl l) G N sc x (ev G e) := fun {l e sc x} a b => (ih.e l N e a false sc x b).1 rfl
  have st : ∀ {l : Bool} {e : E} {sc x}, sizeOf e < n → ch (P.wl l) N sc true e x = true → ST C (P.wl l) G N sc x (tst (ev G e)) := fun {l e sc x} a b => (ih.e l N e a true sc x b).2 rfl
  unfold ch at h
  split at h
  all_goals try simp only [Bool.and_eq_true, Bool.not_eq_true', E.tup.sizeOf_spec, E.lst.sizeOf_spec, E.repL.sizeOf_spec, E.bin.sizeOf_spec, E.neg.sizeOf_spec, E.cmp.sizeOf_spec, E.chn.sizeOf_spec, E.isN.sizeOf_spec, E.notN.sizeOf_spec, E.bool.sizeOf_spec, E.not.sizeOf_spec, E.ite.sizeOf_spec, E.ix.sizeOf_spec, E.ixl.sizeOf_spec, E.sl.sizeOf_spec, E.bf.sizeOf_spec, E.mt.sizeOf_spec, E.isi.sizeOf_spec, E.call.sizeOf_spec, E.callv.sizeOf_spec, E.lerr.sizeOf_spec, E.comp.sizeOf_spec, E.comp2.sizeOf_spec] at h hn
  · exact .val (se_var (dec_eq h.1.1) h.1.2 h.2) rfl
  · cases dec_eq h
    exact .val (se_const (fun F => .int _) fun X => pe_int) rfl
  · cases dec_eq h
    exact .val (se_const (fun F => .str _) fun X => pe_str) rfl
  · cases dec_eq h
    exact .val (se_const (fun F => .bl _) fun X => pe_bl) rfl
  · exact .val (se_const (fun F => .non) fun X => pe_non) rfl
  · exact .val (se_gc (dec_eq h.1.1) h.1.2 h.2) rfl
  · exact .val (se_gf (P := P.wl l) hd (dec_eq h.1.1) h.1.2 h.2) rfl
  · exact .ex ((se_tup (ih.s l N _ (by omega) _ _ h.1.2).1 (short_of h.1.2 h.2)).of fun env => by simp only [ev]) h.1.1
  · exact .ex ((se_lst (ih.s l N _ (by omega) _ _ h.1.2).1 (short_of h.1.2 h.2)).of fun env => by simp only [ev]) h.1.1
  · exact .ex ((se_repL (ih.s l N _ (by omega) _ _ h.1.1.2).1 (se (by omega) h.1.2) (short_of h.1.1.2 h.2)).of fun env => by simp only [ev]) h.1.1.1
  · rw [dec_eq h.1.1]
    exact .val (se_bin _ (se (by omega) h.1.2) (se (by omega) h.2)) rfl
  · exact .val (se_neg (se (by omega) h)) rfl
  · obtain ⟨⟨⟨h1, h2⟩, h3⟩, h4⟩ := h
    have h1 := dec_eq h1
    subst h1
    exact ⟨fun _ => se_cmp _ (se (by omega) h2) (se (by omega) h3) h4, fun _ => st_cmp _ (se (by omega) h2) (se (by omega) h3) h4⟩
  · obtain ⟨⟨⟨⟨⟨h1, h2⟩, h3⟩, h4⟩, h5⟩, h6⟩ := h
    have h1 := dec_eq h1
    have h2 := dec_eq h2
    subst h1 h2
    exact ⟨fun _ => se_chn _ _ (se (by omega) h3) (se (by omega) h4) (se (by omega) h5) h6, fun _ => st_chn _ _ (se (by omega) h3) (se (by omega) h4) (se (by omega) h5) h6⟩
  · exact ⟨fun _ => se_isN (se (by omega) h), fun _ => st_isN (se (by omega) h)⟩
  · exact ⟨fun _ => se_notN (se (by omega) h), fun _ => st_notN (se (by omega) h)⟩
  · rename_i k es op as pos
    have h1 : op = bopC k := dec_eq h.1
    subst h1
    cases es with
    | nil =>
      refine ⟨fun _ W => ⟨fun _ _ _ => False, fun w env σ o Q ok en e hq => ?_, fun X hX => ⟨fun _ _ _ _ _ _ h => h.elim⟩⟩, fun _ W => ⟨fun _ _ _ => False, fun w env σ o Q ok en e hq => ?_, fun X hX => ⟨fun _ _ _ _ _ _ h => h.elim⟩⟩⟩
      · simp only [ev, evB, bnd, fail] at e
        cases e
      · simp only [tst, ev, evB, bnd, fail] at e
        cases e
    | cons e es =>
      have hb := ih.b l N e es (by omega) k m sc as pos h.2
      exact ⟨fun e => se_bool (hb.1 e), fun e => st_bool (hb.2 e)⟩
  · have hb := ih.e l N _ (by omega) m sc _ h
    exact ⟨fun e => se_not (hb.1 e), fun e => st_not (hb.2 e)⟩
  · exact .ex (se_ite (st (by omega) h.1.1.2) (se (by omega) h.1.2) (se (by omega) h.2)) h.1.1.1
  · exact .val (se_ix (se (by omega) h.1.1) (se (by omega) h.1.2) h.2) rfl
  · obtain ⟨⟨⟨⟨h1, h2⟩, h3⟩, h4⟩, h5⟩ := h
    exact .val (se_ixl (dec_eq h1) h2 h3 (se (by omega) h4) h5) rfl
  · exact .ex (se_sl (se (by omega) h.1.1.2) (ih.o l N _ (by omega) _ _ h.1.2) (ih.o l N _ (by omega) _ _ h.2)) h.1.1.1
  · rename_i f es n p as p2
    cases as with
    | nil => simp at h
    | cons a as => exact .val ((se_bf (dec_eq h.1.1.1) h.1.1.2 (ih.s l N _ (by omega) _ _ h.2).1 (chs_star h.2)).of fun env => by simp only [ev]) rfl
  · rename_i k a es o n ap as p
    obtain ⟨⟨⟨⟨⟨h1, h2⟩, h3⟩, h4⟩, h5⟩, h6⟩ := h
    cases as with
    | nil =>
      cases es with
      | nil => exact .val (se_mt0 (dec_eq h1) (se (by omega) h2) h6 h4) rfl
      | cons _ _ => simp [chs] at h3
    | cons b as => exact .val ((se_mt (dec_eq h1) (se (by omega) h2) (ih.s l N _ (by omega) _ _ h3).1 h6 (chs_star h3) (of_decide_eq_true h5) h4).of fun env => by simp only [ev]) rfl
  · exact .val (se_isi (dec_eq h.1.1.1.1) h.1.1.1.2 (se (by omega) h.1.1.2) (ch_star h.1.1.2) (dec_eq h.1.2) h.2) rfl
  · rename_i g es n p as p2
    obtain ⟨⟨⟨⟨⟨h1, h2⟩, h3⟩, h4⟩, h5⟩, h6⟩ := h
    cases as with
    | nil => simp at h5
    | cons a as => exact .val ((se_call (dec_eq h1) h2 h3 (ih.s l N _ (by omega) _ _ h4).2 (chs_star h4) h6 (fun env S vs S' e => by rw [evV_len e, chs_len h4])).of fun env => by simp only [ev]) rfl
  · rename_i i es n p as p2
    obtain ⟨⟨⟨⟨h1, h2⟩, h3⟩, h4⟩, h5⟩ := h
    cases as with
    | nil => simp at h5
    | cons a as => exact .val ((se_callv (P := P.wl l) hd (dec_eq h1) h2 h3 (ih.s l N _ (by omega) _ _ h4).2 (chs_star h4) (fun env S vs S' e => by rw [evV_len e, chs_len h4]) har).of fun env => by simp only [ev]) rfl
  · obtain ⟨⟨⟨⟨⟨h1, h2⟩, h3⟩, h4⟩, h5⟩, h6⟩ := h
    exact .val (se_lerr hLP h1 (dec_eq h2) h3 h4 h5 (se (l := false) (by omega) h6)) rfl
  · obtain ⟨⟨⟨⟨⟨⟨⟨⟨h1, h2⟩, h3⟩, h4⟩, h5⟩, h6⟩, h7⟩, h8⟩, h9⟩ := h
    obtain ⟨i1, i2⟩ := ih.i l N _ (by omega) _ _ _ h2
    exact .ex (se_comp i1.si i2 h3 h4 h5 h6 h7 (ih.c false N _ (by omega) _ _ h8) (se (l := false) (by omega) h9)) h1
  · obtain ⟨⟨⟨⟨⟨⟨⟨h1, h2⟩, h3⟩, h4⟩, h5⟩, h6⟩, h7⟩, ⟨⟨⟨⟨g1, g2⟩, g3⟩, g4⟩, g5⟩, g6⟩ := h
    obtain ⟨i1, i2⟩ := ih.i l N _ (by omega) _ _ _ h2
    obtain ⟨j1, j2⟩ := ih.i false N _ (by omega) _ _ _ g1
    exact .ex (SEc.se <| se_comp2S i1.si i2 h3 h4 h5 h6 h7 j1.si j2 g2 g3 g4 g5 (se (l := false) (by omega) g6)) h1
  · cases h
theorem okn (hd : C.dm = P.dom) (hLP : ∀ X, C.LP X → LamOk C.T C.ca X) (har : ∀ g ∈ P.dom, ∀ as S o, G g as S = some o → as.length = P.ar g) : ∀ n, Okn C P G n
  | 0 => ⟨fun _ _ _ h => absurd h (by omega), fun _ _ _ h => absurd h (by omega), fun _ _ _ h => absurd h (by omega), fun _ _ _ h => absurd h (by omega), fun _ _ _ _ h => absurd h (by omega), fun _ _ _ h => absurd h (by omega)⟩
  | n + 1 => by
    have ih := okn hd hLP har n
    refine ⟨ok_e hd hLP har ih, ?_, ?_, ?_, ?_, ?_⟩
    · intro l N o hn sc x h
      cases o with
      | no =>
        cases x with
        | none => exact so_no
        | some _ => simp [chO] at h
      | so e =>
        cases x with
        | none => simp [chO] at h
        | some x =>
          simp only [chO, Oe.so.sizeOf_spec] at h hn
          exact so_so ((ih.e l N e (by omega) false sc x h).1 rfl)
    · intro l N o hn sc x h
      cases o with
      | no =>
        cases x with
        | nil => exact sc_no
        | cons _ _ => simp [chC] at h
      | so e =>
        cases x with
        | nil => simp [chC] at h
        | cons x xs =>
          cases xs with
          | nil =>
            simp only [chC, Oe.so.sizeOf_spec] at h hn
            exact sc_so ((ih.e l N e (by omega) true sc x h).2 rfl)
          | cons _ _ => simp [chC] at h
    · intro l N es hn sc xs h
      cases es with
      | nil =>
        cases xs with
        | nil => exact ⟨sa_nil.of fun env => by simp only [evs], sv_nil.of fun env => by simp only [evV]⟩
        | cons _ _ => simp [chs] at h
      | cons e es =>
        cases xs with
        | nil => simp [chs] at h
        | cons x xs =>
          simp only [chs, Bool.and_eq_true, Es.cons.sizeOf_spec] at h hn
          have he := (ih.e l N e (by omega) false sc x h.1).1 rfl
          obtain ⟨a, b⟩ := ih.s l N es (by omega) sc xs h.2
          exact ⟨(sa_cons he a (ch_star h.1)).of fun env => by simp only [evs], (sv_cons he b (ch_star h.1)).of fun env => by simp only [evV]⟩
    · intro l N e es hn k m sc xs pos h
      cases xs with
      | nil => simp [chs] at h
      | cons x xs =>
        simp only [chs, Bool.and_eq_true, Es.cons.sizeOf_spec] at h hn
        have he := ih.e l N e (by omega) m sc x h.1
        cases es with
        | nil =>
          cases xs with
          | nil => exact ⟨fun q => sb_one (he.1 q), fun q => sbt_one (he.2 q)⟩
          | cons _ _ => simp [chs] at h
        | cons e2 es =>
          cases xs with
          | nil => simp [chs] at h
          | cons y ys =>
            have hr := ih.b l N e2 es (by omega) k m sc (y :: ys) pos h.2
            exact ⟨fun q => sb_cons (he.1 q) (hr.1 q), fun q => sbt_cons (he.2 q) (hr.2 q)⟩
    · intro l N it hn sc x t h
      unfold chI at h
      split at h
      all_goals try simp only [Bool.and_eq_true, Bool.not_eq_true', It.seq.sizeOf_spec, It.rng1.sizeOf_spec, It.rng2.sizeOf_spec, It.rng3.sizeOf_spec, It.zip.sizeOf_spec] at h hn
      · exact ⟨(si_seq ((ih.e l N _ (by omega) false sc _ h.1).1 rfl)).q, h.2⟩
      · exact ⟨si_rng1 (dec_eq h.1.1) h.1.2 ((ih.e l N _ (by omega) false sc _ h.2).1 rfl) (ch_star h.2), rfl⟩
      · exact ⟨si_rng2 (dec_eq h.1.1.1) h.1.1.2 ((ih.e l N _ (by omega) false sc _ h.1.2).1 rfl) ((ih.e l N _ (by omega) false sc _ h.2).1 rfl) (ch_star h.1.2) (ch_star h.2), rfl⟩
      · obtain ⟨⟨⟨⟨⟨h1, h2⟩, h3⟩, h4⟩, h5⟩, h6⟩ := h
        have h5 := dec_eq h5
        subst h5
        exact ⟨si_rng3 (dec_eq h1) h2 ((ih.e l N _ (by omega) false sc _ h3).1 rfl) ((ih.e l N _ (by omega) false sc _ h4).1 rfl) (ch_star h3) (ch_star h4), rfl⟩
      · exact ⟨(si_zip (dec_eq h.1.1.1) h.1.1.2 ((ih.e l N _ (by omega) false sc _ h.1.2).1 rfl) ((ih.e l N _ (by omega) false sc _ h.2).1 rfl) (ch_star h.1.2) (ch_star h.2)).q, rfl⟩
      · cases h
theorem wl_self {P : Pr} : P.wl P.lam = P := by cases P; rfl
theorem ch_se (hd : C.dm = P.dom) (hLP : ∀ X, C.LP X → LamOk C.T C.ca X) (har : ∀ g ∈ P.dom, ∀ as S o, G g as S = some o → as.length = P.ar g) {e : E} (h : ch P N sc false e x = true) : SE C P G N sc x (ev G e) := by
  have := ((okn (G := G) hd hLP har (sizeOf e + 1)).e P.lam N e (by omega) false sc x (by rw [wl_self]; exact h)).1 rfl
  rw [wl_self] at this
  exact this
theorem ch_st (hd : C.dm = P.dom) (hLP : ∀ X, C.LP X → LamOk C.T C.ca X) (har : ∀ g ∈ P.dom, ∀ as S o, G g as S = some o → as.length = P.ar g) {e : E} (h : ch P N sc true e x = true) : ST C P G N sc x (tst (ev G e)) := by
  have := ((okn (G := G) hd hLP har (sizeOf e + 1)).e P.lam N e (by omega) true sc x (by rw [wl_self]; exact h)).2 rfl
  rw [wl_self] at this
  exact this
end
end G

-- GN
set_option maxRecDepth 100000
set_option maxHeartbeats 2000000
/-! Statements. -/
namespace G
open PySem
mutual
/-- fz: the own lists that an expression reads -/
inductive S where
  | asg (fz : List Nat) (i : Nat) (e : E)
  | own (fz : List Nat) (i : Nat) (e : E)
  | ref (fz : List Nat) (i : Nat) (e : E)
  | unp (fz : List Nat) (is : List Nat) (e : E)
  | par (fz : List Nat) (is : List Nat) (ks : List Bool) (es : Es)
  | set (fz : List Nat) (i : Nat) (a e : E)
  | app (fz : List Nat) (i : Nat) (e : E)
  | ext (fz : List Nat) (i : Nat) (e : E)
  | set2 (i : Nat) (k l : Int) (a b : E)
  | pop (i : Nat)
  | appPop (i j : Nat)
  | exp (fz : List Nat) (e : E)
  | ret (fz : List Nat) (e : E)
  | retO (i : Nat)
  | retN
  | rai (c : Nat) (m : Str)
  | ifs (fz : List Nat) (c : E) (a b : Ss)
  | fors (fz : List Nat) (it : It) (tg : Tg) (b : Ss)
  | whl (fz : List Nat) (c : E) (b : Ss)
inductive Ss where
  | nil | cons (s : S) (r : Ss)
end
inductive Fl where
  | nx | brk | cont | ret (v : RV)
def frz (env : Env) : List Nat → Env
  | [] => env
  | i :: r => match env[i]? with
    | some (.own (.lst xs)) => frz (env.set i (.vl (.dat (.list xs)))) r
    | _ => frz env r
def noR : RV → Bool
  | .vl (.dat d) => noL d
  | .vl _ => true
  | .new xs => noLs xs
/-- the slots behind an expression -/
def thaw (fz : List Nat) (env : Env) (b : Bool) : Env := if b = true then env else frz env fz
def evX (G : Gam) (fz : List Nat) (e : E) (env : Env) : M (RV × Env) := bnd (ev G e (frz env fz)) fun v => ret (v, thaw fz env (noR v))
def evRs (G : Gam) : Es → Env → M (List RV)
  | .nil, _ => ret []
  | .cons e es, env => bnd (ev G e env) fun x => bnd (evRs G es env) fun r => ret (x :: r)
def putRV (k : Bool) (v : RV) : Option Sl := if k = true then (match v with | .new xs => some (.own (.lst xs)) | _ => none) else some (.vl v.toV)
def puts : Env → List Nat → List Bool → List RV → Option Env
  | env, [], [], [] => some env
  | env, i :: is, k :: ks, v :: vs => (putRV k v).bind fun s => puts (env.set i s) is ks vs
  | _, _, _, _ => none
def nextF (k : Env → M (Fl × Env)) : Fl × Env → M (Fl × Env)
  | (.nx, env) => k env
  | (.cont, env) => k env
  | (.brk, env) => ret (.nx, env)
  | (.ret v, env) => ret (.ret v, env)
def forV (tg : Tg) (b : Env → M (Fl × Env)) : List Vl → Env → M (Fl × Env)
  | [], env => ret (.nx, env)
  | v :: vs, env => bnd (lft (bindT tg v env)) fun env1 => bnd (b env1) (nextF (forV tg b vs))
def loopN (c : Env → M Bool) (b : Env → M (Fl × Env)) : Nat → Env → M (Fl × Env)
  | 0, _ => fail
  | n + 1, env => bnd (c env) fun t => if t = true then bnd (b env) (nextF (loopN c b n)) else ret (.nx, env)
open Classical in
noncomputable def loop (c : Env → M Bool) (b : Env → M (Fl × Env)) (env : Env) : M (Fl × Env) := fun S => if h : ∃ n, ∃ o, loopN c b n env S = some o then loopN c b h.choose env S else none
theorem bnd_mono {α β : Type} {m : M α} {k k' : α → M β} (h : ∀ a S o, k a S = some o → k' a S = some o) {S : Sto} {o : Out β} (e : bnd m k S = some o) : bnd m k' S = some o := by
  unfold bnd at e ⊢
  split at e
  · cases e
  · exact h _ _ _ e
  · exact e
theorem nextF_mono {k k' : Env → M (Fl × Env)} (h : ∀ env S o, k env S = some o → k' env S = some o) : ∀ (r : Fl × Env) (S : Sto) (o : Out (Fl × Env)), nextF k r S = some o → nextF k' r S = some o
  | (.nx, env), S, o, e => h env S o e
  | (.cont, env), S, o, e => h env S o e
  | (.brk, _), _, _, e => e
  | (.ret _, _), _, _, e => e
theorem loopN_mono {c : Env → M Bool} {b : Env → M (Fl × Env)} : ∀ {n : Nat} {env : Env} {S : Sto} {o : Out (Fl × Env)}, loopN c b n env S = some o → loopN c b (n + 1) env S = some o
  | 0, _, _, _, e => by cases e
  | n + 1, env, S, o, e => by
    rw [loopN] at e ⊢
    refine bnd_mono (fun t S o e => ?_) e
    by_cases ht : t = true
    · rw [if_pos ht] at e ⊢
      exact bnd_mono (nextF_mono fun env S o e => loopN_mono e) e
    · rw [if_neg ht] at e ⊢
      exact e
theorem loopN_le {c : Env → M Bool} {b : Env → M (Fl × Env)} {n m : Nat} (h : n ≤ m) {env : Env} {S : Sto} {o : Out (Fl × Env)} (e : loopN c b n env S = some o) : loopN c b m env S = some o := by
  induction h with
  | refl => exact e
  | step _ ih => exact loopN_mono ih
theorem loop_some {c : Env → M Bool} {b : Env → M (Fl × Env)} {env : Env} {S : Sto} {o : Out (Fl × Env)} (e : loop c b env S = some o) : ∃ n, loopN c b n env S = some o := by
  unfold loop at e
  split at e
  · exact ⟨_, e⟩
  · cases e
theorem loop_of {c : Env → M Bool} {b : Env → M (Fl × Env)} {n : Nat} {env : Env} {S : Sto} {o : Out (Fl × Env)} (e : loopN c b n env S = some o) : loop c b env S = some o := by
  have h : ∃ n, ∃ o, loopN c b n env S = some o := ⟨n, o, e⟩
  unfold loop
  rw [dif_pos h]
  obtain ⟨o', e'⟩ := h.choose_spec
  have a1 := loopN_le (Nat.le_max_left n h.choose) e
  have a2 := loopN_le (Nat.le_max_right n h.choose) e'
  rw [a1] at a2
  cases a2
  exact e'
def seqF (k : Env → M (Fl × Env)) : Fl × Env → M (Fl × Env)
  | (.nx, env) => k env
  | (.cont, env) => ret (.cont, env)
  | (.brk, env) => ret (.brk, env)
  | (.ret v, env) => ret (.ret v, env)
def isL (env : Env) (i : Nat) : Option Unit := match env[i]? with
  | some (.own (.lst _)) => some ()
  | some (.vl (.loc _)) => some ()
  | _ => none
def getO (env : Env) (i : Nat) : Option (List D) := match env[i]? with
  | some (.own (.lst xs)) => some xs
  | _ => none
theorem getO_some {env : Env} {i : Nat} {xs : List D} (h : getO env i = some xs) : env[i]? = some (.own (.lst xs)) := by
  unfold getO at h
  split at h
  · rename_i ys e
    cases h
    exact e
  · cases h
/-- a change of the list that slot i holds -/
def chg (env : Env) (i : Nat) (f : List D → Option (List D)) (ok : Bool) : M Env := fun S => match env[i]? with
  | some (.own (.lst xs)) => (f xs).map fun ys => .ok (env.set i (.own (.lst ys))) S
  | some (.vl (.loc n)) => match S[n]? with
    | some (.lst xs) => if ok = true then (f xs).map fun ys => .ok env (S.set n (.lst ys)) else none
    | _ => none
  | _ => none
mutual
noncomputable def evS (G : Gam) : S → Env → M (Fl × Env)
  | .asg fz i e, env => bnd (evX G fz e env) fun r => ret (.nx, r.2.set i (.vl r.1.toV))
  | .own fz i e, env => bnd (evX G fz e env) fun r => (match r.1 with | .new xs => ret (.nx, r.2.set i (.own (.lst xs))) | _ => fail)
  | .ref fz i e, env => bnd (evX G fz e env) fun r => (match r.1 with | .new xs => if noLs xs = true then fun S => some (.ok (.nx, r.2.set i (.vl (.loc S.length))) (S ++ [.lst xs])) else fail | _ => fail)
  | .unp fz is e, env => bnd (evX G fz e env) fun r => bnd (lft r.1.toD) fun d => bnd (lft (bindT (.tp is) (.dat d) r.2)) fun env' => ret (.nx, env')
  | .par fz is ks es, env => bnd (evRs G es (frz env fz)) fun vs => bnd (lft (puts (thaw fz env (vs.all noR)) is ks vs)) fun env' => ret (.nx, env')
  | .set fz i a e, env => bnd (lft (isL env i)) fun _ => bnd (evX G fz e env) fun r => bnd (lft r.1.toD) fun d => bnd (evX G fz a r.2) fun q => bnd (lft q.1.toD) fun k => bnd (lft (toI k)) fun k =>
      bnd (chg q.2 i (fun xs => (L2.ixN xs.length k).map fun j => xs.set j d) (noL d)) fun env' => ret (.nx, env')
  | .app fz i e, env => bnd (lft (isL env i)) fun _ => bnd (evX G fz e env) fun r => bnd (lft r.1.toD) fun d => bnd (chg r.2 i (fun xs => if xs.length < sizeLine then some (xs ++ [d]) else none) (noL d)) fun env' => ret (.nx, env')
  | .ext fz i e, env => bnd (lft (isL env i)) fun _ => bnd (evX G fz e env) fun r => (match r.1 with
      | .new ys => bnd (chg r.2 i (fun xs => if xs.length + ys.length ≤ sizeLine then some (xs ++ ys) else none) (noLs ys)) fun env' => ret (.nx, env')
      | _ => fail)
  | .set2 i k l a b, env => bnd (lft (isL env i)) fun _ => bnd (ev G a env) fun v => bnd (lft v.toD) fun d => bnd (ev G b env) fun u => bnd (lft u.toD) fun e =>
      if noL d = true ∧ noL e = true then bnd (chg env i (fun xs => (L2.ixN xs.length k).bind fun p => (L2.ixN xs.length l).map fun q => (xs.set p d).set q e) true) fun env' => ret (.nx, env') else fail
  | .pop i, env => bnd (chg env i (fun xs => if xs.isEmpty = true then none else some xs.dropLast) true) fun env' => ret (.nx, env')
  | .appPop _ _, _ => fail
  | .exp fz e, env => bnd (evX G fz e env) fun r => ret (.nx, r.2)
  | .ret fz e, env => bnd (ev G e (frz env fz)) fun v => ret (.ret v, env)
  | .retO i, env => bnd (lft (getO env i)) fun xs => ret (.ret (.new xs), env)
  | .retN, env => ret (.ret (.d .none), env)
  | .rai c _, _ => raise c none
  | .ifs fz c a b, env => bnd (tst (ev G c) (frz env fz)) fun t => if t = true then evSs G a env else evSs G b env
  | .fors fz it tg b, env => bnd (evI G it (frz env fz)) fun vs => forV tg (evSs G b) vs (thaw fz env (isR it))
  | .whl fz c b, env => loop (fun env => tst (ev G c) (frz env fz)) (evSs G b) env
noncomputable def evSs (G : Gam) : Ss → Env → M (Fl × Env)
  | .nil, env => ret (.nx, env)
  | .cons s r, env => bnd (evS G s env) fun q => seqF (evSs G r) q
end
/-- what a def's body gives -/
def endV : Fl → M RV
  | .ret v => ret v
  | .nx => ret (.d .none)
  | _ => fail
end G

-- GO
set_option maxRecDepth 100000
set_option maxHeartbeats 2000000
namespace G
open PySem L2 LamX PyProof.Rows
section
variable {C : Cxt} {P : Pr} {G : Gam} {N : List Str} {sc : Scope}
/-! ### reading own lists -/
structure Wd.Sq (w w' : Wd) : Prop where
  ext : Ext w.F w'.F
  pre : w.r <+: w'.r
theorem Wd.Sq.refl (w : Wd) : w.Sq w := ⟨Ext.refl _, List.prefix_refl _⟩
theorem Wd.Sq.trans {a b c : Wd} (x : a.Sq b) (y : b.Sq c) : a.Sq c := ⟨x.ext.trans y.ext, x.pre.trans y.pre⟩
theorem Wd.To.sq {a b : Wd} (t : a.To b) : a.Sq b := ⟨t.ext, by
  obtain ⟨l, e, _⟩ := t.pre
  exact ⟨l, e.symm⟩⟩
theorem VlR.sq {w w' : Wd} {x : V} {v : Vl} (h : VlR C w x v) (q : w.Sq w') : VlR C w' x v := by
  cases v with
  | dat d => exact dp_mono q.ext h
  | loc n =>
    obtain ⟨a, h1, h2⟩ := h
    obtain ⟨l, e⟩ := q.pre
    exact ⟨a, by rw [← e, List.getElem?_append_left (List.getElem?_eq_some_iff.mp h1).1]; exact h1, h2⟩
  | fn g => exact h
/-- own lists are younger than w0 -/
def OwnF (w0 : Wd) (env : Env) (σ : L2.St) : Prop := ∀ (i : Nat) (o : Ob) (a : Addr), env[i]? = some (.own o) → σ[i]? = some (some (.ref a)) → w0.H a = none
structure Fz (C : Cxt) (w0 w wf : Wd) (env' : Env) (σ : L2.St) (L : List Addr) : Prop where
  S : wf.S = w.S
  H : wf.H = w.H
  r : wf.r = w.r
  ok : wf.Ok C
  to : w0.To wf
  ext : Ext w.F wf.F
  en : EnvR C wf env' σ
  ow : OwnF w0 env' σ
  l1 : ∀ a ∈ L, w.F a = none ∧ a ∉ w.r ∧ w0.H a = none ∧ ∃ vs, wf.F a = some (.lst vs)
  l2 : ∀ a, a ∉ L → wf.F a = w.F a
theorem set_own {env : Env} {i j : Nat} {s : Sl} {o : Ob} (hs : ∀ o, s ≠ .own o) (e : (env.set i s)[j]? = some (.own o)) : i ≠ j ∧ env[j]? = some (.own o) := by
  by_cases hj : i = j
  · subst hj
    by_cases hi : i < env.length
    · rw [List.getElem?_set_self hi] at e
      cases e
      exact absurd rfl (hs o)
    · rw [List.getElem?_eq_none (by simpa using hi)] at e
      cases e
  · rw [List.getElem?_set_ne hj] at e
    exact ⟨hj, e⟩
theorem OwnF.set {w0 : Wd} {env : Env} {σ : L2.St} (h : OwnF w0 env σ) {i : Nat} {s : Sl} (hs : ∀ o, s ≠ .own o) : OwnF w0 (env.set i s) σ := fun j o a e1 e2 => h j o a (set_own hs e1).2 e2
theorem freeze1 {w0 w : Wd} {env : Env} {σ : L2.St} {i : Nat} {xs : List D} (ok : w.Ok C) (t : w0.To w) (en : EnvR C w env σ) (ow : OwnF w0 env σ) (hi : env[i]? = some (.own (.lst xs))) :
    ∃ a vs, Fz C w0 w { w with F := upd w.F a (.lst vs) } (env.set i (.vl (.dat (.list xs)))) σ [a] := by
  obtain ⟨a, e, nf, nr, vs, hv, dv⟩ := en.at_ i _ hi
  have h0 := ow i _ a hi e
  have eF : Ext w.F (upd w.F a (.lst vs)) := Ext.new nf
  refine ⟨a, vs, rfl, rfl, rfl, ok.freeze hv nf nr, t.freeze nf h0, eF, ⟨by simp [en.len], fun j s ej => ?_, fun j k o o' b e1 e2 e3 e4 => en.apart j k o o' b (set_own (fun o z => by cases z) e1).2 (set_own (fun o z => by cases z) e2).2 e3 e4⟩, ow.set (fun o z => by cases z), fun b hb => ?_, fun b hb => ?_⟩
  · by_cases hj : i = j
    · subst hj
      rw [List.getElem?_set_self (List.getElem?_eq_some_iff.mp hi).1] at ej
      cases ej
      exact ⟨_, e, .lst (.inl (.inl upd_same)) (dpAll_mono eF dv)⟩
    · rw [List.getElem?_set_ne hj] at ej
      have q := en.at_ j s ej
      cases s with
      | un => trivial
      | vl v =>
        obtain ⟨x, e1, e2⟩ := q
        exact ⟨x, e1, e2.sq ⟨eF, List.prefix_refl _⟩⟩
      | own o =>
        obtain ⟨b, e1, e2, e3, e4⟩ := q
        have ne : b ≠ a := fun z => by
          subst z
          exact hj (en.apart i j _ _ b hi ej e e1)
        exact ⟨b, e1, by show upd w.F a _ b = none; rw [upd_ne ne]; exact e2, e3, ob_mono e4 eF fun u q _ => q⟩
  · have : b = a := by simpa using hb
    subst this
    exact ⟨nf, nr, h0, vs, upd_same⟩
  · exact upd_ne (by simpa using hb)
theorem freeze {w0 : Wd} {σ : L2.St} : ∀ (fz : List Nat) (w : Wd) (env : Env), w.Ok C → w0.To w → EnvR C w env σ → OwnF w0 env σ → ∃ wf L, Fz C w0 w wf (frz env fz) σ L
  | [], w, env, ok, t, en, ow => ⟨w, [], rfl, rfl, rfl, ok, t, Ext.refl _, en, ow, (fun _ h => by cases h), fun _ _ => rfl⟩
  | i :: r, w, env, ok, t, en, ow => by
    unfold frz
    split
    · rename_i xs hi
      obtain ⟨a, vs, f⟩ := freeze1 ok t en ow hi
      obtain ⟨wf, L, g⟩ := freeze r _ _ f.ok f.to f.en f.ow
      refine ⟨wf, a :: L, g.S, g.H, g.r, g.ok, g.to, f.ext.trans g.ext, g.en, g.ow, fun b hb => ?_, fun b hb => ?_⟩
      · rcases List.mem_cons.mp hb with e | hb
        · subst e
          obtain ⟨k1, k2, k3, us, k4⟩ := f.l1 b (by simp)
          exact ⟨k1, k2, k3, us, g.ext _ _ k4⟩
        · obtain ⟨k1, k2, k3, us, k4⟩ := g.l1 b hb
          refine ⟨?_, k2, k3, us, k4⟩
          cases q : w.F b with
          | none => rfl
          | some o =>
            rw [f.ext _ _ q] at k1
            cases k1
      · rw [g.l2 b fun z => hb (List.mem_cons_of_mem _ z)]
        exact f.l2 b fun z => hb (by
          have : b = a := by simpa using z
          rw [this]
          exact List.mem_cons_self)
    · exact freeze r w env ok t en ow
/-- what was frozen for a while -/
def lessF (L : List Addr) (F : Hp) : Hp := fun a => if a ∈ L then none else F a
theorem lessF_in {L : List Addr} {F : Hp} {a : Addr} (h : a ∈ L) : lessF L F a = none := if_pos h
theorem lessF_out {L : List Addr} {F : Hp} {a : Addr} (h : a ∉ L) : lessF L F a = F a := if_neg h
structure Thw (C : Cxt) (w0 w w1 w2 : Wd) (env : Env) (σ : L2.St) : Prop where
  S : w2.S = w1.S
  H : w2.H = w1.H
  r : w2.r = w1.r
  ok : w2.Ok C
  to : w0.To w2
  sq : w.Sq w2
  en : EnvR C w2 env σ
  l : ExtL w1.F w2.F
  n : ∀ a, w1.F a = none → w2.F a = none
theorem thaw_ok {w0 w wf w1 : Wd} {env env' : Env} {σ : L2.St} {L : List Addr} (t0 : w0.To w) (ok : w.Ok C) (en : EnvR C w env σ) (f : Fz C w0 w wf env' σ L) (ok1 : w1.Ok C) (t : wf.To w1) : ∃ w2, Thw C w0 w w1 w2 env σ := by
  have inL : ∀ {a}, a ∈ L → w.F a = none ∧ a ∉ w.r ∧ w0.H a = none ∧ (∃ vs, wf.F a = some (.lst vs)) := fun {a} h => f.l1 a h
  have x1 : ExtL w1.F (lessF L w1.F) := fun a o e n => by
    by_cases h : a ∈ L
    · obtain ⟨_, _, _, vs, k⟩ := inL h
      rw [t.ext _ _ k] at e
      cases e
      exact absurd rfl (n vs)
    · rw [lessF_out h]
      exact e
  have nn : ∀ a, w1.F a = none → lessF L w1.F a = none := fun a e => by
    by_cases h : a ∈ L
    · exact lessF_in h
    · rw [lessF_out h]
      exact e
  have t1 : w0.To w1 := f.to.trans t f.ok
  have wx : Ext w.F (lessF L w1.F) := fun a o e => by
    have : a ∉ L := fun h => by
      rw [(inL h).1] at e
      cases e
    rw [lessF_out this]
    exact t.ext _ _ (f.ext _ _ e)
  have pre : w.r <+: w1.r := by
    obtain ⟨l, e, _⟩ := t.pre
    rw [f.r] at e
    exact ⟨l, e.symm⟩
  refine ⟨{ w1 with F := lessF L w1.F }, rfl, rfl, rfl, ⟨fun a o e => ?_, ok1.len, fun n a o h1 h2 => ?_, ok1.nd, ok1.tab, fun a ps e => ?_⟩, ⟨fun a o e => wx a o (t0.ext a o e), fun a h => ?_, t1.pre, t1.fr, t1.tb⟩, ⟨wx, pre⟩, ⟨en.len, fun i s e => ?_, en.apart⟩, x1, nn⟩
  · have e : lessF L w1.F a = some o := e
    by_cases h : a ∈ L
    · rw [show lessF L w1.F a = none from lessF_in h] at e
      cases e
    · rw [show lessF L w1.F a = w1.F a from lessF_out h] at e
      exact ok1.sub a o e
  · obtain ⟨k1, k2, k3⟩ := ok1.obj n a o h1 h2
    refine ⟨nn a k1, k2, ?_⟩
    cases o with
    | lst xs =>
      obtain ⟨vs, g1, g2⟩ := k3
      exact ⟨vs, g1, dpAll_L x1 k2 g2⟩
    | dct _ => exact k3.elim
  · have e : lessF L w1.F a = some (.tbl ps) := e
    by_cases h : a ∈ L
    · rw [lessF_in h] at e
      cases e
    · rw [lessF_out h] at e
      exact ok1.nt a ps e
  · refine t1.nf a fun z => h (nn a z)
  · have q := en.at_ i s e
    cases s with
    | un => trivial
    | vl v =>
      obtain ⟨x, e1, e2⟩ := q
      exact ⟨x, e1, e2.sq ⟨wx, pre⟩⟩
    | own o =>
      obtain ⟨a, e1, e2, e3, e4⟩ := q
      obtain ⟨u, hu, tu⟩ := ob_is e4
      have hfu : wf.H a = some u := by rw [f.H]; exact hu
      have nr : a ∉ wf.r := by rw [f.r]; exact e3
      refine ⟨a, e1, ?_, fun hm => ?_, ?_⟩
      · show lessF L w1.F a = none
        by_cases h : a ∈ L
        · exact lessF_in h
        · rw [lessF_out h]
          cases z : w1.F a with
          | none => rfl
          | some o' =>
            rcases t.nf a (by rw [z]; exact fun z => by cases z) with q | q
            · rw [f.l2 a h, e2] at q
              exact absurd rfl q
            · rw [hfu] at q
              cases q
      · obtain ⟨l, e5, hl⟩ := t.pre
        have hm : a ∈ w1.r := hm
        rw [e5] at hm
        rcases List.mem_append.mp hm with q | q
        · exact nr q
        · rw [hl a q] at hfu
          cases hfu
      · refine ob_mono e4 wx fun u h tu => ?_
        exact t.fr a u (by rw [f.H]; exact h) nr tu
theorem noR_thw {w0 w w1 w2 wf : Wd} {env : Env} {σ : L2.St} {x : V} {v : RV} (h : Thw C w0 w w1 w2 env σ) (hv : RvR C wf w1 x v) (n : noR v = true) (hf : wf.H = w.H) : RvR C w w2 x v := by
  cases v with
  | vl u =>
    cases u with
    | dat d => exact dp_L h.l n hv
    | loc k =>
      obtain ⟨a, h1, h2⟩ := hv
      exact ⟨a, by rw [h.r]; exact h1, h2⟩
    | fn g => exact hv
  | new xs =>
    obtain ⟨p, vs, h1, h2, h3, h4, h5, h6⟩ := hv
    exact ⟨p, vs, h1, by rw [h.H]; exact h2, h.n p h3, by rw [h.r]; exact h4, by rw [← hf]; exact h5, dpAll_L h.l n h6⟩
theorem rv_h2 {w wf w1 : Wd} {x : V} {v : RV} (hv : RvR C wf w1 x v) (hf : wf.H = w.H) : RvR C w w1 x v := by
  cases v with
  | vl u => exact hv
  | new xs =>
    obtain ⟨p, vs, h1, h2, h3, h4, h5, h6⟩ := hv
    exact ⟨p, vs, h1, h2, h3, h4, by rw [← hf]; exact h5, h6⟩
theorem frz_own : ∀ (fz : List Nat) {env : Env} {j : Nat} {o : Ob}, (frz env fz)[j]? = some (.own o) → env[j]? = some (.own o)
  | [], _, _, _, h => h
  | i :: r, env, j, o, h => by
    unfold frz at h
    split at h
    · exact (set_own (fun o z => by cases z) (frz_own r h)).2
    · exact frz_own r h
theorem thaw_own {fz : List Nat} {env : Env} {b : Bool} {j : Nat} {o : Ob} (h : (thaw fz env b)[j]? = some (.own o)) : env[j]? = some (.own o) := by
  cases b with
  | true => exact h
  | false => exact frz_own fz h
/-- the own lists of env stood already in w -/
def Old (w : Wd) (env : Env) (σ : L2.St) : Prop := ∀ (i : Nat) (o : Ob) (a : Addr), env[i]? = some (.own o) → σ[i]? = some (some (.ref a)) → w.H a ≠ none
theorem EnvR.old {w : Wd} {env : Env} {σ : L2.St} (en : EnvR C w env σ) : Old w env σ := fun i o a e1 e2 => by
  obtain ⟨b, e3, _, _, e4⟩ := en.at_ i _ e1
  rw [e2] at e3
  cases e3
  obtain ⟨u, hu, _⟩ := ob_is e4
  rw [hu]
  exact fun z => by cases z
/-- behind an expression of a statement -/
structure Bh (C : Cxt) (w0 w w1 : Wd) (env : Env) (σ : L2.St) : Prop where
  ok : w1.Ok C
  to : w0.To w1
  sq : w.Sq w1
  en : EnvR C w1 env σ
  ow : OwnF w0 env σ
def ExE (C : Cxt) (E : XK) (w0 : Wd) (c : Nat) (p : Option Int) (S' : Sto) : Prop := ∀ w' d, w'.S = S' → w'.Ok C → w0.To w' → ExR p d w' → E (.ref (C.ca c)) d w'.H
/-- any reading within the frozen slots; the result b tells whether they may be given back -/
theorem frz_ok {X α : Type} {R : Wd → Wd → X → α → Prop} {R' : Wd → Wd → X → α → Prop} {E : XK} {t : L2.St → Hp → (X → Hp → Prop) → Prop} {f : Env → M α} (hr : Ref C (EW E) R t f) (nb : α → Bool)
    (h1 : ∀ {w0 w wf w1 w2 : Wd} {env : Env} {σ : L2.St} {x : X} {a : α}, Thw C w0 w w1 w2 env σ → R wf w1 x a → nb a = true → wf.H = w.H → R' w w2 x a)
    (h2 : ∀ {w wf w1 : Wd} {x : X} {a : α}, R wf w1 x a → wf.H = w.H → R' w w1 x a)
    {w0 w : Wd} {env : Env} {σ : L2.St} (ok : w.Ok C) (t0 : w0.To w) (en : EnvR C w env σ) (ow : OwnF w0 env σ) (fz : List Nat) {β : Type} {k : α → M β} {o : Out β} (e : bnd (f (frz env fz)) k w.S = some o)
    {B : X → Hp → Prop} (hx : ∀ c p S', o = .ex c p S' → ExE C E w0 c p S') (hk : ∀ (a : α) (w1 : Wd) (x : X), Bh C w0 w w1 (thaw fz env (nb a)) σ → Old w (thaw fz env (nb a)) σ → R' w w1 x a → k a w1.S = some o → B x w1.H) : t σ w.H B := by
  obtain ⟨wf, L, fr⟩ := freeze fz w env ok t0 en ow
  have old : ∀ b, Old w (thaw fz env b) σ := fun b i o a e1 e2 => en.old i o a (thaw_own e1) e2
  unfold bnd at e
  rw [← fr.S] at e
  rw [← fr.H]
  cases q : f (frz env fz) wf.S with
  | none => rw [q] at e; cases e
  | some r =>
    rw [q] at e
    refine hr wf _ σ r B fr.ok fr.en q ?_
    cases r with
    | ex c p S1 =>
      cases e
      exact fun w' d e' ok' t' hp => hx c p S1 rfl w' d e' ok' (fr.to.trans t' fr.ok) hp
    | ok a S1 =>
      have e : k a S1 = some o := e
      intro w1 x e1 ok1 t1 ra
      cases hb : nb a with
      | true =>
        obtain ⟨w2, th⟩ := thaw_ok t0 ok en fr ok1 t1
        have := hk a w2 x ⟨th.ok, th.to, th.sq, by rw [hb]; exact th.en, by rw [hb]; exact ow⟩ (old _) (h1 th ra hb fr.H) (by rw [th.S, e1]; exact e)
        rw [th.H] at this
        exact this
      | false =>
        refine hk a w1 x ⟨ok1, fr.to.trans t1 fr.ok, ⟨fr.ext.trans t1.ext, ?_⟩, by rw [hb]; exact fr.en.to t1, by rw [hb]; exact fr.ow⟩ (old _) (h2 ra fr.H) (by rw [e1]; exact e)
        have := t1.sq.pre
        rw [fr.r] at this
        exact this
/-- an expression's value -/
theorem x_ok {E : XK} {t : TE} {f : Env → M RV} (hr : Ref C (EW E) (RvR C) t f) {w0 w : Wd} {env : Env} {σ : L2.St} (ok : w.Ok C) (t0 : w0.To w) (en : EnvR C w env σ) (ow : OwnF w0 env σ) (fz : List Nat) {β : Type} {k : RV → M β} {o : Out β} (e : bnd (f (frz env fz)) k w.S = some o)
    {B : V → Hp → Prop} (hx : ∀ c p S', o = .ex c p S' → ExE C E w0 c p S') (hk : ∀ (a : RV) (w1 : Wd) (x : V), Bh C w0 w w1 (thaw fz env (noR a)) σ → Old w (thaw fz env (noR a)) σ → RvR C w w1 x a → k a w1.S = some o → B x w1.H) : t σ w.H B :=
  frz_ok (R' := RvR C) hr noR (fun a b c d => noR_thw a b c d) (fun a b => rv_h2 a b) ok t0 en ow fz e hx hk
/-- a test -/
theorem b_ok {E : XK} {t : TT} {f : Env → M Bool} (hr : Ref C (EW E) EqR t f) {w0 w : Wd} {env : Env} {σ : L2.St} (ok : w.Ok C) (t0 : w0.To w) (en : EnvR C w env σ) (ow : OwnF w0 env σ) (fz : List Nat) {β : Type} {k : Bool → M β} {o : Out β} (e : bnd (f (frz env fz)) k w.S = some o)
    {B : Bool → Hp → Prop} (hx : ∀ c p S', o = .ex c p S' → ExE C E w0 c p S') (hk : ∀ (a : Bool) (w1 : Wd), Bh C w0 w w1 env σ → k a w1.S = some o → B a w1.H) : t σ w.H B :=
  frz_ok (R' := EqR) hr (fun _ => true) (fun _ b _ _ => b) (fun c _ => c) ok t0 en ow fz e hx fun a w1 x b _ r e => by
    have r : x = a := r
    subst r
    exact hk x w1 b e
/-! ### what a statement does to the world -/
theorem Bh.refl {w0 w : Wd} {env : Env} {σ : L2.St} (ok : w.Ok C) (t0 : w0.To w) (en : EnvR C w env σ) (ow : OwnF w0 env σ) : Bh C w0 w w env σ := ⟨ok, t0, Wd.Sq.refl w, en, ow⟩
theorem Bh.after {w0 w w1 w2 : Wd} {env' : Env} {σ' : L2.St} (a : w.Sq w1) (b : Bh C w0 w1 w2 env' σ') : Bh C w0 w w2 env' σ' := ⟨b.ok, b.to, a.trans b.sq, b.en, b.ow⟩
theorem Bh.step {w0 w w1 w2 : Wd} {env : Env} {σ : L2.St} (b : Bh C w0 w w1 env σ) (ok : w2.Ok C) (t : w1.To w2) : Bh C w0 w w2 env σ := ⟨ok, b.to.trans t b.ok, b.sq.trans t.sq, b.en.to t, b.ow⟩
theorem RvR.step {w w1 w2 : Wd} {x : V} {v : RV} (h : RvR C w w1 x v) (t : w1.To w2) : RvR C w w2 x v := by
  cases v with
  | vl u => exact VlR.to (w := w1) h t
  | new xs =>
    obtain ⟨p, vs, h1, h2, h3, h4, h5, h6⟩ := h
    refine ⟨p, vs, h1, t.fr p _ h2 h4 (fun _ z => by cases z), ?_, fun hm => ?_, h5, dpAll_mono t.ext h6⟩
    · cases z : w2.F p with
      | none => rfl
      | some o' =>
        rcases t.nf p (by rw [z]; exact fun z => by cases z) with q | q
        · exact absurd h3 q
        · rw [h2] at q
          cases q
    · obtain ⟨l, e, hl⟩ := t.pre
      rw [e] at hm
      rcases List.mem_append.mp hm with q | q
      · exact h4 q
      · rw [hl p q] at h2
        cases h2
/-- the new list's place -/
def newA : List V → List RV → List Addr
  | .ref p :: xs, .new _ :: vs => p :: newA xs vs
  | _ :: xs, _ :: vs => newA xs vs
  | _, _ => []
/-- slots whose own lists are not at l -/
def OffA (l : List Addr) (env : Env) (σ : L2.St) : Prop := ∀ (i : Nat) (o : Ob) (a : Addr), env[i]? = some (.own o) → σ[i]? = some (some (.ref a)) → a ∉ l
/-- a new list is known from now on -/
theorem Bh.known {w0 w w1 : Wd} {env : Env} {σ : L2.St} (b : Bh C w0 w w1 env σ) {p : Addr} {vs : List V} (h2 : w1.H p = some (.lst vs)) (h3 : w1.F p = none) (h4 : p ∉ w1.r) (h5 : w0.H p = none) (off : OffA [p] env σ) :
    Bh C w0 w { w1 with F := upd w1.F p (.lst vs) } env σ := by
  have eF : Ext w1.F (upd w1.F p (.lst vs)) := Ext.new h3
  refine ⟨b.ok.freeze h2 h3 h4, b.to.freeze h3 h5, ⟨b.sq.ext.trans eF, b.sq.pre⟩, ⟨b.en.len, fun i s e => ?_, b.en.apart⟩, b.ow⟩
  have q := b.en.at_ i s e
  cases s with
  | un => trivial
  | vl v =>
    obtain ⟨x, e1, e2⟩ := q
    exact ⟨x, e1, e2.sq ⟨eF, List.prefix_refl _⟩⟩
  | own o =>
    obtain ⟨a, e1, e2, e3, e4⟩ := q
    have ne : a ≠ p := fun z => off i o a e e1 (by simp [z])
    exact ⟨a, e1, by show upd w1.F p _ a = none; rw [upd_ne ne]; exact e2, e3, ob_mono e4 eF fun u q _ => q⟩
/-- a slot takes a value -/
theorem Bh.put {w0 w w1 : Wd} {env : Env} {σ : L2.St} (b : Bh C w0 w w1 env σ) {x : V} {v : Vl} (h : VlR C w1 x v) (i : Nat) : Bh C w0 w w1 (env.set i (.vl v)) (σ.set i (some x)) :=
  ⟨b.ok, b.to, b.sq, b.en.set h i, fun j o a e1 e2 => by
    obtain ⟨ne, e1⟩ := set_own (fun o z => by cases z) e1
    rw [List.getElem?_set_ne ne] at e2
    exact b.ow j o a e1 e2⟩
theorem OffA.put {l : List Addr} {env : Env} {σ : L2.St} (h : OffA l env σ) (i : Nat) (v : Vl) (x : V) : OffA l (env.set i (.vl v)) (σ.set i (some x)) := fun j o a e1 e2 => by
  obtain ⟨ne, e1⟩ := set_own (fun o z => by cases z) e1
  rw [List.getElem?_set_ne ne] at e2
  exact h j o a e1 e2
theorem set_at {env : Env} {i j : Nat} {s s' : Sl} (e : (env.set i s)[j]? = some s') : (i = j ∧ s' = s ∧ i < env.length) ∨ (i ≠ j ∧ env[j]? = some s') := by
  by_cases hj : i = j
  · subst hj
    by_cases hi : i < env.length
    · rw [List.getElem?_set_self hi] at e
      cases e
      exact .inl ⟨rfl, rfl, hi⟩
    · rw [List.getElem?_eq_none (by simpa using hi)] at e
      cases e
  · rw [List.getElem?_set_ne hj] at e
    exact .inr ⟨hj, e⟩
/-- a slot takes a new list as its own -/
theorem Bh.putO {w0 w w1 : Wd} {env : Env} {σ : L2.St} (b : Bh C w0 w w1 env σ) {p : Addr} {vs : List V} {xs : List D} (h2 : w1.H p = some (.lst vs)) (h3 : w1.F p = none) (h4 : p ∉ w1.r) (h5 : w0.H p = none) (h6 : DpAll C.K w1.F vs xs) (off : OffA [p] env σ) (i : Nat) :
    Bh C w0 w w1 (env.set i (.own (.lst xs))) (σ.set i (some (.ref p))) := by
  refine ⟨b.ok, b.to, b.sq, ⟨by simp [b.en.len], fun j s e => ?_, fun j k o o' a e1 e2 e3 e4 => ?_⟩, fun j o a e1 e2 => ?_⟩
  · rcases set_at e with ⟨rfl, rfl, hi⟩ | ⟨ne, e⟩
    · rw [List.getElem?_set_self (by rw [← b.en.len]; exact hi)]
      exact ⟨p, rfl, h3, h4, vs, h2, h6⟩
    · rw [List.getElem?_set_ne ne]
      exact b.en.at_ j s e
  · rcases set_at e1 with ⟨rfl, _, hi⟩ | ⟨ne, e1⟩
    · rcases set_at e2 with ⟨rfl, _, _⟩ | ⟨ne2, e2⟩
      · rfl
      · rw [List.getElem?_set_self (by rw [← b.en.len]; exact hi)] at e3
        cases e3
        rw [List.getElem?_set_ne ne2] at e4
        exact absurd (by simp) (off k o' p e2 e4)
    · rw [List.getElem?_set_ne ne] at e3
      rcases set_at e2 with ⟨rfl, _, hi⟩ | ⟨ne2, e2⟩
      · rw [List.getElem?_set_self (by rw [← b.en.len]; exact hi)] at e4
        cases e4
        exact absurd (by simp) (off j o p e1 e3)
      · rw [List.getElem?_set_ne ne2] at e4
        exact b.en.apart j k o o' a e1 e2 e3 e4
  · rcases set_at e1 with ⟨rfl, _, hi⟩ | ⟨ne, e1⟩
    · rw [List.getElem?_set_self (by rw [← b.en.len]; exact hi)] at e2
      cases e2
      exact h5
    · rw [List.getElem?_set_ne ne] at e2
      exact b.ow j o a e1 e2
theorem old_off {w w1 : Wd} {env : Env} {σ : L2.St} {p : Addr} (o : Old w env σ) (h : w.H p = none) : OffA [p] env σ := fun i u a e1 e2 hm => by
  have : a = p := by simpa using hm
  subst this
  exact o i u a e1 e2 h
/-- a value handed on: a new list is known from now on -/
theorem Bh.val {w0 w w1 : Wd} {env : Env} {σ : L2.St} (b : Bh C w0 w w1 env σ) (t0 : w0.To w) (ok : w.Ok C) (old : Old w env σ) {x : V} {v : RV} (h : RvR C w w1 x v) : ∃ w2, w2.S = w1.S ∧ w2.H = w1.H ∧ Bh C w0 w w2 env σ ∧ VlR C w2 x v.toV := by
  cases v with
  | vl u => exact ⟨w1, rfl, rfl, b, h⟩
  | new xs =>
    obtain ⟨p, vs, rfl, h2, h3, h4, h5, h6⟩ := h
    exact ⟨{ w1 with F := upd w1.F p (.lst vs) }, rfl, rfl, b.known h2 h3 h4 (t0.there ok h5) (old_off (w1 := w1) old h5), .lst (.inl (.inl upd_same)) (dpAll_mono (Ext.new h3) h6)⟩
/-- a change of an own list -/
theorem Bh.chgO {w0 w w1 : Wd} {env : Env} {σ : L2.St} (b : Bh C w0 w w1 env σ) {i : Nat} {xs ys : List D} {a : Addr} {vs us : List V} (hi : env[i]? = some (.own (.lst xs))) (hs : σ[i]? = some (some (.ref a))) (h1 : w1.H a = some (.lst vs)) (h2 : DpAll C.K w1.F us ys) :
    Bh C w0 w { w1 with H := upd w1.H a (.lst us) } (env.set i (.own (.lst ys))) σ := by
  have q0 := b.en.at_ i _ hi
  obtain ⟨a', e1, nf, nr, _⟩ := q0
  rw [hs] at e1
  cases e1
  have h0 := b.ow i _ a hi hs
  refine ⟨b.ok.write h1 nf nr, b.to.write h0 (fun ps z => by rw [h1] at z; cases z), ⟨b.sq.ext, b.sq.pre⟩, ⟨by simp [b.en.len], fun j s e => ?_, fun j k o o' c e1 e2 e3 e4 => ?_⟩, fun j o c e1 e2 => ?_⟩
  · rcases set_at e with ⟨rfl, rfl, _⟩ | ⟨ne, e⟩
    · exact ⟨a, hs, nf, nr, us, upd_same, h2⟩
    · have q := b.en.at_ j s e
      cases s with
      | un => trivial
      | vl v => exact q
      | own o =>
        obtain ⟨c, e1, e2, e3, e4⟩ := q
        have ne2 : c ≠ a := fun z => by
          subst z
          exact ne (b.en.apart i j _ _ c hi e hs e1)
        refine ⟨c, e1, e2, e3, ob_mono e4 (Ext.refl _) fun u q _ => ?_⟩
        show upd w1.H a _ c = _
        rw [upd_ne ne2]
        exact q
  · have k1 : ∀ {j : Nat} {o : Ob}, (env.set i (Sl.own (.lst ys)))[j]? = some (Sl.own o) → ∃ o' : Ob, env[j]? = some (Sl.own o') := fun {j o} e => by
      rcases set_at e with ⟨rfl, _, _⟩ | ⟨_, e⟩
      · exact ⟨_, hi⟩
      · exact ⟨_, e⟩
    obtain ⟨o1, e1⟩ := k1 e1
    obtain ⟨o2, e2⟩ := k1 e2
    exact b.en.apart j k _ _ c e1 e2 e3 e4
  · rcases set_at e1 with ⟨rfl, _, _⟩ | ⟨_, e1⟩
    · rw [hs] at e2
      cases e2
      exact h0
    · exact b.ow j o c e1 e2
theorem nodup_ix {α : Type} : ∀ {l : List α} {n m : Nat} {a : α}, l.Nodup → l[n]? = some a → l[m]? = some a → n = m
  | [], _, _, _, _, h, _ => by simp at h
  | x :: l, 0, 0, _, _, _, _ => rfl
  | x :: l, 0, m + 1, a, nd, h, h' => by
    simp at h h'
    subst h
    exact absurd (List.mem_of_getElem? h') (List.nodup_cons.mp nd).1
  | x :: l, n + 1, 0, a, nd, h, h' => by
    simp at h h'
    subst h'
    exact absurd (List.mem_of_getElem? h) (List.nodup_cons.mp nd).1
  | x :: l, n + 1, m + 1, a, nd, h, h' => by
    simp at h h'
    rw [nodup_ix (List.nodup_cons.mp nd).2 h h']
/-- a change of a list of the store -/
theorem Bh.chgL {w0 w w1 : Wd} {env : Env} {σ : L2.St} (b : Bh C w0 w w1 env σ) {n : Nat} {xs ys : List D} {a : Addr} {vs us : List V} (hn : w1.r[n]? = some a) (hS : w1.S[n]? = some (.lst xs)) (h1 : w1.H a = some (.lst vs)) (h2 : DpAll C.K w1.F us ys) (hl : noLs ys = true) :
    Bh C w0 w { w1 with S := w1.S.set n (.lst ys), H := upd w1.H a (.lst us) } env σ := by
  obtain ⟨nf, _, _⟩ := b.ok.obj n a _ hn hS
  have hr : a ∈ w1.r := List.mem_of_getElem? hn
  have lt := (List.getElem?_eq_some_iff.mp hS).1
  refine ⟨⟨fun c u q => ?_, by simp [b.ok.len], fun m c o e1 e2 => ?_, b.ok.nd, ?_, b.ok.nt⟩, ⟨b.to.ext, b.to.nf, b.to.pre, fun c o q n' tb => ?_, fun c ps q => ?_⟩, ⟨b.sq.ext, b.sq.pre⟩, ⟨b.en.len, fun j s e => ?_, b.en.apart⟩, b.ow⟩
  · show upd w1.H a _ c = _
    rw [upd_ne (fun e => by rw [e, nf] at q; cases q)]
    exact b.ok.sub c u q
  · have e2 : (w1.S.set n (.lst ys))[m]? = some o := e2
    by_cases hm : n = m
    · subst hm
      rw [List.getElem?_set_self lt] at e2
      cases e2
      have e1 : w1.r[n]? = some c := e1
      rw [hn] at e1
      cases e1
      exact ⟨nf, hl, us, upd_same, h2⟩
    · rw [List.getElem?_set_ne hm] at e2
      obtain ⟨k1, k2, k3⟩ := b.ok.obj m c o e1 e2
      have ne : c ≠ a := fun z => by
        subst z
        have a1 := List.getElem?_eq_some_iff.mp hn
        have a2 := List.getElem?_eq_some_iff.mp e1
        obtain ⟨l1, g1⟩ := a1
        obtain ⟨l2, g2⟩ := a2
        exact hm (nodup_ix b.ok.nd hn e1)
      refine ⟨k1, k2, ob_mono k3 (Ext.refl _) fun u q _ => ?_⟩
      show upd w1.H a _ c = _
      rw [upd_ne ne]
      exact q
  · have ne : ∀ {c o}, w1.H c = some o → (∀ xs, o ≠ .lst xs) → upd w1.H a (.lst us) c = some o := fun {c o} q n => by
      rw [upd_ne (fun e => by rw [e, h1] at q; cases q; exact n _ rfl)]
      exact q
    intro q hq
    obtain ⟨ps, g1, g2, g3⟩ := b.ok.tab q hq
    refine ⟨ps, ne g1 (fun _ z => by cases z), g2, fun pos cv hc => ?_⟩
    obtain ⟨c, e1, e2⟩ := g3 pos cv hc
    exact ⟨c, e1, ne e2 (fun _ z => by cases z)⟩
  · have q1 := b.to.fr c o q n' tb
    show upd w1.H a _ c = _
    rw [upd_ne (fun e => ?_)]
    · exact q1
    · subst e
      obtain ⟨l, e5, hl⟩ := b.to.pre
      rw [e5] at hr
      rcases List.mem_append.mp hr with z | z
      · exact n' z
      · rw [hl c z] at q
        cases q
  · obtain ⟨ps', q1⟩ := b.to.tb c ps q
    refine ⟨ps', ?_⟩
    show upd w1.H a _ c = _
    rw [upd_ne (fun e => by rw [e, h1] at q1; cases q1)]
    exact q1
  · have q := b.en.at_ j s e
    cases s with
    | un => trivial
    | vl v => exact q
    | own o =>
      obtain ⟨c, e1, e2, e3, e4⟩ := q
      have ne : c ≠ a := fun z => e3 (by rw [z]; exact hr)
      refine ⟨c, e1, e2, e3, ob_mono e4 (Ext.refl _) fun u q _ => ?_⟩
      show upd w1.H a _ c = _
      rw [upd_ne ne]
      exact q
/-- a new thing of the store -/
theorem Bh.newL {w0 w w1 : Wd} {env : Env} {σ : L2.St} (b : Bh C w0 w w1 env σ) {p : Addr} {vs : List V} {xs : List D} (h2 : w1.H p = some (.lst vs)) (h3 : w1.F p = none) (h4 : p ∉ w1.r) (h5 : w0.H p = none) (h6 : DpAll C.K w1.F vs xs) (hl : noLs xs = true) (off : OffA [p] env σ) (i : Nat) :
    Bh C w0 w { w1 with r := w1.r ++ [p], S := w1.S ++ [.lst xs] } (env.set i (.vl (.loc w1.S.length))) (σ.set i (some (.ref p))) := by
  have pre : w1.r <+: w1.r ++ [p] := ⟨[p], rfl⟩
  have hb : Bh C w0 w { w1 with r := w1.r ++ [p], S := w1.S ++ [.lst xs] } env σ := by
    refine ⟨⟨b.ok.sub, by simp [b.ok.len], fun m c o e1 e2 => ?_, ?_, b.ok.tab, b.ok.nt⟩, ⟨b.to.ext, b.to.nf, ?_, b.to.fr, b.to.tb⟩, ⟨b.sq.ext, b.sq.pre.trans pre⟩, ⟨b.en.len, fun j s e => ?_, b.en.apart⟩, b.ow⟩
    · have e1 : (w1.r ++ [p])[m]? = some c := e1
      have e2 : (w1.S ++ [Ob.lst xs])[m]? = some o := e2
      by_cases hm : m < w1.S.length
      · rw [List.getElem?_append_left (by rw [b.ok.len]; exact hm)] at e1
        rw [List.getElem?_append_left hm] at e2
        exact b.ok.obj m c o e1 e2
      · rw [List.getElem?_append_right (by rw [b.ok.len]; omega)] at e1
        rw [List.getElem?_append_right (by omega)] at e2
        have hm0 : m - w1.S.length = 0 := by
          have := (List.getElem?_eq_some_iff.mp e2).1
          simpa using this
        rw [b.ok.len, hm0] at e1
        rw [hm0] at e2
        cases e1
        cases e2
        exact ⟨h3, hl, vs, h2, h6⟩
    · exact List.nodup_append.mpr ⟨b.ok.nd, by simp, fun a ha c hc e => by
        have : c = p := by simpa using hc
        rw [e, this] at ha
        exact h4 ha⟩
    · obtain ⟨l, e, hl⟩ := b.to.pre
      refine ⟨l ++ [p], by show w1.r ++ [p] = _; rw [e, List.append_assoc], fun a ha => ?_⟩
      rcases List.mem_append.mp ha with z | z
      · exact hl a z
      · have : a = p := by simpa using z
        rw [this]
        exact h5
    · have q := b.en.at_ j s e
      cases s with
      | un => trivial
      | vl v =>
        obtain ⟨x, e1, e2⟩ := q
        exact ⟨x, e1, e2.sq (w' := { w1 with r := w1.r ++ [p], S := w1.S ++ [.lst xs] }) ⟨Ext.refl _, pre⟩⟩
      | own o =>
        obtain ⟨a, e1, e2, e3, e4⟩ := q
        have ne : a ≠ p := fun z => off j o a e e1 (by simp [z])
        exact ⟨a, e1, e2, fun hm => (List.mem_append.mp hm).elim e3 fun z => ne (by simpa using z), e4⟩
  exact hb.put (v := .loc w1.S.length) ⟨p, by show (w1.r ++ [p])[w1.S.length]? = _; rw [← b.ok.len, List.getElem?_append_right (Nat.le_refl _)]; simp, rfl⟩ i
end
end G

-- GP
set_option maxRecDepth 100000
set_option maxHeartbeats 2000000
namespace G
open PySem L2 LamX PyProof.Rows
section
variable {C : Cxt} {P : Pr} {G : Gam} {N : List Str} {sc : Scope} {x y z : Expr} {pos : Pos}
/-! ### statements serve -/
structure Gs (C : Cxt) (P : Pr) (G : Gam) (N : List Str) (sc : Scope) (E : XK) (X : Cx) : Prop where
  at' : At C P G N sc (EW E) X
  pass : PassesOwn (model X.prog X.w) X.A X.env X.xe
  fnc : ∀ x, X.env.scope.names.lookup x = some .cell → X.fn x = true
  kind : X.env.scope.kind = .function
  ex : ∀ c ∈ P.cl, ∃ (B newId initId : String) (bmB : List Value), ExcBaseFacts B newId initId bmB ∧ PySem.W.excIn X.K (C.ca c) bmB newId = true ∧ X.mg (P.cn c) = some (.ref (C.ca c)) ∧ PySem.W.keepIn X.K (.ref (C.ca c)) = true ∧ Raises X (.ref (C.ca c))
/-- what follows -/
def SCon (C : Cxt) (E : XK) (w0 w : Wd) (o : Out (Fl × Env)) (D : Ends) : Prop := match o with
  | .ok (.nx, env') S' => ∀ w' σ', w'.S = S' → Bh C w0 w w' env' σ' → D.nx σ' w'.H
  | .ok (.brk, env') S' => ∀ w' σ', w'.S = S' → Bh C w0 w w' env' σ' → D.bk σ' w'.H
  | .ok (.cont, env') S' => ∀ w' σ', w'.S = S' → Bh C w0 w w' env' σ' → D.ct σ' w'.H
  | .ok (.ret v, _) S' => ∀ w' x, w'.S = S' → w'.Ok C → w0.To w' → RvR C w0 w' x v → D.rt x w'.H
  | .ex c p S' => ExE C E w0 c p S'
theorem SCon.exe {E : XK} {w0 w : Wd} {o : Out (Fl × Env)} {D : Ends} (h : SCon C E w0 w o D) : ∀ c p S', o = .ex c p S' → ExE C E w0 c p S' := fun c p S' e => by
  subst e
  exact h
theorem SCon.after {E : XK} {w0 w w1 : Wd} {o : Out (Fl × Env)} {D : Ends} (h : SCon C E w0 w o D) (q : w.Sq w1) : SCon C E w0 w1 o D := by
  cases o with
  | ex c p S' => exact h
  | ok r S' =>
    obtain ⟨f, env'⟩ := r
    cases f with
    | ret v => exact h
    | nx => exact fun w' σ' e b => h w' σ' e (.after q b)
    | brk => exact fun w' σ' e b => h w' σ' e (.after q b)
    | cont => exact fun w' σ' e b => h w' σ' e (.after q b)
def SRef (C : Cxt) (E : XK) (t : TS) (f : Env → M (Fl × Env)) : Prop := ∀ (w0 w : Wd) (env : Env) (σ : L2.St) (o : Out (Fl × Env)) (D : Ends), w.Ok C → w0.To w → EnvR C w env σ → OwnF w0 env σ → f env w.S = some o → SCon C E w0 w o D → t D σ w.H
def SS (C : Cxt) (P : Pr) (G : Gam) (N : List Str) (sc : Scope) (st : Stmt) (f : Env → M (Fl × Env)) : Prop := ∀ E, ∃ t : TS, SRef C E t f ∧ ∀ X, Gs C P G N sc E X → PS X st t
def SSs (C : Cxt) (P : Pr) (G : Gam) (N : List Str) (sc : Scope) (st : List Stmt) (f : Env → M (Fl × Env)) : Prop := ∀ E, ∃ t : TS, SRef C E t f ∧ ∀ X, Gs C P G N sc E X → PSs X st t
theorem ss_nil : SSs C P G N sc [] (evSs G .nil) := fun E => ⟨tNext, fun w0 w env σ o D ok t0 en ow e hq => by
  simp only [evSs] at e
  cases e
  exact hq w σ rfl (.refl ok t0 en ow), fun X hX => pss_nil⟩
theorem ss_cons {s : S} {r : Ss} {st : Stmt} {rest : List Stmt} (h : SS C P G N sc st (evS G s)) (hr : SSs C P G N sc rest (evSs G r)) : SSs C P G N sc (st :: rest) (evSs G (.cons s r)) := fun E => by
  obtain ⟨t, rt, pt⟩ := h E
  obtain ⟨u, ru, pu⟩ := hr E
  refine ⟨tSeq t u, fun w0 w env σ o D ok t0 en ow e hq => ?_, fun X hX => pss_cons (pt X hX) (pu X hX)⟩
  simp only [evSs] at e
  unfold bnd at e
  cases q : evS G s env w.S with
  | none => rw [q] at e; cases e
  | some o1 =>
    rw [q] at e
    refine rt w0 w env σ o1 _ ok t0 en ow q ?_
    cases o1 with
    | ex c p S1 =>
      cases e
      exact hq
    | ok q1 S1 =>
      obtain ⟨f, env1⟩ := q1
      cases f with
      | nx =>
        intro w1 σ1 e1 b1
        have e : evSs G r env1 S1 = some o := e
        exact ru w0 w1 env1 σ1 o D b1.ok b1.to b1.en b1.ow (by rw [e1]; exact e) (hq.after b1.sq)
      | brk =>
        cases e
        exact hq
      | cont =>
        cases e
        exact hq
      | ret v =>
        cases e
        exact hq
theorem evX_bnd {β : Type} {fz : List Nat} {e : E} {env : Env} {k : RV × Env → M β} : bnd (evX G fz e env) k = bnd (ev G e (frz env fz)) fun v => k (v, thaw fz env (noR v)) := by
  funext S
  unfold evX bnd
  cases ev G e (frz env fz) S with
  | none => rfl
  | some r => cases r <;> rfl
/-! #### expressions, tests -/
theorem ss_exp {fz : List Nat} {a : E} (h : SE C P G N sc x (ev G a)) (hs : ∀ l env, swapsWith x none l env = pure false) : SS C P G N sc (.Expr x pos) (evS G (.exp fz a)) := fun E => by
  obtain ⟨t, r, p⟩ := h (EW E)
  refine ⟨tDrop t, fun w0 w env σ o D ok t0 en ow e hq => ?_, fun X hX => ps_expr (p X hX.at') (hs _ _)⟩
  simp only [evS] at e
  rw [evX_bnd] at e
  refine x_ok r ok t0 en ow fz e hq.exe fun v w1 x b old rv e1 => ?_
  cases e1
  exact hq w1 σ rfl b
theorem ss_ret {fz : List Nat} {a : E} (h : SE C P G N sc x (ev G a)) : SS C P G N sc (.Return (some x) pos) (evS G (.ret fz a)) := fun E => by
  obtain ⟨t, r, p⟩ := h (EW E)
  refine ⟨tRet t, fun w0 w env σ o D ok t0 en ow e hq => ?_, fun X hX => ps_ret (p X hX.at')⟩
  simp only [evS] at e
  refine x_ok r ok t0 en ow fz e hq.exe fun v w1 x b old rv e1 => ?_
  cases e1
  exact hq w1 x rfl b.ok b.to (back_rv _ _ _ _ _ ok t0 rv)
theorem ss_retN : SS C P G N sc (.Return none pos) (evS G .retN) := fun E => ⟨tRetN, fun w0 w env σ o D ok t0 en ow e hq => by
  simp only [evS] at e
  cases e
  exact hq w .non rfl ok t0 .non, fun X hX => ps_retN⟩
theorem ss_retO {i : Nat} {n : Str} {p2 : Pos} (hN : N[i]? = some n) (hv : vis sc n = true) (ho : nmOk n = true) : SS C P G N sc (.Return (some (.Name n p2)) pos) (evS G (.retO i)) := fun E => by
  simp only [nmOk, Bool.and_eq_true, Bool.not_eq_true'] at ho
  refine ⟨tRet (tVar i), fun w0 w env σ o D ok t0 en ow e hq => ?_, fun X hX => ps_ret (pe_var (by rw [hX.at'.2.1]; exact hN) (by rw [hX.at'.2.2]; exact vis_ok hv) ho.1 ho.2)⟩
  simp only [evS] at e
  obtain ⟨xs, hi, e⟩ := bnd_lft e
  have hi := getO_some hi
  cases e
  obtain ⟨a, e1, nf, nr, vs, hv, dv⟩ := en.at_ i _ hi
  exact ⟨_, e1, hq w _ rfl ok t0 ⟨a, vs, rfl, hv, nf, nr, ow i _ a hi e1, dv⟩⟩
theorem ss_ifs {fz : List Nat} {c : E} {a b : Ss} {sa sb : List Stmt} (hc : ST C P G N sc x (tst (ev G c))) (ha : SSs C P G N sc sa (evSs G a)) (hb : SSs C P G N sc sb (evSs G b)) : SS C P G N sc (.If x sa sb pos) (evS G (.ifs fz c a b)) := fun E => by
  obtain ⟨t, r, p⟩ := hc (EW E)
  obtain ⟨ta, ra, pa⟩ := ha E
  obtain ⟨tb, rb, pb⟩ := hb E
  refine ⟨tIfS t ta tb, fun w0 w env σ o D ok t0 en ow e hq => ?_, fun X hX => ps_if (p X hX.at') (pa X hX) (pb X hX)⟩
  simp only [evS] at e
  refine b_ok r ok t0 en ow fz e hq.exe fun v w1 b e1 => ?_
  cases v with
  | true =>
    rw [if_pos rfl] at e1 ⊢
    exact ra w0 w1 env σ o D b.ok b.to b.en b.ow e1 (hq.after b.sq)
  | false =>
    rw [if_neg Bool.false_ne_true] at e1 ⊢
    exact rb w0 w1 env σ o D b.ok b.to b.en b.ow e1 (hq.after b.sq)
/-! #### a loop's turn -/
/-- what the body gives, and what the rest wants -/
theorem turn_ok {E : XK} {w0 w w1 : Wd} {ob o : Out (Fl × Env)} {D : Ends} {K : L2.St → Hp → Prop} {k : Env → M (Fl × Env)} (q : w.Sq w1) (hq : SCon C E w0 w o D) (hb : (match ob with
      | .ok r S' => nextF k r S'
      | .ex c p S' => some (.ex c p S')) = some o)
    (hk : ∀ (w2 : Wd) (env2 : Env) (σ2 : L2.St), Bh C w0 w1 w2 env2 σ2 → k env2 w2.S = some o → K σ2 w2.H) : SCon C E w0 w1 ob { D with nx := K, ct := K, bk := D.nx } := by
  cases ob with
  | ex c p S1 =>
    cases hb
    exact hq
  | ok r S1 =>
    obtain ⟨f, env1⟩ := r
    cases f with
    | nx => exact fun w2 σ2 e2 b2 => hk w2 env1 σ2 b2 (by rw [e2]; exact hb)
    | cont => exact fun w2 σ2 e2 b2 => hk w2 env1 σ2 b2 (by rw [e2]; exact hb)
    | brk =>
      cases hb
      exact fun w2 σ2 e2 b2 => hq w2 σ2 e2 (.after q b2)
    | ret v =>
      cases hb
      exact hq
theorem ss_whl {fz : List Nat} {c : E} {b : Ss} {sb : List Stmt} (hc : ST C P G N sc x (tst (ev G c))) (hb : SSs C P G N sc sb (evSs G b)) : SS C P G N sc (.While x sb [] pos) (evS G (.whl fz c b)) := fun E => by
  obtain ⟨t, r, p⟩ := hc (EW E)
  obtain ⟨tb, rb, pb⟩ := hb E
  refine ⟨tWhile t tb, fun w0 w env σ o D ok t0 en ow e hq => ?_, fun X hX => ps_while hX.pass (p X hX.at') (pb X hX)⟩
  simp only [evS] at e
  obtain ⟨n, e⟩ := loop_some e
  refine ⟨fun m σ H => ∃ wi envi, wi.H = H ∧ Bh C w0 w wi envi σ ∧ loopN (fun env => tst (ev G c) (frz env fz)) (evSs G b) m envi wi.S = some o, ⟨n, w, env, rfl, .refl ok t0 en ow, e⟩, ?_⟩
  rintro m σ H ⟨wi, envi, rfl, bi, ei⟩
  cases m with
  | zero => cases ei
  | succ m =>
    rw [loopN] at ei
    refine b_ok r bi.ok bi.to bi.en bi.ow fz ei hq.exe fun v w1 b1 e1 => ?_
    cases v with
    | false =>
      rw [if_neg Bool.false_ne_true] at e1 ⊢
      cases e1
      exact hq w1 σ rfl (.after bi.sq b1)
    | true =>
      rw [if_pos rfl] at e1 ⊢
      refine ⟨fun σ' H' => ∃ wi envi, wi.H = H' ∧ Bh C w0 w wi envi σ' ∧ loopN (fun env => tst (ev G c) (frz env fz)) (evSs G b) m envi wi.S = some o, fun σ' H' h => ⟨m, Nat.lt_succ_self m, h⟩, ?_⟩
      unfold bnd at e1
      cases q : evSs G b envi w1.S with
      | none => rw [q] at e1; cases e1
      | some ob =>
        rw [q] at e1
        refine rb w0 w1 envi σ ob _ b1.ok b1.to b1.en b1.ow q ?_
        refine turn_ok (k := loopN (fun env => tst (ev G c) (frz env fz)) (evSs G b) m) (bi.sq.trans b1.sq) hq ?_ fun w2 env2 σ2 b2 e2 => ⟨w2, env2, rfl, .after (bi.sq.trans b1.sq) b2, e2⟩
        cases ob <;> exact e1
theorem bindT_own {tg : Tg} {a : Vl} {env env' : Env} (h : bindT tg a env = some env') : ∀ {j : Nat} {o : Ob}, env'[j]? = some (.own o) → j ∉ tgL tg ∧ env[j]? = some (.own o) := by
  intro j o e
  cases tg with
  | nm i =>
    cases h
    obtain ⟨ne, e⟩ := set_own (fun o z => by cases z) e
    exact ⟨fun z => ne (by
      have : j = i := by simpa [tgL] using z
      exact this.symm), e⟩
  | tp is =>
    cases a with
    | loc _ => cases h
    | fn _ => cases h
    | dat d =>
      cases d <;> try (cases h; done)
      rename_i ds
      simp only [bindT] at h
      split at h
      · rename_i hl
        cases h
        have k : ∀ (is : List Nat) (ds : List D) (env : Env), ds.length = is.length → ((is.zip ds).foldl (fun m p => m.set p.1 (.vl (.dat p.2))) env)[j]? = some (Sl.own o) → j ∉ is ∧ env[j]? = some (Sl.own o) := by
          intro is
          induction is with
          | nil => intro ds env _ e; exact ⟨by simp, by simpa using e⟩
          | cons i is ih =>
            intro ds env hl e
            cases ds with
            | nil => cases hl
            | cons d ds =>
              obtain ⟨h1, h2⟩ := ih ds _ (by simpa using hl) e
              obtain ⟨ne, h3⟩ := set_own (fun o z => by cases z) h2
              exact ⟨by simp only [List.mem_cons, not_or]; exact ⟨fun z => ne z.symm, h1⟩, h3⟩
        exact k is ds env hl e
      · cases h
theorem nms_loc {i : Nat} {n : Str} : ∀ {is : List Nat} {as : List Expr}, nmsC N sc is as = true → i ∈ is → N[i]? = some n → loc sc n = true
  | [], _, _, h, _ => by cases h
  | _ :: _, [], h, _, _ => by simp [nmsC] at h
  | j :: js, a :: as, h, hm, hn => by
    cases a <;> simp only [nmsC, Bool.and_eq_true] at h <;> try (cases h; done)
    rcases List.mem_cons.mp hm with e | z
    · subst e
      have := dec_eq h.1.1
      rw [hn] at this
      cases this
      exact h.1.2
    · exact nms_loc h.2 z hn
theorem ss_fors {fz : List Nat} {it : It} {tg : Tg} {b : Ss} {t : Expr} {sb : List Stmt} (hi : SIq C P G N sc t x (evI G it) (isR it)) (hs : isSet x = false) (ht : chTg N sc tg t = true) (hb : SSs C P G N sc sb (evSs G b)) : SS C P G N sc (.For t x sb [] pos) (evS G (.fors fz it tg b)) := fun E => by
  obtain ⟨wi, ri, pi⟩ := hi (EW E)
  obtain ⟨g, rg, pg⟩ := stg (C := C) ht
  obtain ⟨tb, rb, pb⟩ := hb E
  refine ⟨tFor wi g tb, fun w0 w env σ o D ok t0 en ow e hq => ?_, fun X hX => ?_⟩
  · simp only [evS] at e
    refine frz_ok (R' := IR C) ri (fun _ => isR it) (fun _ h c _ => h.2 c _) (fun h _ => h.1) ok t0 en ow fz e hq.exe fun vs w1 J b1 _ hJ e1 => ?_
    refine ⟨fun i m σ H => m = vs.length - i ∧ i ≤ vs.length ∧ ∃ wi envi, wi.H = H ∧ Bh C w0 w1 wi envi σ ∧ forV tg (evSs G b) (vs.drop i) envi wi.S = some o, ⟨vs.length, by simp, Nat.zero_le _, w1, _, rfl, .refl b1.ok b1.to b1.en b1.ow, by rw [List.drop_zero]; exact e1⟩, ?_⟩
    rintro i m σ H ⟨rfl, hi, wi, envi, rfl, bi, ei⟩
    obtain ⟨hstop, hgo⟩ := hJ wi bi.ok bi.sq.ext bi.sq.pre
    by_cases hlt : i < vs.length
    · obtain ⟨v, hv⟩ : ∃ v, vs[i]? = some v := ⟨vs[i], List.getElem?_eq_getElem hlt⟩
      obtain ⟨go, yld⟩ := hgo i v hv
      have hd : vs.drop i = v :: vs.drop (i + 1) := by
        rw [List.drop_eq_getElem_cons hlt]
        rw [List.getElem?_eq_getElem hlt] at hv
        cases hv
        rfl
      rw [hd, forV] at ei
      obtain ⟨env1, eb, ei⟩ := bnd_lft ei
      refine .inr ⟨go, fun σ' H' => ∃ wi envi, wi.H = H' ∧ Bh C w0 w1 wi envi σ' ∧ forV tg (evSs G b) (vs.drop (i + 1)) envi wi.S = some o, fun σ' H' h => ⟨vs.length - (i + 1), by omega, rfl, hlt, h⟩, fun xv H' hy => ?_⟩
      obtain ⟨w3, e7, e8, e9, ok3, t3, k3, dv⟩ := yld xv H' hy
      subst e7
      have b3 := bi.step ok3 t3
      refine rg w3 envi env1 σ xv v _ ok3 b3.en dv eb fun σ' en' of => ?_
      have ow' : OwnF w0 env1 σ' := fun j o' a e1 e2 => by
        obtain ⟨h1, h2⟩ := bindT_own eb e1
        rw [of.2 j h1] at e2
        exact b3.ow j o' a h2 e2
      unfold bnd at ei
      rw [← e8] at ei
      cases q : evSs G b env1 w3.S with
      | none => rw [q] at ei; cases ei
      | some ob =>
        rw [q] at ei
        refine rb w0 w3 env1 σ' ob _ ok3 b3.to en' ow' q ?_
        refine turn_ok (k := forV tg (evSs G b) (vs.drop (i + 1))) (b1.sq.trans b3.sq) hq ?_ fun w2 env2 σ2 b2 e2 => ⟨w2, env2, rfl, .after b3.sq b2, e2⟩
        cases ob <;> exact ei
    · have ei0 : i = vs.length := by omega
      subst ei0
      rw [List.drop_length, forV] at ei
      cases ei
      exact .inl ⟨hstop, hq wi σ rfl (.after b1.sq bi)⟩
  · refine ps_for hX.pass hX.at'.1.calm (pi X hX.at') (pg X hX.at'.1.K hX.at'.1.calm hX.at'.2.1 hX.at'.1.nd hX.at'.2.2 fun i hii n hn => ?_) (pb X hX) (fun v => by cases x <;> first | rfl | cases hs)
    have kn : loc sc n = true := by
      cases tg with
      | nm j =>
        have : i = j := by simpa [tgL] using hii
        subst this
        cases t <;> simp only [chTg] at ht <;> try (cases ht; done)
        simp only [Bool.and_eq_true] at ht
        have := dec_eq ht.1
        rw [hn] at this
        cases this
        exact ht.2
      | tp is =>
        cases t <;> simp only [chTg] at ht <;> try (cases ht; done)
        exact nms_loc (nmsC_of ht) hii hn
    rcases loc_ok kn with q | q
    · exact .inr (by rw [hX.at'.2.2]; exact q)
    · exact .inl (hX.fnc n (by rw [hX.at'.2.2]; exact q))
end
end G

-- GQ
set_option maxRecDepth 100000
set_option maxHeartbeats 2000000
namespace G
open PySem L2 LamX PyProof.Rows
section
variable {C : Cxt} {P : Pr} {G : Gam} {N : List Str} {sc : Scope} {x y z : Expr} {pos : Pos}
/-! ### a name takes a value -/
def SN (C : Cxt) (P : Pr) (G : Gam) (N : List Str) (sc : Scope) (st : Stmt) (i : Nat) (f : Env → M RV) : Prop := ∀ E, ∃ t : TE, Ref C (EW E) (RvR C) t f ∧ ∀ X, Gs C P G N sc E X → PS X st (tAsg t (gName i))
def isComp : Expr → Bool
  | .ListComp _ _ _ _ => true
  | .SetComp _ _ _ _ => true
  | .DictComp _ _ _ _ _ => true
  | _ => false
theorem swaps_no {tg : Option Expr} {l : Nat} {env : PySem.Env} (h : isComp x = false) : swapsWith x tg l env = pure false := by
  cases x <;> first | rfl | cases h
theorem gs_fn {E : XK} {X : Cx} {n : Str} (hX : Gs C P G N sc E X) (h : loc sc n = true) : X.fn n = true ∨ X.env.scope.names.lookup n = some .local := by
  rcases loc_ok h with q | q
  · exact .inr (by rw [hX.at'.2.2]; exact q)
  · exact .inl (hX.fnc n (by rw [hX.at'.2.2]; exact q))
theorem sn_of {i : Nat} {n : Str} {py : Pos} {f : Env → M RV} (h : SE C P G N sc x f) (hN : N[i]? = some n) (hl : loc sc n = true) (hc : isComp x = false) : SN C P G N sc (.Assign [.Name n py] x pos) i f := fun E => by
  obtain ⟨t, r, p⟩ := h (EW E)
  exact ⟨t, r, fun X hX => ps_set hX.at'.1.nd (by rw [hX.at'.2.1]; exact hN) (by rw [hX.at'.2.2]; exact loc_ok hl) (p X hX.at') (swaps_no hc) (gs_fn hX hl)⟩
def swB (sc : Scope) (y : Str) (py p : Pos) (scope : Scope) : Bool := decide (sc.names.lookup y = some .local) && (py.line == p.line) && !(scope.names.any fun (n, k) => n == y && (k == .local || k == .cell))
theorem swaps_c {e : Expr} {gs : List Comprehension} {scope : Scope} {p py : Pos} {n : Str} {l : Nat} {env : PySem.Env} (hk : env.scope.kind = .function) : swapsWith (.ListComp e gs scope p) (some (.Name n py)) l env = pure (swB env.scope n py p scope) := by
  have hb : env.blockKind = .function := by unfold Env.blockKind; rw [hk]; rfl
  unfold swapsWith swB
  simp only [hb, Env.kindOf, Expr.pos]
  have e : (env.scope.names.lookup n == some NameKind.local) = decide (env.scope.names.lookup n = some .local) := by
    cases q : env.scope.names.lookup n with
    | none => rfl
    | some k => cases k <;> rfl
  rw [e]
  rfl
theorem sn_comp {i : Nat} {n : Str} {py p : Pos} {e : Expr} {gs : List Comprehension} {scope : Scope} {f : Env → M RV} (h : SEc C P G N sc (.ListComp e gs scope p) f) (hN : N[i]? = some n) (hl : loc sc n = true) : SN C P G N sc (.Assign [.Name n py] (.ListComp e gs scope p) pos) i f := fun E => by
  obtain ⟨t, r, q⟩ := h (EW E)
  refine ⟨t, r, fun X hX => ?_⟩
  have hs := swaps_c (e := e) (gs := gs) (scope := scope) (p := p) (py := py) (n := n) (l := pos.line) hX.kind
  cases hb : swB X.env.scope n py p scope with
  | false =>
    rw [hb] at hs
    exact ps_set hX.at'.1.nd (by rw [hX.at'.2.1]; exact hN) (by rw [hX.at'.2.2]; exact loc_ok hl) (q X hX.at').1 hs (gs_fn hX hl)
  | true =>
    rw [hb] at hs
    refine (q X hX.at').2 i n py pos (by rw [hX.at'.2.1]; exact hN) ?_ hs
    unfold swB at hb
    simp only [Bool.and_eq_true, decide_eq_true_eq] at hb
    exact hb.1.1
theorem toD_toV {v : RV} {d : D} (h : v.toD = some d) : v.toV = .dat d := by
  cases v with
  | vl u =>
    cases u with
    | dat d' =>
      cases h
      rfl
    | loc _ => cases h
    | fn _ => cases h
  | new xs =>
    cases h
    rfl
theorem ss_asg {fz : List Nat} {i : Nat} {a : E} {st : Stmt} (h : SN C P G N sc st i (ev G a)) : SS C P G N sc st (evS G (.asg fz i a)) := fun E => by
  obtain ⟨t, r, p⟩ := h E
  refine ⟨tAsg t (gName i), fun w0 w env σ o D ok t0 en ow e hq => ?_, p⟩
  simp only [evS] at e
  rw [evX_bnd] at e
  refine x_ok r ok t0 en ow fz e hq.exe fun v w1 x b old rv e1 => ?_
  cases e1
  obtain ⟨w2, a1, a2, b2, hv⟩ := b.val t0 ok old rv
  rw [← a2]
  exact hq w2 _ a1 (b2.put hv i)
theorem ss_own {fz : List Nat} {i : Nat} {a : E} {st : Stmt} (h : SN C P G N sc st i (ev G a)) : SS C P G N sc st (evS G (.own fz i a)) := fun E => by
  obtain ⟨t, r, p⟩ := h E
  refine ⟨tAsg t (gName i), fun w0 w env σ o D ok t0 en ow e hq => ?_, p⟩
  simp only [evS] at e
  rw [evX_bnd] at e
  refine x_ok r ok t0 en ow fz e hq.exe fun v w1 x b old rv e1 => ?_
  cases v with
  | vl _ => cases e1
  | new xs =>
    cases e1
    obtain ⟨p, vs, rfl, h2, h3, h4, h5, h6⟩ := rv
    exact hq w1 _ rfl (b.putO h2 h3 h4 (t0.there ok h5) h6 (old_off (w1 := w1) old h5) i)
theorem ss_ref {fz : List Nat} {i : Nat} {a : E} {st : Stmt} (h : SN C P G N sc st i (ev G a)) : SS C P G N sc st (evS G (.ref fz i a)) := fun E => by
  obtain ⟨t, r, p⟩ := h E
  refine ⟨tAsg t (gName i), fun w0 w env σ o D ok t0 en ow e hq => ?_, p⟩
  simp only [evS] at e
  rw [evX_bnd] at e
  refine x_ok r ok t0 en ow fz e hq.exe fun v w1 x b old rv e1 => ?_
  cases v with
  | vl _ => cases e1
  | new xs =>
    simp only at e1
    split at e1
    · rename_i hl
      cases e1
      obtain ⟨p, vs, rfl, h2, h3, h4, h5, h6⟩ := rv
      exact hq { w1 with r := w1.r ++ [p], S := w1.S ++ [.lst xs] } _ rfl (b.newL h2 h3 h4 (t0.there ok h5) h6 hl (old_off (w1 := w1) old h5) i)
    · cases e1
def isTup : Expr → Bool
  | .Tuple _ _ _ => true
  | _ => false
theorem ss_unp {fz is : List Nat} {a : E} {t : Expr} (h : SE C P G N sc x (ev G a)) (ht : chTg N sc (.tp is) t = true) (hx : isTup x = false) : SS C P G N sc (.Assign [t] x pos) (evS G (.unp fz is a)) := fun E => by
  obtain ⟨te, r, p⟩ := h (EW E)
  obtain ⟨g, rg, pg⟩ := stg (C := C) ht
  refine ⟨tAsg te g, fun w0 w env σ o D ok t0 en ow e hq => ?_, fun X hX => ?_⟩
  · simp only [evS] at e
    rw [evX_bnd] at e
    refine x_ok r ok t0 en ow fz e hq.exe fun v w1 x b old rv e1 => ?_
    obtain ⟨d, ed, e2⟩ := bnd_lft e1
    obtain ⟨env', eb, e3⟩ := bnd_lft e2
    cases e3
    obtain ⟨w2, a1, a2, b2, hv⟩ := b.val t0 ok old rv
    rw [toD_toV ed] at hv
    rw [← a2]
    refine rg w2 _ env' σ x _ _ b2.ok b2.en hv eb fun σ' en' of => ?_
    exact hq w2 σ' a1 ⟨b2.ok, b2.to, b2.sq, en', fun j o' a e1 e2 => by
      obtain ⟨h1, h2⟩ := bindT_own eb e1
      rw [of.2 j h1] at e2
      exact b2.ow j o' a h2 e2⟩
  · cases t <;> simp only [chTg] at ht <;> try (cases ht; done)
    have hn := nmsC_of ht
    refine ps_asg (p X hX.at') (pg X hX.at'.1.K hX.at'.1.calm hX.at'.2.1 hX.at'.1.nd hX.at'.2.2 fun i hii n hnn => gs_fn hX (nms_loc hn hii hnn)) ?_ ?_
    · cases x <;> rfl
    · cases x <;> first | rfl | cases hx
/-! ### several names at once -/
inductive Rs (C : Cxt) (w w' : Wd) : List V → List RV → Prop where
  | nil : Rs C w w' [] []
  | cons {x : V} {v : RV} {xs : List V} {vs : List RV} : RvR C w w' x v → Rs C w w' xs vs → Rs C w w' (x :: xs) (v :: vs)
def RsR (C : Cxt) (w w' : Wd) (xs : List V) (vs : List RV) : Prop := Rs C w w' xs vs ∧ (newA xs vs).Nodup
theorem Rs.imp {w w' u u' : Wd} {xs : List V} {vs : List RV} (h : Rs C w w' xs vs) (f : ∀ x v, RvR C w w' x v → RvR C u u' x v) : Rs C u u' xs vs := by
  induction h with
  | nil => exact .nil
  | cons h1 _ ih => exact .cons (f _ _ h1) ih
theorem Rs.len {w w' : Wd} {xs : List V} {vs : List RV} (h : Rs C w w' xs vs) : xs.length = vs.length := by
  induction h with
  | nil => rfl
  | cons _ _ ih => simp [ih]
theorem back_rs {C : Cxt} : Back C (RsR C) := fun w w1 w' xs vs ok t h => ⟨h.1.imp fun x v q => back_rv _ _ _ _ _ ok t q, h.2⟩
theorem newA_cons {x : V} {v : RV} {xs : List V} {vs : List RV} : newA (x :: xs) (v :: vs) = newA xs vs ∨ ∃ p zs, x = .ref p ∧ v = .new zs ∧ newA (x :: xs) (v :: vs) = p :: newA xs vs := by
  cases v with
  | vl u => cases x <;> exact .inl rfl
  | new zs =>
    cases x with
    | ref p => exact .inr ⟨p, zs, rfl, rfl, rfl⟩
    | _ => exact .inl rfl
theorem newA_fresh {w w' : Wd} {xs : List V} {vs : List RV} (h : Rs C w w' xs vs) : ∀ p ∈ newA xs vs, w.H p = none := by
  induction h with
  | nil => intro p hp; cases hp
  | @cons x v xs vs h1 h2 ih =>
    intro p hp
    rcases newA_cons (x := x) (v := v) (xs := xs) (vs := vs) with e | ⟨q, zs, rfl, rfl, e⟩
    · rw [e] at hp
      exact ih p hp
    · rw [e] at hp
      rcases List.mem_cons.mp hp with e | hp
      · obtain ⟨p', us, e', h2, h3, h4, h5, h6⟩ := h1
        cases e'
        rw [e]
        exact h5
      · exact ih p hp
def SR (C : Cxt) (P : Pr) (G : Gam) (N : List Str) (sc : Scope) (xs : List Expr) (f : Env → M (List RV)) : Prop := ∀ W, ∃ t : TA, Ref C W (RsR C) t f ∧ ∀ X, At C P G N sc W X → PA X xs t
theorem sr_nil : SR C P G N sc [] (evRs G .nil) := fun W => ⟨tNil, by
  intro w env σ o Q ok en e hq
  simp only [evRs] at e
  cases e
  exact hq.done rfl ok (Wd.To.refl w) ⟨.nil, List.nodup_nil⟩, fun X _ => pa_nil⟩
theorem sr_cons {xs : List Expr} {a : E} {es : Es} (ha : SE C P G N sc x (ev G a)) (hs : SR C P G N sc xs (evRs G es)) (hx : isStar x = false) : SR C P G N sc (x :: xs) (evRs G (.cons a es)) := fun W => by
  obtain ⟨ta, ra, pa⟩ := ha W
  obtain ⟨ts, rs, ps⟩ := hs W
  refine ⟨tCons ta ts, fun w env σ o Q ok en e hq => ?_, fun X hX => pa_cons (pa X hX) (ps X hX) (star_ok hx)⟩
  simp only [evRs] at e
  refine ra.bind ok en e hq back_rs fun v w1 x1 ok1 t1 en1 rv e1 hq1 => ?_
  refine rs.bind ok1 en1 e1 hq1 back_rs fun r w2 us ok2 t2 en2 rr e2 hq2 => ?_
  cases e2
  have r1 := RvR.step rv t2
  refine hq.done rfl ok2 (t1.trans t2 ok1) ⟨.cons r1 (rr.1.imp fun x v q => back_rv _ _ _ _ _ ok1 t1 q), ?_⟩
  rcases newA_cons (x := x1) (v := v) (xs := us) (vs := r) with e | ⟨p, zs, rfl, rfl, e⟩
  · rw [e]
    exact rr.2
  · rw [e]
    refine List.nodup_cons.mpr ⟨fun hm => ?_, rr.2⟩
    have := newA_fresh rr.1 p hm
    obtain ⟨p', vs', e', h2, _⟩ := rv
    cases e'
    rw [h2] at this
    cases this
def setS : L2.St → List Nat → List V → L2.St
  | σ, i :: is, x :: xs => setS (σ.set i (some x)) is xs
  | σ, _, _ => σ
theorem Rs.known {w w1 : Wd} {p : Addr} {o : HO} {xs : List V} {vs : List RV} (h : Rs C w w1 xs vs) (hp : p ∉ newA xs vs) (hf : w1.F p = none) : Rs C w { w1 with F := upd w1.F p o } xs vs := by
  induction h with
  | nil => exact .nil
  | @cons x v xs vs h1 h2 ih =>
    rcases newA_cons (x := x) (v := v) (xs := xs) (vs := vs) with e | ⟨q, zs, rfl, rfl, e⟩
    · rw [e] at hp
      refine .cons ?_ (ih hp)
      cases v with
      | vl u => exact VlR.sq (w := w1) h1 ⟨Ext.new hf, List.prefix_refl _⟩
      | new zs =>
        obtain ⟨p', us, rfl, _⟩ := h1
        have : (newA (V.ref p' :: xs) (RV.new zs :: vs)).length = (newA xs vs).length := by rw [e]
        simp [newA] at this
    · rw [e] at hp
      refine .cons ?_ (ih fun z => hp (List.mem_cons_of_mem _ z))
      obtain ⟨p', us, e', g2, g3, g4, g5, g6⟩ := h1
      cases e'
      have ne : q ≠ p := fun z => hp (by rw [z]; exact List.mem_cons_self)
      exact ⟨q, us, rfl, g2, by show upd w1.F p o q = none; rw [upd_ne ne]; exact g3, g4, g5, dpAll_mono (Ext.new hf) g6⟩
theorem puts_ok {w0 w : Wd} (t0 : w0.To w) (ok : w.Ok C) : ∀ (is : List Nat) (ks : List Bool) (vs : List RV) (xs : List V) (w1 : Wd) (env : Env) (σ : L2.St) (env2 : Env), Bh C w0 w w1 env σ → Rs C w w1 xs vs → (newA xs vs).Nodup → OffA (newA xs vs) env σ → puts env is ks vs = some env2 →
    ∃ w2, w2.S = w1.S ∧ w2.H = w1.H ∧ Bh C w0 w w2 env2 (setS σ is xs)
  | [], [], [], xs, w1, env, σ, env2, b, rs, nd, off, e => by
    cases rs
    cases e
    exact ⟨w1, rfl, rfl, b⟩
  | i :: is, k :: ks, v :: vs, xs, w1, env, σ, env2, b, rs, nd, off, e => by
    cases rs with
    | @cons x _ xs _ h1 h2 =>
      simp only [puts] at e
      cases q : putRV k v with
      | none => rw [q] at e; cases e
      | some s =>
        rw [q] at e
        have e : puts (env.set i s) is ks vs = some env2 := e
        show ∃ w2, w2.S = w1.S ∧ w2.H = w1.H ∧ Bh C w0 w w2 env2 (setS (σ.set i (some x)) is xs)
        unfold putRV at q
        cases v with
        | vl u =>
          have n1 : newA (x :: xs) (RV.vl u :: vs) = newA xs vs := by cases x <;> rfl
          rw [n1] at nd off
          split at q
          · cases q
          · cases q
            exact puts_ok t0 ok is ks vs xs w1 _ _ env2 (b.put h1 i) h2 nd (off.put i _ _) e
        | new zs =>
          obtain ⟨p, us, rfl, g2, g3, g4, g5, g6⟩ := h1
          have n1 : newA (.ref p :: xs) (RV.new zs :: vs) = p :: newA xs vs := rfl
          rw [n1] at nd off
          have hp := (List.nodup_cons.mp nd).1
          have nd' := (List.nodup_cons.mp nd).2
          have off1 : OffA [p] env σ := fun j o a e1 e2 hm => off j o a e1 e2 (by
            have : a = p := by simpa using hm
            rw [this]
            exact List.mem_cons_self)
          have off2 : OffA (newA xs vs) env σ := fun j o a e1 e2 hm => off j o a e1 e2 (List.mem_cons_of_mem _ hm)
          split at q
          · cases q
            refine puts_ok t0 ok is ks vs xs w1 _ _ env2 (b.putO g2 g3 g4 (t0.there ok g5) g6 off1 i) h2 nd' (fun j o a e1 e2 hm => ?_) e
            rcases set_at e1 with ⟨rfl, _, hi⟩ | ⟨ne, e1⟩
            · rw [List.getElem?_set_self (by rw [← b.en.len]; exact hi)] at e2
              cases e2
              exact hp hm
            · rw [List.getElem?_set_ne ne] at e2
              exact off2 j o a e1 e2 hm
          · cases q
            have b2 := b.known g2 g3 g4 (t0.there ok g5) off1
            have hv : VlR C { w1 with F := upd w1.F p (.lst us) } (.ref p) (.dat (.list zs)) := .lst (.inl (.inl upd_same)) (dpAll_mono (Ext.new g3) g6)
            obtain ⟨w2, c1, c2, c3⟩ := puts_ok t0 ok is ks vs xs _ _ _ env2 (b2.put hv i) (h2.known hp g3) nd' (off2.put i _ _) e
            exact ⟨w2, c1, c2, c3⟩
  | [], [], _ :: _, _, _, _, _, _, _, _, _, _, e => by cases e
  | [], _ :: _, _, _, _, _, _, _, _, _, _, _, e => by cases e
  | _ :: _, [], _, _, _, _, _, _, _, _, _, _, e => by cases e
  | _ :: _, _ :: _, [], _, _, _, _, _, _, _, _, _, e => by cases e
theorem rs_thw {w0 w wf w1 w2 : Wd} {env : Env} {σ : L2.St} {xs : List V} {vs : List RV} (h : Thw C w0 w w1 w2 env σ) (r : RsR C wf w1 xs vs) (n : vs.all noR = true) (hf : wf.H = w.H) : RsR C w w2 xs vs := by
  obtain ⟨r, nd⟩ := r
  refine ⟨?_, nd⟩
  clear nd
  induction r with
  | nil => exact .nil
  | cons h1 _ ih =>
    rw [List.all_cons, Bool.and_eq_true] at n
    exact .cons (noR_thw h h1 n.1 hf) (ih n.2)
theorem puts_len : ∀ {env env2 : Env} {is : List Nat} {ks : List Bool} {vs : List RV}, puts env is ks vs = some env2 → vs.length = is.length
  | _, _, [], [], [], _ => rfl
  | env, _, i :: is, k :: ks, v :: vs, e => by
    simp only [puts] at e
    cases q : putRV k v with
    | none => rw [q] at e; cases e
    | some s =>
      rw [q] at e
      rw [List.length_cons, List.length_cons, puts_len e]
  | _, _, [], [], _ :: _, e => by cases e
  | _, _, [], _ :: _, _, e => by cases e
  | _, _, _ :: _, [], _, e => by cases e
  | _, _, _ :: _, _ :: _, [], e => by cases e
/-- the values are stored -/
theorem par_fin {E : XK} {w0 w w1 : Wd} {env1 : Env} {σ : L2.St} {o : Out (Fl × Env)} {D : Ends} {is : List Nat} {ks : List Bool} {vs : List RV} {xs : List V} (t0 : w0.To w) (ok : w.Ok C) (b : Bh C w0 w w1 env1 σ) (old : Old w env1 σ) (r : RsR C w w1 xs vs)
    (e : bnd (lft (puts env1 is ks vs)) (fun env' => ret (Fl.nx, env')) w1.S = some o) (hq : SCon C E w0 w o D) : xs.length = is.length ∧ D.nx (setS σ is xs) w1.H ∧ ∀ p, w1.H p = none → D.nx (setS σ is xs) (upd w1.H p (.tup xs)) := by
  obtain ⟨env2, ep, e⟩ := bnd_lft e
  cases e
  have off : OffA (newA xs vs) env1 σ := fun i u a e1 e2 hm => old i u a e1 e2 (newA_fresh r.1 a hm)
  refine ⟨by rw [r.1.len, puts_len ep], ?_, fun p hp => ?_⟩
  · obtain ⟨w2, a1, a2, b2⟩ := puts_ok t0 ok is ks vs xs w1 env1 σ env2 b r.1 r.2 off ep
    rw [← a2]
    exact hq w2 _ a1 b2
  · obtain ⟨ok2, t2⟩ := b.ok.loose (o := .tup xs) hp
    obtain ⟨w2, a1, a2, b2⟩ := puts_ok t0 ok is ks vs xs _ env1 σ env2 (b.step ok2 t2) (r.1.imp fun x v q => RvR.step q t2) r.2 off ep
    have := hq w2 _ a1 b2
    rw [a2] at this
    exact this
theorem par_go {E : XK} {t : TA} {es : Es} (hr : Ref C (EW E) (RsR C) t (evRs G es)) {fz is : List Nat} {ks : List Bool} {w0 w : Wd} {env : Env} {σ : L2.St} {o : Out (Fl × Env)} {D : Ends} (ok : w.Ok C) (t0 : w0.To w) (en : EnvR C w env σ) (ow : OwnF w0 env σ) (e : evS G (.par fz is ks es) env w.S = some o) (hq : SCon C E w0 w o D)
    {B : List V → Hp → Prop} (hB : ∀ xs H1, xs.length = is.length → D.nx (setS σ is xs) H1 → (∀ p, H1 p = none → D.nx (setS σ is xs) (upd H1 p (.tup xs))) → B xs H1) : t σ w.H B := by
  simp only [evS] at e
  exact frz_ok (R' := RsR C) hr (fun vs => vs.all noR) (fun a b c d => rs_thw a b c d) (fun a b => ⟨a.1.imp fun x v q => rv_h2 q b, a.2⟩) ok t0 en ow fz e hq.exe fun vs w1 xs b old r e1 => by
    obtain ⟨h1, h2, h3⟩ := par_fin t0 ok b old r e1 hq
    exact hB xs w1.H h1 h2 h3
/-- how the stores of a row of names are made -/
def locNm (sc : Scope) (line : Nat) : Expr → Option Str
  | .Name id pos => if sc.names.lookup id == some .local && pos.line == line then some id else none
  | _ => none
def swNs (sc : Scope) (ts : List Expr) : List Str := ts.filterMap (locNm sc ((ts.head?.map (·.pos.line)).getD 0))
def swp (sc : Scope) (ts vs : List Expr) : Option (Option (List Str)) :=
  if (!(ts.length == 2 || ts.length == 3) || vs.length != ts.length) = true then some none
  else if (vs.any isStar) = true then some none
  else if ((swNs sc ts).length != ts.length || (swNs sc ts).eraseDups.length != (swNs sc ts).length) = true then some none
  else if (vs.all (foldedForSure 8)) = true then some none
  else if (vs.all (constantsAlone 8)) = true then none
  else some (some (swNs sc ts))
def swS (env : PySem.Env) (ts vs : List Expr) : Sem (Option (List Str)) :=
  if (!(ts.length == 2 || ts.length == 3) || vs.length != ts.length || env.blockKind != .function) = true then pure none
  else if (vs.any isStar) = true then pure none
  else if ((swNs env.scope ts).length != ts.length || (swNs env.scope ts).eraseDups.length != (swNs env.scope ts).length) = true then pure none
  else if (vs.all (foldedForSure 8)) = true then pure none
  else if (vs.all (constantsAlone 8)) = true then (do unsupported "assign.tuple-of-constant-expressions:order-of-the-stores"; pure (some (swNs env.scope ts)))
  else pure (some (swNs env.scope ts))
theorem swS_is {env : PySem.Env} {ts vs : List Expr} {k k2 : Nat} {p p2 : Pos} : swappedStores [.Tuple ts k p] (.Tuple vs k2 p2) env = swS env ts vs := by
  unfold swappedStores
  rfl
theorem swp_ok {env : PySem.Env} {ts vs : List Expr} {k k2 : Nat} {p p2 : Pos} {r : Option (List Str)} (hk : env.scope.kind = .function) (h : swp env.scope ts vs = some r) : swappedStores [.Tuple ts k p] (.Tuple vs k2 p2) env = pure r := by
  have hb : env.blockKind = .function := by unfold Env.blockKind; rw [hk]; rfl
  have e0 : (env.blockKind != .function) = false := by rw [hb]; rfl
  rw [swS_is]
  unfold swp at h
  unfold swS
  rw [e0, Bool.or_false]
  by_cases h1 : (!(ts.length == 2 || ts.length == 3) || vs.length != ts.length) = true
  · rw [if_pos h1] at h ⊢
    cases h
    rfl
  rw [if_neg h1] at h ⊢
  by_cases h2 : (vs.any isStar) = true
  · rw [if_pos h2] at h ⊢
    cases h
    rfl
  rw [if_neg h2] at h ⊢
  by_cases h3 : ((swNs env.scope ts).length != ts.length || (swNs env.scope ts).eraseDups.length != (swNs env.scope ts).length) = true
  · rw [if_pos h3] at h ⊢
    cases h
    rfl
  rw [if_neg h3] at h ⊢
  by_cases h4 : (vs.all (foldedForSure 8)) = true
  · rw [if_pos h4] at h ⊢
    cases h
    rfl
  rw [if_neg h4] at h ⊢
  by_cases h5 : (vs.all (constantsAlone 8)) = true
  · rw [if_pos h5] at h
    cases h
  rw [if_neg h5] at h ⊢
  cases h
  rfl
theorem nms_len : ∀ {is : List Nat} {as : List Expr}, nmsC N sc is as = true → is.length = as.length
  | [], [], _ => rfl
  | [], _ :: _, h => by cases h
  | _ :: _, [], h => by simp [nmsC] at h
  | i :: is, a :: as, h => by
    cases a <;> simp only [nmsC, Bool.and_eq_true] at h <;> try (cases h; done)
    rw [List.length_cons, List.length_cons, nms_len h.2]
theorem ss_par {fz is : List Nat} {ks : List Bool} {es : Es} {ts vs : List Expr} {k k2 : Nat} {p p2 : Pos} (h : SR C P G N sc vs (evRs G es)) (hn : nmsC N sc is ts = true) (hr : swp sc ts vs = some none) (hts : Nat.ble ts.length 64 = true) : SS C P G N sc (.Assign [.Tuple ts k p] (.Tuple vs k2 p2) pos) (evS G (.par fz is ks es)) := fun E => by
  obtain ⟨t, r, q⟩ := h (EW E)
  have set_nms : ∀ (is : List Nat) (xs : List V) (σ : L2.St) (H : Hp) (Q : L2.St → Hp → Prop), xs.length = is.length → Q (setS σ is xs) H → gNms is xs σ H Q := by
    intro is
    induction is with
    | nil =>
      intro xs σ H Q hl h
      cases xs with
      | nil => exact ⟨rfl, h⟩
      | cons _ _ => cases hl
    | cons i is ih =>
      intro xs σ H Q hl h
      cases xs with
      | nil => cases hl
      | cons x xs => exact ⟨x, xs, rfl, ih xs _ H Q (by simpa using hl) h⟩
  refine ⟨tAsg (tTup t) (gTup C.K is.length (gNms is)), fun w0 w env σ o D ok t0 en ow e hq => ?_, fun X hX => ?_⟩
  · refine par_go r ok t0 en ow e hq fun xs H1 h1 h2 h3 => ⟨?_, fun l hl => ?_⟩
    · have : xs.length < 2 ^ 20 := by
        have a1 : is.length = ts.length := (nms_len hn)
        have a2 := Nat.le_of_ble_eq_true hts
        rw [h1, a1]
        omega
      rw [sizeLine_eq]
      omega
    · exact ⟨l, xs, rfl, .inl (.inl upd_same), h1, set_nms is xs σ _ _ h1 (h3 l hl)⟩
  · have hk := hX.at'.1.K
    refine ps_asg (pe_tup (q X hX.at')) (by rw [← hk]; exact pg_tup hX.at'.1.calm (pgs_nms hn hX.at'.2.1 hX.at'.1.nd hX.at'.2.2 fun i hii n hnn => gs_fn hX (nms_loc hn hii hnn)) (each_nms hn).1 (each_nms hn).2) rfl ?_
    exact swp_ok hX.kind (by rw [hX.at'.2.2]; exact hr)
end
end G

-- GR
set_option maxRecDepth 100000
set_option maxHeartbeats 2000000
namespace G
open PySem L2 LamX PyProof.Rows
section
variable {C : Cxt} {P : Pr} {G : Gam} {N : List Str} {sc : Scope} {x y z : Expr} {pos : Pos}
/-! ### stores from the right -/
theorem ss_par2 {fz : List Nat} {i j : Nat} {ks : List Bool} {es : Es} {a b : Expr} {n m : Str} {px py : Pos} {k k2 : Nat} {p p2 : Pos} (h : SR C P G N sc [a, b] (evRs G es)) (hi : N[i]? = some n) (hj : N[j]? = some m) (hij : i ≠ j) (h1 : sc.names.lookup n = some .local) (h2 : sc.names.lookup m = some .local)
    (hr : swp sc [.Name n px, .Name m py] [a, b] = some (some [n, m])) : SS C P G N sc (.Assign [.Tuple [.Name n px, .Name m py] k p] (.Tuple [a, b] k2 p2) pos) (evS G (.par fz [i, j] ks es)) := fun E => by
  obtain ⟨t, r, q⟩ := h (EW E)
  refine ⟨tPar i j t, fun w0 w env σ o D ok t0 en ow e hq => par_go r ok t0 en ow e hq fun xs H1 h1 h2 h3 => ?_, fun X hX => ?_⟩
  · match xs, h1 with
    | [u, v], _ => exact ⟨u, v, rfl, h2⟩
  · have e1 := hX.at'.2.1
    have e2 := hX.at'.2.2
    exact ps_par hX.at'.1.calm hX.at'.1.nd (by rw [e1]; exact hi) (by rw [e1]; exact hj) hij (by rw [e2]; exact h1) (by rw [e2]; exact h2) (q X hX.at') (swp_ok hX.kind (by rw [e2]; exact hr)) rfl
theorem ss_par3 {fz : List Nat} {i j l : Nat} {ks : List Bool} {es : Es} {a b c : Expr} {n m u : Str} {px py pz : Pos} {k k2 : Nat} {p p2 : Pos} (h : SR C P G N sc [a, b, c] (evRs G es)) (hi : N[i]? = some n) (hj : N[j]? = some m) (hl : N[l]? = some u) (hij : i ≠ j) (hil : i ≠ l) (hjl : j ≠ l)
    (h1 : sc.names.lookup n = some .local) (h2 : sc.names.lookup m = some .local) (h3 : sc.names.lookup u = some .local)
    (hr : swp sc [.Name n px, .Name m py, .Name u pz] [a, b, c] = some (some [n, m, u])) : SS C P G N sc (.Assign [.Tuple [.Name n px, .Name m py, .Name u pz] k p] (.Tuple [a, b, c] k2 p2) pos) (evS G (.par fz [i, j, l] ks es)) := fun E => by
  obtain ⟨t, r, q⟩ := h (EW E)
  refine ⟨tPar3 i j l t, fun w0 w env σ o D ok t0 en ow e hq => par_go r ok t0 en ow e hq fun xs H1 h1 h2 h3 => ?_, fun X hX => ?_⟩
  · match xs, h1 with
    | [u, v, z], _ => exact ⟨u, v, z, rfl, h2⟩
  · have e1 := hX.at'.2.1
    have e2 := hX.at'.2.2
    exact ps_par3 hX.at'.1.calm hX.at'.1.nd (by rw [e1]; exact hi) (by rw [e1]; exact hj) (by rw [e1]; exact hl) hij hil hjl (by rw [e2]; exact h1) (by rw [e2]; exact h2) (by rw [e2]; exact h3) (q X hX.at') (swp_ok hX.kind (by rw [e2]; exact hr)) rfl
/-! ### lists that change -/
theorem isL_ok {w : Wd} {env : Env} {σ : L2.St} {i : Nat} (ok : w.Ok C) (en : EnvR C w env σ) {u : Unit} (h : isL env i = some u) : ∃ a vs, σ[i]? = some (some (.ref a)) ∧ w.H a = some (.lst vs) := by
  unfold isL at h
  split at h
  · rename_i xs hi
    obtain ⟨a, e1, nf, nr, vs, hv, dv⟩ := en.at_ i _ hi
    exact ⟨a, vs, e1, hv⟩
  · rename_i n hi
    obtain ⟨x, e1, a, h1, rfl⟩ := en.at_ i _ hi
    have hs : n < w.S.length := by rw [← ok.len]; exact (List.getElem?_eq_some_iff.mp h1).1
    obtain ⟨_, _, q⟩ := ok.obj n a _ h1 (List.getElem?_eq_getElem hs)
    cases z : w.S[n] with
    | lst xs =>
      rw [z] at q
      obtain ⟨vs, hv, _⟩ := q
      exact ⟨a, vs, e1, hv⟩
    | dct _ =>
      rw [z] at q
      exact q.elim
  · cases h
theorem chg_ok {w0 w w1 : Wd} {env : Env} {σ : L2.St} {i : Nat} {f : List D → Option (List D)} {okb : Bool} {o : Out Env} (b : Bh C w0 w w1 env σ) (e : chg env i f okb w1.S = some o) (hf : ∀ xs ys, f xs = some ys → okb = true → noLs xs = true → noLs ys = true) :
    ∃ env' S', o = .ok env' S' ∧ ∃ a vs xs ys, σ[i]? = some (some (.ref a)) ∧ w1.H a = some (.lst vs) ∧ DpAll C.K w1.F vs xs ∧ f xs = some ys ∧ ∀ us, DpAll C.K w1.F us ys → ∃ w2, w2.S = S' ∧ w2.H = upd w1.H a (.lst us) ∧ Bh C w0 w w2 env' σ := by
  unfold chg at e
  split at e
  · rename_i xs hi
    cases q : f xs with
    | none => rw [q] at e; cases e
    | some ys =>
      rw [q] at e
      cases e
      obtain ⟨a, e1, nf, nr, vs, hv, dv⟩ := b.en.at_ i _ hi
      exact ⟨_, _, rfl, a, vs, xs, ys, e1, hv, dv, q, fun us h => ⟨{ w1 with H := upd w1.H a (.lst us) }, rfl, rfl, b.chgO hi e1 hv h⟩⟩
  · rename_i n hi
    split at e
    · rename_i xs hS
      split at e
      · rename_i hok
        cases q : f xs with
        | none => rw [q] at e; cases e
        | some ys =>
          rw [q] at e
          cases e
          obtain ⟨x, e1, a, h1, rfl⟩ := b.en.at_ i _ hi
          obtain ⟨_, nl, vs, hv, dv⟩ := b.ok.obj n a _ h1 hS
          exact ⟨_, _, rfl, a, vs, xs, ys, e1, hv, dv, q, fun us h => ⟨{ w1 with S := w1.S.set n (.lst ys), H := upd w1.H a (.lst us) }, rfl, rfl, b.chgL h1 hS hv h (hf _ _ q hok nl)⟩⟩
      · cases e
    · cases e
  · cases e
theorem noLs_app : ∀ {xs ys : List D}, noLs xs = true → noLs ys = true → noLs (xs ++ ys) = true
  | [], _, _, h => h
  | x :: xs, ys, h, h' => by
    have h : noL x = true ∧ noLs xs = true := by simpa [noLs] using h
    show (noL x && noLs (xs ++ ys)) = true
    rw [h.1, noLs_app h.2 h']
    rfl
theorem noLs_set : ∀ {xs : List D} {d : D} (n : Nat), noLs xs = true → noL d = true → noLs (xs.set n d) = true
  | [], _, _, h, _ => by simpa using h
  | x :: xs, d, 0, h, h' => by
    have h : noL x = true ∧ noLs xs = true := by simpa [noLs] using h
    show (noL d && noLs xs) = true
    rw [h', h.2]
    rfl
  | x :: xs, d, n + 1, h, h' => by
    have h : noL x = true ∧ noLs xs = true := by simpa [noLs] using h
    show (noL x && noLs (xs.set n d)) = true
    rw [h.1, noLs_set n h.2 h']
    rfl
theorem noLs_drop : ∀ {xs : List D}, noLs xs = true → noLs xs.dropLast = true
  | [], h => h
  | [x], h => rfl
  | x :: y :: xs, h => by
    have h : noL x = true ∧ noLs (y :: xs) = true := by simpa [noLs] using h
    show (noL x && noLs (y :: xs).dropLast) = true
    rw [h.1, noLs_drop h.2]
    rfl
theorem bnd_ok2 {α β : Type} {m : M α} {k : α → M β} {S : Sto} {o : Out β} (h : bnd m k S = some o) : ∃ r, m S = some r ∧ (match r with | .ok a S1 => k a S1 = some o | .ex c p S1 => o = .ex c p S1) := by
  unfold bnd at h
  split at h
  · cases h
  · rename_i a S1 q
    exact ⟨_, q, h⟩
  · rename_i c p S1 q
    cases h
    exact ⟨_, q, rfl⟩
theorem ss_app {fz : List Nat} {i : Nat} {a : E} {n : Str} {p2 ap p : Pos} (h : SE C P G N sc x (ev G a)) (hN : N[i]? = some n) (hv : vis sc n = true) (ho : nmOk n = true) (hs : isStar x = false) (hp : plainLine ap p = true) :
    SS C P G N sc (.Expr (.Call (.Attribute (.Name n p2) "append" ap) [x] [] p) pos) (evS G (.app fz i a)) := fun E => by
  obtain ⟨t, r, q⟩ := h (EW E)
  simp only [nmOk, Bool.and_eq_true, Bool.not_eq_true'] at ho
  refine ⟨tDrop (tBM C.K "list" rAppend (tVar i) (tCons t tNil)), fun w0 w env σ o D ok t0 en ow e hq => ?_, fun X hX => ?_⟩
  · simp only [evS] at e
    obtain ⟨u, hu, e⟩ := bnd_lft e
    obtain ⟨l, vs0, e0, h0⟩ := isL_ok ok en hu
    refine ⟨_, e0, .inl ⟨rfl, vs0, SqL.of h0⟩, ?_⟩
    rw [evX_bnd] at e
    refine x_ok r ok t0 en ow fz e hq.exe fun v w1 xv b old rv e1 => ?_
    obtain ⟨d, ed, e2⟩ := bnd_lft e1
    obtain ⟨w2, a1, a2, b2, hv2⟩ := b.val t0 ok old rv
    rw [toD_toV ed] at hv2
    rw [← a1] at e2
    obtain ⟨r1, e3, e4⟩ := bnd_ok2 e2
    obtain ⟨env', S', rfl, a, vs, xs, ys, c1, c2, c3, c4, c5⟩ := chg_ok b2 e3 (fun xs ys h1 h2 h3 => by
      split at h1
      · cases h1
        exact noLs_app h3 (by simp [noLs, h2])
      · cases h1)
    rw [e0] at c1
    cases c1
    split at c4
    · rename_i hlt
      cases c4
      obtain ⟨w3, d1, d2, d3⟩ := c5 (vs ++ [xv]) (dpAll_snoc c3 hv2)
      refine ⟨l, vs, xv, rfl, rfl, by rw [← a2]; exact c2, by rw [dpAll_len c3]; exact hlt, ?_⟩
      cases e4
      rw [← a2, ← d2]
      exact hq w3 σ d1 d3
    · cases c4
  · have e1 := hX.at'.2.1
    have e2 := hX.at'.2.2
    rw [← hX.at'.1.K]
    exact ps_expr (pe_bm PySem.F.plainAttrs_list PySem.F.slot_list_append PySem.F.type_list_append mt_append (pe_var (by rw [e1]; exact hN) (by rw [e2]; exact vis_ok hv) ho.1 ho.2) (pa_cons (q X hX.at') pa_nil (star_ok hs)) rfl (by rw [star_ok hs]; rfl) hp (star_ok hs) rfl) rfl
theorem ss_ext {fz : List Nat} {i : Nat} {a : E} {n : Str} {p2 ap p : Pos} (h : SE C P G N sc x (ev G a)) (hN : N[i]? = some n) (hv : vis sc n = true) (ho : nmOk n = true) (hs : isStar x = false) (hp : plainLine ap p = true) :
    SS C P G N sc (.Expr (.Call (.Attribute (.Name n p2) "extend" ap) [x] [] p) pos) (evS G (.ext fz i a)) := fun E => by
  obtain ⟨t, r, q⟩ := h (EW E)
  simp only [nmOk, Bool.and_eq_true, Bool.not_eq_true'] at ho
  refine ⟨tDrop (tBM C.K "list" rExtend (tVar i) (tCons t tNil)), fun w0 w env σ o D ok t0 en ow e hq => ?_, fun X hX => ?_⟩
  · simp only [evS] at e
    obtain ⟨u, hu, e⟩ := bnd_lft e
    obtain ⟨l, vs0, e0, h0⟩ := isL_ok ok en hu
    refine ⟨_, e0, .inl ⟨rfl, vs0, SqL.of h0⟩, ?_⟩
    rw [evX_bnd] at e
    refine x_ok r ok t0 en ow fz e hq.exe fun v w1 xv b old rv e1 => ?_
    cases v with
    | vl _ => cases e1
    | new zs =>
      simp only at e1
      obtain ⟨p', us, rfl, h2, h3, h4, h5, h6⟩ := rv
      obtain ⟨r1, e3, e4⟩ := bnd_ok2 e1
      obtain ⟨env', S', rfl, a, vs, xs, ys, c1, c2, c3, c4, c5⟩ := chg_ok b e3 (fun xs ys h1 h2 h3 => by
        split at h1
        · cases h1
          exact noLs_app h3 h2
        · cases h1)
      rw [e0] at c1
      cases c1
      split at c4
      · rename_i hlt
        cases c4
        obtain ⟨w3, d1, d2, d3⟩ := c5 (vs ++ us) (dpAll_app c3 h6)
        refine ⟨l, p', vs, us, rfl, rfl, c2, h2, by rw [dpAll_len c3, dpAll_len h6]; exact hlt, ?_⟩
        cases e4
        rw [← d2]
        exact hq w3 σ d1 d3
      · cases c4
  · have e1 := hX.at'.2.1
    have e2 := hX.at'.2.2
    rw [← hX.at'.1.K]
    exact ps_expr (pe_bm PySem.F.plainAttrs_list PySem.F.slot_list_extend PySem.F.type_list_extend mt_extend (pe_var (by rw [e1]; exact hN) (by rw [e2]; exact vis_ok hv) ho.1 ho.2) (pa_cons (q X hX.at') pa_nil (star_ok hs)) rfl (by rw [star_ok hs]; rfl) hp (star_ok hs) rfl) rfl
theorem dpAll_dropLast {K : PySem.W.Frag} {F : Hp} {ds : List D} {vs : List V} (h : DpAll K F vs ds) : DpAll K F vs.dropLast ds.dropLast := by
  rw [List.dropLast_eq_take, List.dropLast_eq_take, dpAll_len h]
  exact dpAll_take _ h
theorem ss_pop {i : Nat} {n : Str} {p2 ap p : Pos} (hN : N[i]? = some n) (hv : vis sc n = true) (ho : nmOk n = true) (hp : plainLine ap p = true) :
    SS C P G N sc (.Expr (.Call (.Attribute (.Name n p2) "pop" ap) [] [] p) pos) (evS G (.pop i)) := fun E => by
  simp only [nmOk, Bool.and_eq_true, Bool.not_eq_true'] at ho
  refine ⟨tDrop (tBM0 C.K "list" rPop (tVar i)), fun w0 w env σ o D ok t0 en ow e hq => ?_, fun X hX => ?_⟩
  · simp only [evS] at e
    obtain ⟨r1, e3, e4⟩ := bnd_ok2 e
    obtain ⟨env', S', rfl, a, vs, xs, ys, c1, c2, c3, c4, c5⟩ := chg_ok (.refl ok t0 en ow) e3 (fun xs ys h1 h2 h3 => by
      split at h1
      · cases h1
      · cases h1
        exact noLs_drop h3)
    split at c4
    · cases c4
    · rename_i hne
      cases c4
      obtain ⟨w3, d1, d2, d3⟩ := c5 vs.dropLast (dpAll_dropLast c3)
      have hl := dpAll_len c3
      have hpos : 0 < vs.length := by
        rw [hl]
        cases xs with
        | nil => exact absurd rfl hne
        | cons _ _ => simp
      refine ⟨_, c1, .inl ⟨rfl, vs, SqL.of c2⟩, a, vs, vs[vs.length - 1], rfl, rfl, c2, List.getElem?_eq_getElem (by omega), ?_⟩
      cases e4
      rw [← d2]
      exact hq w3 σ d1 d3
  · have e1 := hX.at'.2.1
    have e2 := hX.at'.2.2
    rw [← hX.at'.1.K]
    exact ps_expr (pe_bm0 PySem.F.plainAttrs_list PySem.F.slot_list_pop PySem.F.type_list_pop mt_pop (pe_var (by rw [e1]; exact hN) (by rw [e2]; exact vis_ok hv) ho.1 ho.2) rfl hp) rfl
theorem ss_set {fz : List Nat} {i : Nat} {a k : E} {n : Str} {p2 p : Pos} (h : SE C P G N sc x (ev G a)) (hk : SE C P G N sc y (ev G k)) (hN : N[i]? = some n) (hv : vis sc n = true) (ho : nmOk n = true) (hc : isComp x = false) (hy : isSlice y = false) :
    SS C P G N sc (.Assign [.Subscript (.Name n p2) y p] x pos) (evS G (.set fz i k a)) := fun E => by
  obtain ⟨t, r, q⟩ := h (EW E)
  obtain ⟨tk, rk, qk⟩ := hk (EW E)
  simp only [nmOk, Bool.and_eq_true, Bool.not_eq_true'] at ho
  refine ⟨tAsg t (L2.gSub (tVar i) tk rSetL), fun w0 w env σ o D ok t0 en ow e hq => ?_, fun X hX => ?_⟩
  · simp only [evS] at e
    obtain ⟨u, hu, e⟩ := bnd_lft e
    obtain ⟨l, vs0, e0, h0⟩ := isL_ok ok en hu
    rw [evX_bnd] at e
    refine x_ok r ok t0 en ow fz e hq.exe fun v w1 xv b old rv e1 => ?_
    obtain ⟨d, ed, e2⟩ := bnd_lft e1
    obtain ⟨w2, a1, a2, b2, hv2⟩ := b.val t0 ok old rv
    rw [toD_toV ed] at hv2
    rw [← a1] at e2
    rw [← a2]
    refine ⟨_, e0, ?_⟩
    rw [evX_bnd] at e2
    refine x_ok rk b2.ok b2.to b2.en b2.ow fz e2 hq.exe fun kv w3 kx b3 old3 rk3 e3 => ?_
    obtain ⟨dk, edk, e4⟩ := bnd_lft e3
    obtain ⟨kk, ekk, e5⟩ := bnd_lft e4
    obtain ⟨w4, f1, f2, b4, hk4⟩ := b3.val b2.to b2.ok old3 rk3
    rw [toD_toV edk] at hk4
    have hkx := toI_dp hk4 ekk
    subst hkx
    rw [← f1] at e5
    obtain ⟨r1, e6, e7⟩ := bnd_ok2 e5
    obtain ⟨env', S', rfl, a, vs, xs, ys, c1, c2, c3, c4, c5⟩ := chg_ok b4 e6 (fun xs ys h1 h2 h3 => by
      cases q : ixN xs.length kk with
      | none => rw [q] at h1; cases h1
      | some j =>
        rw [q] at h1
        cases h1
        exact noLs_set j h3 h2)
    rw [e0] at c1
    cases c1
    cases qj : ixN xs.length kk with
    | none => rw [qj] at c4; cases c4
    | some j =>
      rw [qj] at c4
      cases c4
      have hd : Dp C.K w4.F xv d := dp_mono b4.sq.ext hv2
      obtain ⟨w5, d1, d2, d3⟩ := c5 (vs.set j xv) (dpAll_set j c3 hd)
      refine ⟨l, vs, kk, j, rfl, rfl, by rw [← f2]; exact c2, by rw [dpAll_len c3]; exact qj, ?_⟩
      cases e7
      rw [← f2, ← d2]
      exact hq w5 σ d1 (.after (b2.sq) d3)
  · have e1 := hX.at'.2.1
    have e2 := hX.at'.2.2
    refine ps_asg (q X hX.at') (pg_sub (pe_var (by rw [e1]; exact hN) (by rw [e2]; exact vis_ok hv) ho.1 ho.2) (qk X hX.at') set_list (fun v => ?_)) ?_ rfl rfl
    · cases y <;> first | rfl | cases hy
    · cases x <;> first | rfl | cases hc
theorem upd_twice {H : Hp} {a : Addr} {x y : HO} : upd (upd H a x) a y = upd H a y := by
  funext b
  by_cases e : b = a
  · rw [e, upd_same, upd_same]
  · rw [upd_ne e, upd_ne e, upd_ne e]
theorem thaw_nil {env : Env} {b : Bool} : thaw [] env b = env := by cases b <;> rfl
theorem ss_set2 {i : Nat} {k l : Int} {a b : E} {n : Str} {j1 j2 k1 k2 : Nat} {p1 p2 p3 p4 p5 p6 p7 p8 : Pos} (ha : SE C P G N sc x (ev G a)) (hb : SE C P G N sc y (ev G b)) (hN : N[i]? = some n) (hv : vis sc n = true) (ho : nmOk n = true) (hx : isStar x = false) (hy : isStar y = false) :
    SS C P G N sc (.Assign [.Tuple [.Subscript (.Name n p1) (.Constant (.int k) j1 p2) p3, .Subscript (.Name n p4) (.Constant (.int l) j2 p5) p6] k1 p7] (.Tuple [x, y] k2 p8) pos) (evS G (.set2 i k l a b)) := fun E => by
  obtain ⟨ta, ra, pa⟩ := ha (EW E)
  obtain ⟨tb, rb, pb⟩ := hb (EW E)
  simp only [nmOk, Bool.and_eq_true, Bool.not_eq_true'] at ho
  refine ⟨tAsg (tTup (tCons ta (tCons tb tNil))) (gTup C.K 2 (gCons (L2.gSub (tVar i) (tC (.int k)) rSetL) (gCons (L2.gSub (tVar i) (tC (.int l)) rSetL) gNil))), fun w0 w env σ o D ok t0 en ow e hq => ?_, fun X hX => ?_⟩
  · simp only [evS] at e
    obtain ⟨u, hu, e⟩ := bnd_lft e
    obtain ⟨c, vs0, e0, h0⟩ := isL_ok ok en hu
    refine x_ok ra ok t0 en ow [] e hq.exe fun v w1 xv b1 _ rv e1 => ?_
    rw [thaw_nil] at b1
    obtain ⟨d, ed, e2⟩ := bnd_lft e1
    refine x_ok rb b1.ok b1.to b1.en b1.ow [] e2 hq.exe fun v2 w2 yv b2 _ rv2 e3 => ?_
    rw [thaw_nil] at b2
    obtain ⟨d2, ed2, e4⟩ := bnd_lft e3
    split at e4
    · rename_i hno
      have vd : ∀ {v : RV} {d : PyData}, v.toD = some d → noL d = true → v = .d d := fun {v d} h n => by
        cases v with
        | vl u => cases u <;> cases h; rfl
        | new zs => cases h; cases n
      have hv1 := vd ed hno.1
      have hv2 := vd ed2 hno.2
      subst hv1 hv2
      have dx : Dp C.K w2.F xv d := dp_mono b2.sq.ext rv
      have dy : Dp C.K w2.F yv d2 := rv2
      refine ⟨by show 2 ≤ sizeLine; decide, fun q hq1 => ?_⟩
      obtain ⟨ok3, t3⟩ := b2.ok.loose (o := .tup [xv, yv]) hq1
      have b3 := b2.step ok3 t3
      obtain ⟨r1, e5, e6⟩ := bnd_ok2 (S := w2.S) e4
      obtain ⟨env', S', rfl, c', vs, xs, ys, c1, c2, c3, c4, c5⟩ := chg_ok b3 e5 (fun xs ys h1 _ h3 => by
        cases q1 : ixN xs.length k with
        | none => rw [q1] at h1; cases h1
        | some p =>
          rw [q1] at h1
          cases q2 : ixN xs.length l with
          | none => simp only [q2] at h1; cases h1
          | some q =>
            simp only [q2] at h1
            cases h1
            exact noLs_set q (noLs_set p h3 hno.1) hno.2)
      rw [e0] at c1
      cases c1
      cases q1 : ixN xs.length k with
      | none => rw [q1] at c4; cases c4
      | some p =>
        rw [q1] at c4
        cases q2 : ixN xs.length l with
        | none => simp only [q2] at c4; cases c4
        | some q' =>
          simp only [q2] at c4
          cases c4
          have lv := dpAll_len c3
          obtain ⟨w5, d1, d3, d4⟩ := c5 ((vs.set p xv).set q' yv) (dpAll_set q' (dpAll_set p c3 (dp_mono t3.ext dx)) (dp_mono t3.ext dy))
          have hc2 : upd w2.H q (.tup [xv, yv]) c = some (.lst vs) := c2
          refine ⟨q, [xv, yv], rfl, .inl (.inl upd_same), rfl, _, _, rfl, ⟨_, e0, c, vs, k, p, rfl, rfl, hc2, by rw [lv]; exact q1, _, _, rfl, ⟨_, e0, c, vs.set p xv, l, q', rfl, rfl, upd_same, by rw [List.length_set, lv]; exact q2, rfl, ?_⟩⟩⟩
          rw [upd_twice]
          cases e6
          have := hq w5 σ d1 (.after b1.sq d4)
          rw [d3] at this
          exact this
    · cases e4
  · have e1 := hX.at'.2.1
    have e2 := hX.at'.2.2
    have pv : ∀ {p : Pos}, PE X (.Name n p) (tVar i) := fun {p} => pe_var (by rw [e1]; exact hN) (by rw [e2]; exact vis_ok hv) ho.1 ho.2
    have hk := hX.at'.1.K
    rw [← hk]
    exact ps_asg (pe_tup (pa_cons (pa X hX.at') (pa_cons (pb X hX.at') pa_nil (star_ok hy)) (star_ok hx))) (pg_tup hX.at'.1.calm (pgs_cons (pg_sub pv pe_int set_list) (pgs_cons (pg_sub pv pe_int set_list) pgs_nil)) rfl rfl) rfl (swp_ok hX.kind (by unfold swp; simp [swNs, hx, hy]; exact fun h => absurd (show (0 : Nat) = 2 from h) (by decide)))
end
end G

-- GS
set_option maxRecDepth 100000
set_option maxHeartbeats 2000000
namespace G
open PySem L2 LamX PyProof.Rows
section
variable {C : Cxt} {P : Pr} {G : Gam} {N : List Str} {sc : Scope} {x y z : Expr} {pos : Pos}
/-! ### raise -/
theorem ss_rai {c j : Nat} {m n : Str} {p p2 pos' : Pos} (hn : n = P.cn c) (hg : glb sc n = true) (hc : P.cl.contains c = true) : SS C P G N sc (.Raise (some (.Call (.Name n p) [.Constant (.str m) j p2] [] pos)) none pos') (evS G (.rai c m)) := fun E => by
  refine ⟨fun _ _ H => E (.ref (C.ca c)) none H, fun w0 w env σ o D ok t0 en ow e hq => ?_, fun X hX => ?_⟩
  · simp only [evS] at e
    cases e
    exact hq w none rfl ok t0 rfl
  · obtain ⟨B, newId, initId, bmB, a1, a2, a3, a4, a5⟩ := hX.ex c (List.contains_iff_mem.mp hc)
    obtain ⟨b1, b2, b3⟩ := glb_ok hg hX.at'.2.2
    subst hn
    have := L2N.ps_raise (pos := pos') hX.at'.1.calm hX.at'.1.tk (L2N.pmk_own (x := P.cn c) (m := m) (j := j) (p := p) (p2 := p2) (pos := pos) a1 a2 a3 a4 a5 b1 b2)
    exact this
/-! ### which statements a term tells -/
theorem ch_sec (hd : C.dm = P.dom) (hLP : ∀ X, C.LP X → LamOk C.T C.ca X) (har : ∀ g ∈ P.dom, ∀ as S o, G g as S = some o → as.length = P.ar g) {e : E} (h : ch P N sc false e x = true) (hc : isComp x = true) : SEc C P G N sc x (ev G e) := by
  have K := okn (C := C) (P := P) (G := G) hd hLP har
  rw [← wl_self (P := P)] at h
  unfold ch at h
  split at h
  all_goals try (cases hc; done)
  · simp only [Bool.and_eq_true, Bool.not_eq_true'] at h
    obtain ⟨⟨⟨⟨⟨⟨⟨⟨h1, h2⟩, h3⟩, h4⟩, h5⟩, h6⟩, h7⟩, h8⟩, h9⟩ := h
    rename_i it tg own c e elt t i ifs scope pos
    obtain ⟨i1, i2⟩ := (K (sizeOf it + 1)).i P.lam N it (by omega) _ _ _ h2
    rw [wl_self] at i1
    exact se_compS i1.si i2 h3 h4 h5 h6 h7 ((K (sizeOf c + 1)).c false N c (by omega) _ _ h8) (((K (sizeOf e + 1)).e false N e (by omega) _ _ _ h9).1 rfl)
  · simp only [Bool.and_eq_true, Bool.not_eq_true'] at h
    obtain ⟨⟨⟨⟨⟨⟨⟨h1, h2⟩, h3⟩, h4⟩, h5⟩, h6⟩, h7⟩, ⟨⟨⟨⟨g1, g2⟩, g3⟩, g4⟩, g5⟩, g6⟩ := h
    rename_i it tg it2 tg2 own own2 e elt t i t2 i2 scope pos
    obtain ⟨i1, i2⟩ := (K (sizeOf it + 1)).i P.lam N it (by omega) _ _ _ h2
    obtain ⟨j1, j2⟩ := (K (sizeOf it2 + 1)).i false N it2 (by omega) _ _ _ g1
    rw [wl_self] at i1
    exact se_comp2S i1.si i2 h3 h4 h5 h6 h7 j1.si j2 g2 g3 g4 g5 (((K (sizeOf e + 1)).e false N e (by omega) _ _ _ g6).1 rfl)
  · cases h
theorem ch_lc {m : Bool} {e : E} (h : ch P N sc m e x = true) (hc : isComp x = true) : ∃ a b c d, x = .ListComp a b c d := by
  unfold ch at h
  split at h
  all_goals first | (cases hc; done) | exact ⟨_, _, _, _, rfl⟩ | cases h
theorem ch_sn (hd : C.dm = P.dom) (hLP : ∀ X, C.LP X → LamOk C.T C.ca X) (har : ∀ g ∈ P.dom, ∀ as S o, G g as S = some o → as.length = P.ar g) {e : E} {i : Nat} {n : Str} {py : Pos} (h : ch P N sc false e x = true) (hN : decide (N[i]? = some n) = true) (hl : loc sc n = true) : SN C P G N sc (.Assign [.Name n py] x pos) i (ev G e) := by
  cases hc : isComp x with
  | false => exact sn_of (ch_se hd hLP har h) (dec_eq hN) hl hc
  | true =>
    obtain ⟨a1, a2, a3, a4, rfl⟩ := ch_lc h hc
    exact sn_comp (ch_sec hd hLP har h hc) (dec_eq hN) hl
theorem chs_sr (hd : C.dm = P.dom) (hLP : ∀ X, C.LP X → LamOk C.T C.ca X) (har : ∀ g ∈ P.dom, ∀ as S o, G g as S = some o → as.length = P.ar g) : ∀ {es : Es} {xs : List Expr}, chs P N sc false es xs = true → SR C P G N sc xs (evRs G es)
  | .nil, [], _ => sr_nil
  | .cons e es, x :: xs, h => by
    simp only [chs, Bool.and_eq_true] at h
    exact sr_cons (ch_se hd hLP har h.1) (chs_sr hd hLP har h.2) (ch_star h.1)
  | .nil, _ :: _, h => by simp [chs] at h
  | .cons _ _, [], h => by simp [chs] at h
def parC (N : List Str) (sc : Scope) (is : List Nat) (ts vs : List Expr) : Bool := match swp sc ts vs with
  | some none => nmsC N sc is ts && Nat.ble ts.length 64
  | some (some ns) => match is, ts, vs with
    | [i, j], [.Name n _, .Name m _], [_, _] => decide (ns = [n, m]) && decide (N[i]? = some n) && decide (N[j]? = some m) && !Nat.beq i j && decide (sc.names.lookup n = some .local) && decide (sc.names.lookup m = some .local)
    | [i, j, l], [.Name n _, .Name m _, .Name u _], [_, _, _] => decide (ns = [n, m, u]) && decide (N[i]? = some n) && decide (N[j]? = some m) && decide (N[l]? = some u) && !Nat.beq i j && !Nat.beq i l && !Nat.beq j l &&
      decide (sc.names.lookup n = some .local) && decide (sc.names.lookup m = some .local) && decide (sc.names.lookup u = some .local)
    | _, _, _ => false
  | none => false
theorem beq_ne {i j : Nat} (h : Nat.beq i j = false) : i ≠ j := fun e => by
  subst e
  rw [Nat.beq_refl] at h
  cases h
theorem par_ok {fz is : List Nat} {ks : List Bool} {es : Es} {ts vs : List Expr} {k k2 : Nat} {p p2 : Pos} (h : SR C P G N sc vs (evRs G es)) (hp : parC N sc is ts vs = true) : SS C P G N sc (.Assign [.Tuple ts k p] (.Tuple vs k2 p2) pos) (evS G (.par fz is ks es)) := by
  unfold parC at hp
  split at hp
  · rename_i hr
    simp only [Bool.and_eq_true] at hp
    exact ss_par h hp.1 hr hp.2
  · rename_i ns hr
    split at hp
    · simp only [Bool.and_eq_true, Bool.not_eq_true'] at hp
      obtain ⟨⟨⟨⟨⟨h1, h2⟩, h3⟩, h4⟩, h5⟩, h6⟩ := hp
      have h1 := dec_eq h1
      subst h1
      exact ss_par2 h (dec_eq h2) (dec_eq h3) (beq_ne h4) (dec_eq h5) (dec_eq h6) hr
    · simp only [Bool.and_eq_true, Bool.not_eq_true'] at hp
      obtain ⟨⟨⟨⟨⟨⟨⟨⟨⟨h1, h2⟩, h3⟩, h4⟩, h5⟩, h6⟩, h7⟩, h8⟩, h9⟩, h10⟩ := hp
      have h1 := dec_eq h1
      subst h1
      exact ss_par3 h (dec_eq h2) (dec_eq h3) (dec_eq h4) (beq_ne h5) (beq_ne h6) (beq_ne h7) (dec_eq h8) (dec_eq h9) (dec_eq h10) hr
    · cases hp
  · cases hp
mutual
def chS (P : Pr) (N : List Str) (sc : Scope) : S → Stmt → Bool
  | .asg _ i e, .Assign [.Name n _] x _ => decide (N[i]? = some n) && loc sc n && ch P N sc false e x
  | .own _ i e, .Assign [.Name n _] x _ => decide (N[i]? = some n) && loc sc n && ch P N sc false e x
  | .ref _ i e, .Assign [.Name n _] x _ => decide (N[i]? = some n) && loc sc n && ch P N sc false e x
  | .unp _ is e, .Assign [t] x _ => chTg N sc (.tp is) t && ch P N sc false e x && !isTup x
  | .par _ is _ es, .Assign [.Tuple ts _ _] (.Tuple vs _ _) _ => parC N sc is ts vs && chs P N sc false es vs
  | .set _ i a e, .Assign [.Subscript (.Name n _) y _] x _ => decide (N[i]? = some n) && vis sc n && nmOk n && ch P N sc false a y && ch P N sc false e x && !isComp x && !isSlice y
  | .app _ i e, .Expr (.Call (.Attribute (.Name n _) m ap) [x] [] p) _ => decide (m = "append") && decide (N[i]? = some n) && vis sc n && nmOk n && ch P N sc false e x && plainLine ap p
  | .ext _ i e, .Expr (.Call (.Attribute (.Name n _) m ap) [x] [] p) _ => decide (m = "extend") && decide (N[i]? = some n) && vis sc n && nmOk n && ch P N sc false e x && plainLine ap p
  | .set2 i k l a b, .Assign [.Tuple [.Subscript (.Name n _) (.Constant (.int k') _ _) _, .Subscript (.Name m _) (.Constant (.int l') _ _) _] _ _] (.Tuple [x, y] _ _) _ => decide (n = m) && decide (k = k') && decide (l = l') && decide (N[i]? = some n) && vis sc n && nmOk n && ch P N sc false a x && ch P N sc false b y
  | .pop i, .Expr (.Call (.Attribute (.Name n _) m ap) [] [] p) _ => decide (m = "pop") && decide (N[i]? = some n) && vis sc n && nmOk n && plainLine ap p
  | .exp _ e, .Expr x _ => ch P N sc false e x && !isComp x
  | .ret _ e, .Return (some x) _ => ch P N sc false e x
  | .retO i, .Return (some (.Name n _)) _ => decide (N[i]? = some n) && vis sc n && nmOk n
  | .retN, .Return none _ => true
  | .rai c m, .Raise (some (.Call (.Name n _) [.Constant (.str m') _ _] [] _)) none _ => decide (n = P.cn c) && glb sc n && P.cl.contains c && decide (m = m')
  | .ifs _ c a b, .If x sa sb _ => ch P N sc true c x && chSs P N sc a sa && chSs P N sc b sb
  | .fors _ it tg b, .For t x sb [] _ => chI P N sc it x t && chTg N sc tg t && chSs P N sc b sb
  | .whl _ c b, .While x sb [] _ => ch P N sc true c x && chSs P N sc b sb
  | _, _ => false
def chSs (P : Pr) (N : List Str) (sc : Scope) : Ss → List Stmt → Bool
  | .nil, [] => true
  | .cons s r, x :: xs => chS P N sc s x && chSs P N sc r xs
  | _, _ => false
end
structure Okm (C : Cxt) (P : Pr) (G : Gam) (N : List Str) (sc : Scope) (n : Nat) : Prop where
  s : ∀ s : S, sizeOf s < n → ∀ st, chS P N sc s st = true → SS C P G N sc st (evS G s)
  r : ∀ s : Ss, sizeOf s < n → ∀ st, chSs P N sc s st = true → SSs C P G N sc st (evSs G s)
theorem ok_s (hd : C.dm = P.dom) (hLP : ∀ X, C.LP X → LamOk C.T C.ca X) (har : ∀ g ∈ P.dom, ∀ as S o, G g as S = some o → as.length = P.ar g) {n : Nat} (ih : Okm C P G N sc n) (s : S) (hn : sizeOf s < n + 1) (st : Stmt) (h : chS P N sc s st = true) : SS C P G N sc st (evS G s) := by
  unfold chS at h
  split at h
  all_goals try simp only [Bool.and_eq_true, Bool.not_eq_true', S.ifs.sizeOf_spec, S.fors.sizeOf_spec, S.whl.sizeOf_spec] at h hn
  · exact ss_asg (ch_sn hd hLP har h.2 h.1.1 h.1.2)
  · exact ss_own (ch_sn hd hLP har h.2 h.1.1 h.1.2)
  · exact ss_ref (ch_sn hd hLP har h.2 h.1.1 h.1.2)
  · exact ss_unp (ch_se hd hLP har h.1.2) h.1.1 h.2
  · exact par_ok (chs_sr hd hLP har h.2) h.1
  · obtain ⟨⟨⟨⟨⟨⟨h1, h2⟩, h3⟩, h4⟩, h5⟩, h6⟩, h7⟩ := h
    exact ss_set (ch_se hd hLP har h5) (ch_se hd hLP har h4) (dec_eq h1) h2 h3 h6 h7
  · obtain ⟨⟨⟨⟨⟨h1, h2⟩, h3⟩, h4⟩, h5⟩, h6⟩ := h
    have h1 := dec_eq h1
    subst h1
    exact ss_app (ch_se hd hLP har h5) (dec_eq h2) h3 h4 (ch_star h5) h6
  · obtain ⟨⟨⟨⟨⟨h1, h2⟩, h3⟩, h4⟩, h5⟩, h6⟩ := h
    have h1 := dec_eq h1
    subst h1
    exact ss_ext (ch_se hd hLP har h5) (dec_eq h2) h3 h4 (ch_star h5) h6
  · obtain ⟨⟨⟨⟨⟨⟨⟨h1, h2⟩, h3⟩, h4⟩, h5⟩, h6⟩, h7⟩, h8⟩ := h
    have h1 := dec_eq h1
    have h2 := dec_eq h2
    have h3 := dec_eq h3
    subst h1 h2 h3
    exact ss_set2 (ch_se hd hLP har h7) (ch_se hd hLP har h8) (dec_eq h4) h5 h6 (ch_star h7) (ch_star h8)
  · obtain ⟨⟨⟨⟨h1, h2⟩, h3⟩, h4⟩, h5⟩ := h
    have h1 := dec_eq h1
    subst h1
    exact ss_pop (dec_eq h2) h3 h4 h5
  · exact ss_exp (ch_se hd hLP har h.1) fun l env => swaps_no h.2
  · exact ss_ret (ch_se hd hLP har h)
  · exact ss_retO (dec_eq h.1.1) h.1.2 h.2
  · exact ss_retN
  · obtain ⟨⟨⟨h1, h2⟩, h3⟩, h4⟩ := h
    have h4 := dec_eq h4
    subst h4
    exact ss_rai (dec_eq h1) h2 h3
  · exact ss_ifs (ch_st hd hLP har h.1.1) (ih.r _ (by omega) _ h.1.2) (ih.r _ (by omega) _ h.2)
  · rename_i fz it tg b t x sb pos
    obtain ⟨i1, i2⟩ := ((okn (C := C) (P := P) (G := G) hd hLP har (sizeOf it + 1)).i P.lam N it (by omega) _ _ _ (by rw [wl_self]; exact h.1.1))
    rw [wl_self] at i1
    exact ss_fors i1 i2 h.1.2 (ih.r _ (by omega) _ h.2)
  · exact ss_whl (ch_st hd hLP har h.1) (ih.r _ (by omega) _ h.2)
  · cases h
theorem okm (hd : C.dm = P.dom) (hLP : ∀ X, C.LP X → LamOk C.T C.ca X) (har : ∀ g ∈ P.dom, ∀ as S o, G g as S = some o → as.length = P.ar g) : ∀ n, Okm C P G N sc n
  | 0 => ⟨fun _ h => absurd h (by omega), fun _ h => absurd h (by omega)⟩
  | n + 1 => by
    have ih := okm hd hLP har n
    refine ⟨ok_s hd hLP har ih, fun s hn st h => ?_⟩
    cases s with
    | nil =>
      cases st with
      | nil => exact ss_nil
      | cons _ _ => simp [chSs] at h
    | cons s r =>
      cases st with
      | nil => simp [chSs] at h
      | cons x xs =>
        simp only [chSs, Bool.and_eq_true, Ss.cons.sizeOf_spec] at h hn
        exact ss_cons (ih.s s (by omega) x h.1) (ih.r r (by omega) xs h.2)
theorem chSs_ok (hd : C.dm = P.dom) (hLP : ∀ X, C.LP X → LamOk C.T C.ca X) (har : ∀ g ∈ P.dom, ∀ as S o, G g as S = some o → as.length = P.ar g) {s : Ss} {st : List Stmt} (h : chSs P N sc s st = true) : SSs C P G N sc st (evSs G s) := (okm hd hLP har (sizeOf s + 1)).r s (by omega) st h
end
end G

-- GT
set_option maxRecDepth 100000
set_option maxHeartbeats 2000000
namespace G
open PySem L2 LamX PyProof.Rows
/-! ### defs -/
/-- a def: its name, its parameters' number, its names (parameters first), its body -/
structure Df where
  nm : Str
  ar : Nat
  N : List Str
  body : Ss
  lam : Bool := false
def startE (N : List Str) (as : List Vl) : Env := as.map Sl.vl ++ List.replicate (N.length - as.length) .un
noncomputable def runDf (G : Gam) (d : Df) (as : List Vl) : M RV := if as.length = d.ar then bnd (evSs G d.body (startE d.N as)) fun r => endV r.1 else fail
/-- the defs, to the depth d -/
noncomputable def Gm (T : List Df) : Nat → Gam
  | 0 => fun _ _ => fail
  | d + 1 => fun g as => match T[g]? with
    | some f => runDf (Gm T d) f as
    | none => fail
/-! ### all defs keep their promises -/
/-- the written part of a law: T the small language's defs, ds the tree's -/
structure Wl (C : Cxt) (P : Pr) (T : List Df) (ds : List He.DefD) (K : PySem.W.Frag) (mg : Str → Option Value) (base : Heap) : Prop where
  hK : C.K = K
  dm : C.dm = P.dom
  LP : C.LP = LamOk C.T C.ca
  lam : ∀ (g : Nat) (f : Df) (d : He.DefD), T[g]? = some f → ds[g]? = some d → f.lam = true → (∃ (c Pt : Addr) (oc : Value) (od : Option Addr) (fd : FuncData) (osl : Array (Option Value)), K.lookup (C.fa g) = some ⟨oc, od, .func fd, osl⟩ ∧ fd.code = .ref c ∧ LamX.TabB base mg c Pt ∧
    (Pt, d.qual ++ ".<locals>." ++ "<lambda>") ∈ C.T ∧ ∀ p ∈ C.T, p.1 = Pt → p.2 = d.qual ++ ".<locals>." ++ "<lambda>") ∧ ErrOk C.ca K mg
  dom : ∀ g ∈ P.dom, ∃ (f : Df) (d : He.DefD) (fd : FuncData), T[g]? = some f ∧ ds[g]? = some d ∧ P.nm g = d.name ∧ P.ar g = f.ar ∧ mg d.name = some (.ref (C.fa g)) ∧ FunD K d.name d.qual d.params d.body d.scope [] [] (C.fa g) fd
  bl : ∀ x ∈ freeN, mg x = none
  cs : ∀ k ∈ P.cs, ∃ u v, mg (gcon k).1 = some u ∧ RelV v u ∧ ∀ F, Dp C.K F v (gcon k).2
  ex : ∀ c ∈ P.cl, ∃ (B newId initId : String) (bmB : List Value), ExcBaseFacts B newId initId bmB ∧ PySem.W.excIn K (C.ca c) bmB newId = true ∧ mg (P.cn c) = some (.ref (C.ca c)) ∧ PySem.W.keepIn K (.ref (C.ca c)) = true ∧ PySem.W.subIn K (.ref (C.ca c)) (.type "BaseException") = some true ∧ PySem.W.typeIn K (.ref (C.ca c)) = some (.type "type")
/-- a look at one def -/
def chDf (P : Pr) (f : Df) (d : He.DefD) : Bool := plainP d.params (f.N.take f.ar) && Nat.ble f.ar f.N.length && C8.scC f.N (f.N.take f.ar) d.scope && chSs (P.wl f.lam) f.N d.scope f.body d.body
def chAll (P : Pr) : List Df → List He.DefD → Bool
  | [], [] => true
  | f :: fs, d :: ds => chDf P f d && chAll P fs ds
  | _, _ => false
theorem chAll_get {P : Pr} : ∀ {T : List Df} {ds : List He.DefD} {g : Nat} {f : Df} {d : He.DefD}, chAll P T ds = true → T[g]? = some f → ds[g]? = some d → chDf P f d = true
  | [], _, _, _, _, _, h, _ => by simp at h
  | _ :: _, [], _, _, _, h, _, _ => by simp [chAll] at h
  | f :: fs, d :: ds, 0, _, _, h, h1, h2 => by
    simp only [chAll, Bool.and_eq_true] at h
    simp at h1 h2
    subst h1 h2
    exact h.1
  | f :: fs, d :: ds, g + 1, _, _, h, h1, h2 => by
    simp only [chAll, Bool.and_eq_true] at h
    exact chAll_get h.2 (by simpa using h1) (by simpa using h2)
theorem gm_ar {T : List Df} {d g : Nat} {as : List Vl} {S : Sto} {o : Out RV} {f : Df} (h : Gm T d g as S = some o) (hf : T[g]? = some f) : as.length = f.ar := by
  cases d with
  | zero => cases h
  | succ d =>
    simp only [Gm, hf, runDf] at h
    by_cases hl : as.length = f.ar
    · exact hl
    · rw [if_neg hl] at h
      cases h
theorem start_env {C : Cxt} {w : Wd} {N : List Str} {vs : List V} {as : List Vl} (h : VsR C w w vs as) : EnvR C w (startE N as) (L2.start N vs) ∧ ∀ w0, OwnF w0 (startE N as) (L2.start N vs) := by
  have no : ∀ (i : Nat) (o : Ob), (startE N as)[i]? ≠ some (.own o) := fun i o e => by
    unfold startE at e
    by_cases hi : i < as.length
    · rw [List.getElem?_append_left (by simpa using hi), List.getElem?_map] at e
      cases q : as[i]? with
      | none => rw [q] at e; cases e
      | some a => rw [q] at e; cases e
    · rw [List.getElem?_append_right (by simpa using hi), List.getElem?_replicate] at e
      split at e <;> cases e
  refine ⟨⟨by simp [startE, L2.start, h.1], fun i s e => ?_, fun i j o o' a e1 => absurd e1 (no i o)⟩, fun w0 i o a e1 => absurd e1 (no i o)⟩
  unfold startE at e
  unfold L2.start
  by_cases hi : i < as.length
  · rw [List.getElem?_append_left (by simpa using hi), List.getElem?_map] at e
    cases q : as[i]? with
    | none => rw [q] at e; cases e
    | some a =>
      rw [q] at e
      cases e
      have hv : i < vs.length := by rw [h.1]; exact hi
      refine ⟨vs[i], ?_, h.2 i vs[i] a (List.getElem?_eq_getElem hv) q⟩
      rw [List.getElem?_append_left (by simpa using hv), List.getElem?_map, List.getElem?_eq_getElem hv]
      rfl
  · rw [List.getElem?_append_right (by simpa using hi), List.getElem?_replicate] at e
    split at e
    · cases e
      trivial
    · cases e
section
variable {C : Cxt} {P : Pr} {T : List Df} {ds : List He.DefD} {prog : Program} {w : World} {K : PySem.W.Frag} {mg : Str → Option Value} {base : Heap}
theorem gs_of (L : Wl C P T ds K mg base) {k : Nat} {l : Bool} {G : Gam} (fns : ∀ g ∈ P.dom, ∃ (fd : FuncData) (ps : List Str), mg (P.nm g) = some (.ref (C.fa g)) ∧ PySem.W.keepIn C.K (.ref (C.fa g)) = true ∧ L2.Binds C.K fd ps [] ∧ ps.length = P.ar g ∧ FnOk prog w C.K mg base (L2N.CX prog w) k (C.fa g) fd ps (spF C G g (P.ar g)))
    {N : List Str} {qual : Str} {scope : Scope} {f : Addr} {cdv : Value} {A : Around} {outer : List PySem.Env} {s : Shared} {H : Hp} {E : XK} {ps : List Str} (S : FnScope N ps scope) (hr : Room (k + 2) (A.deeper (envOfC qual scope s.heap.objs.size f cdv))) (hl : l = true → C.LP (cxOf (L2N.CX prog w) prog w K mg base N qual scope f cdv A outer s H E)) :
    Gs C (P.wl l) G N scope E (cxOf (L2N.CX prog w) prog w K mg base N qual scope f cdv A outer s H E) := by
  have tk : L2N.Takes (cxOf (L2N.CX prog w) prog w K mg base N qual scope f cdv A outer s H E) (EW E) := L2N.takes_of rfl rfl rfl rfl
  refine ⟨⟨⟨L.hK.symm, rfl, S.nd, room_units hr, tk, L.bl, ⟨k, fun g hg => ?_, hr.mono (by omega), fun _ => hr⟩, hl, L.cs⟩, rfl, rfl⟩, passes_of rfl, fun _ _ => rfl, S.kind, fun c hc => ?_⟩
  · obtain ⟨fd, ps, a1, a2, a3, a4, a5⟩ := fns g hg
    exact ⟨fd, ps, a1, a2, a3, a4, a5⟩
  · obtain ⟨B, newId, initId, bmB, a1, a2, a3, a4, a5, a6⟩ := L.ex c hc
    exact ⟨B, newId, initId, bmB, a1, a2, a3, a4, raises_own a5 a6⟩
theorem fns_ok (L : Wl C P T ds K mg base) (hc : chAll P T ds = true) : ∀ k : Nat, ∀ g ∈ P.dom, ∃ (fd : FuncData) (ps : List Str), mg (P.nm g) = some (.ref (C.fa g)) ∧ PySem.W.keepIn C.K (.ref (C.fa g)) = true ∧ L2.Binds C.K fd ps [] ∧ ps.length = P.ar g ∧
    FnOk prog w C.K mg base (L2N.CX prog w) (3 * k) (C.fa g) fd ps (spF C (Gm T k) g (P.ar g)) ∧ (∃ oc od osl, K.lookup (C.fa g) = some ⟨oc, od, .func fd, osl⟩) ∧ ∀ f, T[g]? = some f → ps = f.N.take f.ar := by
  intro k
  induction k with
  | zero =>
    intro g hg
    obtain ⟨f, d, fd, h1, h2, h3, h4, h5, h6⟩ := L.dom g hg
    have hch := chAll_get hc h1 h2
    unfold chDf at hch
    simp only [Bool.and_eq_true] at hch
    obtain ⟨⟨⟨c1, c2⟩, c3⟩, c4⟩ := hch
    rw [L.hK]
    have hl : (f.N.take f.ar).length = f.ar := by rw [List.length_take]; have := Nat.le_of_ble_eq_true c2; omega
    refine ⟨fd, f.N.take f.ar, by rw [h3]; exact h5, h6.kp, h6.bindsN fun kV doc pm an cdv ct us hu => bind_plain c1 hu, by rw [hl, h4], ⟨fun vs H Q E h => by rw [h.1, hl, h4], fun A outer s H args us vs Q E hr he hb hv hs => ?_⟩, (let ⟨oc, od, _, _, _, _, _, _, _, osl, _, lk, _⟩ := h6.ex; ⟨oc, od, osl, lk⟩), fun f' hf' => by rw [h1] at hf'; cases hf'; rfl⟩
    obtain ⟨_, w0, as, o, _, _, _, e, _⟩ := hs
    cases e
  | succ k ih =>
    intro g hg
    obtain ⟨f, d, fd, h1, h2, h3, h4, h5, h6⟩ := L.dom g hg
    have hch := chAll_get hc h1 h2
    unfold chDf at hch
    simp only [Bool.and_eq_true] at hch
    obtain ⟨⟨⟨c1, c2⟩, c3⟩, c4⟩ := hch
    have hl : (f.N.take f.ar).length = f.ar := by rw [List.length_take]; have := Nat.le_of_ble_eq_true c2; omega
    have S := C8.fnScope_by c3
    have har : ∀ g ∈ P.dom, ∀ as S o, Gm T k g as S = some o → as.length = P.ar g := fun g hg as S o e => by
      obtain ⟨f, _, _, h1, _, _, h4, _⟩ := L.dom g hg
      rw [h4]
      exact gm_ar e h1
    rw [L.hK]
    refine ⟨fd, f.N.take f.ar, by rw [h3]; exact h5, h6.kp, h6.bindsN fun kV doc pm an cdv ct us hu => bind_plain c1 hu, by rw [hl, h4], ?_, (let ⟨oc, od, _, _, _, _, _, _, _, osl, _, lk, _⟩ := h6.ex; ⟨oc, od, osl, lk⟩), fun f' hf' => by rw [h1] at hf'; cases hf'; rfl⟩
    have hb6 := h6.ex
    obtain ⟨oc, od, dV, kV, doc, pm, an, cdv, ct, osl, efd, lk, hcd, _, _⟩ := hb6
    subst efd
    refine fn_of (k := 3 * k + 2) lk hcd S (fun vs H Q E h => by rw [h.1, hl, h4]) fun A outer s H vs Q E hr hsp => ?_
    obtain ⟨t, rt, pt⟩ := chSs_ok (C := C) (P := P.wl f.lam) (G := Gm T k) L.dm (by rw [L.LP]; exact fun _ z => z) har c4 E
    refine ⟨t, pt _ (gs_of L (k := 3 * k) (l := f.lam) (fun g hg => let ⟨fd, ps, a1, a2, a3, a4, a5, _⟩ := ih g hg; ⟨fd, ps, a1, a2, a3, a4, a5⟩) S hr fun hlam => ?_), ?_⟩
    · rw [L.LP]
      obtain ⟨⟨c, Pt, oc', od', fd', osl', e1, e2, e3, e4, e5⟩, e6⟩ := L.lam g f d h1 h2 hlam
      rw [lk] at e1
      cases e1
      exact ⟨⟨c, Pt, e3, e2, e4, e5⟩, e6⟩
    obtain ⟨hn, w0, as, o, rfl, ok, hv, e, hq⟩ := hsp
    simp only [Gm, h1, runDf] at e
    split at e
    · obtain ⟨en, ow⟩ := start_env (N := f.N) hv
      unfold bnd at e
      cases q : evSs (Gm T k) f.body (startE f.N as) w0.S with
      | none => rw [q] at e; cases e
      | some o1 =>
        rw [q] at e
        refine rt w0 w0 _ _ o1 _ ok (Wd.To.refl w0) en (ow w0) q ?_
        cases o1 with
        | ex c p S1 =>
          cases e
          exact hq
        | ok r S1 =>
          obtain ⟨fl, env1⟩ := r
          cases fl with
          | nx =>
            have e : some (Out.ok (RV.d .none) S1) = some o := e
            cases e
            exact fun w' σ' e1 b => hq w' .non e1 b.ok b.to .non
          | ret v =>
            have e : some (Out.ok v S1) = some o := e
            cases e
            exact fun w' x e1 ok' t' r => hq w' x e1 ok' t' r
          | brk => cases e
          | cont => cases e
    · cases e
end
end G

-- GU
set_option maxRecDepth 100000
set_option maxHeartbeats 2000000
/-! A law's end: facts of the head, the pure reading. -/
namespace G
open PySem PySem.Spec PyProof.Rows L2
/-! ### the shapes of the error's defs -/
def clsN : Nat → Str
  | 1 => "InvalidPlan" | 2 => "InvalidSet" | 3 => "InvalidTimes" | 4 => "InvalidForm" | 5 => "InvalidStretch" | 6 => "InvalidRatio" | 7 => "InvalidIndex" | 8 => "InvalidSight" | 9 => "InvalidNumber" | 10 => "InvalidStep" | 11 => "NothingToUndo" | 12 => "TooMany" | 13 => "InvalidText" | _ => "GlassError"
def nmScB (sc scope : Scope) : Bool := decide (sc.names.lookup ("e" : Str) = some .local) && decide (sc.names.lookup ("some" : Str) = some .local) && decide (sc.names.lookup ("words" : Str) = some .local) && glb sc "zip" && glb sc "isinstance" &&
  blkC nmN sc scope [("word", 3), ("good", 4)] && decide ((relS scope sc).names.lookup ("word" : Str) = some .local) && decide ((relS scope sc).names.lookup ("good" : Str) = some .local)
theorem nmSc_of {sc scope : Scope} (h : nmScB sc scope = true) : NmSc sc scope := by
  unfold nmScB at h
  simp only [Bool.and_eq_true] at h
  obtain ⟨⟨⟨⟨⟨⟨⟨h1, h2⟩, h3⟩, h4⟩, h5⟩, h6⟩, h7⟩, h8⟩ := h
  refine ⟨fun n hn => ?_, fun n hn => ?_, h6, fun n hn => ?_⟩
  · rcases (show n = "e" ∨ n = "some" ∨ n = "words" by simpa using hn) with rfl | rfl | rfl
    · exact dec_eq h1
    · exact dec_eq h2
    · exact dec_eq h3
  · rcases (show n = "zip" ∨ n = "isinstance" by simpa using hn) with rfl | rfl
    · exact h4
    · exact h5
  · rcases (show n = "word" ∨ n = "good" by simpa using hn) with rfl | rfl
    · exact dec_eq h7
    · exact dec_eq h8
def isNm (sc : Scope) (ns : List Str) (sp ws : Str) (body : List Stmt) : Bool := match body with
  | [.Assign [.Name n1 _] (.List es _) _, .Assign [.Name n2 _] (.Constant (.str ws') _ _) _, .Return (some (.Call (.Attribute (.Constant (.str sp') _ _) m1 p6) [.ListComp (.Name n3 _) [⟨.Tuple [.Name n4 _, .Name n5 _] _ _, .Call (.Name n6 _) [.Call (.Attribute (.Name n7 _) m2 p12) [.Constant (.str sp2) _ _] [] p13, .Name n8 _] [] _, [.Name n9 _], 0⟩] scope _] [] p7)) _] =>
    decide (n1 = "some") && decide (n2 = "words") && decide (ws' = ws) && decide (sp' = sp) && decide (m1 = "join") && decide (n3 = "word") && decide (n4 = "word") && decide (n5 = "good") && decide (n6 = "zip") && decide (n7 = "words") && decide (m2 = "split") && decide (sp2 = sp) && decide (n8 = "some") && decide (n9 = "good") &&
      plainLine p6 p7 && plainLine p12 p13 && nmScB sc scope && decide (isisC sc "e" es = some ns)
  | _ => false
def isErr (sc : Scope) (body : List Stmt) : Bool := match body with
  | [.Try [.Expr (.Call (.Name n1 _) [] [] _) _] [.ExceptHandler (some (.Name n2 _)) (some n3) [.Return (some (.Call (.Name n4 _) [.Name n5 _] [] _)) _] _] [] [] _, .Return (some (.Constant (.str s) _ _)) _] =>
    decide (n1 = "call") && decide (n2 = "GlassError") && decide (n3 = "e") && decide (n4 = "_law_names") && decide (n5 = "e") && decide (s = "") && glb sc "GlassError" && glb sc "_law_names" && decide (sc.names.lookup ("e" : Str) = some .local)
  | _ => false
/-- what the words ask -/
structure NmW (ns : List Str) (sp ws : Str) : Prop where
  hsp : (sp.length == 0) = false
  hws : ws.length + 2 ≤ sizeLine
  len : (Txt.split ws sp).length = ns.length
  h64 : ns.length ≤ 64
  j : ∀ qs : List Str, qs.Sublist (Txt.split ws sp) → (qs.map (·.length)).sum + qs.length * sp.length ≤ 16777216
theorem nm_def {K : PySem.W.Frag} {mg : Str → Option Value} {ns : List Str} {sp ws : Str} {d : He.DefD} {f : Addr} {fd : FuncData} (hn : d.name = "_law_names") (hq : d.qual = "_law_names") (F : FunD K d.name d.qual d.params d.body d.scope [] [] f fd) (g : mg "_law_names" = some (.ref f)) (pl : plainP d.params ["e"] = true) (sc : C8.scC nmN ["e"] d.scope = true)
    (m1 : mg "isinstance" = none) (m2 : mg "zip" = none) (sh : isNm d.scope ns sp ws d.body = true) (W : NmW ns sp ws) : Nonempty (NmDef K mg ns sp ws) := by
  rw [hn, hq] at F
  refine ⟨⟨f, fd, d.params, d.body, d.scope, [], F, g, pl, sc, m1, m2, fun C Z D a oe bs A r => ?_⟩⟩
  unfold isNm at sh
  split at sh
  · rename_i n1 p1 es p2 p3 n2 p4 ws' j1 p5 p8 sp' j2 p9 m1' p6 n3 p10 n4 p11 n5 p14 k1 p15 n6 p16 n7 p17 m2' p12 sp2 j3 p18 p13 n8 p19 p20 n9 p21 scope p22 p7 p23 heq
    simp only [Bool.and_eq_true] at sh
    obtain ⟨⟨⟨⟨⟨⟨⟨⟨⟨⟨⟨⟨⟨⟨⟨⟨⟨c1, c2⟩, c3⟩, c4⟩, c5⟩, c6⟩, c7⟩, c8⟩, c9⟩, c10⟩, c11⟩, c12⟩, c13⟩, c14⟩, c15⟩, c16⟩, c17⟩, c18⟩ := sh
    have c1 := dec_eq c1
    have c2 := dec_eq c2
    have c3 := dec_eq c3
    have c4 := dec_eq c4
    have c5 := dec_eq c5
    have c6 := dec_eq c6
    have c7 := dec_eq c7
    have c8 := dec_eq c8
    have c9 := dec_eq c9
    have c10 := dec_eq c10
    have c11 := dec_eq c11
    have c12 := dec_eq c12
    have c13 := dec_eq c13
    have c14 := dec_eq c14
    subst c1 c2 c3 c4 c5 c6 c7 c8 c9 c10 c11 c12 c13 c14
    have hl := r.len
    rw [heq]
    exact nm_body A (nmSc_of c17) (dec_eq c18) r c15 c16 W.hsp W.hws (by rw [W.len, hl]) (by rw [hl]; exact W.h64) W.j
  · cases sh
theorem err_ok {K : PySem.W.Frag} {mg : Str → Option Value} {ns : List Str} {sp ws : Str} {d : He.DefD} {f GE : Addr} {fd : FuncData} {ca : Nat → Addr} (T : Nonempty (NmDef K mg ns sp ws)) (hn : d.name = "_law_error") (hq : d.qual = "_law_error") (F : FunD K d.name d.qual d.params d.body d.scope [] [] f fd)
    (g : mg "_law_error" = some (.ref f)) (ge : mg "GlassError" = some (.ref GE)) (pl : plainP d.params ["call"] = true) (sc : C8.scC ["call", "e"] ["call"] d.scope = true) (sh : isErr d.scope d.body = true) (ec : ErrC ca K mg GE ns sp ws) : ErrOk ca K mg := by
  rw [hn, hq] at F
  obtain ⟨T⟩ := T
  refine ⟨f, fd, d.params, d.body, d.scope, [], GE, ns, sp, ws, g, F, pl, sc, fun C X k cdv q eK em eC => ?_, ec⟩
  subst eK em
  unfold isErr at sh
  split at sh
  · rename_i heq
    simp only [Bool.and_eq_true] at sh
    obtain ⟨⟨⟨⟨⟨⟨⟨⟨c1, c2⟩, c3⟩, c4⟩, c5⟩, c6⟩, c7⟩, c8⟩, c9⟩ := sh
    have c1 := dec_eq c1
    have c2 := dec_eq c2
    have c3 := dec_eq c3
    have c4 := dec_eq c4
    have c5 := dec_eq c5
    have c6 := dec_eq c6
    subst c1 c2 c3 c4 c5 c6
    rw [heq]
    exact err_gives T eC (by omega) c7 c8 ge (dec_eq c9)
  · cases sh
end G

-- GV
set_option maxRecDepth 100000
set_option maxHeartbeats 2000000
namespace G
open PySem PySem.Spec PyProof.Rows L2
/-! ### facts by looks -/
def excCB (K : PySem.W.Frag) (D : Addr) : Bool := decide (PySem.W.findIn K (.ref D) "__getattribute__" = some (some (.builtin "BaseException.__getattribute__"))) && decide (PySem.W.findIn K (.ref D) "__getattr__" = some none) && decide (PySem.W.subIn K (.ref D) (.type "BaseException") = some true) && PySem.W.hasDictIn K D &&
  decide (PySem.W.findIn K (.ref D) "__class__" = some (some (.builtin "object.__class__"))) && decide (PySem.W.specialIn K (.builtin "object.__class__") "__get__" = some (some (.builtin "getset_descriptor.__get__"))) && decide (PySem.W.takesIn K (.builtin "object.__class__") = some true) && decide (PySem.W.mroIn K D (.type "object") = some true)
theorem excC_of {K : PySem.W.Frag} {D : Addr} (h : excCB K D = true) : ExcC K D := by
  unfold excCB at h
  simp only [Bool.and_eq_true] at h
  obtain ⟨⟨⟨⟨⟨⟨⟨h1, h2⟩, h3⟩, h4⟩, h5⟩, h6⟩, h7⟩, h8⟩ := h
  exact ⟨dec_eq h1, dec_eq h2, dec_eq h3, h4, dec_eq h5, dec_eq h6, dec_eq h7, dec_eq h8⟩
def nmB (K : PySem.W.Frag) (D : Addr) : List Str → List Bool → Bool
  | [], [] => true
  | n :: ns, b :: bs => (if n = ("ValueError" : Str) then decide (PySem.W.kitOne K (.ref D) (.type "ValueError") = some b) else decide (PySem.W.kitOne K (.ref D) (.ref (He.ga K n)) = some b)) && nmB K D ns bs
  | _, _ => false
theorem nmR_of {K : PySem.W.Frag} {mg : Str → Option Value} {D : Addr} (hv : mg "ValueError" = none) : ∀ {ns : List Str} {bs : List Bool}, (∀ n ∈ ns, n ≠ ("ValueError" : Str) → mg n = some (.ref (He.ga K n))) → nmB K D ns bs = true → NmR K mg D ns bs
  | [], [], _, _ => .nil
  | [], _ :: _, _, h => by simp [nmB] at h
  | _ :: _, [], _, h => by simp [nmB] at h
  | n :: ns, b :: bs, hm, h => by
    simp only [nmB, Bool.and_eq_true] at h
    have r := nmR_of (D := D) hv (fun m hm' => hm m (List.mem_cons_of_mem _ hm')) h.2
    by_cases e : n = ("ValueError" : Str)
    · have h1 := h.1
      rw [if_pos e] at h1
      subst e
      exact .blt hv (dec_eq h1) r
    · have h1 := h.1
      rw [if_neg e] at h1
      exact .own (hm n List.mem_cons_self e) (dec_eq h1) r
/-- the words of _law_names -/
def nmNs : List Str := ["InvalidPlan", "InvalidSet", "InvalidTimes", "InvalidForm", "InvalidStretch", "InvalidRatio", "InvalidIndex", "InvalidSight", "InvalidNumber", "InvalidStep", "NothingToUndo", "TooMany", "InvalidText", "ValueError"]
def nmWs : Str := "plan set times form stretch ratio index sight number step undo many text value"
def nmFl (c : Nat) : List Bool := (List.range 14).map fun i => Nat.beq (i + 1) c || Nat.beq i 13
def nmCs : List Nat := [1, 2, 3, 4, 5, 6, 7, 8, 9, 10, 11]
theorem errW_mem {c : Nat} {s : Str} (h : errW c = some s) : c ∈ nmCs := by
  unfold errW at h
  split at h <;> first | (cases h; done) | simp [nmCs]
theorem nm_str : ∀ c ∈ nmCs, errW c = some (nmStr " " nmWs (nmFl c)) := by decide +kernel
theorem sum_sub {xs ys : List Str} (h : xs.Sublist ys) : (xs.map (·.length)).sum ≤ (ys.map (·.length)).sum := by
  induction h with
  | slnil => simp
  | cons a _ ih => simp only [List.map_cons, List.sum_cons]; omega
  | cons_cons a _ ih => simp only [List.map_cons, List.sum_cons]; omega
theorem nm_w : NmW nmNs " " nmWs := by
  refine ⟨by decide +kernel, by decide +kernel, by decide +kernel, by decide, fun qs h => ?_⟩
  have h1 := sum_sub h
  have h2 := h.length_le
  have e1 : ((Txt.split nmWs " ").map (·.length)).sum ≤ 100 := by decide +kernel
  have e2 : (Txt.split nmWs " ").length ≤ 14 := by decide +kernel
  have e3 : (" " : Str).length = 1 := by decide +kernel
  rw [e3]
  omega
/-! ### the head's facts -/
def glos (ds : List He.DefD) : List He.Fa := ds.map fun d => .glo d.name
def csFa (cs : List Nat) : List He.Fa := cs.map fun k => match (gcon k).2 with
  | .int i => .int (gcon k).1 i
  | .str s => .str (gcon k).1 s
  | _ => .glo (gcon k).1
def clsFa : List He.Fa := (List.range 14).map fun c => .glo (clsN c)
def excFa : List He.Fa := nmCs.map fun c => .exc (clsN c)
def exmFa : List He.Fa := nmCs.map fun c => .exm (clsN c) "GlassError" true
def freeFa : List He.Fa := (freeN ++ [("ValueError" : Str)]).map .free
def factsOf (ds : List He.DefD) (cs : List Nat) : List He.Fa := glos ds ++ csFa cs ++ clsFa ++ excFa ++ exmFa ++ freeFa
def tupC (K : PySem.W.Frag) (cs : List Nat) : Bool := cs.all fun k => match (gcon k).2 with
  | .tuple [.int i, .int j] => He.tupB K (gcon k).1 [.int i, .int j]
  | .int _ => true
  | .str _ => true
  | _ => false
def exB (cs : List Nat) (tf : List He.Defn) (K : PySem.W.Frag) : Bool := nmCs.all (fun c => excCB K (He.ga K (clsN c)) && nmB K (He.ga K (clsN c)) nmNs (nmFl c)) && tupC K cs && decide (tf.map fun p => (He.cT K p).2).Nodup
/-- how the defs are written: under their own names, without defaults -/
def plainD (d : He.DefD) : Bool := decide (d.at_ = (d.name, none)) && decide (d.qual = d.name) && d.dfl.isEmpty && d.kwd.isEmpty
def prOf (T : List Df) (ds : List He.DefD) (cs : List Nat) : Pr where
  nm g := match ds[g]? with | some d => d.name | none => ""
  ar g := match T[g]? with | some f => f.ar | none => 0
  dom := List.range T.length
  cs := cs
  cn := clsN
  cl := nmCs
  lam := false
/-- the defs that hand lambdas on -/
def lamD (T : List Df) (ds : List He.DefD) : List He.Defn := (T.zip ds).filterMap fun p => if p.1.lam = true then some (p.2.name, none) else none
structure Chk (T : List Df) (ds : List He.DefD) (dn de : He.DefD) (cs : List Nat) : Prop where
  all : chAll (prOf T ds cs) T ds = true
  len : T.length = ds.length
  pl : (ds ++ [dn, de]).all plainD = true
  nn : dn.name = "_law_names"
  en : de.name = "_law_error"
  np : plainP dn.params ["e"] = true
  ns : C8.scC nmN ["e"] dn.scope = true
  nb : isNm dn.scope nmNs " " nmWs dn.body = true
  ep : plainP de.params ["call"] = true
  es : C8.scC ["call", "e"] ["call"] de.scope = true
  eb : isErr de.scope de.body = true
section
variable {T : List Df} {ds : List He.DefD} {dn de : He.DefD} {cs : List Nat} {K : PySem.W.Frag} {mg : Str → Option Value} {h : Heap} {w : World} {ts : List He.Tab}
abbrev tabL (T : List Df) (ds : List He.DefD) (K : PySem.W.Frag) : List (Addr × Str) := (lamD T ds).map fun p => ((He.cT K p).2, p.1 ++ ".<locals>." ++ "<lambda>")
abbrev cxt (T : List Df) (ds : List He.DefD) (cs : List Nat) (K : PySem.W.Frag) : Cxt where
  K := K
  fa g := match ds[g]? with | some d => He.ga K d.name | none => 0
  ca c := He.ga K (clsN c)
  dm := List.range T.length
  T := tabL T ds K
  LP := LamOk (tabL T ds K) fun c => He.ga K (clsN c)
theorem nodup_map {α β : Type} {f : α → β} : ∀ {l : List α} {a b : α}, (l.map f).Nodup → a ∈ l → b ∈ l → f a = f b → a = b
  | [], _, _, _, h, _, _ => by cases h
  | x :: l, a, b, nd, ha, hb, e => by
    rw [List.map_cons, List.nodup_cons] at nd
    rcases List.mem_cons.mp ha with ea | ha'
    · rcases List.mem_cons.mp hb with eb | hb'
      · rw [ea, eb]
      · exact absurd (by rw [← ea, e]; exact List.mem_map_of_mem hb') nd.1
    · rcases List.mem_cons.mp hb with eb | hb'
      · exact absurd (by rw [← eb, ← e]; exact List.mem_map_of_mem ha') nd.1
      · exact nodup_map nd.2 ha' hb' e
theorem lam_mem {g : Nat} {f : Df} {d : He.DefD} (h1 : T[g]? = some f) (h2 : ds[g]? = some d) (hl : f.lam = true) : (d.name, none) ∈ lamD T ds := by
  unfold lamD
  refine List.mem_filterMap.mpr ⟨(f, d), ?_, by simp [hl]⟩
  exact List.mem_of_getElem? (i := g) (List.getElem?_zip_eq_some.mpr ⟨h1, h2⟩)
theorem wl_of (X : K.In h) (G : h.Ns mainGlobals mg) (c : He.SaysX (factsOf (ds ++ [dn, de]) cs) (ds ++ [dn, de]) ts (lamD T ds) (exB cs (lamD T ds)) w h K) (k : Chk T ds dn de cs) {base : Heap} (tb : ∀ p ∈ (lamD T ds).map (He.cT K), LamX.TabB base mg p.1 p.2) :
    Wl (cxt T ds cs K) (prOf T ds cs) T ds K mg base := by
  have cD : He.SaysD (factsOf (ds ++ [dn, de]) cs) (ds ++ [dn, de]) K := congrArg (fun z : He.AlT => z.1) c.t
  have fact : ∀ {f : He.Fa}, f ∈ factsOf (ds ++ [dn, de]) cs → f.ok K = true := fun {f} hf => cD.facts hf
  have gl : ∀ {d : He.DefD}, d ∈ ds ++ [dn, de] → mg d.name = some (.ref (He.ga K d.name)) := fun {d} hd => He.glo_ok X G (fact (by simp only [factsOf, glos, List.mem_append, List.mem_map]; exact .inl (.inl (.inl (.inl (.inl ⟨d, by simpa using hd, rfl⟩))))))
  have cl : ∀ c, c < 14 → mg (clsN c) = some (.ref (He.ga K (clsN c))) := fun c hc => He.glo_ok X G (fact (by simp only [factsOf, clsFa, List.mem_append, List.mem_map]; exact .inl (.inl (.inl (.inr ⟨c, List.mem_range.mpr hc, rfl⟩)))))
  have fr : ∀ n ∈ freeN ++ [("ValueError" : Str)], mg n = none := fun n hn => He.free_ok X G (fact (by simp only [factsOf, freeFa, List.mem_append, List.mem_map]; exact .inr ⟨n, by simpa using hn, rfl⟩))
  have pd : ∀ {d : He.DefD}, d ∈ ds ++ [dn, de] → d.at_ = (d.name, none) ∧ d.qual = d.name ∧ d.dfl = [] ∧ d.kwd = [] := fun {d} hd => by
    have := List.all_eq_true.mp k.pl d hd
    unfold plainD at this
    simp only [Bool.and_eq_true, List.isEmpty_iff] at this
    obtain ⟨⟨⟨a1, a2⟩, a3⟩, a4⟩ := this
    exact ⟨dec_eq a1, dec_eq a2, a3, a4⟩
  have fn : ∀ {d : He.DefD}, d ∈ ds ++ [dn, de] → ∃ fd, FunD K d.name d.qual d.params d.body d.scope [] [] (He.ga K d.name) fd := fun {d} hd => by
    obtain ⟨fd, F⟩ := cD.defs hd
    obtain ⟨a1, a2, a3, a4⟩ := pd hd
    have e1 : d.dvs K = [] := by unfold He.DefD.dvs; rw [a3]; rfl
    have e2 : d.kws K = [] := by unfold He.DefD.kws; rw [a4]; rfl
    rw [e1, e2, a1] at F
    exact ⟨fd, F⟩
  have ex := c.more
  unfold exB at ex
  simp only [Bool.and_eq_true, List.all_eq_true] at ex
  obtain ⟨⟨ex1, ex2⟩, ex3⟩ := ex
  have hv : mg "ValueError" = none := fr "ValueError" (by simp)
  have ec : ErrC (fun c => He.ga K (clsN c)) K mg (He.ga K (clsN 0)) nmNs " " nmWs := fun c s hs => by
    have hc := errW_mem hs
    obtain ⟨b1, b2⟩ := ex1 c hc
    refine ⟨nmFl c, He.exm_ok (fact (by simp only [factsOf, exmFa, List.mem_append, List.mem_map]; exact .inl (.inr ⟨c, hc, rfl⟩))), nmR_of hv (fun n hn ne => ?_) b2, excC_of b1, ?_⟩
    · have : ∀ m ∈ nmNs, m ≠ ("ValueError" : Str) → ∃ i, i < 14 ∧ m = clsN i := by decide +kernel
      obtain ⟨i, hi, rfl⟩ := this n hn ne
      exact cl i hi
    · have := nm_str c hc
      rw [hs] at this
      exact (Option.some.inj this).symm
  have er : ErrOk (fun c => He.ga K (clsN c)) K mg := by
    obtain ⟨fdn, Fn⟩ := fn (d := dn) (by simp)
    obtain ⟨fde, Fe⟩ := fn (d := de) (by simp)
    have gn := gl (d := dn) (by simp)
    have ge := gl (d := de) (by simp)
    have qn := (pd (d := dn) (by simp)).2.1
    have qe := (pd (d := de) (by simp)).2.1
    rw [k.nn] at gn
    rw [k.en] at ge
    have Fn' : FunD K dn.name dn.qual dn.params dn.body dn.scope [] [] (He.ga K "_law_names") fdn := by
      have := Fn
      rw [show He.ga K dn.name = He.ga K "_law_names" by rw [k.nn]] at this
      exact this
    have Fe' : FunD K de.name de.qual de.params de.body de.scope [] [] (He.ga K "_law_error") fde := by
      have := Fe
      rw [show He.ga K de.name = He.ga K "_law_error" by rw [k.en]] at this
      exact this
    exact err_ok (nm_def k.nn (by rw [qn, k.nn]) Fn' gn k.np k.ns (fr "isinstance" (by decide)) (fr "zip" (by decide)) k.nb nm_w) k.en (by rw [qe, k.en]) Fe' ge (cl 0 (by decide)) k.ep k.es k.eb ec
  refine ⟨rfl, rfl, rfl, fun g f d h1 h2 hl => ⟨?_, er⟩, fun g hg => ?_, fun x hx => fr x (List.mem_append_left _ hx), fun i hi => ?_, fun c hc => ?_⟩
  · have hd : d ∈ ds ++ [dn, de] := List.mem_append_left _ (List.mem_of_getElem? h2)
    obtain ⟨fd, F⟩ := fn hd
    obtain ⟨oc, od, dV, kV, doc, pm, an, cdv, ct, osl, efd, lk, hcd, _, _⟩ := F.ex
    have hm := lam_mem h1 h2 hl
    obtain ⟨c0, ec0⟩ := He.codeIn_ref hcd
    have e0 : He.codeOf K (d.name, none) = c0 := He.codeOf_eq (fd := fd) lk (by rw [efd]; exact ec0)
    refine ⟨(He.cT K (d.name, none)).1, (He.cT K (d.name, none)).2, oc, od, fd, osl, ?_, ?_, tb _ (List.mem_map_of_mem hm), ?_, fun p hp hpe => ?_⟩
    · show K.lookup (match ds[g]? with | some d => He.ga K d.name | none => 0) = _
      rw [h2]
      exact lk
    · rw [efd]
      show cdv = .ref (He.codeOf K (d.name, none))
      rw [e0]
      exact ec0
    · rw [(pd hd).2.1]
      exact List.mem_map.mpr ⟨_, hm, rfl⟩
    · obtain ⟨q, hq, rfl⟩ := List.mem_map.mp hp
      rw [(pd hd).2.1]
      have nd := of_decide_eq_true ex3
      have : q = (d.name, none) := nodup_map nd hq hm hpe
      rw [this]
  · have hg : g < T.length := List.mem_range.mp hg
    have hg2 : g < ds.length := by rw [← k.len]; exact hg
    have hd : ds[g] ∈ ds ++ [dn, de] := List.mem_append_left _ (List.getElem_mem hg2)
    obtain ⟨fd, F⟩ := fn hd
    have e2 : ds[g]? = some ds[g] := List.getElem?_eq_getElem hg2
    refine ⟨T[g], ds[g], fd, List.getElem?_eq_getElem hg, e2, ?_, ?_, ?_, ?_⟩
    · show (match ds[g]? with | some d => d.name | none => "") = _
      rw [e2]
    · show (match T[g]? with | some f => f.ar | none => 0) = _
      rw [List.getElem?_eq_getElem hg]
    · show _ = some (Value.ref (match ds[g]? with | some d => He.ga K d.name | none => 0))
      rw [e2]
      exact gl hd
    · show FunD K _ _ _ _ _ [] [] (match ds[g]? with | some d => He.ga K d.name | none => 0) fd
      rw [e2]
      exact F
  · have hf : ∀ f, f = (match (gcon i).2 with | .int n => He.Fa.int (gcon i).1 n | .str s => .str (gcon i).1 s | _ => .glo (gcon i).1) → f.ok K = true := fun f e => fact (by simp only [factsOf, csFa, List.mem_append, List.mem_map]; exact .inl (.inl (.inl (.inl (.inr ⟨i, hi, e.symm⟩)))))
    have ht := List.all_eq_true.mp ex2 i hi
    generalize hq : (gcon i).2 = q at hf ht
    split at ht
    · rename_i a b
      refine ⟨_, .ref (He.ga K (gcon i).1), He.glo_ok X G (hf _ rfl), rfl, fun F => ?_⟩
      exact .tup (He.tupB_ok ht F) (.cons (.int a) (.cons (.int b) .nil))
    · rename_i n
      obtain ⟨t, e⟩ := He.int_ok X G (hf _ rfl)
      exact ⟨_, .int n, e, ⟨t, rfl⟩, fun F => .int n⟩
    · rename_i s
      obtain ⟨t, e⟩ := He.str_ok X G (hf _ rfl)
      exact ⟨_, .str s, e, ⟨t, rfl⟩, fun F => .str s⟩
    · cases ht
  · have hf := He.exc_ok (fact (f := .exc (clsN c)) (by simp only [factsOf, excFa, List.mem_append, List.mem_map]; exact .inl (.inl (.inr ⟨c, hc, rfl⟩))))
    obtain ⟨b1, b2, b3, b4⟩ := hf
    have : ∀ c ∈ nmCs, c < 14 := by decide
    exact ⟨"ValueError", "ValueError.__new__", "ValueError.__init__", He.veBase, PySem.F.excBase_ValueError, b1, cl c (this c hc), b2, b3, b4⟩
/-! ### the law -/
def noTb (H : Hp) : Hp := fun a => match H a with
  | some (.tbl _) => none
  | x => x
theorem noTb_of {H : Hp} {a : Addr} {u : HO} (h : H a = some u) (n : ∀ ps, u ≠ .tbl ps) : noTb H a = some u := by
  unfold noTb
  rw [h]
  cases u <;> first | rfl | exact absurd rfl (n _)
theorem noTb_le {H : Hp} : Ext (noTb H) H := fun a o h => by
  unfold noTb at h
  split at h
  · cases h
  · exact h
theorem ints_dpA {K : PySem.W.Frag} {F : Hp} : ∀ ns : List Int, DpAll K F (ns.map V.int) (ns.map PyData.int)
  | [] => .nil
  | i :: ns => .cons (.int i) (ints_dpA ns)
theorem law_at {l : PySem.W.OpenLaw} {n dep lawg : Nat} {f : Df} {d : He.DefD} {fa : Addr} (X : K.In h) (G : h.Ns mainGlobals mg) (c : He.SaysX (factsOf (ds ++ [dn, de]) cs) (ds ++ [dn, de]) ts (lamD T ds) (exB cs (lamD T ds)) w h K) (k : Chk T ds dn de cs)
    (h1 : T[lawg]? = some f) (h2 : ds[lawg]? = some d) (hn : d.name = "law") (hp : f.N.take f.ar = [("script" : Str)]) (hfa : mg ("law" : Str) = some (.ref fa))
    (pure : ∀ ns : List Int, ns.length ≤ n → ∃ S', Gm T dep lawg [.dat (.list (ns.map .int))] [] = some (.ok (.d (.bool true)) S')) : LamX.LawAtS l w K (L2N.CX l.prog w) (3 * dep) n "script" mg fa h := by
  have hg : lawg ∈ (prOf T ds cs).dom := List.mem_range.mpr (List.getElem?_eq_some_iff.mp h1).1
  have cD : He.SaysD (factsOf (ds ++ [dn, de]) cs) (ds ++ [dn, de]) K := congrArg (fun z : He.AlT => z.1) c.t
  have hd : d ∈ ds ++ [dn, de] := List.mem_append_left _ (List.mem_of_getElem? h2)
  obtain ⟨fd, F⟩ := cD.defs hd
  have pl := List.all_eq_true.mp k.pl d hd
  unfold plainD at pl
  simp only [Bool.and_eq_true, List.isEmpty_iff] at pl
  obtain ⟨⟨⟨a1, a2⟩, a3⟩, a4⟩ := pl
  have e1 : d.dvs K = [] := by unfold He.DefD.dvs; rw [a3]; rfl
  have e2 : d.kws K = [] := by unfold He.DefD.kws; rw [a4]; rfl
  rw [e1, e2, dec_eq a1] at F
  have efa : fa = He.ga K d.name := by
    have g1 : mg d.name = some (.ref (He.ga K d.name)) := He.glo_ok X G (cD.facts (by simp only [factsOf, glos, List.mem_append, List.mem_map]; exact .inl (.inl (.inl (.inl (.inl ⟨d, by simpa using hd, rfl⟩))))))
    rw [hn] at g1
    rw [hfa] at g1
    rw [hn]
    exact Value.ref.inj (Option.some.inj g1)
  have eC : (cxt T ds cs K).fa lawg = fa := by
    show (match ds[lawg]? with | some d => He.ga K d.name | none => 0) = _
    rw [h2, efa]
  have ar1 : f.ar = 1 ∧ plainP d.params ["script"] = true := by
    have hch := chAll_get k.all h1 h2
    unfold chDf at hch
    simp only [Bool.and_eq_true] at hch
    obtain ⟨⟨⟨c1, c2⟩, c3⟩, c4⟩ := hch
    have hl := congrArg List.length hp
    rw [List.length_take] at hl
    have := Nat.le_of_ble_eq_true c2
    rw [hp] at c1
    exact ⟨by simp at hl; omega, c1⟩
  refine ⟨fd, (lamD T ds).map (He.cT K), spF (cxt T ds cs K) (Gm T dep) lawg 1, fun p hp' => ?_, fun p hp' => ?_, fun p hp' => ?_, fun s u => ?_, fun H a ns hl _ hT hS => ?_, fun base hK hG tb => ?_⟩
  · obtain ⟨q, hq, rfl⟩ := List.mem_map.mp hp'
    exact c.empty q hq
  · obtain ⟨q, hq, rfl⟩ := List.mem_map.mp hp'
    exact c.out q hq
  · obtain ⟨q, hq, rfl⟩ := List.mem_map.mp hp'
    exact PySem.W.codeHd_of_K X (c.hd q hq)
  · exact FunD.bindsA (ps := ["script"]) F (fun kV doc pm an cdv ct us hu => bind_plain ar1.2 hu) s [u] rfl
  · obtain ⟨S', e⟩ := pure ns hl
    refine ⟨rfl, ⟨noTb H, [], [], H⟩, [.dat (.list (ns.map .int))], _, rfl, ⟨noTb_le, rfl, (fun n a o e1 _ => by cases e1), List.nodup_nil, fun p hp' => ?_, fun a ps z => ?_⟩, ⟨rfl, fun i x v e1 e2 => ?_⟩, e, fun w' x e1 ok' t' r => ?_⟩
    · obtain ⟨q, hq, rfl⟩ := List.mem_map.mp hp'
      exact LamX.TabS.nil (hT _ (List.mem_map_of_mem hq))
    · have z : noTb H a = some (.tbl ps) := z
      unfold noTb at z
      split at z
      · cases z
      · rename_i hne
        exact hne ps z
    · cases i with
      | succ i => simp at e1
      | zero =>
        simp at e1 e2
        subst e1 e2
        refine .lst ?_ (ints_dpA ns)
        rcases hS with (q | ⟨o, q⟩) | q
        · exact .inl (.inl (noTb_of q fun _ z => by cases z))
        · exact .inl (.inr ⟨o, noTb_of q fun _ z => by cases z⟩)
        · exact .inr q
    · exact dp_bl r
  · obtain ⟨fd', ps, b1, b2, b3, b4, b5, ⟨oc, od, osl, lk⟩, b6⟩ := fns_ok (prog := l.prog) (w := w) (wl_of X G c k tb) k.all dep lawg hg
    obtain ⟨oc2, od2, dV, kV, doc, pm, an, cdv, ct, osl2, efd, lk2, _⟩ := F.ex
    have lk2 : K.lookup (He.ga K d.name) = some ⟨oc2, od2, .func fd, osl2⟩ := lk2
    rw [eC, efa, lk2] at lk
    cases lk
    rw [b6 f h1, hp, eC] at b5
    have ea : (prOf T ds cs).ar lawg = 1 := by
      show (match T[lawg]? with | some f => f.ar | none => 0) = 1
      rw [h1]
      exact ar1.1
    rw [ea] at b5
    exact b5
end
end G

-- I05
set_option maxRecDepth 100000
set_option maxHeartbeats 0
namespace G05
open PySem G
/-! 61 defs -/
def top (i : Nat) : Stmt := PySem.Challenge.pw_glassrings_k05_whole_bends_and_jumps.main.body.getD i (.Pass ⟨0, 0, 0, 0⟩)
def gd (i : Nat) (x : Str) : He.DefD := ⟨(x, none), x, x, L2.defArgs (top i), L2.defBody (top i), L2.defScope (top i), [], []⟩
def d0 : Df := ⟨"is_whole", 3, ["value", "low", "high"], (.cons (.ret [] (.bool true (.cons (.isi (.var 0) .int) (.cons (.not (.isi (.var 0) .bool)) (.cons (.chn .le .le (.var 1) (.var 0) (.var 2)) .nil))))) .nil), false⟩
def d1 : Df := ⟨"is_set", 1, ["value", "letter"], (.cons (.ifs [] (.bool false (.cons (.not (.isi (.var 0) .str)) (.cons (.not (.chn .le .le (.int 1) (.bf .len (.cons (.var 0) .nil)) (.int 4))) .nil))) (.cons (.ret [] (.bl false)) .nil) .nil) (.cons (.ret [] (.cmp .eq (.comp (.seq (.var 0)) (.nm 1) [1] (.so (.cmp .notIn (.var 1) (.str "pq"))) (.var 1)) (.lst .nil))) .nil)), false⟩
def d2 : Df := ⟨"lowest", 2, ["one", "other", "first", "second"], (.cons (.par [] [2, 3] [false, false] (.cons (.var 0) (.cons (.var 1) .nil))) (.cons (.whl [] (.cmp .gt (.var 3) (.int 0)) (.cons (.par [] [2, 3] [false, false] (.cons (.var 3) (.cons (.bin .mod (.var 2) (.var 3)) .nil))) .nil)) (.cons (.ret [] (.tup (.cons (.bin .fdiv (.var 0) (.var 2)) (.cons (.bin .fdiv (.var 1) (.var 2)) .nil)))) .nil))), false⟩
def d3 : Df := ⟨"less", 2, ["one", "other"], (.cons (.ret [] (.cmp .lt (.bin .mul (.ix (.var 0) (.int 0)) (.ix (.var 1) (.int 1))) (.bin .mul (.ix (.var 1) (.int 0)) (.ix (.var 0) (.int 1))))) .nil), false⟩
def d4 : Df := ⟨"is_step", 2, ["glasses", "value"], (.cons (.ifs [] (.bool false (.cons (.not (.isi (.var 1) .tuple)) (.cons (.cmp .eq (.var 1) (.tup .nil)) (.cons (.not (.isi (.ix (.var 1) (.int 0)) .str)) .nil)))) (.cons (.ret [] (.bl false)) .nil) .nil) (.cons (.ifs [] (.cmp .isIn (.ix (.var 1) (.int 0)) (.tup (.cons (.str "first") (.cons (.str "ring") .nil)))) (.cons (.ret [] (.cmp .eq (.bf .len (.cons (.var 1) .nil)) (.int 1))) .nil) .nil) (.cons (.ret [] (.bool true (.cons (.cmp .isIn (.ix (.var 1) (.int 0)) (.tup (.cons (.str "turn") (.cons (.str "wait") .nil)))) (.cons (.cmp .eq (.bf .len (.cons (.var 1) .nil)) (.int 2)) (.cons (.call 0 (.cons (.ix (.var 1) (.int 1)) (.cons (.int 0) (.cons (.bin .sub (.bf .len (.cons (.var 0) .nil)) (.int 1)) .nil)))) .nil))))) .nil))), false⟩
def d5 : Df := ⟨"is_plan", 1, ["value", "step"], (.cons (.ifs [] (.bool false (.cons (.not (.isi (.var 0) .tuple)) (.cons (.cmp .ne (.bf .len (.cons (.var 0) .nil)) (.int 2)) (.cons (.not (.call 1 (.cons (.ix (.var 0) (.int 0)) .nil))) .nil)))) (.cons (.ret [] (.bl false)) .nil) .nil) (.cons (.ifs [] (.bool false (.cons (.not (.isi (.ix (.var 0) (.int 1)) .tuple)) (.cons (.cmp .gt (.bf .len (.cons (.ix (.var 0) (.int 1)) .nil)) (.gc 2)) .nil))) (.cons (.ret [] (.bl false)) .nil) .nil) (.cons (.ret [] (.cmp .eq (.comp (.seq (.ix (.var 0) (.int 1))) (.nm 1) [1] (.so (.not (.call 4 (.cons (.ix (.var 0) (.int 0)) (.cons (.var 1) .nil))))) (.var 1)) (.lst .nil))) .nil))), false⟩
def d6 : Df := ⟨"need_plan", 1, ["plan"], (.cons (.ifs [] (.not (.call 5 (.cons (.var 0) .nil))) (.cons (.rai 1 "not a plan") .nil) .nil) .nil), false⟩
def d7 : Df := ⟨"rings_in", 1, ["plan", "step"], (.cons (.ret [] (.bf .len (.cons (.comp (.seq (.ix (.var 0) (.int 1))) (.nm 1) [1] (.so (.cmp .eq (.ix (.var 1) (.int 0)) (.str "ring"))) (.var 1)) .nil))) .nil), false⟩
def d8 : Df := ⟨"time_of", 2, ["letter", "times"], (.cons (.ret [] (.ite (.cmp .eq (.var 0) (.str "p")) (.ix (.var 1) (.int 0)) (.ix (.var 1) (.int 1)))) .nil), false⟩
def d9 : Df := ⟨"turned", 4, ["glasses", "times", "above", "glass", "now"], (.cons (.asg [] 4 (.bin .sub (.call 8 (.cons (.ix (.var 0) (.var 3)) (.cons (.var 1) .nil))) (.ix (.var 2) (.var 3)))) (.cons (.ret [] (.bin .add (.bin .add (.sl (.var 2) .no (.so (.var 3))) (.tup (.cons (.var 4) .nil))) (.sl (.var 2) (.so (.bin .add (.var 3) (.int 1))) .no))) .nil)), false⟩
def d10 : Df := ⟨"passed", 2, ["above", "ticks", "sand"], (.cons (.ret [] (.bf .toTuple (.cons (.comp (.seq (.var 0)) (.nm 2) [2] .no (.bf .max2 (.cons (.int 0) (.cons (.bin .sub (.var 2) (.var 1)) .nil)))) .nil))) .nil), false⟩
def d11 : Df := ⟨"ticks_of", 2, ["above", "step", "running", "sand"], (.cons (.ifs [] (.cmp .eq (.ix (.var 1) (.int 0)) (.str "wait")) (.cons (.ret [] (.ix (.var 0) (.ix (.var 1) (.int 1)))) .nil) .nil) (.cons (.asg [] 2 (.comp (.seq (.var 0)) (.nm 3) [3] (.so (.cmp .gt (.var 3) (.int 0))) (.var 3))) (.cons (.ret [] (.ite (.bool true (.cons (.cmp .eq (.ix (.var 1) (.int 0)) (.str "first")) (.cons (.cmp .ne (.var 2) (.lst .nil)) .nil))) (.bf .minL (.cons (.var 2) .nil)) (.int 0))) .nil))), false⟩
def d12 : Df := ⟨"stepped", 4, ["glasses", "times", "above", "step", "ticks"], (.cons (.ifs [] (.cmp .eq (.ix (.var 3) (.int 0)) (.str "turn")) (.cons (.ret [] (.tup (.cons (.int 0) (.cons (.call 9 (.cons (.var 0) (.cons (.var 1) (.cons (.var 2) (.cons (.ix (.var 3) (.int 1)) .nil))))) .nil)))) .nil) .nil) (.cons (.asg [] 4 (.call 11 (.cons (.var 2) (.cons (.var 3) .nil)))) (.cons (.ret [] (.tup (.cons (.var 4) (.cons (.call 10 (.cons (.var 2) (.cons (.var 4) .nil))) .nil)))) .nil))), false⟩
def d13 : Df := ⟨"look_of", 1, ["above", "sand"], (.cons (.ret [] (.bf .toTuple (.cons (.comp (.seq (.var 0)) (.nm 1) [1] .no (.cmp .gt (.var 1) (.int 0))) .nil))) .nil), false⟩
def d14 : Df := ⟨"value_at", 2, ["form", "ratio"], (.cons (.ret [] (.bin .add (.bin .mul (.ix (.var 0) (.int 0)) (.ix (.var 1) (.int 0))) (.bin .mul (.ix (.var 0) (.int 1)) (.ix (.var 1) (.int 1))))) .nil), false⟩
def d15 : Df := ⟨"minus", 2, ["one", "other"], (.cons (.ret [] (.tup (.cons (.bin .sub (.ix (.var 0) (.int 0)) (.ix (.var 1) (.int 0))) (.cons (.bin .sub (.ix (.var 0) (.int 1)) (.ix (.var 1) (.int 1))) .nil)))) .nil), false⟩
def d16 : Df := ⟨"zero_of", 1, ["form"], (.cons (.ifs [] (.cmp .ge (.bin .mul (.ix (.var 0) (.int 0)) (.ix (.var 0) (.int 1))) (.int 0)) (.cons (.ret [] .non) .nil) .nil) (.cons (.ret [] (.call 2 (.cons (.bf .abs (.cons (.ix (.var 0) (.int 1)) .nil)) (.cons (.bf .abs (.cons (.ix (.var 0) (.int 0)) .nil)) .nil)))) .nil)), false⟩
def d17 : Df := ⟨"zero_within", 3, ["form", "low", "high", "ratio"], (.cons (.asg [] 3 (.call 16 (.cons (.var 0) .nil))) (.cons (.ret [] (.ite (.bool true (.cons (.notN (.var 3)) (.cons (.call 3 (.cons (.var 1) (.cons (.var 3) .nil))) (.cons (.call 3 (.cons (.var 3) (.cons (.var 2) .nil))) .nil)))) (.var 3) .non)) .nil)), false⟩
def d18 : Df := ⟨"sign_of", 2, ["form", "low", "ratio", "rises", "total"], (.cons (.asg [] 2 (.call 16 (.cons (.var 0) .nil))) (.cons (.ifs [] (.isN (.var 2)) (.cons (.asg [] 4 (.bin .add (.ix (.var 0) (.int 0)) (.ix (.var 0) (.int 1)))) (.cons (.ret [] (.bin .sub (.cmp .gt (.var 4) (.int 0)) (.cmp .lt (.var 4) (.int 0)))) .nil)) .nil) (.cons (.asg [] 3 (.ite (.cmp .gt (.ix (.var 0) (.int 0)) (.int 0)) (.int 1) (.neg (.int 1)))) (.cons (.ret [] (.ite (.call 3 (.cons (.var 1) (.cons (.var 2) .nil))) (.neg (.var 3)) (.var 3))) .nil)))), false⟩
def d19 : Df := ⟨"begin", 3, ["glasses", "low", "high", "nothing"], (.cons (.asg [] 3 (.ite (.cmp .eq (.var 1) (.var 2)) (.int 0) (.tup (.cons (.int 0) (.cons (.int 0) .nil))))) (.cons (.ret [] (.tup (.cons (.var 1) (.cons (.var 2) (.cons (.bin .mul (.tup (.cons (.var 3) .nil)) (.bf .len (.cons (.var 0) .nil))) (.cons (.var 3) (.cons (.tup .nil) .nil))))))) .nil)), false⟩
def d20 : Df := ⟨"at_ratio", 2, ["piece", "ratio", "above", "rings", "form", "time", "look"], (.cons (.asg [] 2 (.bf .toTuple (.cons (.comp (.seq (.ix (.var 0) (.int 2))) (.nm 4) [4] .no (.call 14 (.cons (.var 4) (.cons (.var 1) .nil)))) .nil))) (.cons (.asg [] 3 (.bf .toTuple (.cons (.comp (.seq (.ix (.var 0) (.int 4))) (.tp [5, 6]) [5, 6] .no (.tup (.cons (.call 14 (.cons (.var 5) (.cons (.var 1) .nil))) (.cons (.var 6) .nil)))) .nil))) (.cons (.ret [] (.tup (.cons (.var 1) (.cons (.var 1) (.cons (.var 2) (.cons (.call 14 (.cons (.ix (.var 0) (.int 3)) (.cons (.var 1) .nil))) (.cons (.var 3) .nil))))))) .nil))), false⟩
def d21 : Df := ⟨"cut", 2, ["piece", "ratio"], (.cons (.ret [] (.lst (.cons (.bin .add (.bin .add (.sl (.var 0) .no (.so (.int 1))) (.tup (.cons (.var 1) .nil))) (.sl (.var 0) (.so (.int 2)) .no)) (.cons (.call 20 (.cons (.var 0) (.cons (.var 1) .nil))) (.cons (.bin .add (.tup (.cons (.var 1) .nil)) (.sl (.var 0) (.so (.int 1)) .no)) .nil))))) .nil), false⟩
def d22 : Df := ⟨"asked", 2, ["above", "step", "form", "other"], (.cons (.ifs [] (.cmp .eq (.ix (.var 1) (.int 0)) (.str "wait")) (.cons (.ret [] (.comp (.seq (.var 0)) (.nm 2) [2] .no (.call 15 (.cons (.var 2) (.cons (.ix (.var 0) (.ix (.var 1) (.int 1))) .nil))))) .nil) .nil) (.cons (.ifs [] (.cmp .eq (.ix (.var 1) (.int 0)) (.str "first")) (.cons (.ret [] (.comp2 (.seq (.var 0)) (.nm 2) (.seq (.var 0)) (.nm 3) [2, 3] [3] (.call 15 (.cons (.var 2) (.cons (.var 3) .nil))))) .nil) .nil) (.cons (.ret [] (.lst .nil)) .nil))), false⟩
def d23 : Df := ⟨"first_cut", 2, ["piece", "step", "form", "ratio"], (.cons (.fors [] (.seq (.call 22 (.cons (.ix (.var 0) (.int 2)) (.cons (.var 1) .nil)))) (.nm 2) (.cons (.asg [] 3 (.call 17 (.cons (.var 2) (.cons (.ix (.var 0) (.int 0)) (.cons (.ix (.var 0) (.int 1)) .nil))))) (.cons (.ifs [] (.notN (.var 3)) (.cons (.ret [] (.var 3)) .nil) .nil) .nil))) (.cons (.ret [] .non) .nil)), false⟩
def d24 : Df := ⟨"least", 2, ["above", "low", "found", "form"], (.cons (.asg [] 2 .non) (.cons (.fors [] (.seq (.var 0)) (.nm 3) (.cons (.ifs [] (.bool true (.cons (.cmp .ne (.var 3) (.tup (.cons (.int 0) (.cons (.int 0) .nil)))) (.cons (.bool false (.cons (.isN (.var 2)) (.cons (.cmp .gt (.call 18 (.cons (.call 15 (.cons (.var 2) (.cons (.var 3) .nil))) (.cons (.var 1) .nil))) (.int 0)) .nil))) .nil))) (.cons (.asg [] 2 (.var 3)) .nil) .nil) .nil)) (.cons (.ret [] (.var 2)) .nil))), false⟩
def d25 : Df := ⟨"waited", 2, ["piece", "form", "rests", "left", "low", "high", "above", "time", "rings", "sand", "rest"], (.cons (.unp [] [4, 5, 6, 7, 8] (.var 0)) (.cons (.asg [] 2 (.comp (.seq (.var 6)) (.nm 9) [9] .no (.call 15 (.cons (.var 9) (.cons (.var 1) .nil))))) (.cons (.asg [] 3 (.bf .toTuple (.cons (.comp (.seq (.var 2)) (.nm 10) [10] .no (.ite (.cmp .gt (.call 18 (.cons (.var 10) (.cons (.var 4) .nil))) (.int 0)) (.var 10) (.tup (.cons (.int 0) (.cons (.int 0) .nil))))) .nil))) (.cons (.ret [] (.tup (.cons (.var 4) (.cons (.var 5) (.cons (.var 3) (.cons (.tup (.cons (.bin .add (.ix (.var 7) (.int 0)) (.ix (.var 1) (.int 0))) (.cons (.bin .add (.ix (.var 7) (.int 1)) (.ix (.var 1) (.int 1))) .nil))) (.cons (.var 8) .nil))))))) .nil)))), false⟩
def d26 : Df := ⟨"moved", 3, ["glasses", "piece", "step", "form", "low", "high", "above", "time", "rings", "whole", "now", "look"], (.cons (.unp [] [4, 5, 6, 7, 8] (.var 1)) (.cons (.ifs [] (.cmp .eq (.ix (.var 2) (.int 0)) (.str "turn")) (.cons (.asg [] 9 (.ite (.cmp .eq (.ix (.var 0) (.ix (.var 2) (.int 1))) (.str "p")) (.tup (.cons (.int 1) (.cons (.int 0) .nil))) (.tup (.cons (.int 0) (.cons (.int 1) .nil))))) (.cons (.asg [] 10 (.call 15 (.cons (.var 9) (.cons (.ix (.var 6) (.ix (.var 2) (.int 1))) .nil)))) (.cons (.ret [] (.tup (.cons (.var 4) (.cons (.var 5) (.cons (.bin .add (.bin .add (.sl (.var 6) .no (.so (.ix (.var 2) (.int 1)))) (.tup (.cons (.var 10) .nil))) (.sl (.var 6) (.so (.bin .add (.ix (.var 2) (.int 1)) (.int 1))) .no)) (.cons (.var 7) (.cons (.var 8) .nil))))))) .nil))) .nil) (.cons (.ifs [] (.cmp .eq (.ix (.var 2) (.int 0)) (.str "ring")) (.cons (.asg [] 11 (.bf .toTuple (.cons (.comp (.seq (.var 6)) (.nm 3) [3] .no (.cmp .ne (.var 3) (.tup (.cons (.int 0) (.cons (.int 0) .nil))))) .nil))) (.cons (.ret [] (.tup (.cons (.var 4) (.cons (.var 5) (.cons (.var 6) (.cons (.var 7) (.cons (.bin .add (.var 8) (.tup (.cons (.tup (.cons (.var 7) (.cons (.var 11) .nil))) .nil))) .nil))))))) .nil)) .nil) (.cons (.asg [] 3 (.ite (.cmp .eq (.ix (.var 2) (.int 0)) (.str "wait")) (.ix (.var 6) (.ix (.var 2) (.int 1))) (.call 24 (.cons (.var 6) (.cons (.var 4) .nil))))) (.cons (.ret [] (.ite (.isN (.var 3)) (.var 1) (.call 25 (.cons (.var 1) (.cons (.var 3) .nil))))) .nil))))), false⟩
def d27 : Df := ⟨"moved_at", 3, ["glasses", "piece", "step", "low", "high", "above", "time", "rings", "ticks"], (.cons (.unp [] [3, 4, 5, 6, 7] (.var 1)) (.cons (.unp [] [8, 5] (.call 12 (.cons (.var 0) (.cons (.var 3) (.cons (.var 5) (.cons (.var 2) .nil)))))) (.cons (.ifs [] (.cmp .eq (.ix (.var 2) (.int 0)) (.str "ring")) (.cons (.asg [] 7 (.bin .add (.var 7) (.tup (.cons (.tup (.cons (.var 6) (.cons (.call 13 (.cons (.var 5) .nil)) .nil))) .nil)))) .nil) .nil) (.cons (.ret [] (.tup (.cons (.var 3) (.cons (.var 4) (.cons (.var 5) (.cons (.bin .add (.var 6) (.var 8)) (.cons (.var 7) .nil))))))) .nil)))), false⟩
def d28 : Df := ⟨"advance", 3, ["glasses", "piece", "step", "ratio", "found", "part"], (.cons (.ifs [] (.cmp .eq (.ix (.var 1) (.int 0)) (.ix (.var 1) (.int 1))) (.cons (.ret [] (.lst (.cons (.call 27 (.cons (.var 0) (.cons (.var 1) (.cons (.var 2) .nil)))) .nil))) .nil) .nil) (.cons (.asg [] 3 (.call 23 (.cons (.var 1) (.cons (.var 2) .nil)))) (.cons (.ifs [] (.isN (.var 3)) (.cons (.ret [] (.lst (.cons (.call 26 (.cons (.var 0) (.cons (.var 1) (.cons (.var 2) .nil)))) .nil))) .nil) .nil) (.cons (.asg [] 4 (.lst .nil)) (.cons (.fors [] (.seq (.call 21 (.cons (.var 1) (.cons (.var 3) .nil)))) (.nm 5) (.cons (.asg [] 4 (.bin .add (.var 4) (.call 28 (.cons (.var 0) (.cons (.var 5) (.cons (.var 2) .nil)))))) .nil)) (.cons (.ret [] (.var 4)) .nil)))))), false⟩
def d29 : Df := ⟨"advance_all", 3, ["glasses", "pieces", "step", "found", "piece"], (.cons (.asg [] 3 (.lst .nil)) (.cons (.fors [] (.seq (.var 1)) (.nm 4) (.cons (.asg [] 3 (.bin .add (.var 3) (.call 28 (.cons (.var 0) (.cons (.var 4) (.cons (.var 2) .nil)))))) .nil)) (.cons (.ret [] (.var 3)) .nil))), false⟩
def d30 : Df := ⟨"course", 1, ["plan", "pieces", "step"], (.cons (.asg [] 1 (.lst (.cons (.call 19 (.cons (.ix (.var 0) (.int 0)) (.cons (.gc 0) (.cons (.gc 1) .nil)))) .nil))) (.cons (.fors [] (.seq (.ix (.var 0) (.int 1))) (.nm 2) (.cons (.asg [] 1 (.call 29 (.cons (.ix (.var 0) (.int 0)) (.cons (.var 1) (.cons (.var 2) .nil))))) .nil)) (.cons (.ret [] (.var 1)) .nil))), false⟩
def d31 : Df := ⟨"amounts_of", 3, ["pieces", "number", "glass", "found", "low", "high", "above", "time", "rings"], (.cons (.own [] 3 (.lst .nil)) (.cons (.fors [] (.seq (.var 0)) (.tp [4, 5, 6, 7, 8]) (.cons (.app [] 3 (.tup (.cons (.var 4) (.cons (.var 5) (.cons (.ite (.isN (.var 1)) (.ix (.var 6) (.var 2)) (.ix (.ix (.var 8) (.var 1)) (.int 0))) .nil))))) .nil)) (.cons (.retO 3) .nil))), false⟩
def d32 : Df := ⟨"jumps_in", 1, ["parts", "found", "at", "ratio", "amount"], (.cons (.own [] 1 (.lst .nil)) (.cons (.fors [] (.rng3 (.int 1) (.bf .len (.cons (.var 0) .nil)) 2) (.nm 2) (.cons (.par [] [3, 4] [false, false] (.cons (.ix (.ix (.var 0) (.var 2)) (.int 0)) (.cons (.ix (.ix (.var 0) (.var 2)) (.int 2)) .nil))) (.cons (.ifs [] (.bool false (.cons (.cmp .ne (.call 14 (.cons (.ix (.ix (.var 0) (.bin .sub (.var 2) (.int 1))) (.int 2)) (.cons (.var 3) .nil))) (.var 4)) (.cons (.cmp .ne (.call 14 (.cons (.ix (.ix (.var 0) (.bin .add (.var 2) (.int 1))) (.int 2)) (.cons (.var 3) .nil))) (.var 4)) .nil))) (.cons (.app [] 1 (.var 3)) .nil) .nil) .nil))) (.cons (.retO 1) .nil))), false⟩
def d33 : Df := ⟨"bends_in", 1, ["parts", "at", "jumping", "found"], (.cons (.par [] [2, 3] [false, true] (.cons (.call 32 (.cons (.var 0) .nil)) (.cons (.lst .nil) .nil))) (.cons (.fors [] (.rng3 (.int 1) (.bf .len (.cons (.var 0) .nil)) 2) (.nm 1) (.cons (.ifs [] (.bool true (.cons (.cmp .ne (.ix (.ix (.var 0) (.bin .sub (.var 1) (.int 1))) (.int 2)) (.ix (.ix (.var 0) (.bin .add (.var 1) (.int 1))) (.int 2))) (.cons (.cmp .notIn (.ix (.ix (.var 0) (.var 1)) (.int 0)) (.var 2)) .nil))) (.cons (.app [] 3 (.ix (.ix (.var 0) (.var 1)) (.int 0))) .nil) .nil) .nil)) (.cons (.retO 3) .nil))), false⟩
def d34 : Df := ⟨"of_some_ring", 2, ["plan", "told", "pieces", "known", "number", "piece"], (.cons (.asg [] 2 (.call 30 (.cons (.var 0) .nil))) (.cons (.own [] 3 (.lst .nil)) (.cons (.fors [] (.rng1 (.call 7 (.cons (.var 0) .nil))) (.nm 4) (.cons (.ext [] 3 (.callv 1 (.cons (.call 31 (.cons (.var 2) (.cons (.var 4) (.cons (.int 0) .nil)))) .nil))) .nil)) (.cons (.ret [3] (.comp (.seq (.var 2)) (.nm 5) [5] (.so (.bool true (.cons (.cmp .eq (.ix (.var 5) (.int 0)) (.ix (.var 5) (.int 1))) (.cons (.cmp .isIn (.ix (.var 5) (.int 0)) (.var 3)) .nil)))) (.ix (.var 5) (.int 0)))) .nil)))), false⟩
def d35 : Df := ⟨"bends", 1, ["plan"], (.cons (.exp [] (.call 6 (.cons (.var 0) .nil))) (.cons (.ret [] (.call 34 (.cons (.var 0) (.cons (.gf 33) .nil)))) .nil)), false⟩
def d36 : Df := ⟨"jumps", 1, ["plan"], (.cons (.exp [] (.call 6 (.cons (.var 0) .nil))) (.cons (.ret [] (.call 34 (.cons (.var 0) (.cons (.gf 32) .nil)))) .nil)), false⟩
def d37 : Df := ⟨"_law_vat", 2, ["script", "k", "cell"], (.cons (.asg [] 2 (.bin .add (.bin .mul (.int 7919) (.var 1)) (.int 43))) (.cons (.ifs [] (.cmp .lt (.var 1) (.bf .len (.cons (.var 0) .nil))) (.cons (.asg [] 2 (.bf .abs (.cons (.bf .toInt (.cons (.ix (.var 0) (.var 1)) .nil)) .nil))) .nil) .nil) (.cons (.ret [] (.lst (.cons (.ite (.cmp .ge (.var 2) (.bin .pow (.int 10) (.int 18))) (.var 2) (.int 0)) (.cons (.bin .add (.bin .mod (.bf .toInt (.cons (.bin .add (.bin .add (.bin .mul (.var 2) (.int 131071)) (.bin .mul (.int 8191) (.var 1))) (.int 5)) .nil)) (.int 2147483629)) (.int 1)) .nil)))) .nil))), false⟩
def d38 : Df := ⟨"_law_under", 2, ["vat", "many", "wide", "found"], (.cons (.ifs [] (.cmp .gt (.ixl 0 (.int 0)) (.int 0)) (.cons (.asg [] 3 (.bin .mod (.bf .toInt (.cons (.ixl 0 (.int 0)) .nil)) (.var 1))) (.cons (.set [] 0 (.int 0) (.bin .fdiv (.ixl 0 (.int 0)) (.var 1))) (.cons (.ret [] (.var 3)) .nil))) .nil) (.cons (.set [] 0 (.int 1) (.bin .mod (.bf .toInt (.cons (.bin .add (.bin .mul (.ixl 0 (.int 1)) (.int 39373)) (.int 101)) .nil)) (.int 2147483629))) (.cons (.asg [] 2 (.bin .mod (.bf .toInt (.cons (.bin .mul (.ixl 0 (.int 1)) (.bin .add (.bin .fdiv (.ixl 0 (.int 1)) (.int 5)) (.int 9))) .nil)) (.int 2147483587))) (.cons (.ret [] (.bin .mod (.bf .toInt (.cons (.bin .fdiv (.var 2) (.int 32)) .nil)) (.var 1))) .nil)))), false⟩
def d39 : Df := ⟨"_law_some", 2, ["vat", "things"], (.cons (.ret [] (.ix (.var 1) (.call 38 (.cons (.var 0) (.cons (.bf .len (.cons (.var 1) .nil)) .nil))))) .nil), false⟩
def d40 : Df := ⟨"_law_kinds", 2, ["vat", "most", "many", "row", "glass"], (.cons (.asg [] 2 (.call 39 (.cons (.var 0) (.cons (.lst (.cons (.int 1) (.cons (.int 2) (.cons (.int 2) (.cons (.int 2) (.cons (.int 3) (.cons (.int 4) .nil))))))) .nil)))) (.cons (.own [] 3 (.comp (.rng1 (.bf .min2 (.cons (.var 2) (.cons (.var 1) .nil)))) (.nm 4) [4] .no (.call 39 (.cons (.var 0) (.cons (.lst (.cons (.str "p") (.cons (.str "q") .nil))) .nil))))) (.cons (.ifs [3] (.bool true (.cons (.cmp .gt (.bf .len (.cons (.var 3) .nil)) (.int 1)) (.cons (.cmp .gt (.call 38 (.cons (.var 0) (.cons (.int 3) .nil))) (.int 0)) .nil))) (.cons (.set2 3 0 1 (.str "p") (.str "q")) .nil) .nil) (.cons (.ret [3] (.mt .join (.str "") (.cons (.var 3) .nil))) .nil)))), false⟩
def d41 : Df := ⟨"_law_step", 2, ["vat", "kinds", "way", "glass"], (.cons (.par [] [2, 3] [false, false] (.cons (.call 38 (.cons (.var 0) (.cons (.int 9) .nil))) (.cons (.call 38 (.cons (.var 0) (.cons (.bf .len (.cons (.var 1) .nil)) .nil))) .nil))) (.cons (.ifs [] (.cmp .lt (.var 2) (.int 4)) (.cons (.ret [] (.tup (.cons (.str "turn") (.cons (.var 3) .nil)))) .nil) .nil) (.cons (.ifs [] (.cmp .lt (.var 2) (.int 6)) (.cons (.ret [] (.tup (.cons (.str "wait") (.cons (.var 3) .nil)))) .nil) .nil) (.cons (.ret [] (.ite (.cmp .lt (.var 2) (.int 8)) (.tup (.cons (.str "first") .nil)) (.tup (.cons (.str "ring") .nil)))) .nil)))), false⟩
def d42 : Df := ⟨"_law_waits", 2, ["vat", "kinds"], (.cons (.ret [] (.call 39 (.cons (.var 0) (.cons (.lst (.cons (.tup (.cons (.str "first") .nil)) (.cons (.tup (.cons (.str "wait") (.cons (.call 38 (.cons (.var 0) (.cons (.bf .len (.cons (.var 1) .nil)) .nil))) .nil))) .nil))) .nil)))) .nil), false⟩
def d43 : Df := ⟨"_law_steps", 3, ["vat", "kinds", "most", "found", "many", "more", "glass"], (.cons (.asg [] 3 (.tup .nil)) (.cons (.ifs [] (.cmp .gt (.call 38 (.cons (.var 0) (.cons (.int 4) .nil))) (.int 0)) (.cons (.asg [] 3 (.bf .toTuple (.cons (.comp (.rng1 (.bf .len (.cons (.var 1) .nil))) (.nm 6) [6] .no (.tup (.cons (.str "turn") (.cons (.var 6) .nil)))) .nil))) .nil) .nil) (.cons (.asg [] 4 (.call 38 (.cons (.var 0) (.cons (.bin .add (.var 2) (.int 1)) .nil)))) (.cons (.whl [] (.cmp .lt (.bf .len (.cons (.var 3) .nil)) (.var 4)) (.cons (.asg [] 5 (.tup (.cons (.call 41 (.cons (.var 0) (.cons (.var 1) .nil))) .nil))) (.cons (.ifs [] (.cmp .eq (.call 38 (.cons (.var 0) (.cons (.int 3) .nil))) (.int 0)) (.cons (.asg [] 5 (.tup (.cons (.tup (.cons (.str "turn") (.cons (.call 38 (.cons (.var 0) (.cons (.bf .len (.cons (.var 1) .nil)) .nil))) .nil))) (.cons (.call 42 (.cons (.var 0) (.cons (.var 1) .nil))) .nil)))) .nil) .nil) (.cons (.asg [] 3 (.bin .add (.var 3) (.var 5))) .nil)))) (.cons (.asg [] 3 (.sl (.var 3) .no (.so (.var 2)))) (.cons (.ret [] (.ite (.bool true (.cons (.cmp .ne (.var 3) (.tup .nil)) (.cons (.cmp .gt (.call 38 (.cons (.var 0) (.cons (.int 4) .nil))) (.int 0)) .nil))) (.bin .add (.sl (.var 3) .no (.so (.neg (.int 1)))) (.tup (.cons (.tup (.cons (.str "ring") .nil)) .nil))) (.var 3))) .nil)))))), false⟩
def d44 : Df := ⟨"_law_plan", 3, ["vat", "most", "peak", "kinds"], (.cons (.asg [] 3 (.call 40 (.cons (.var 0) (.cons (.var 2) .nil)))) (.cons (.ret [] (.tup (.cons (.var 3) (.cons (.call 43 (.cons (.var 0) (.cons (.var 3) (.cons (.var 1) .nil)))) .nil)))) .nil)), false⟩
def d45 : Df := ⟨"_law_reduced", 2, ["one", "other", "big", "small"], (.cons (.par [] [2, 3] [false, false] (.cons (.bf .max2 (.cons (.var 0) (.cons (.var 1) .nil))) (.cons (.bf .min2 (.cons (.var 0) (.cons (.var 1) .nil))) .nil))) (.cons (.whl [] (.cmp .gt (.var 3) (.int 0)) (.cons (.par [] [2, 3] [false, false] (.cons (.var 3) (.cons (.bin .mod (.bf .toInt (.cons (.var 2) .nil)) (.var 3)) .nil))) .nil)) (.cons (.ret [] (.tup (.cons (.bin .fdiv (.var 0) (.var 2)) (.cons (.bin .fdiv (.var 1) (.var 2)) .nil)))) .nil))), false⟩
def d46 : Df := ⟨"_law_worth", 2, ["form", "pair"], (.cons (.ret [] (.bin .add (.bin .mul (.ix (.var 0) (.int 0)) (.ix (.var 1) (.int 0))) (.bin .mul (.ix (.var 0) (.int 1)) (.ix (.var 1) (.int 1))))) .nil), false⟩
def d47 : Df := ⟨"_law_off", 2, ["one", "other"], (.cons (.ret [] (.tup (.cons (.bin .sub (.ix (.var 0) (.int 0)) (.ix (.var 1) (.int 0))) (.cons (.bin .sub (.ix (.var 0) (.int 1)) (.ix (.var 1) (.int 1))) .nil)))) .nil), false⟩
def d48 : Df := ⟨"_law_sign", 3, ["form", "low", "high", "left", "right"], (.cons (.par [] [3, 4] [false, false] (.cons (.call 46 (.cons (.var 0) (.cons (.var 1) .nil))) (.cons (.call 46 (.cons (.var 0) (.cons (.var 2) .nil))) .nil))) (.cons (.ifs [] (.bool true (.cons (.cmp .ge (.var 3) (.int 0)) (.cons (.cmp .ge (.var 4) (.int 0)) .nil))) (.cons (.ret [] (.bf .toInt (.cons (.cmp .gt (.bin .add (.var 3) (.var 4)) (.int 0)) .nil))) .nil) .nil) (.cons (.ifs [] (.bool true (.cons (.cmp .le (.var 3) (.int 0)) (.cons (.cmp .le (.var 4) (.int 0)) .nil))) (.cons (.ret [] (.neg (.int 1))) .nil) .nil) (.cons (.ret [] .non) .nil)))), false⟩
def d49 : Df := ⟨"_law_root", 3, ["form", "low", "high", "top", "left", "right"], (.cons (.par [] [4, 5] [false, false] (.cons (.bf .abs (.cons (.call 46 (.cons (.var 0) (.cons (.var 1) .nil))) .nil)) (.cons (.bf .abs (.cons (.call 46 (.cons (.var 0) (.cons (.var 2) .nil))) .nil)) .nil))) (.cons (.asg [] 3 (.bin .add (.bin .mul (.ix (.var 1) (.int 0)) (.var 5)) (.bin .mul (.ix (.var 2) (.int 0)) (.var 4)))) (.cons (.ret [] (.call 45 (.cons (.var 3) (.cons (.bin .add (.bin .mul (.ix (.var 1) (.int 1)) (.var 5)) (.bin .mul (.ix (.var 2) (.int 1)) (.var 4))) .nil)))) .nil))), false⟩
def d50 : Df := ⟨"_law_pause", 2, ["sands", "step", "some", "sand"], (.cons (.ifs [] (.cmp .eq (.ix (.var 1) (.int 0)) (.str "wait")) (.cons (.ret [] (.ix (.var 0) (.ix (.var 1) (.int 1)))) .nil) .nil) (.cons (.asg [] 2 (.bf .sortI (.cons (.comp (.seq (.var 0)) (.nm 3) [3] (.so (.cmp .gt (.var 3) (.int 0))) (.var 3)) .nil))) (.cons (.ret [] (.ite (.bool true (.cons (.cmp .eq (.ix (.var 1) (.int 0)) (.str "first")) (.cons (.cmp .ne (.var 2) (.lst .nil)) .nil))) (.ix (.var 2) (.int 0)) (.int 0))) .nil))), false⟩
def d51 : Df := ⟨"_law_go", 4, ["kinds", "pair", "sands", "step", "ticks", "whole", "now", "glass", "sand"], (.cons (.ifs [] (.cmp .eq (.ix (.var 3) (.int 0)) (.str "turn")) (.cons (.par [] [6, 7] [true, false] (.cons (.bf .toList (.cons (.var 2) .nil)) (.cons (.ix (.var 3) (.int 1)) .nil))) (.cons (.asg [] 5 (.ix (.var 1) (.mt .index (.str "pq") (.cons (.ix (.var 0) (.var 7)) .nil)))) (.cons (.set [6] 6 (.var 7) (.bin .sub (.var 5) (.ix (.var 6) (.var 7)))) (.cons (.ret [6] (.bf .toTuple (.cons (.var 6) .nil))) .nil)))) .nil) (.cons (.asg [] 4 (.call 50 (.cons (.var 2) (.cons (.var 3) .nil)))) (.cons (.ret [] (.bf .toTuple (.cons (.comp (.seq (.var 2)) (.nm 8) [8] .no (.bin .sub (.var 8) (.bf .min2 (.cons (.var 8) (.cons (.var 4) .nil))))) .nil))) .nil))), false⟩
def d52 : Df := ⟨"_law_fate", 2, ["plan", "pair", "step", "sands", "clock", "heard", "sand"], (.cons (.par [] [3, 4, 5] [false, false, true] (.cons (.bin .mul (.tup (.cons (.int 0) .nil)) (.bf .len (.cons (.ix (.var 0) (.int 0)) .nil))) (.cons (.int 0) (.cons (.lst .nil) .nil)))) (.cons (.fors [] (.seq (.ix (.var 0) (.int 1))) (.nm 2) (.cons (.ifs [] (.cmp .ne (.ix (.var 2) (.int 0)) (.str "turn")) (.cons (.asg [] 4 (.bin .add (.var 4) (.call 50 (.cons (.var 3) (.cons (.var 2) .nil))))) .nil) .nil) (.cons (.asg [] 3 (.call 51 (.cons (.ix (.var 0) (.int 0)) (.cons (.var 1) (.cons (.var 3) (.cons (.var 2) .nil)))))) (.cons (.ifs [] (.cmp .eq (.ix (.var 2) (.int 0)) (.str "ring")) (.cons (.app [] 5 (.tup (.cons (.var 4) (.cons (.bf .toTuple (.cons (.comp (.seq (.var 3)) (.nm 6) [6] .no (.cmp .gt (.var 6) (.int 0))) .nil)) .nil)))) .nil) .nil) .nil)))) (.cons (.ret [5] (.tup (.cons (.var 5) (.cons (.var 3) (.cons (.var 4) .nil))))) .nil))), false⟩
def d53 : Df := ⟨"_law_doubt", 4, ["sands", "step", "low", "high", "some", "form", "other"], (.cons (.asg [] 4 (.ite (.cmp .eq (.ix (.var 1) (.int 0)) (.str "wait")) (.lst (.cons (.ix (.var 0) (.ix (.var 1) (.int 1))) .nil)) (.var 0))) (.cons (.ifs [] (.cmp .isIn (.ix (.var 1) (.int 0)) (.tup (.cons (.str "turn") (.cons (.str "ring") .nil)))) (.cons (.ret [] .non) .nil) .nil) (.cons (.fors [] (.seq (.var 0)) (.nm 5) (.cons (.fors [] (.seq (.var 4)) (.nm 6) (.cons (.ifs [] (.isN (.call 48 (.cons (.call 47 (.cons (.var 5) (.cons (.var 6) .nil))) (.cons (.var 2) (.cons (.var 3) .nil))))) (.cons (.ret [] (.call 49 (.cons (.call 47 (.cons (.var 5) (.cons (.var 6) .nil))) (.cons (.var 2) (.cons (.var 3) .nil))))) .nil) .nil) .nil)) .nil)) (.cons (.ret [] .non) .nil)))), false⟩
def d54 : Df := ⟨"_law_goal", 4, ["sands", "step", "low", "high", "some", "form", "signs", "other"], (.cons (.ifs [] (.cmp .eq (.ix (.var 1) (.int 0)) (.str "wait")) (.cons (.ret [] (.ix (.var 0) (.ix (.var 1) (.int 1)))) .nil) .nil) (.cons (.asg [] 4 (.comp (.seq (.var 0)) (.nm 5) [5] (.so (.cmp .ne (.var 5) (.tup (.cons (.int 0) (.cons (.int 0) .nil))))) (.var 5))) (.cons (.fors [] (.seq (.var 4)) (.nm 5) (.cons (.asg [] 6 (.comp (.seq (.var 4)) (.nm 7) [7] .no (.call 48 (.cons (.call 47 (.cons (.var 7) (.cons (.var 5) .nil))) (.cons (.var 2) (.cons (.var 3) .nil)))))) (.cons (.ifs [] (.cmp .notIn (.neg (.int 1)) (.var 6)) (.cons (.ret [] (.var 5)) .nil) .nil) .nil))) (.cons (.ret [] (.tup (.cons (.int 0) (.cons (.int 0) .nil)))) .nil)))), false⟩
def d55 : Df := ⟨"_law_even", 3, ["plan", "low", "high", "step", "sands", "clock", "heard", "doubt", "whole", "goal", "at", "form"], (.cons (.par [] [4, 5, 6] [true, false, true] (.cons (.repL (.cons (.tup (.cons (.int 0) (.cons (.int 0) .nil))) .nil) (.bf .len (.cons (.ix (.var 0) (.int 0)) .nil))) (.cons (.tup (.cons (.int 0) (.cons (.int 0) .nil))) (.cons (.lst .nil) .nil)))) (.cons (.fors [] (.seq (.ix (.var 0) (.int 1))) (.nm 3) (.cons (.asg [4] 7 (.call 53 (.cons (.var 4) (.cons (.var 3) (.cons (.var 1) (.cons (.var 2) .nil)))))) (.cons (.ifs [] (.notN (.var 7)) (.cons (.ret [] (.tup (.cons (.var 7) (.cons (.lst .nil) (.cons (.tup .nil) (.cons (.tup (.cons (.int 0) (.cons (.int 0) .nil))) .nil)))))) .nil) .nil) (.cons (.ifs [] (.cmp .eq (.ix (.var 3) (.int 0)) (.str "turn")) (.cons (.asg [] 8 (.ite (.cmp .eq (.ix (.ix (.var 0) (.int 0)) (.ix (.var 3) (.int 1))) (.str "p")) (.tup (.cons (.int 1) (.cons (.int 0) .nil))) (.tup (.cons (.int 0) (.cons (.int 1) .nil))))) (.cons (.set [4] 4 (.ix (.var 3) (.int 1)) (.call 47 (.cons (.var 8) (.cons (.ix (.var 4) (.ix (.var 3) (.int 1))) .nil)))) .nil)) (.cons (.ifs [] (.cmp .eq (.ix (.var 3) (.int 0)) (.str "ring")) (.cons (.app [4] 6 (.tup (.cons (.var 5) (.cons (.bf .toTuple (.cons (.comp (.seq (.var 4)) (.nm 11) [11] .no (.cmp .ne (.var 11) (.tup (.cons (.int 0) (.cons (.int 0) .nil))))) .nil)) .nil)))) .nil) (.cons (.asg [4] 9 (.call 54 (.cons (.var 4) (.cons (.var 3) (.cons (.var 1) (.cons (.var 2) .nil)))))) (.cons (.own [4] 4 (.comp (.seq (.var 4)) (.nm 11) [11] .no (.call 47 (.cons (.var 11) (.cons (.var 9) .nil))))) (.cons (.fors [4] (.rng1 (.bf .len (.cons (.var 4) .nil))) (.nm 10) (.cons (.ifs [4] (.cmp .lt (.call 48 (.cons (.ix (.var 4) (.var 10)) (.cons (.var 1) (.cons (.var 2) .nil)))) (.int 1)) (.cons (.set [] 4 (.var 10) (.tup (.cons (.int 0) (.cons (.int 0) .nil)))) .nil) .nil) .nil)) (.cons (.asg [] 5 (.tup (.cons (.bin .add (.ix (.var 5) (.int 0)) (.ix (.var 9) (.int 0))) (.cons (.bin .add (.ix (.var 5) (.int 1)) (.ix (.var 9) (.int 1))) .nil)))) .nil))))) .nil)) .nil)))) (.cons (.ret [4, 6] (.tup (.cons .non (.cons (.var 6) (.cons (.bf .toTuple (.cons (.var 4) .nil)) (.cons (.var 5) .nil)))))) .nil))), false⟩
def d56 : Df := ⟨"_law_parts", 3, ["plan", "low", "high", "lower", "doubt", "heard", "sands", "clock"], (.cons (.ifs [] (.cmp .eq (.var 1) (.var 2)) (.cons (.ret [] (.lst (.cons (.bin .add (.tup (.cons (.var 1) (.cons (.var 1) .nil))) (.call 52 (.cons (.var 0) (.cons (.var 1) .nil)))) .nil))) .nil) .nil) (.cons (.unp [] [4, 5, 6, 7] (.call 55 (.cons (.var 0) (.cons (.var 1) (.cons (.var 2) .nil))))) (.cons (.ifs [] (.isN (.var 4)) (.cons (.ret [] (.lst (.cons (.tup (.cons (.var 1) (.cons (.var 2) (.cons (.var 5) (.cons (.var 6) (.cons (.var 7) .nil)))))) .nil))) .nil) .nil) (.cons (.asg [] 3 (.bin .add (.call 56 (.cons (.var 0) (.cons (.var 1) (.cons (.var 4) .nil)))) (.call 56 (.cons (.var 0) (.cons (.var 4) (.cons (.var 4) .nil)))))) (.cons (.ret [] (.bin .add (.var 3) (.call 56 (.cons (.var 0) (.cons (.var 4) (.cons (.var 2) .nil)))))) .nil))))), false⟩
def d57 : Df := ⟨"_law_all", 1, ["plan"], (.cons (.ret [] (.call 56 (.cons (.var 0) (.cons (.tup (.cons (.int 0) (.cons (.int 1) .nil))) (.cons (.tup (.cons (.int 1) (.cons (.int 0) .nil))) .nil))))) .nil), false⟩
def d58 : Df := ⟨"_law_count", 1, ["plan", "step"], (.cons (.ret [] (.bf .len (.cons (.comp (.seq (.ix (.var 0) (.int 1))) (.nm 1) [1] (.so (.cmp .eq (.ix (.var 1) (.int 0)) (.str "ring"))) (.var 1)) .nil))) .nil), false⟩
def d59 : Df := ⟨"_law_kinks", 1, ["plan", "at", "parts", "bent_so", "leapt", "number", "ratio_so", "sorts", "one", "two", "moment", "worths"], (.cons (.par [] [2, 3, 4] [false, false, false] (.cons (.call 57 (.cons (.var 0) .nil)) (.cons (.lst .nil) (.cons (.lst .nil) .nil)))) (.cons (.fors [] (.rng3 (.int 1) (.bf .len (.cons (.var 2) .nil)) 2) (.nm 1) (.cons (.par [] [6, 7] [false, true] (.cons (.ix (.ix (.var 2) (.var 1)) (.int 0)) (.cons (.lst .nil) .nil))) (.cons (.fors [] (.rng1 (.call 58 (.cons (.var 0) .nil))) (.nm 5) (.cons (.asg [] 8 (.ix (.ix (.ix (.ix (.var 2) (.bin .sub (.var 1) (.int 1))) (.int 2)) (.var 5)) (.int 0))) (.cons (.asg [] 9 (.ix (.ix (.ix (.ix (.var 2) (.bin .add (.var 1) (.int 1))) (.int 2)) (.var 5)) (.int 0))) (.cons (.asg [] 10 (.ix (.ix (.ix (.ix (.var 2) (.var 1)) (.int 2)) (.var 5)) (.int 0))) (.cons (.asg [] 11 (.lst (.cons (.call 46 (.cons (.var 8) (.cons (.var 6) .nil))) (.cons (.call 46 (.cons (.var 9) (.cons (.var 6) .nil))) .nil)))) (.cons (.ifs [] (.cmp .ne (.var 11) (.lst (.cons (.var 10) (.cons (.var 10) .nil)))) (.cons (.app [] 7 (.str "jump")) .nil) (.cons (.ifs [] (.cmp .ne (.var 8) (.var 9)) (.cons (.app [] 7 (.str "bend")) .nil) .nil) .nil)) .nil)))))) (.cons (.asg [7] 3 (.bin .add (.var 3) (.repL (.cons (.var 6) .nil) (.bf .toInt (.cons (.cmp .isIn (.str "bend") (.var 7)) .nil))))) (.cons (.asg [7] 4 (.bin .add (.var 4) (.repL (.cons (.var 6) .nil) (.bf .toInt (.cons (.cmp .isIn (.str "jump") (.var 7)) .nil))))) .nil))))) (.cons (.ret [] (.tup (.cons (.var 3) (.cons (.var 4) .nil)))) .nil))), false⟩
def d60 : Df := ⟨"law", 1, ["script", "k", "both", "plan", "vat", "calm", "some_plan", "due", "step"], (.cons (.fors [] (.rng1 (.bf .max2 (.cons (.int 5) (.cons (.bf .min2 (.cons (.int 9) (.cons (.bf .len (.cons (.var 0) .nil)) .nil))) .nil)))) (.nm 1) (.cons (.ref [] 4 (.call 37 (.cons (.var 0) (.cons (.var 1) .nil)))) (.cons (.asg [] 3 (.call 44 (.cons (.var 4) (.cons (.int 12) (.cons (.int 3) .nil))))) (.cons (.asg [] 5 (.tup (.cons (.ix (.var 3) (.int 0)) (.cons (.bf .toTuple (.cons (.comp (.seq (.ix (.var 3) (.int 1))) (.nm 8) [8] (.so (.cmp .ne (.var 8) (.tup (.cons (.str "first") .nil)))) (.var 8)) .nil)) .nil)))) (.cons (.fors [] (.seq (.tup (.cons (.var 3) (.cons (.var 5) .nil)))) (.nm 6) (.cons (.asg [] 7 (.call 59 (.cons (.var 6) .nil))) (.cons (.ifs [] (.bool false (.cons (.cmp .ne (.call 35 (.cons (.var 6) .nil)) (.ix (.var 7) (.int 0))) (.cons (.cmp .ne (.call 36 (.cons (.var 6) .nil)) (.ix (.var 7) (.int 1))) .nil))) (.cons (.ret [] (.bl false)) .nil) .nil) .nil))) (.cons (.ifs [] (.cmp .ne (.call 36 (.cons (.var 5) .nil)) (.lst .nil)) (.cons (.ret [] (.bl false)) .nil) .nil) (.cons (.ifs [] (.cmp .ne (.lerr (.call 35 (.cons (.ix (.var 3) (.int 1)) .nil))) (.str "plan value")) (.cons (.ret [] (.bl false)) .nil) .nil) (.cons (.ifs [] (.cmp .ne (.lerr (.call 36 (.cons (.int 0) .nil))) (.str "plan value")) (.cons (.ret [] (.bl false)) .nil) .nil) .nil)))))))) (.cons (.asg [] 2 (.tup (.cons (.tup (.cons (.str "turn") (.cons (.int 0) .nil))) (.cons (.tup (.cons (.str "turn") (.cons (.int 1) .nil))) (.cons (.tup (.cons (.str "wait") (.cons (.int 0) .nil))) (.cons (.tup (.cons (.str "turn") (.cons (.int 0) .nil))) .nil)))))) (.cons (.asg [] 3 (.tup (.cons (.str "pq") (.cons (.bin .add (.var 2) (.tup (.cons (.tup (.cons (.str "first") .nil)) (.cons (.tup (.cons (.str "ring") .nil)) (.cons (.tup (.cons (.str "wait") (.cons (.int 1) .nil))) (.cons (.tup (.cons (.str "ring") .nil)) .nil)))))) .nil)))) (.cons (.ret [] (.bool true (.cons (.cmp .eq (.call 35 (.cons (.bin .add (.sl (.var 3) .no (.so (.int 1))) (.tup (.cons (.sl (.ix (.var 3) (.int 1)) .no (.so (.int 6))) .nil))) .nil)) (.lst (.cons (.tup (.cons (.int 1) (.cons (.int 2) .nil))) .nil))) (.cons (.cmp .eq (.call 36 (.cons (.var 3) .nil)) (.lst (.cons (.tup (.cons (.int 1) (.cons (.int 1) .nil))) .nil))) .nil)))) .nil)))), true⟩
def T0 : List Df := [d0, d1, d2, d3, d4, d5, d6, d7, d8, d9, d10, d11, d12, d13, d14, d15, d16, d17, d18, d19, d20, d21, d22, d23, d24, d25, d26, d27, d28, d29]
def T1 : List Df := [d30, d31, d32, d33, d34, d35, d36, d37, d38, d39, d40, d41, d42, d43, d44, d45, d46, d47, d48, d49, d50, d51, d52, d53, d54, d55, d56, d57, d58, d59]
def T2 : List Df := [d60]
def T : List Df := T0 ++ T1 ++ T2
def ds0 : List He.DefD := [gd 19 "is_whole", gd 20 "is_set", gd 21 "lowest", gd 22 "less", gd 23 "is_step", gd 24 "is_plan", gd 25 "need_plan", gd 26 "rings_in", gd 28 "time_of", gd 29 "turned", gd 30 "passed", gd 31 "ticks_of", gd 32 "stepped", gd 33 "look_of", gd 35 "value_at", gd 36 "minus", gd 37 "zero_of", gd 38 "zero_within", gd 39 "sign_of", gd 40 "begin", gd 41 "at_ratio", gd 42 "cut", gd 43 "asked", gd 44 "first_cut", gd 45 "least", gd 46 "waited", gd 47 "moved", gd 48 "moved_at", gd 49 "advance", gd 50 "advance_all"]
def ds1 : List He.DefD := [gd 51 "course", gd 53 "amounts_of", gd 54 "jumps_in", gd 55 "bends_in", gd 56 "of_some_ring", gd 57 "bends", gd 58 "jumps", gd 60 "_law_vat", gd 61 "_law_under", gd 62 "_law_some", gd 63 "_law_kinds", gd 64 "_law_step", gd 65 "_law_waits", gd 66 "_law_steps", gd 67 "_law_plan", gd 68 "_law_reduced", gd 69 "_law_worth", gd 70 "_law_off", gd 71 "_law_sign", gd 72 "_law_root", gd 73 "_law_pause", gd 74 "_law_go", gd 75 "_law_fate", gd 76 "_law_doubt", gd 77 "_law_goal", gd 78 "_law_even", gd 79 "_law_parts", gd 80 "_law_all", gd 81 "_law_count", gd 84 "_law_kinks"]
def ds2 : List He.DefD := [gd 85 "law"]
def ds : List He.DefD := ds0 ++ ds1 ++ ds2
def dn : He.DefD := gd 82 "_law_names"
def de : He.DefD := gd 83 "_law_error"
def cs : List Nat := [0, 1, 2]
def loose0 : List Str := ["GlassError", "InvalidPlan", "InvalidSet", "InvalidTimes", "InvalidForm", "InvalidStretch", "InvalidRatio", "InvalidIndex", "InvalidSight", "InvalidNumber", "InvalidStep", "NothingToUndo", "TooMany", "InvalidText", "LOWEST", "HIGHEST", "MOST_STEPS", "is_whole", "is_set", "lowest", "less", "is_step", "is_plan", "need_plan", "rings_in", "time_of", "turned", "passed", "ticks_of", "stepped"]
def loose1 : List Str := ["look_of", "value_at", "minus", "zero_of", "zero_within", "sign_of", "begin", "at_ratio", "cut", "asked", "first_cut", "least", "waited", "moved", "moved_at", "advance", "advance_all", "course", "amounts_of", "jumps_in", "bends_in", "of_some_ring", "bends", "jumps", "_law_vat", "_law_under", "_law_some", "_law_kinds", "_law_step", "_law_waits"]
def loose2 : List Str := ["_law_steps", "_law_plan", "_law_reduced", "_law_worth", "_law_off", "_law_sign", "_law_root", "_law_pause", "_law_go", "_law_fate", "_law_doubt", "_law_goal", "_law_even", "_law_parts", "_law_all", "_law_count", "_law_names", "_law_error", "_law_kinks"]
def loose : List Str := loose0 ++ loose1 ++ loose2
def lawI : Nat := 60
def lawTop : Nat := 85
end G05

-- GHd
set_option maxRecDepth 100000
set_option maxHeartbeats 2000000
/-! A head in three runs. -/
namespace G
open PySem PySem.W PySem.Calls PyProof.Rows
theorem map3 {α β γ δ : Type} {o : Option α} {f : α → β} {g : α → γ} {h : α → δ} {a : β} {b : γ} {c : δ} (h1 : o.map f = some a) (h2 : o.map g = some b) (h3 : o.map h = some c) : o.map (fun s => (f s, g s, h s)) = some (a, b, c) := by
  cases o with
  | none => cases h1
  | some x =>
    simp only [Option.map_some, Option.some.injEq] at h1 h2 h3 ⊢
    rw [h1, h2, h3]
noncomputable abbrev endO (r : OpenRow) (M : Nat) (w : World) (os : OsState) := HandSHeadRun.endF (HandSHeadRun.stepQ (HandSHeadRun.denQ HandSHeadRun.tabQ) r.prog w) M r.prog w os
theorem run3 {r : OpenRow} {q : Program} {H : Hook} {ob : SharedT → H.α} {M : Nat} {loose : List PySem.Str} {w : World}
    (h1 : ∀ os, (endO r M w os).map (fun s => HandSHeadRun.looksF r.prog (boot_heap w.params) s.abs) = some true)
    (h2 : ∀ os, (endO r M w os).map (fun s => HandSHeadRun.seenQ q loose (importedModules r.prog.main.body) (fun s => xlAt q [] s && recOk r.toRowW.records s) s.abs) = some (openGood q loose))
    (h3 : ∀ os, (endO r M w os).map ob = some (H.val w)) : HandSHeadRun.RunEq r q H ob M loose w := fun os => map3 (h1 os) (h2 os) (h3 os)
end G
namespace G
open PySem PySem.W PySem.Calls PyProof.Rows
/-- what the hook looks at, part by part -/
abbrev kOf (n : Nat) (s : SharedT) : PySem.W.Frag := He.frT (HandSHeadRun.getT s) (He.asD (HandSHeadRun.getT s) n)
theorem obs_of {n k : Nat} {o : Option SharedT} {fa : List He.Fa} {fn : List He.DefD} {tf : List He.Defn} {ex : PySem.W.Frag → Bool} {w : World}
    (h1 : o.map (fun s => (fa.take k).all fun f => f.ok (kOf n s)) = some true)
    (h2 : o.map (fun s => (fa.drop k).all fun f => f.ok (kOf n s)) = some true)
    (h3 : o.map (fun s => fn.all fun d => d.ok (kOf n s)) = some true)
    (h4 : o.map (fun s => fn.map fun d => He.fnW (kOf n s) d.at_) = some (fn.map He.DefD.val))
    (h5 : o.map (fun s => ex (kOf n s) && He.tabsB (HandSHeadRun.getT s) tf (kOf n s)) = some true) :
    o.map (fun s => He.obsX n fa fn [] tf ex (HandSHeadRun.getT s)) = some (He.valX fn [] w) := by
  cases o with
  | none => cases h1
  | some s =>
    simp only [Option.map_some, Option.some.injEq] at h1 h2 h3 h4 h5 ⊢
    have h0 : (fa.all fun f => f.ok (kOf n s)) = true := by
      rw [← List.take_append_drop k fa, List.all_append, h1, h2]
      rfl
    show (((( fa.all fun f => f.ok (kOf n s)) && fn.all fun d => d.ok (kOf n s), fn.map fun d => He.fnW (kOf n s) d.at_), []), ex (kOf n s) && He.tabsB (HandSHeadRun.getT s) tf (kOf n s)) = _
    rw [h0, h3, h4, h5]
    rfl
end G

-- HDD05
set_option maxRecDepth 100000
set_option maxHeartbeats 0
namespace G05
open PySem PySem.Spec PyProof.Rows L2 G PySem.W PySem.Calls
abbrev R : PySem.W.OpenRow := PySem.W.OpenLaw.row PySem.Challenge.rw_glassrings_k05_whole_bends_and_jumps
abbrev fns : List He.DefD := ds ++ [dn, de]
abbrev fax : List He.Fa := factsOf fns cs
abbrev hk : PySem.W.Hook := He.hookX 2 fax fns [] (lamD T ds) (exB cs (lamD T ds))
def ob (s : PySem.W.SharedT) : He.AlX := He.obsX 2 fax fns [] (lamD T ds) (exB cs (lamD T ds)) (HandSHeadRun.getT s)
theorem ob_eq (s : PySem.W.SharedT) : ob s = hk.obs s.abs := He.obsX_eq (HandSHeadRun.getT_eq s)
end G05

-- HDA05
set_option maxRecDepth 100000
set_option maxHeartbeats 0
namespace G05
open PySem PySem.Spec PyProof.Rows L2 G PySem.W PySem.Calls
theorem runA (w : World) (os : OsState) : (endO R 20000 w os).map (fun s => HandSHeadRun.looksF R.prog (PySem.W.boot_heap w.params) s.abs) = some (true) := by kernel_rfl
end G05

-- HDB05
set_option maxRecDepth 100000
set_option maxHeartbeats 0
namespace G05
open PySem PySem.Spec PyProof.Rows L2 G PySem.W PySem.Calls
theorem runB (w : World) (os : OsState) : (endO R 20000 w os).map (fun s => HandSHeadRun.seenQ (PySem.W.view R.prog [lawTop]) loose (importedModules R.prog.main.body) (fun s => PySem.W.xlAt (PySem.W.view R.prog [lawTop]) [] s && PySem.W.recOk R.toRowW.records s) s.abs) = some (PySem.W.openGood (PySem.W.view R.prog [lawTop]) loose) := by kernel_rfl
end G05

-- HDC05
set_option maxRecDepth 100000
set_option maxHeartbeats 0
namespace G05
open PySem PySem.Spec PyProof.Rows L2 G PySem.W PySem.Calls
theorem runC (w : World) (os : OsState) : (endO R 20000 w os).map (fun s => ob s) = some (hk.val w) := by kernel_rfl
end G05

-- HD05
set_option maxRecDepth 100000
set_option maxHeartbeats 0
namespace G05
open PySem PySem.Spec PyProof.Rows L2 G PySem.W PySem.Calls
theorem run (w : World) : HandSHeadRun.RunEq R (PySem.W.view R.prog [lawTop]) hk ob 20000 loose w := G.run3 (runA w) (runB w) (runC w)
end G05

-- C05
set_option maxRecDepth 100000
set_option maxHeartbeats 0
namespace G05
open PySem G
theorem chk : Chk T ds dn de cs := ⟨by decide +kernel, by decide +kernel, by decide +kernel, by decide +kernel, by decide +kernel, by decide +kernel, by decide +kernel, by decide +kernel, by decide +kernel, by decide +kernel, by decide +kernel⟩
end G05

-- GW
set_option maxRecDepth 100000
set_option maxHeartbeats 2000000
/-! Reading: a reading ends well with what Q says. -/
namespace G
open PySem
def Wp {α : Type} (m : M α) (S : Sto) (Q : α → Sto → Prop) : Prop := ∃ a S', m S = some (.ok a S') ∧ Q a S'
theorem wp_congr {α : Type} {m m' : M α} {S : Sto} {Q : α → Sto → Prop} (h : m = m') : Wp m S Q = Wp m' S Q := by rw [h]
theorem wp_ret {α : Type} {a : α} {S : Sto} {Q : α → Sto → Prop} : Wp (fun S => some (.ok a S)) S Q = Q a S := propext ⟨fun ⟨_, _, h, q⟩ => by cases h; exact q, fun q => ⟨_, _, rfl, q⟩⟩
theorem wp_bnd {α β : Type} {m : M α} {k : α → M β} {S : Sto} {Q : β → Sto → Prop} : Wp (bnd m k) S Q = Wp m S (fun a S' => Wp (k a) S' Q) := by
  refine propext ⟨fun ⟨b, S2, h, q⟩ => ?_, fun ⟨a, S1, h, b, S2, h2, q⟩ => ⟨b, S2, ?_, q⟩⟩
  · unfold bnd at h
    cases e : m S with
    | none => rw [e] at h; cases h
    | some o =>
      rw [e] at h
      cases o with
      | ok a S1 => exact ⟨a, S1, e, b, S2, h, q⟩
      | ex c p S1 => cases h
  · unfold bnd
    rw [h]
    exact h2
theorem wp_mono {α : Type} {m : M α} {S : Sto} {Q Q' : α → Sto → Prop} (h : Wp m S Q) (i : ∀ a S', Q a S' → Q' a S') : Wp m S Q' := let ⟨a, S', e, q⟩ := h; ⟨a, S', e, i a S' q⟩
theorem wp_eq {α : Type} {m : M α} {S : Sto} {a : α} {S' : Sto} (h : m S = some (.ok a S')) {Q : α → Sto → Prop} (q : Q a S') : Wp m S Q := ⟨a, S', h, q⟩
theorem bnd_ret {α β : Type} {a : α} {k : α → M β} : bnd (fun S => some (.ok a S)) k = k a := rfl
theorem bnd_congr {α β : Type} {m m' : M α} {k : α → M β} (h : m = m') : bnd m k = bnd m' k := by rw [h]
theorem gm_open {T : List Df} {g d : Nat} {f : Df} {as : List Vl} (h : T[g]? = some f) : Gm T (d + 1) g as = runDf (Gm T d) f as := by simp only [Gm, h]
theorem mapV_congr {α : Type} {f : Vl → M (Option α)} {vs vs' : List Vl} (h : vs = vs') : mapV f vs = mapV f vs' := by rw [h]
theorem forV_congr {tg : Tg} {b : Env → M (Fl × Env)} {vs vs' : List Vl} (h : vs = vs') : forV tg b vs = forV tg b vs' := by rw [h]
theorem bnd_bnd {α β γ : Type} {m : M α} {k : α → M β} {l : β → M γ} : bnd (bnd m k) l = bnd m fun a => bnd (k a) l := by
  funext S
  unfold bnd
  cases m S with
  | none => rfl
  | some o => cases o <;> rfl
theorem bnd_ite {α β : Type} {c : Prop} [Decidable c] {a b : M α} {k : α → M β} : bnd (if c then a else b) k = if c then bnd a k else bnd b k := by split <;> rfl
theorem mapV_pure {α β : Type} {f : Vl → M (Option α)} {e : β → Vl} {g : β → Option α} {xs : List β} (h : ∀ b ∈ xs, f (e b) = fun S => some (.ok (g b) S)) : mapV f (xs.map e) = fun S => some (.ok (xs.filterMap g) S) := by
  induction xs with
  | nil => rfl
  | cons x xs ih =>
    rw [List.map_cons, mapV, h x (List.mem_cons_self ..), bnd_ret, ih fun b hb => h b (List.mem_cons_of_mem _ hb), bnd_ret, List.filterMap_cons]
    cases g x <;> rfl
theorem mapV_none {α β : Type} {f : Vl → M (Option α)} {e : β → Vl} {xs : List β} (h : ∀ b ∈ xs, f (e b) = fun S => some (.ok none S)) : mapV f (xs.map e) = fun S => some (.ok [] S) := by
  rw [mapV_pure (g := fun _ => none) h]
  have e : xs.filterMap (fun _ => (none : Option α)) = [] := by rw [List.filterMap_eq_nil_iff]; exact fun _ _ => rfl
  rw [e]
theorem noEx_ret {α : Type} {a : α} : noEx (fun S => some (.ok a S)) = fun S => some (.ok a S) := rfl
theorem forV_pure {β γ : Type} {tg : Tg} {b : Env → M (Fl × Env)} {e : β → Vl} {E : γ → Env} {st : γ → β → γ} {P : γ → Prop} :
    ∀ {xs : List β} {c : γ} {S : Sto}, P c → (∀ c, P c → ∀ x ∈ xs, P (st c x)) → (∀ c, P c → ∀ x ∈ xs, ∃ env1, bindT tg (e x) (E c) = some env1 ∧ ∀ S, b env1 S = some (.ok (.nx, E (st c x)) S)) → forV tg b (xs.map e) (E c) S = some (.ok (.nx, E (xs.foldl st c)) S)
  | [], _, _, _, _, _ => rfl
  | x :: xs, c, S, p, i, h => by
    obtain ⟨env1, h1, h2⟩ := h c p x (List.mem_cons_self ..)
    rw [List.map_cons, forV, h1]
    show bnd (fun S => some (.ok env1 S)) _ S = _
    rw [bnd_ret]
    unfold bnd
    rw [h2]
    exact forV_pure (xs := xs) (i c p x (List.mem_cons_self ..)) (fun c p y hy => i c p y (List.mem_cons_of_mem _ hy)) fun c p y hy => h c p y (List.mem_cons_of_mem _ hy)
theorem forV_wp {β : Type} {tg : Tg} {b : Env → M (Fl × Env)} {e : β → Vl} {P : List β → Env → Sto → Prop} {xs : List β}
    (h : ∀ pre x post env S, xs = pre ++ x :: post → P pre env S → ∃ env1, bindT tg (e x) env = some env1 ∧ Wp (b env1) S (fun r S' => r.1 = .nx ∧ P (pre ++ [x]) r.2 S')) {env : Env} {S : Sto} (p : P [] env S) :
    Wp (forV tg b (xs.map e) env) S (fun r S' => r.1 = .nx ∧ P xs r.2 S') := by
  have go : ∀ (post pre : List β) (env : Env) (S : Sto), xs = pre ++ post → P pre env S → Wp (forV tg b (post.map e) env) S (fun r S' => r.1 = .nx ∧ P xs r.2 S') := by
    intro post
    induction post with
    | nil =>
      intro pre env S hx hp
      rw [List.append_nil] at hx
      subst hx
      exact ⟨_, _, rfl, rfl, hp⟩
    | cons x post ih =>
      intro pre env S hx hp
      obtain ⟨env1, h1, h2⟩ := h pre x post env S hx hp
      rw [List.map_cons, forV, h1]
      show Wp (bnd (fun S => some (.ok env1 S)) _) S _
      rw [bnd_ret, wp_bnd]
      refine wp_mono h2 ?_
      rintro ⟨f, env2⟩ S2 ⟨hf, hp2⟩
      cases hf
      exact ih (pre ++ [x]) env2 S2 (by simp [hx]) hp2
  exact go xs [] env S rfl p
theorem mapV_wp {α β : Type} {f : Vl → M (Option α)} {e : β → Vl} {I : Sto → Prop} {R : β → α → Prop} {xs : List β}
    (h : ∀ x ∈ xs, ∀ S, I S → Wp (f (e x)) S (fun o S' => I S' ∧ ∃ a, o = some a ∧ R x a)) {S : Sto} (i : I S) :
    Wp (mapV f (xs.map e)) S (fun r S' => I S' ∧ r.length = xs.length ∧ ∀ a ∈ r, ∃ x ∈ xs, R x a) := by
  induction xs generalizing S with
  | nil => exact ⟨_, _, rfl, i, rfl, by simp⟩
  | cons x xs ih =>
    rw [List.map_cons, mapV, wp_bnd]
    refine wp_mono (h x (List.mem_cons_self ..) S i) ?_
    rintro o S1 ⟨i1, a, rfl, ra⟩
    rw [wp_bnd]
    refine wp_mono (ih (fun y hy => h y (List.mem_cons_of_mem _ hy)) i1) ?_
    rintro r S2 ⟨i2, hl, hr⟩
    refine ⟨_, _, rfl, i2, by simp [hl], ?_⟩
    intro a' ha
    rcases List.mem_cons.mp ha with rfl | ha
    · exact ⟨x, List.mem_cons_self .., ra⟩
    · obtain ⟨y, hy, r⟩ := hr a' ha
      exact ⟨y, List.mem_cons_of_mem _ hy, r⟩
theorem noEx_wp {α : Type} {m : M α} {S : Sto} {Q : α → Sto → Prop} (h : Wp m S Q) : Wp (noEx m) S Q := by
  obtain ⟨a, S', e, q⟩ := h
  exact ⟨a, S', by unfold noEx; rw [e], q⟩
theorem eq_of_wp {α : Type} {m : M α} {a : α} (h : ∀ S, Wp m S (fun v S' => v = a ∧ S' = S)) : m = fun S => some (.ok a S) := by
  funext S
  obtain ⟨v, S', e, rfl, rfl⟩ := h S
  exact e
theorem fm_filter {α β : Type} {p : α → Bool} {f : α → β} : ∀ {xs : List α}, xs.filterMap (fun b => if p b = true then some (f b) else none) = (xs.filter p).map f
  | [] => rfl
  | x :: xs => by
    rw [List.filterMap_cons, List.filter_cons, fm_filter (xs := xs)]
    cases p x <;> rfl
@[reducible] def iL (xs : List Int) : List D := xs.map .int
@[reducible] def vI : Int → Vl := Vl.dat ∘ PyData.int
theorem itemsI {xs : List Int} : (iL xs).map Vl.dat = xs.map vI := by rw [List.map_map]
theorem canLayI : ∀ xs : List Int, PyData.canLayAll0 (iL xs) = true
  | [] => rfl
  | _ :: xs => by rw [iL, List.map_cons, PyData.canLayAll0]; exact canLayI xs
theorem depthI : ∀ xs : List Int, PyData.depthAll (iL xs) = 0
  | [] => rfl
  | _ :: xs => by rw [iL, List.map_cons, PyData.depthAll, depthI xs]; rfl
theorem shapedI (xs : List Int) : SeqAt.shaped (.list (iL xs)) = true := by
  unfold SeqAt.shaped
  rw [PyData.canLay0, PyData.depth, canLayI, depthI]; rfl
theorem shapedIt (xs : List Int) : SeqAt.shaped (.tuple (iL xs)) = true := by
  unfold SeqAt.shaped
  rw [PyData.canLay0, PyData.depth, canLayI, depthI]; rfl
theorem eqvI : ∀ xs ys : List Int, PyData.eqvAll (iL xs) (iL ys) = decide (xs = ys)
  | [], [] => rfl
  | [], _ :: _ => rfl
  | _ :: _, [] => rfl
  | x :: xs, y :: ys => by
    rw [iL, iL, List.map_cons, List.map_cons, PyData.eqvAll, eqvI xs ys, PyData.eqv]
    by_cases h : x = y <;> by_cases h' : xs = ys <;> simp [h, h']
theorem gEqI (xs ys : List Int) : gEq (.list (iL xs)) (.list (iL ys)) = some (decide (xs = ys)) := by
  rw [gEq, if_pos ⟨shapedI _, shapedI _⟩, PyData.eqv, eqvI]
theorem gEqNilI (xs : List Int) : gEq (.list (iL xs)) (.list []) = some (decide (xs = [])) := gEqI xs []
theorem shapedS (s : Str) (h : PyData.strOk s = true) : SeqAt.shaped (.str s) = true := by
  unfold SeqAt.shaped
  rw [PyData.canLay0, PyData.depth, h]; rfl
theorem shaped_int (i : Int) : SeqAt.shaped (.int i) = true := rfl
theorem intsOfI : ∀ xs : List Int, intsOf (iL xs) = some xs
  | [] => rfl
  | x :: xs => by rw [iL, List.map_cons, intsOf, intsOfI xs]; rfl
theorem atI_get {α : Type} {xs : List α} {i : Nat} (h : i < xs.length) : L2.atI xs (i : Int) = some xs[i] := by
  unfold L2.atI L2.ixN
  rw [if_pos (by omega), if_pos (by omega)]
  simp [h]
theorem atI_map {α β : Type} {f : α → β} {xs : List α} {i : Int} : L2.atI (xs.map f) i = (L2.atI xs i).map f := by
  unfold L2.atI
  rw [List.length_map]
  cases L2.ixN xs.length i <;> simp
theorem cut_lo {xs : List D} {i : Nat} (h : i < xs.length) : cutD xs none (some (i : Int)) = xs.take i := by
  unfold cutD
  rw [HT.sIx_none, HT.sIx_nat, List.drop_zero, Nat.sub_zero, Nat.min_eq_left (by omega)]
theorem cut_hi {xs : List D} {i : Nat} (h : i < xs.length) : cutD xs (some ((i : Int) + 1)) none = xs.drop (i + 1) := by
  unfold cutD
  rw [HT.sIx_none, show (i : Int) + 1 = ((i + 1 : Nat) : Int) by omega, HT.sIx_nat, Nat.min_eq_left (by omega), List.take_of_length_le (by simp)]
theorem cut_set {xs : List Int} {i : Nat} (h : i < xs.length) (n : Int) : (iL xs).take i ++ .int n :: (iL xs).drop (i + 1) = iL (xs.set i n) := by
  show _ = (xs.set i n).map PyData.int
  rw [List.map_set, List.set_eq_take_append_cons_drop, if_pos (by simpa using h)]
@[reducible] def St.d : St → D
  | .turn i => .tuple [.str "turn", .int i]
  | .wait i => .tuple [.str "wait", .int i]
  | .first => .tuple [.str "first"]
  | .ring => .tuple [.str "ring"]
def kCh (b : Bool) : Nat := if b then 113 else 112
@[reducible] def kS (ks : List Bool) : Str := ⟨(ks.map kCh).toArray⟩
@[reducible] def kD (ks : List Bool) : D := .str (kS ks)
theorem gIxK {ks : List Bool} {i : Nat} (h : i < ks.length) (h4 : ks.length ≤ 4) : gIx (.str (kS ks)) (.int i) = some (.str ⟨#[kCh ks[i]]⟩) := by
  rw [gIx, if_pos, kS, atI_map, atI_get h]
  · rfl
  · show (List.map kCh ks).toArray.size ≤ _
    simp [sizeLine]; omega
@[reducible] def lkD (l : List Bool) : D := .tuple (l.map .bool)
@[reducible] def rgD (p : Int × List Bool) : D := .tuple [.int p.1, lkD p.2]
@[reducible] def hdD (h : List (Int × List Bool)) : List D := h.map rgD
theorem gIx0 {x : D} {xs : List D} : gIx (.tuple (x :: xs)) (.int 0) = some x := by simp [gIx, L2.atI, L2.ixN]
theorem gIx1 {x y : D} {xs : List D} : gIx (.tuple (x :: y :: xs)) (.int 1) = some y := by simp [gIx, L2.atI, L2.ixN, show (1 : Int) < (xs.length : Int) + 1 + 1 by omega]
theorem gIx2 {x y z : D} {xs : List D} : gIx (.tuple (x :: y :: z :: xs)) (.int 2) = some z := by simp [gIx, L2.atI, L2.ixN, show (2 : Int) < (xs.length : Int) + 1 + 1 + 1 by omega]
def St.nm : St → Str
  | .turn _ => "turn"
  | .wait _ => "wait"
  | .first => "first"
  | .ring => "ring"
theorem gIxS {s : St} : gIx s.d (.int 0) = some (.str s.nm) := by cases s <;> exact gIx0
theorem nm_ring {s : St} : gEq (.str s.nm) (.str "ring") = some (decide (s = .ring)) := by
  cases s <;> simp [St.nm] <;> decide +kernel
theorem nm_turn {s : St} : gEq (.str s.nm) (.str "turn") = some (match s with | .turn _ => true | _ => false) := by
  cases s <;> simp [St.nm] <;> decide +kernel
theorem kS_len {ks : List Bool} : (kS ks).length = ks.length := by show (List.map kCh ks).toArray.size = _; simp
theorem gMulZ : ∀ n : Nat, 1 ≤ n → n ≤ 4 → gMul (.tuple [.int 0]) (.int n) = some (.d (.tuple (iL (List.replicate n 0)))) := by
  intro n h1 h4
  rcases (by omega : n = 1 ∨ n = 2 ∨ n = 3 ∨ n = 4) with rfl | rfl | rfl | rfl <;> rfl
theorem gLenK {ks : List Bool} (h4 : ks.length ≤ 4) : gBf .len [kD ks] = some (.d (.int ks.length)) := by
  rw [kD, gBf, kS_len, if_pos (by simp [sizeLine]; omega)]
def chgL (n : Nat) (env : Env) (f : List D → Option (List D)) (ok : Bool) : M Env := fun S => match S[n]? with
  | some (.lst xs) => if ok = true then (f xs).map fun ys => .ok env (S.set n (.lst ys)) else none
  | _ => none
theorem chg_eq {env : Env} {i : Nat} {f : List D → Option (List D)} {ok : Bool} : chg env i f ok = match env[i]? with
  | some (.own (.lst xs)) => lft ((f xs).map fun ys => env.set i (.own (.lst ys)))
  | some (.vl (.loc n)) => chgL n env f ok
  | _ => fail := by
  funext S
  unfold chg
  generalize env[i]? = o
  rcases o with _ | (_ | (_ | _ | _) | (xs | _))
  · rfl
  · rfl
  · rfl
  · rfl
  · rfl
  · show Option.map (fun ys => Out.ok (env.set i (.own (.lst ys))) S) (f xs) = lft ((f xs).map fun ys => env.set i (.own (.lst ys))) S
    cases f xs <;> rfl
  · rfl

theorem wp_atS {S : Sto} {n : Nat} {k : Int} {xs : List D} {Q : RV → Sto → Prop} (h : S[n]? = some (.lst xs)) : Wp (atS n k) S Q = (match L2.atI xs k with | some d => Q (.d d) S | none => False) := by
  unfold atS Wp
  simp only [h]
  cases e : L2.atI xs k with
  | none => simp
  | some d =>
    simp
    exact ⟨fun ⟨_, _, ⟨h1, h2⟩, q⟩ => h1 ▸ h2 ▸ q, fun q => ⟨_, _, ⟨rfl, rfl⟩, q⟩⟩
theorem wp_chgL {S : Sto} {n : Nat} {env : Env} {f : List D → Option (List D)} {ok : Bool} {xs : List D} {Q : Env → Sto → Prop} (h : S[n]? = some (.lst xs)) :
    Wp (chgL n env f ok) S Q = (if ok = true then (match f xs with | some ys => Q env (S.set n (.lst ys)) | none => False) else False) := by
  unfold chgL Wp
  simp only [h]
  cases ok
  · simp
  · cases e : f xs with
    | none => simp
    | some ys =>
      simp
      exact ⟨fun ⟨_, _, ⟨h1, h2⟩, q⟩ => h1 ▸ h2 ▸ q, fun q => ⟨_, _, ⟨rfl, rfl⟩, q⟩⟩
theorem at0 {x : D} {xs : List D} : L2.atI (x :: xs) 0 = some x := by simp [L2.atI, L2.ixN]
theorem at1 {x y : D} {xs : List D} : L2.atI (x :: y :: xs) 1 = some y := by simp [L2.atI, L2.ixN, show (1 : Int) < (xs.length : Int) + 1 + 1 by omega]
theorem log2_64 {m : Int} (h0 : 0 < m) (h : m < 2 ^ 64) : m.natAbs.log2 < 9000 := by
  have : m.natAbs.log2 < 64 := (Nat.log2_lt (by omega)).mpr (by omega)
  omega
/-- what draws come from -/
def Vat (n : Nat) (S : Sto) : Prop := ∃ a b : Int, S[n]? = some (.lst [.int a, .int b]) ∧ 0 ≤ a ∧ 0 ≤ b ∧ b < 2147483647

theorem gMulB {i j : Int} (h : -(2 ^ 64) < i) (h' : i < 2 ^ 64) : gMul (.int i) (.int j) = some (.d (.int (i * j))) := by rw [gMul, if_pos (Or.inl (Or.inl ⟨h, h'⟩))]
theorem gMulC {i j : Int} (h : -(2 ^ 64) < j) (h' : j < 2 ^ 64) : gMul (.int i) (.int j) = some (.d (.int (i * j))) := by rw [gMul, if_pos (Or.inl (Or.inr ⟨h, h'⟩))]
theorem vat_lt {n : Nat} {S : Sto} {x : Ob} (h : S[n]? = some x) : n < S.length := by
  rcases Nat.lt_or_ge n S.length with h' | h'
  · exact h'
  · rw [List.getElem?_eq_none h'] at h; cases h
end G

-- GX
set_option maxRecDepth 100000
set_option maxHeartbeats 2000000
namespace G
open PySem
theorem loop_wp {c : Env → M Bool} {b : Env → M (Fl × Env)} {I : Env → Sto → Prop} {Q : Env → Sto → Prop} {μ : Env → Nat}
    (h : ∀ env S, I env S → Wp (c env) S (fun t S' => (t = true → Wp (b env) S' (fun r S'' => r.1 = .nx ∧ I r.2 S'' ∧ μ r.2 < μ env)) ∧ (t = false → Q env S'))) {env : Env} {S : Sto} (i : I env S) :
    Wp (loop c b env) S (fun r S' => r.1 = .nx ∧ Q r.2 S') := by
  have go : ∀ (n : Nat) (env : Env) (S : Sto), μ env < n → I env S → Wp (loopN c b n env) S (fun r S' => r.1 = .nx ∧ Q r.2 S') := by
    intro n
    induction n with
    | zero => intro env S hm _; omega
    | succ n ih =>
      intro env S hm hi
      rw [loopN, wp_bnd]
      refine wp_mono (h env S hi) ?_
      rintro t S' ⟨h1, h2⟩
      cases t with
      | false =>
        rw [if_neg (by simp)]
        exact ⟨_, _, rfl, rfl, h2 rfl⟩
      | true =>
        rw [if_pos rfl, wp_bnd]
        refine wp_mono (h1 rfl) ?_
        rintro ⟨f, env2⟩ S2 ⟨hf, hi2, hm2⟩
        cases hf
        exact ih env2 S2 (by simp at hm2; omega) hi2
  obtain ⟨r, S', e, q⟩ := go (μ env + 1) env S (Nat.lt_succ_self _) i
  exact ⟨r, S', loop_of e, q⟩
end G

-- MA
namespace G
abbrev Fm := Int × Int
def wrt (f r : Fm) : Int := f.1 * r.1 + f.2 * r.2
def mns (f g : Fm) : Fm := (f.1 - g.1, f.2 - g.2)
def lss (a b : Fm) : Bool := decide (a.1 * b.2 < b.1 * a.2)
def red (a b : Int) : Fm := (a / (Int.gcd a b : Int), b / (Int.gcd a b : Int))
def zeroOf (f : Fm) : Option Fm := if 0 ≤ f.1 * f.2 then none else some (red (Int.natAbs f.2) (Int.natAbs f.1))
def zeroWithin (lo hi f : Fm) : Option Fm := (zeroOf f).filter fun r => lss lo r && lss r hi
/-- a ratio or an end -/
structure Rt (r : Fm) : Prop where
  a : 0 ≤ r.1
  b : 0 ≤ r.2
  c : 0 < r.1 + r.2
/-- the law's sign -/
def sgE (f lo hi : Fm) : Option Int := if 0 ≤ wrt f lo ∧ 0 ≤ wrt f hi then some (if 0 < wrt f lo + wrt f hi then 1 else 0) else if wrt f lo ≤ 0 ∧ wrt f hi ≤ 0 then some (-1) else none
def rootE (f lo hi : Fm) : Fm := red (lo.1 * (wrt f hi).natAbs + hi.1 * (wrt f lo).natAbs) (lo.2 * (wrt f hi).natAbs + hi.2 * (wrt f lo).natAbs)
theorem red_mul {a b c : Int} (h : 0 < c) : red (a * c) (b * c) = red a b := by
  unfold red
  have e : ((Int.gcd (a * c) (b * c) : Nat) : Int) = (Int.gcd a b : Int) * c := by
    rw [Int.gcd_mul_right]
    rw [Int.natCast_mul]
    congr 1
    omega
  rw [e, Int.mul_ediv_mul_of_pos_left _ _ h, Int.mul_ediv_mul_of_pos_left _ _ h]
theorem red_pos {a b : Int} (ha : 0 < a) (hb : 0 < b) : ∃ g : Int, 0 < g ∧ a = (red a b).1 * g ∧ b = (red a b).2 * g ∧ 0 < (red a b).1 ∧ 0 < (red a b).2 := by
  have g0 : 0 < (Int.gcd a b : Int) := by
    have : Int.gcd a b ≠ 0 := fun e => by have := (Int.gcd_eq_zero_iff.mp e).1; omega
    omega
  have h1 : a = (red a b).1 * (Int.gcd a b : Int) := (Int.ediv_mul_cancel (Int.gcd_dvd_left ..)).symm
  have h2 : b = (red a b).2 * (Int.gcd a b : Int) := (Int.ediv_mul_cancel (Int.gcd_dvd_right ..)).symm
  refine ⟨_, g0, h1, h2, ?_, ?_⟩
  · exact Int.pos_of_mul_pos_left (h1 ▸ ha) g0
  · exact Int.pos_of_mul_pos_left (h2 ▸ hb) g0
end G

-- MB
namespace G
theorem natAbs_neg_of {a : Int} (h : a < 0) : (a.natAbs : Int) = -a := by omega
theorem natAbs_pos_of {a : Int} (h : 0 < a) : (a.natAbs : Int) = a := by omega
/-- a form with a zero -/
theorem zeroOf_cases (f : Fm) : (0 ≤ f.1 * f.2 ∧ zeroOf f = none) ∨ (∃ g : Int, ∃ r : Fm, zeroOf f = some r ∧ 0 < g ∧ 0 < r.1 ∧ 0 < r.2 ∧ ((0 < f.1 ∧ f.2 < 0 ∧ f.1 = r.2 * g ∧ f.2 = -(r.1 * g)) ∨ (f.1 < 0 ∧ 0 < f.2 ∧ f.1 = -(r.2 * g) ∧ f.2 = r.1 * g))) := by
  unfold zeroOf
  by_cases h : 0 ≤ f.1 * f.2
  · exact .inl ⟨h, by rw [if_pos h]⟩
  · refine .inr ?_
    rw [if_neg h]
    have h' : f.1 * f.2 < 0 := by omega
    have hc : (0 < f.1 ∧ f.2 < 0) ∨ (f.1 < 0 ∧ 0 < f.2) := by
      rcases Int.lt_trichotomy f.1 0 with a | a | a
      · rcases Int.lt_trichotomy f.2 0 with b | b | b
        · exact absurd (Int.mul_pos_of_neg_of_neg a b) (by omega)
        · rw [b] at h'; omega
        · exact .inr ⟨a, b⟩
      · rw [a] at h'; omega
      · rcases Int.lt_trichotomy f.2 0 with b | b | b
        · exact .inl ⟨a, b⟩
        · rw [b] at h'; omega
        · exact absurd (Int.mul_pos a b) (by omega)
    have p1 : 0 < (f.1.natAbs : Int) := by omega
    have p2 : 0 < (f.2.natAbs : Int) := by omega
    obtain ⟨g, g0, e1, e2, r1, r2⟩ := red_pos p2 p1
    refine ⟨g, _, rfl, g0, r1, r2, ?_⟩
    rcases hc with ⟨a, b⟩ | ⟨a, b⟩
    · exact .inl ⟨a, b, by omega, by omega⟩
    · exact .inr ⟨a, b, by omega, by omega⟩
theorem lss_iff {a b : Fm} : lss a b = true ↔ a.1 * b.2 < b.1 * a.2 := by simp [lss]
theorem lss_irrefl (a : Fm) : lss a a = false := by simp [lss]
/-- the value at an end, by the zero -/
theorem wrt_zero {f r lo : Fm} {g : Int} (h : (f.1 = r.2 * g ∧ f.2 = -(r.1 * g))) : wrt f lo = g * (lo.1 * r.2 - r.1 * lo.2) := by
  obtain ⟨h1, h2⟩ := h
  unfold wrt
  rw [h1, h2]
  grind
theorem wrt_zero' {f r lo : Fm} {g : Int} (h : (f.1 = -(r.2 * g) ∧ f.2 = (r.1 * g))) : wrt f lo = g * (r.1 * lo.2 - lo.1 * r.2) := by
  obtain ⟨h1, h2⟩ := h
  unfold wrt
  rw [h1, h2]
  grind
theorem pos_mul_iff {g x : Int} (h : 0 < g) : 0 < g * x ↔ 0 < x := by
  constructor
  · exact fun h' => Int.pos_of_mul_pos_right h' h |> fun z => z
  · exact fun h' => Int.mul_pos h h'
theorem neg_mul_iff {g x : Int} (h : 0 < g) : g * x < 0 ↔ x < 0 := by
  have := pos_mul_iff (x := -x) h
  rw [Int.mul_neg] at this
  omega
theorem wrt_nonneg {f r : Fm} (hr : Rt r) (h1 : 0 ≤ f.1) (h2 : 0 ≤ f.2) : 0 ≤ wrt f r := by
  unfold wrt
  exact Int.add_nonneg (Int.mul_nonneg h1 hr.a) (Int.mul_nonneg h2 hr.b)
theorem wrt_nonpos {f r : Fm} (hr : Rt r) (h1 : f.1 ≤ 0) (h2 : f.2 ≤ 0) : wrt f r ≤ 0 := by
  have := wrt_nonneg (f := (-f.1, -f.2)) hr (by simp; omega) (by simp; omega)
  unfold wrt at this ⊢
  simp only at this
  rw [Int.neg_mul, Int.neg_mul] at this
  omega
theorem sgn_same {f : Fm} (h : 0 ≤ f.1 * f.2) : (0 ≤ f.1 ∧ 0 ≤ f.2) ∨ (f.1 ≤ 0 ∧ f.2 ≤ 0) := by
  rcases Int.lt_trichotomy f.1 0 with a | a | a
  · rcases Int.lt_trichotomy f.2 0 with b | b | b
    · right; omega
    · right; omega
    · have := Int.mul_neg_of_neg_of_pos a b; omega
  · rcases Int.le_total 0 f.2 with b | b
    · left; omega
    · right; omega
  · rcases Int.lt_trichotomy f.2 0 with b | b | b
    · have := Int.mul_neg_of_pos_of_neg a b; omega
    · left; omega
    · left; omega
theorem sgE_none {f lo hi : Fm} : sgE f lo hi = none ↔ ((wrt f lo < 0 ∧ 0 < wrt f hi) ∨ (0 < wrt f lo ∧ wrt f hi < 0)) := by
  unfold sgE
  by_cases c : 0 ≤ wrt f lo ∧ 0 ≤ wrt f hi
  · rw [if_pos c]; simp; omega
  · rw [if_neg c]
    by_cases c' : wrt f lo ≤ 0 ∧ wrt f hi ≤ 0
    · rw [if_pos c']; simp; omega
    · rw [if_neg c']; simp; omega
/-- where the program sees a zero between, the law sees both signs, and the same root -/
theorem zeroWithin_eq {lo hi : Fm} (hl : Rt lo) (hh : Rt hi) (hd : lss lo hi = true) (f : Fm) : zeroWithin lo hi f = if sgE f lo hi = none then some (rootE f lo hi) else none := by
  have hd' := lss_iff.mp hd
  have D : 0 < hi.1 * lo.2 - lo.1 * hi.2 := by omega
  unfold zeroWithin
  rcases zeroOf_cases f with ⟨h, e⟩ | ⟨g, r, e, g0, r1, r2, h⟩
  · rw [e]
    have : (0 ≤ wrt f lo ∧ 0 ≤ wrt f hi) ∨ (wrt f lo ≤ 0 ∧ wrt f hi ≤ 0) := by
      rcases sgn_same h with ⟨a, b⟩ | ⟨a, b⟩
      · exact .inl ⟨wrt_nonneg hl a b, wrt_nonneg hh a b⟩
      · exact .inr ⟨wrt_nonpos hl a b, wrt_nonpos hh a b⟩
    rw [if_neg (fun h => by rw [sgE_none] at h; omega)]
    rfl
  · rw [e]
    have er : r = red r.1 r.2 → True := fun _ => trivial
    have key : (lss lo r && lss r hi) = true ↔ ((wrt f lo < 0 ∧ 0 < wrt f hi) ∨ (0 < wrt f lo ∧ wrt f hi < 0)) := by
      rw [Bool.and_eq_true, lss_iff, lss_iff]
      rcases h with ⟨_, _, h⟩ | ⟨_, _, h⟩
      · rw [wrt_zero h, wrt_zero h, neg_mul_iff g0, pos_mul_iff g0, pos_mul_iff g0, neg_mul_iff g0]
        constructor
        · omega
        · rintro (h | h)
          · omega
          · exfalso
            -- lo > r > hi
            have a1 : r.1 * lo.2 < lo.1 * r.2 := by omega
            have a2 : hi.1 * r.2 < r.1 * hi.2 := by omega
            have b1 := hl.b
            have b2 := hh.b
            have b3 := hl.a
            have b4 := hh.a
            have c1 : (hi.1 * r.2) * lo.2 ≤ (r.1 * hi.2) * lo.2 := Int.mul_le_mul_of_nonneg_right (by omega) b1
            have c2 : (r.1 * lo.2) * hi.2 ≤ (lo.1 * r.2) * hi.2 := Int.mul_le_mul_of_nonneg_right (by omega) b2
            have c3 : 0 < r.2 * (hi.1 * lo.2 - lo.1 * hi.2) := Int.mul_pos r2 D
            grind
      · rw [wrt_zero' h, wrt_zero' h, neg_mul_iff g0, pos_mul_iff g0, pos_mul_iff g0, neg_mul_iff g0]
        constructor
        · omega
        · rintro (h | h)
          · exfalso
            have a1 : r.1 * lo.2 < lo.1 * r.2 := by omega
            have a2 : hi.1 * r.2 < r.1 * hi.2 := by omega
            have b1 := hl.b
            have b2 := hh.b
            have c1 : (hi.1 * r.2) * lo.2 ≤ (r.1 * hi.2) * lo.2 := Int.mul_le_mul_of_nonneg_right (by omega) b1
            have c2 : (r.1 * lo.2) * hi.2 ≤ (lo.1 * r.2) * hi.2 := Int.mul_le_mul_of_nonneg_right (by omega) b2
            have c3 : 0 < r.2 * (hi.1 * lo.2 - lo.1 * hi.2) := Int.mul_pos r2 D
            grind
          · omega
    by_cases hk : (lss lo r && lss r hi) = true
    · have hk' := key.mp hk
      rw [Option.filter_some, if_pos hk, if_pos (sgE_none.mpr hk')]
      congr 1
      -- the root
      have hz : zeroOf f = some (red (Int.natAbs f.2) (Int.natAbs f.1)) := by
        unfold zeroOf
        rw [if_neg]
        intro hc
        unfold zeroOf at e
        rw [if_pos hc] at e
        cases e
      rw [e] at hz
      rw [Option.some.inj hz]
      unfold rootE
      have t1 : lo.1 * ((wrt f hi).natAbs : Int) + hi.1 * ((wrt f lo).natAbs : Int) = (f.2.natAbs : Int) * (hi.1 * lo.2 - lo.1 * hi.2) := by
        rcases hk' with ⟨a, b⟩ | ⟨a, b⟩
        · rcases h with ⟨s1, s2, _⟩ | ⟨s1, s2, h⟩
          · rw [natAbs_pos_of b, natAbs_neg_of a, natAbs_neg_of s2]
            unfold wrt
            grind
          · exfalso
            rw [wrt_zero' h, neg_mul_iff g0] at a
            simp only [Bool.and_eq_true, lss_iff] at hk
            omega
        · rcases h with ⟨s1, s2, h⟩ | ⟨s1, s2, _⟩
          · exfalso
            rw [wrt_zero h, pos_mul_iff g0] at a
            simp only [Bool.and_eq_true, lss_iff] at hk
            omega
          · rw [natAbs_neg_of b, natAbs_pos_of a, natAbs_pos_of s2]
            unfold wrt
            grind
      have t2 : lo.2 * ((wrt f hi).natAbs : Int) + hi.2 * ((wrt f lo).natAbs : Int) = (f.1.natAbs : Int) * (hi.1 * lo.2 - lo.1 * hi.2) := by
        rcases hk' with ⟨a, b⟩ | ⟨a, b⟩
        · rcases h with ⟨s1, s2, _⟩ | ⟨s1, s2, h⟩
          · rw [natAbs_pos_of b, natAbs_neg_of a, natAbs_pos_of s1]
            unfold wrt
            grind
          · exfalso
            rw [wrt_zero' h, neg_mul_iff g0] at a
            simp only [Bool.and_eq_true, lss_iff] at hk
            omega
        · rcases h with ⟨s1, s2, h⟩ | ⟨s1, s2, _⟩
          · exfalso
            rw [wrt_zero h, pos_mul_iff g0] at a
            simp only [Bool.and_eq_true, lss_iff] at hk
            omega
          · rw [natAbs_neg_of b, natAbs_pos_of a, natAbs_neg_of s1]
            unfold wrt
            grind
      rw [t1, t2, red_mul D]
    · rw [Option.filter_some, if_neg hk]
      rw [key] at hk
      rw [if_neg (fun h => hk (sgE_none.mp h))]
end G

-- MC
namespace G
/-! ### order of ratios -/
theorem lss_le_trans {a b c : Fm} (ha : Rt a) (hb : Rt b) (hc : Rt c) (h1 : ¬ lss b a = true) (h2 : lss b c = true) : lss a c = true := by
  rw [lss_iff] at h1 h2 ⊢
  have h1 : a.1 * b.2 ≤ b.1 * a.2 := by omega
  have hb2 : 0 < b.2 := by
    rcases Int.lt_trichotomy b.2 0 with q | q | q
    · have := hb.b; omega
    · rw [q] at h2
      have := Int.mul_nonneg hb.a hc.b
      omega
    · exact q
  have ha2 : 0 < a.2 := by
    rcases Int.lt_trichotomy a.2 0 with q | q | q
    · have := ha.b; omega
    · have p : 0 < a.1 := by have := ha.c; omega
      rw [q] at h1
      have := Int.mul_pos p hb2
      omega
    · exact q
  have e1 : (a.1 * b.2) * c.2 ≤ (b.1 * a.2) * c.2 := Int.mul_le_mul_of_nonneg_right h1 hc.b
  have e2 : (b.1 * c.2) * a.2 < (c.1 * b.2) * a.2 := Int.mul_lt_mul_of_pos_right h2 ha2
  have e3 : (a.1 * c.2) * b.2 < (c.1 * a.2) * b.2 := by grind
  exact Int.lt_of_mul_lt_mul_right e3 (by omega)
theorem lss_trans_le {a b c : Fm} (ha : Rt a) (hb : Rt b) (hc : Rt c) (h1 : lss a b = true) (h2 : ¬ lss c b = true) : lss a c = true := by
  rw [lss_iff] at h1 h2 ⊢
  have h2 : b.1 * c.2 ≤ c.1 * b.2 := by omega
  have hb1 : 0 < b.1 := by
    rcases Int.lt_trichotomy b.1 0 with q | q | q
    · have := hb.a; omega
    · rw [q] at h1
      have := Int.mul_nonneg ha.a hb.b
      omega
    · exact q
  have hc1 : 0 < c.1 := by
    rcases Int.lt_trichotomy c.1 0 with q | q | q
    · have := hc.a; omega
    · have p : 0 < c.2 := by have := hc.c; omega
      rw [q] at h2
      have := Int.mul_pos hb1 p
      omega
    · exact q
  have e1 : (b.1 * c.2) * a.1 ≤ (c.1 * b.2) * a.1 := Int.mul_le_mul_of_nonneg_right h2 ha.a
  have e2 : (a.1 * b.2) * c.1 < (b.1 * a.2) * c.1 := Int.mul_lt_mul_of_pos_right h1 hc1
  have e3 : (a.1 * c.2) * b.1 < (c.1 * a.2) * b.1 := by grind
  exact Int.lt_of_mul_lt_mul_right e3 (by omega)
theorem lss_asymm {a b : Fm} (h : lss a b = true) : ¬ lss b a = true := by rw [lss_iff] at h ⊢; omega
theorem lss_trans {a b c : Fm} (ha : Rt a) (hb : Rt b) (hc : Rt c) (h1 : lss a b = true) (h2 : lss b c = true) : lss a c = true := lss_trans_le ha hb hc h1 (lss_asymm h2)
theorem ilt (a b : Int) : a < b ∨ b ≤ a := by omega
/-! ### signs -/
def signOf (f lo : Fm) : Int := match zeroOf f with
  | none => if 0 < f.1 + f.2 then 1 else if f.1 + f.2 < 0 then -1 else 0
  | some r => if lss lo r = true then -(if 0 < f.1 then 1 else -1) else (if 0 < f.1 then 1 else -1)
/-- a stretch of more than one ratio -/
structure Iv (lo hi : Fm) : Prop where
  l : Rt lo
  h : Rt hi
  d : lss lo hi = true
theorem Iv.D {lo hi : Fm} (v : Iv lo hi) : 0 < hi.1 * lo.2 - lo.1 * hi.2 := by have := lss_iff.mp v.d; omega
/-- independence of the ends -/
theorem Iv.zero {lo hi f : Fm} (v : Iv lo hi) (h1 : wrt f lo = 0) (h2 : wrt f hi = 0) : f = (0, 0) := by
  have D := v.D
  unfold wrt at h1 h2
  have e1 : f.1 * (hi.1 * lo.2 - lo.1 * hi.2) = 0 := by grind
  have e2 : f.2 * (hi.1 * lo.2 - lo.1 * hi.2) = 0 := by grind
  have z1 : f.1 = 0 := by rcases Int.mul_eq_zero.mp e1 with h | h <;> omega
  have z2 : f.2 = 0 := by rcases Int.mul_eq_zero.mp e2 with h | h <;> omega
  exact Prod.ext z1 z2
theorem wrt_zz {r : Fm} : wrt (0, 0) r = 0 := by simp [wrt]
theorem Rt.pos {r : Fm} {f : Fm} (hr : Rt r) (h1 : 0 < f.1) (h2 : 0 < f.2) : 0 < wrt f r := by
  unfold wrt
  have := hr.c
  rcases ilt 0 r.1 with h | h
  · have a := Int.mul_pos h1 h
    have b := Int.mul_nonneg (Int.le_of_lt h2) hr.b
    omega
  · have a := Int.mul_nonneg (Int.le_of_lt h1) hr.a
    have b := Int.mul_pos h2 (show 0 < r.2 by omega)
    omega
/-- the three cases of a form without a zero between -/
inductive Sg (lo hi f : Fm) : Int → Prop where
  | pos : 0 ≤ wrt f lo → 0 ≤ wrt f hi → f ≠ (0, 0) → Sg lo hi f 1
  | neg : wrt f lo ≤ 0 → wrt f hi ≤ 0 → f ≠ (0, 0) → Sg lo hi f (-1)
  | zero : f = (0, 0) → Sg lo hi f 0
theorem sg_of {lo hi f : Fm} (v : Iv lo hi) (h : zeroWithin lo hi f = none) : Sg lo hi f (signOf f lo) := by
  unfold signOf
  unfold zeroWithin at h
  rcases zeroOf_cases f with ⟨hs, e⟩ | ⟨g, r, e, g0, r1, r2, hs⟩
  · rw [e]
    simp only
    by_cases c : 0 < f.1 + f.2
    · rw [if_pos c]
      have : 0 ≤ f.1 ∧ 0 ≤ f.2 := by rcases sgn_same hs with h | h <;> omega
      exact .pos (wrt_nonneg v.l this.1 this.2) (wrt_nonneg v.h this.1 this.2) (fun z => by rw [z] at c; simp at c)
    · rw [if_neg c]
      by_cases c' : f.1 + f.2 < 0
      · rw [if_pos c']
        have : f.1 ≤ 0 ∧ f.2 ≤ 0 := by rcases sgn_same hs with h | h <;> omega
        exact .neg (wrt_nonpos v.l this.1 this.2) (wrt_nonpos v.h this.1 this.2) (fun z => by rw [z] at c'; simp at c')
      · rw [if_neg c']
        have : f.1 = 0 ∧ f.2 = 0 := by rcases sgn_same hs with h | h <;> omega
        exact .zero (Prod.ext this.1 this.2)
  · rw [e, Option.filter_some] at h
    rw [e]
    simp only
    have hk : ¬ (lss lo r = true ∧ lss r hi = true) := fun hc => by simp [hc.1, hc.2] at h
    have hr : Rt r := ⟨by omega, by omega, by omega⟩
    have nz : f ≠ (0, 0) := fun z => by rcases hs with ⟨a, _⟩ | ⟨a, _⟩ <;> rw [z] at a <;> simp at a
    by_cases c : lss lo r = true
    · rw [if_pos c]
      have c2 : ¬ lss r hi = true := fun z => hk ⟨c, z⟩
      rw [lss_iff] at c c2
      rcases hs with ⟨a, _, h3⟩ | ⟨a, _, h3⟩
      · rw [if_pos a]
        refine .neg ?_ ?_ nz
        · rw [wrt_zero h3]
          have := (neg_mul_iff (x := lo.1 * r.2 - r.1 * lo.2) g0).mpr (by omega)
          omega
        · rw [wrt_zero h3]
          have := Int.mul_nonneg (Int.le_of_lt g0) (show 0 ≤ r.1 * hi.2 - hi.1 * r.2 by omega)
          have e := Int.mul_neg g (r.1 * hi.2 - hi.1 * r.2)
          rw [show -(r.1 * hi.2 - hi.1 * r.2) = hi.1 * r.2 - r.1 * hi.2 by omega] at e
          omega
      · rw [if_neg (by omega)]
        refine .pos ?_ ?_ nz
        · rw [wrt_zero' h3]
          exact Int.mul_nonneg (by omega) (by omega)
        · rw [wrt_zero' h3]
          exact Int.mul_nonneg (by omega) (by omega)
    · rw [if_neg c]
      -- r ≤ lo < hi
      have c2 : lss r hi = true := lss_le_trans hr v.l v.h c v.d
      rw [lss_iff] at c c2
      rcases hs with ⟨a, _, h3⟩ | ⟨a, _, h3⟩
      · rw [if_pos a]
        refine .pos ?_ ?_ nz
        · rw [wrt_zero h3]
          exact Int.mul_nonneg (by omega) (by omega)
        · rw [wrt_zero h3]
          exact Int.mul_nonneg (by omega) (by omega)
      · rw [if_neg (by omega)]
        refine .neg ?_ ?_ nz
        · rw [wrt_zero' h3]
          have := Int.mul_nonneg (Int.le_of_lt g0) (show 0 ≤ lo.1 * r.2 - r.1 * lo.2 by omega)
          have e := Int.mul_neg g (lo.1 * r.2 - r.1 * lo.2)
          rw [show -(lo.1 * r.2 - r.1 * lo.2) = r.1 * lo.2 - lo.1 * r.2 by omega] at e
          omega
        · rw [wrt_zero' h3]
          have := Int.mul_nonneg (Int.le_of_lt g0) (show 0 ≤ hi.1 * r.2 - r.1 * hi.2 by omega)
          have e := Int.mul_neg g (hi.1 * r.2 - r.1 * hi.2)
          rw [show -(hi.1 * r.2 - r.1 * hi.2) = r.1 * hi.2 - hi.1 * r.2 by omega] at e
          omega
/-- the law's sign is the program's -/
theorem sgE_signOf {lo hi f : Fm} (v : Iv lo hi) (h : zeroWithin lo hi f = none) : sgE f lo hi = some (signOf f lo) := by
  have hs := sg_of v h
  generalize signOf f lo = x at hs
  unfold sgE
  cases hs with
  | pos a b c =>
    rw [if_pos ⟨a, b⟩, if_pos]
    rcases ilt 0 (wrt f lo + wrt f hi) with q | q
    · exact q
    · exact absurd (v.zero (f := f) (by omega) (by omega)) c
  | neg a b c =>
    rw [if_neg, if_pos ⟨a, b⟩]
    rintro ⟨a', b'⟩
    exact absurd (v.zero (f := f) (by omega) (by omega)) c
  | zero e =>
    subst e
    simp [wrt_zz]
/-- a ratio within -/
structure Wi (lo hi r : Fm) : Prop where
  R : Rt r
  l : lss lo r = true
  h : lss r hi = true
theorem Wi.eq {lo hi r : Fm} (f : Fm) : wrt f r * (hi.1 * lo.2 - lo.1 * hi.2) = wrt f lo * (hi.1 * r.2 - r.1 * hi.2) + wrt f hi * (r.1 * lo.2 - lo.1 * r.2) := by
  unfold wrt
  grind
theorem Wi.pos {lo hi r f : Fm} (v : Iv lo hi) (w : Wi lo hi r) (h1 : 0 ≤ wrt f lo) (h2 : 0 ≤ wrt f hi) (nz : f ≠ (0, 0)) : 0 < wrt f r := by
  have D := v.D
  have hl := lss_iff.mp w.l
  have hh := lss_iff.mp w.h
  have e := Wi.eq (lo := lo) (hi := hi) (r := r) f
  have a1 : 0 < hi.1 * r.2 - r.1 * hi.2 := by omega
  have a2 : 0 < r.1 * lo.2 - lo.1 * r.2 := by omega
  have b1 := Int.mul_nonneg h1 (Int.le_of_lt a1)
  have b2 := Int.mul_nonneg h2 (Int.le_of_lt a2)
  have : 0 < wrt f r * (hi.1 * lo.2 - lo.1 * hi.2) := by
    rcases ilt 0 (wrt f lo) with q | q
    · have := Int.mul_pos q a1; omega
    · rcases ilt 0 (wrt f hi) with q' | q'
      · have := Int.mul_pos q' a2; omega
      · exact absurd (v.zero (f := f) (by omega) (by omega)) nz
  exact Int.pos_of_mul_pos_left this D
theorem wrt_mns {f g r : Fm} : wrt (mns f g) r = wrt f r - wrt g r := by
  unfold wrt mns
  grind
theorem wrt_neg {f r : Fm} : wrt (-f.1, -f.2) r = -wrt f r := by
  unfold wrt
  grind
theorem Wi.neg {lo hi r f : Fm} (v : Iv lo hi) (w : Wi lo hi r) (h1 : wrt f lo ≤ 0) (h2 : wrt f hi ≤ 0) (nz : f ≠ (0, 0)) : wrt f r < 0 := by
  have := Wi.pos (f := (-f.1, -f.2)) v w (by rw [wrt_neg]; omega) (by rw [wrt_neg]; omega) (fun z => nz (by
    have z1 := congrArg Prod.fst z
    have z2 := congrArg Prod.snd z
    simp at z1 z2
    exact Prod.ext z1 z2))
  rw [wrt_neg] at this
  omega
/-- the sign at a ratio within -/
theorem signOf_at {lo hi r f : Fm} (v : Iv lo hi) (w : Wi lo hi r) (h : zeroWithin lo hi f = none) : (0 < signOf f lo ↔ 0 < wrt f r) ∧ (signOf f lo < 0 ↔ wrt f r < 0) ∧ (signOf f lo = 0 ↔ f = (0, 0)) := by
  have hs := sg_of v h
  generalize signOf f lo = x at hs
  cases hs with
  | pos a b c => have := Wi.pos v w a b c; exact ⟨by omega, by omega, by simp [c]⟩
  | neg a b c => have := Wi.neg v w a b c; exact ⟨by omega, by omega, by simp [c]⟩
  | zero e => subst e; simp [wrt_zz]
/-! ### stretches within stretches -/
structure Sb (lo hi lo' hi' : Fm) : Prop where
  v : Iv lo hi
  v' : Iv lo' hi'
  l : ¬ lss lo' lo = true
  h : ¬ lss hi hi' = true
theorem zeroOf_Rt {f r : Fm} (h : zeroOf f = some r) : Rt r ∧ 0 < r.1 ∧ 0 < r.2 := by
  rcases zeroOf_cases f with ⟨_, e⟩ | ⟨g, r', e, g0, r1, r2, hs⟩
  · rw [e] at h; cases h
  · rw [e] at h; cases h
    exact ⟨⟨by omega, by omega, by omega⟩, r1, r2⟩
theorem zeroWithin_some {lo hi f r : Fm} : zeroWithin lo hi f = some r ↔ zeroOf f = some r ∧ lss lo r = true ∧ lss r hi = true := by
  unfold zeroWithin
  rw [Option.filter_eq_some_iff, Bool.and_eq_true]
theorem Sb.zsome {lo hi lo' hi' f r : Fm} (b : Sb lo hi lo' hi') (h : zeroWithin lo' hi' f = some r) : zeroWithin lo hi f = some r := by
  rw [zeroWithin_some] at h ⊢
  obtain ⟨h1, h2, h3⟩ := h
  have hr := (zeroOf_Rt h1).1
  exact ⟨h1, lss_le_trans b.v.l b.v'.l hr b.l h2, lss_trans_le hr b.v'.h b.v.h h3 b.h⟩
theorem Sb.znone {lo hi lo' hi' f : Fm} (b : Sb lo hi lo' hi') (h : zeroWithin lo hi f = none) : zeroWithin lo' hi' f = none := by
  cases e : zeroWithin lo' hi' f with
  | none => rfl
  | some r => rw [b.zsome e] at h; cases h
theorem Sb.sign {lo hi lo' hi' f : Fm} (b : Sb lo hi lo' hi') (h : zeroWithin lo hi f = none) : signOf f lo' = signOf f lo := by
  unfold signOf
  cases e : zeroOf f with
  | none => rfl
  | some r =>
    simp only
    have hr := (zeroOf_Rt e).1
    have hk : ¬ (lss lo r = true ∧ lss r hi = true) := fun hc => by
      rw [zeroWithin_some.mpr ⟨e, hc.1, hc.2⟩] at h; cases h
    by_cases c : lss lo r = true
    · have c2 : ¬ lss r hi = true := fun z => hk ⟨c, z⟩
      have : lss lo' r = true := lss_trans_le b.v'.l b.v.h hr (lss_trans_le b.v'.l b.v'.h b.v.h b.v'.d b.h) c2
      rw [if_pos c, if_pos this]
    · have : ¬ lss lo' r = true := fun z => c (lss_le_trans b.v.l b.v'.l hr b.l z)
      rw [if_neg c, if_neg this]
theorem Sb.left {lo hi r : Fm} (v : Iv lo hi) (w : Wi lo hi r) : Sb lo hi lo r := ⟨v, ⟨v.l, w.R, w.l⟩, by rw [lss_irrefl]; simp, lss_asymm w.h⟩
theorem Sb.right {lo hi r : Fm} (v : Iv lo hi) (w : Wi lo hi r) : Sb lo hi r hi := ⟨v, ⟨w.R, v.h, w.h⟩, lss_asymm w.l, by rw [lss_irrefl]; simp⟩
theorem Sb.trans {lo hi lo' hi' lo'' hi'' : Fm} (b : Sb lo hi lo' hi') (c : Sb lo' hi' lo'' hi'') : Sb lo hi lo'' hi'' :=
  ⟨b.v, c.v', fun z => c.l (lss_trans_le c.v'.l b.v.l b.v'.l z b.l), fun z => c.h (lss_le_trans b.v'.h b.v.h c.v'.h b.h z)⟩
theorem Sb.refl {lo hi : Fm} (v : Iv lo hi) : Sb lo hi lo hi := ⟨v, v, by rw [lss_irrefl]; simp, by rw [lss_irrefl]; simp⟩
theorem zeroWithin_Wi {lo hi f r : Fm} (h : zeroWithin lo hi f = some r) : Wi lo hi r := by
  rw [zeroWithin_some] at h
  exact ⟨(zeroOf_Rt h.1).1, h.2.1, h.2.2⟩
end G

-- MD
namespace G
/-! ### the machine of forms -/
def wholeF (q : Bool) : Fm := if q then (0, 1) else (1, 0)
def z2 : Fm := (0, 0)
def asked (xs : List Fm) : St → List Fm
  | .wait i => xs.map fun f => mns f (xs.getD i z2)
  | .first => xs.flatMap fun f => xs.map fun g => mns f g
  | _ => []
def firstCut (lo hi : Fm) (xs : List Fm) (s : St) : Option Fm := (asked xs s).findSome? (zeroWithin lo hi)
def pickF (lo : Fm) (found : Option Fm) (f : Fm) : Option Fm := if f = z2 then found else match found with
  | none => some f
  | some g => if 0 < signOf (mns g f) lo then some f else some g
def least (lo : Fm) (xs : List Fm) : Option Fm := xs.foldl (pickF lo) none
def waitedF (lo f : Fm) (xs : List Fm) : List Fm := xs.map fun g => if 0 < signOf (mns g f) lo then mns g f else z2
def aftF (ks : List Bool) (lo : Fm) (xs : List Fm) : St → List Fm
  | .turn i => xs.set i (mns (wholeF (ks.getD i false)) (xs.getD i z2))
  | .ring => xs
  | .wait i => waitedF lo (xs.getD i z2) xs
  | .first => match least lo xs with
    | none => xs
    | some f => waitedF lo f xs
def pls (f g : Fm) : Fm := (f.1 + g.1, f.2 + g.2)
def tkF (lo : Fm) (xs : List Fm) : St → Fm
  | .wait i => xs.getD i z2
  | .first => (least lo xs).getD z2
  | _ => z2
structure RunF where
  xs : List Fm
  t : Fm
  hd : List (Fm × List Bool)
def run1F (ks : List Bool) (lo : Fm) (r : RunF) (s : St) : RunF :=
  ⟨aftF ks lo r.xs s, pls r.t (tkF lo r.xs s), if s = .ring then r.hd ++ [(r.t, r.xs.map fun f => decide (f ≠ z2))] else r.hd⟩
theorem wrt_z2 {r : Fm} : wrt z2 r = 0 := wrt_zz
theorem wrt_pls {f g r : Fm} : wrt (pls f g) r = wrt f r + wrt g r := by
  unfold wrt pls
  grind
theorem aftF_len {ks : List Bool} {lo : Fm} {xs : List Fm} {s : St} : (aftF ks lo xs s).length = xs.length := by
  cases s with
  | first => unfold aftF; cases least lo xs <;> simp [waitedF]
  | _ => simp [aftF, waitedF]
/-- what is above keeps within its glass -/
structure InF (lo hi : Fm) (ks : List Bool) (xs : List Fm) : Prop where
  len : xs.length = ks.length
  ge : ∀ i, i < xs.length → 0 ≤ wrt (xs.getD i z2) lo ∧ 0 ≤ wrt (xs.getD i z2) hi
  le : ∀ i, i < xs.length → wrt (xs.getD i z2) lo ≤ wrt (wholeF (ks.getD i false)) lo ∧ wrt (xs.getD i z2) hi ≤ wrt (wholeF (ks.getD i false)) hi
theorem InF.mem {lo hi : Fm} {ks : List Bool} {xs : List Fm} (h : InF lo hi ks xs) {f : Fm} (hf : f ∈ xs) : 0 ≤ wrt f lo ∧ 0 ≤ wrt f hi := by
  obtain ⟨i, hi', e⟩ := List.getElem_of_mem hf
  have := h.ge i hi'
  rw [List.getD_eq_getElem?_getD, List.getElem?_eq_getElem hi', Option.getD_some, e] at this
  exact this
theorem firstCut_none {lo hi : Fm} {xs : List Fm} {s : St} (h : firstCut lo hi xs s = none) : ∀ f ∈ asked xs s, zeroWithin lo hi f = none := by
  unfold firstCut at h
  rw [List.findSome?_eq_none_iff] at h
  exact h
theorem ask_wait {xs : List Fm} {i : Nat} {f : Fm} (h : f ∈ xs) : mns f (xs.getD i z2) ∈ asked xs (.wait i) := List.mem_map_of_mem h
theorem ask_first {xs : List Fm} {f g : Fm} (h : f ∈ xs) (h' : g ∈ xs) : mns f g ∈ asked xs .first := List.mem_flatMap.mpr ⟨f, h, List.mem_map_of_mem h'⟩
/-! the least one -/
theorem least_fold {lo : Fm} : ∀ (xs : List Fm) (o : Option Fm), (∀ g, o = some g → g ≠ z2) → (∀ f, xs.foldl (pickF lo) o = some f → (f ∈ xs ∨ o = some f) ∧ f ≠ z2) ∧ (xs.foldl (pickF lo) o = none → o = none ∧ ∀ f ∈ xs, f = z2)
  | [], o, h => ⟨fun f e => ⟨.inr e, h f e⟩, fun e => ⟨e, by simp⟩⟩
  | x :: xs, o, h => by
    have h' : ∀ g, pickF lo o x = some g → g ≠ z2 := fun g e => by
      unfold pickF at e
      split at e
      · exact h g e
      · rename_i hx
        split at e
        · cases e; exact hx
        · rename_i g'
          split at e
          · cases e; exact hx
          · cases e; exact h _ rfl
    obtain ⟨a, b⟩ := least_fold xs (pickF lo o x) h'
    refine ⟨fun f e => ?_, fun e => ?_⟩
    · obtain ⟨a1, a2⟩ := a f e
      refine ⟨?_, a2⟩
      rcases a1 with a1 | a1
      · exact .inl (List.mem_cons_of_mem _ a1)
      · unfold pickF at a1
        split at a1
        · exact .inr a1
        · split at a1
          · cases a1; exact .inl (List.mem_cons_self ..)
          · split at a1
            · cases a1; exact .inl (List.mem_cons_self ..)
            · exact .inr a1
    · obtain ⟨b1, b2⟩ := b e
      unfold pickF at b1
      split at b1
      · rename_i hx
        refine ⟨b1, fun f hf => ?_⟩
        rcases List.mem_cons.mp hf with rfl | hf
        · exact hx
        · exact b2 f hf
      · split at b1
        · cases b1
        · split at b1 <;> cases b1
theorem least_some {lo : Fm} {xs : List Fm} {f : Fm} (h : least lo xs = some f) : f ∈ xs ∧ f ≠ z2 := by
  obtain ⟨a, _⟩ := least_fold (lo := lo) xs none (by simp)
  obtain ⟨b, c⟩ := a f h
  exact ⟨by simpa using b, c⟩
theorem least_none {lo : Fm} {xs : List Fm} (h : least lo xs = none) : ∀ f ∈ xs, f = z2 := ((least_fold (lo := lo) xs none (by simp)).2 h).2
/-- the least one, at ratios within -/
theorem pickF_le {lo hi r : Fm} (v : Iv lo hi) (w : Wi lo hi r) {ys : List Fm} (h : ∀ f ∈ ys, ∀ g ∈ ys, zeroWithin lo hi (mns f g) = none) {o : Option Fm} {x : Fm} (hx : x ∈ ys) (ho : ∀ g, o = some g → g ∈ ys) :
    (∀ g, pickF lo o x = some g → g ∈ ys) ∧ (∀ g, o = some g → ∃ f, pickF lo o x = some f ∧ wrt f r ≤ wrt g r) ∧ (x ≠ z2 → ∃ f, pickF lo o x = some f ∧ wrt f r ≤ wrt x r) := by
  unfold pickF
  by_cases e : x = z2
  · rw [if_pos e]
    exact ⟨ho, fun g hg => ⟨g, hg, Int.le_refl _⟩, fun z => absurd e z⟩
  · rw [if_neg e]
    cases o with
    | none => exact ⟨fun g hg => by cases hg; exact hx, fun g hg => (by cases hg), fun _ => ⟨x, rfl, Int.le_refl _⟩⟩
    | some y =>
      have hy := ho y rfl
      obtain ⟨s1, s2, s3⟩ := signOf_at v w (h y hy x hx)
      rw [wrt_mns] at s1 s2
      by_cases c : 0 < signOf (mns y x) lo
      · simp only [if_pos c]
        have := s1.mp c
        exact ⟨fun g hg => by cases hg; exact hx, fun g hg => ⟨x, rfl, by cases hg; omega⟩, fun _ => ⟨x, rfl, Int.le_refl _⟩⟩
      · simp only [if_neg c]
        exact ⟨fun g hg => by cases hg; exact hy, fun g hg => ⟨y, rfl, by cases hg; omega⟩, fun _ => ⟨y, rfl, by omega⟩⟩
theorem least_le {lo hi r : Fm} (v : Iv lo hi) (w : Wi lo hi r) {ys : List Fm} (h : ∀ f ∈ ys, ∀ g ∈ ys, zeroWithin lo hi (mns f g) = none) : ∀ (xs : List Fm) (o : Option Fm), (∀ f ∈ xs, f ∈ ys) → (∀ g, o = some g → g ∈ ys) →
    ∀ f, xs.foldl (pickF lo) o = some f → (∀ g ∈ xs, g ≠ z2 → wrt f r ≤ wrt g r) ∧ (∀ g, o = some g → wrt f r ≤ wrt g r)
  | [], o, _, _, f, e => ⟨by simp, fun g hg => by
    have e : o = some f := e
    rw [e] at hg
    cases hg
    exact Int.le_refl _⟩
  | x :: xs, o, hx, ho, f, e => by
    obtain ⟨p1, p2, p3⟩ := pickF_le v w h (hx x (List.mem_cons_self ..)) ho
    obtain ⟨a, b⟩ := least_le v w h xs (pickF lo o x) (fun f hf => hx f (List.mem_cons_of_mem _ hf)) p1 f e
    refine ⟨fun g hg nz => ?_, fun g hg => ?_⟩
    · rcases List.mem_cons.mp hg with rfl | hg
      · obtain ⟨y, q1, q2⟩ := p3 nz
        have := b y q1
        omega
      · exact a g hg nz
    · obtain ⟨y, q1, q2⟩ := p2 g hg
      have := b y q1
      omega
/-! ### at a ratio within -/
def evR (r : Fm) (s : RunF) : Run := ⟨s.xs.map (wrt · r), wrt s.t r, s.hd.map fun p => (wrt p.1 r, p.2)⟩
theorem whole_wrt {r : Fm} {q : Bool} : whole r.1 r.2 q = wrt (wholeF q) r := by
  cases q <;> simp [whole, wholeF, wrt]
theorem getD_map {α β : Type} {f : α → β} {xs : List α} {i : Nat} {d : α} : (xs.map f).getD i (f d) = f (xs.getD i d) := by
  rw [List.getD_eq_getElem?_getD, List.getD_eq_getElem?_getD, List.getElem?_map]
  cases xs[i]? <;> rfl
theorem getD_mem {α : Type} {xs : List α} {i : Nat} {d : α} (h : i < xs.length) : xs.getD i d ∈ xs := by
  rw [List.getD_eq_getElem?_getD, List.getElem?_eq_getElem h]
  exact List.getElem_mem h
theorem foldmin {xs : List Int} : ∀ {a : Int}, (∀ x ∈ xs, xs.foldl (fun a b => if b < a then b else a) a ≤ x) ∧ xs.foldl (fun a b => if b < a then b else a) a ≤ a ∧ (xs.foldl (fun a b => if b < a then b else a) a = a ∨ xs.foldl (fun a b => if b < a then b else a) a ∈ xs) := by
  induction xs with
  | nil => intro a; simp
  | cons x xs ih =>
    intro a
    obtain ⟨h1, h2, h3⟩ := ih (a := if x < a then x else a)
    rw [List.foldl_cons]
    refine ⟨fun y hy => ?_, ?_, ?_⟩
    · rcases List.mem_cons.mp hy with rfl | hy
      · split at h2 <;> rename_i c
        · rw [if_pos c]; exact h2
        · rw [if_neg c]; omega
      · exact h1 y hy
    · split at h2 <;> rename_i c
      · rw [if_pos c]; omega
      · rw [if_neg c]; omega
    · rcases h3 with h3 | h3
      · by_cases c : x < a
        · rw [if_pos c] at h3 ⊢; exact .inr (by rw [h3]; exact List.mem_cons_self ..)
        · rw [if_neg c] at h3 ⊢; exact .inl h3
      · exact .inr (List.mem_cons_of_mem _ h3)
theorem minI_eq {xs : List Int} {m : Int} (h1 : m ∈ xs) (h2 : ∀ x ∈ xs, m ≤ x) : minI xs = some m := by
  cases xs with
  | nil => cases h1
  | cons x xs =>
    obtain ⟨a, b, c⟩ := foldmin (xs := xs) (a := x)
    show some (xs.foldl (fun a b => if b < a then b else a) x) = some m
    refine congrArg some ?_
    generalize xs.foldl (fun a b => if b < a then b else a) x = F at a b c
    have l1 := h2 x (List.mem_cons_self ..)
    rcases List.mem_cons.mp h1 with e | e
    · rcases c with c | c
      · omega
      · have := h2 _ (List.mem_cons_of_mem _ c); omega
    · have := a m e
      rcases c with c | c
      · omega
      · have := h2 _ (List.mem_cons_of_mem _ c); omega
theorem waited_at {lo hi r f : Fm} {xs : List Fm} (v : Iv lo hi) (w : Wi lo hi r) (h : ∀ g ∈ xs, zeroWithin lo hi (mns g f) = none) : (waitedF lo f xs).map (wrt · r) = (xs.map (wrt · r)).map fun x => max 0 (x - wrt f r) := by
  unfold waitedF
  rw [List.map_map, List.map_map]
  refine List.map_congr_left fun g hg => ?_
  obtain ⟨s1, s2, s3⟩ := signOf_at v w (h g hg)
  rw [wrt_mns] at s1
  simp only [Function.comp]
  by_cases c : 0 < signOf (mns g f) lo
  · rw [if_pos c, wrt_mns]
    have := s1.mp c
    omega
  · rw [if_neg c, wrt_z2]
    omega
theorem pos_at {lo hi r f : Fm} {ks : List Bool} {xs : List Fm} (v : Iv lo hi) (w : Wi lo hi r) (iv : InF lo hi ks xs) (hf : f ∈ xs) : 0 < wrt f r ↔ f ≠ z2 := by
  obtain ⟨a, b⟩ := iv.mem hf
  constructor
  · intro h e
    rw [e, wrt_z2] at h
    omega
  · exact fun nz => Wi.pos v w a b nz
theorem ge_at {lo hi r f : Fm} {ks : List Bool} {xs : List Fm} (v : Iv lo hi) (w : Wi lo hi r) (iv : InF lo hi ks xs) (hf : f ∈ xs) : 0 ≤ wrt f r := by
  by_cases e : f = z2
  · rw [e, wrt_z2]; omega
  · have := (pos_at v w iv hf).mpr e; omega
theorem tk_at {lo hi r : Fm} {ks : List Bool} {xs : List Fm} {s : St} (v : Iv lo hi) (w : Wi lo hi r) (iv : InF lo hi ks xs) (h : firstCut lo hi xs s = none) : tk (xs.map (wrt · r)) s = wrt (tkF lo xs s) r := by
  have hn := firstCut_none h
  cases s with
  | turn i => simp [tk, tkF, wrt_z2]
  | ring => simp [tk, tkF, wrt_z2]
  | wait i =>
    show (xs.map (wrt · r)).getD i 0 = wrt (xs.getD i z2) r
    rw [← getD_map (f := (wrt · r)), wrt_z2]
  | first =>
    show (minI ((xs.map (wrt · r)).filter (0 < ·))).getD 0 = wrt ((least lo xs).getD z2) r
    have hh : ∀ f ∈ xs, ∀ g ∈ xs, zeroWithin lo hi (mns f g) = none := fun f hf g hg => hn _ (ask_first hf hg)
    cases e : least lo xs with
    | none =>
      have : (xs.map (wrt · r)).filter (0 < ·) = [] := by
        rw [List.filter_eq_nil_iff]
        intro x hx
        obtain ⟨f, hf, rfl⟩ := List.mem_map.mp hx
        rw [least_none e f hf, wrt_z2]
        simp
      rw [this]
      simp [minI, wrt_z2]
    | some f =>
      obtain ⟨m1, m2⟩ := least_some e
      have := (least_le v w hh xs none (fun _ h => h) (by simp) f e).1
      rw [minI_eq (m := wrt f r)]
      · rfl
      · rw [List.mem_filter]
        exact ⟨List.mem_map_of_mem m1, by simpa using (pos_at v w iv m1).mpr m2⟩
      · intro x hx
        rw [List.mem_filter] at hx
        obtain ⟨g, hg, rfl⟩ := List.mem_map.mp hx.1
        exact this g hg ((pos_at v w iv hg).mp (by simpa using hx.2))
theorem map_id_of {xs : List Int} (h : ∀ x ∈ xs, 0 ≤ x) : xs.map (fun x => max 0 (x - 0)) = xs := by
  conv => rhs; rw [← List.map_id xs]
  exact List.map_congr_left fun x hx => by have := h x hx; simp; omega
theorem aft_at {lo hi r : Fm} {ks : List Bool} {xs : List Fm} {s : St} (v : Iv lo hi) (w : Wi lo hi r) (iv : InF lo hi ks xs) (h : firstCut lo hi xs s = none) : aft ks r.1 r.2 (xs.map (wrt · r)) s = (aftF ks lo xs s).map (wrt · r) := by
  have ht := tk_at v w iv h
  have hn := firstCut_none h
  have ge : ∀ x ∈ xs.map (wrt · r), 0 ≤ x := fun x hx => by
    obtain ⟨f, hf, rfl⟩ := List.mem_map.mp hx
    exact ge_at v w iv hf
  cases s with
  | turn i =>
    show (xs.map (wrt · r)).set i _ = (xs.set i _).map (wrt · r)
    rw [List.map_set, wrt_mns, whole_wrt, ← getD_map (f := (wrt · r)), wrt_z2]
  | ring =>
    show (xs.map (wrt · r)).map _ = xs.map (wrt · r)
    rw [ht]
    show (xs.map (wrt · r)).map (fun x => max 0 (x - wrt z2 r)) = _
    rw [wrt_z2, map_id_of ge]
  | wait i =>
    show (xs.map (wrt · r)).map _ = (waitedF lo (xs.getD i z2) xs).map (wrt · r)
    rw [ht, waited_at v w (fun g hg => hn _ (ask_wait hg))]
    rfl
  | first =>
    show (xs.map (wrt · r)).map _ = (aftF ks lo xs .first).map (wrt · r)
    rw [ht]
    unfold tkF aftF
    cases e : least lo xs with
    | none =>
      simp only [Option.getD_none]
      rw [wrt_z2, map_id_of ge]
    | some f =>
      simp only [Option.getD_some]
      rw [waited_at v w (fun g hg => hn _ (ask_first hg (least_some e).1))]
theorem run1_at {lo hi r : Fm} {ks : List Bool} {q : RunF} {s : St} (v : Iv lo hi) (w : Wi lo hi r) (iv : InF lo hi ks q.xs) (h : firstCut lo hi q.xs s = none) : run1 ks r.1 r.2 (evR r q) s = evR r (run1F ks lo q s) := by
  have ha := aft_at v w iv h
  have ht := tk_at v w iv h
  unfold run1 evR run1F
  simp only
  rw [ha, ht, wrt_pls]
  congr 1
  by_cases c : s = .ring
  · rw [if_pos c, if_pos c, List.map_append]
    subst c
    have : tkF lo q.xs .ring = z2 := rfl
    rw [this, wrt_z2]
    congr 1
    simp only [List.map_cons, List.map_nil, Int.add_zero]
    congr 2
    show List.map _ (List.map (wrt · r) q.xs) = _
    rw [List.map_map]
    refine List.map_congr_left fun f hf => ?_
    have := pos_at v w iv hf
    simp only [Function.comp]
    exact decide_eq_decide.mpr this
  · rw [if_neg c, if_neg c]
end G

-- ME
namespace G
/-! ### what stays -/
theorem getD_set {α : Type} {xs : List α} {i j : Nat} {x d : α} (h : i < xs.length) : (xs.set i x).getD j d = if j = i then x else xs.getD j d := by
  rw [List.getD_eq_getElem?_getD, List.getD_eq_getElem?_getD, List.getElem?_set]
  by_cases e : i = j
  · subst e; simp [h]
  · rw [if_neg e, if_neg (fun z => e z.symm)]
theorem wholeF_ge {r : Fm} (h : Rt r) (q : Bool) : 0 ≤ wrt (wholeF q) r := by
  have := h.a
  have := h.b
  cases q <;> simp [wholeF, wrt] <;> assumption
theorem waitedF_len {lo f : Fm} {xs : List Fm} : (waitedF lo f xs).length = xs.length := by simp [waitedF]
theorem waitedF_get {lo f : Fm} {xs : List Fm} {i : Nat} (h : i < xs.length) : (waitedF lo f xs).getD i z2 = if 0 < signOf (mns (xs.getD i z2) f) lo then mns (xs.getD i z2) f else z2 := by
  unfold waitedF
  rw [List.getD_eq_getElem?_getD, List.getD_eq_getElem?_getD, List.getElem?_map, List.getElem?_eq_getElem h]
  rfl
theorem InF.waited {lo hi f : Fm} {ks : List Bool} {xs : List Fm} (v : Iv lo hi) (iv : InF lo hi ks xs) (hf : 0 ≤ wrt f lo ∧ 0 ≤ wrt f hi) (hn : ∀ g ∈ xs, zeroWithin lo hi (mns g f) = none) : InF lo hi ks (waitedF lo f xs) := by
  refine ⟨waitedF_len.trans iv.len, fun i h => ?_, fun i h => ?_⟩ <;> rw [waitedF_len] at h <;> rw [waitedF_get h]
  · have hs := sg_of v (hn _ (getD_mem (d := z2) h))
    generalize signOf (mns (xs.getD i z2) f) lo = x at hs
    cases hs with
    | pos a b _ => rw [if_pos (by omega)]; exact ⟨a, b⟩
    | neg a b _ => rw [if_neg (by omega), wrt_z2, wrt_z2]; omega
    | zero e => rw [if_neg (by omega), wrt_z2, wrt_z2]; omega
  · have hl := iv.le i h
    have a1 := wholeF_ge v.l (ks.getD i false)
    have a2 := wholeF_ge v.h (ks.getD i false)
    split
    · rw [wrt_mns, wrt_mns]; omega
    · rw [wrt_z2, wrt_z2]; omega
theorem InF.step {lo hi : Fm} {ks : List Bool} {xs : List Fm} {s : St} (v : Iv lo hi) (iv : InF lo hi ks xs) (hs : s.ok ks.length) (h : firstCut lo hi xs s = none) : InF lo hi ks (aftF ks lo xs s) := by
  have hn := firstCut_none h
  cases s with
  | ring => exact iv
  | wait i => exact iv.waited v (iv.ge i (iv.len ▸ hs)) fun g hg => hn _ (ask_wait hg)
  | first =>
    unfold aftF
    cases e : least lo xs with
    | none => exact iv
    | some f =>
      obtain ⟨m, _⟩ := least_some e
      exact iv.waited v (iv.mem m) fun g hg => hn _ (ask_first hg m)
  | turn i =>
    have hi' : i < xs.length := iv.len ▸ hs
    have g := iv.ge i hi'
    have l := iv.le i hi'
    refine ⟨by rw [aftF_len]; exact iv.len, fun j hj => ?_, fun j hj => ?_⟩ <;> rw [aftF_len] at hj <;> unfold aftF <;> simp only <;> rw [getD_set hi']
    · by_cases c : j = i
      · rw [if_pos c, wrt_mns, wrt_mns]; omega
      · rw [if_neg c]; exact iv.ge j hj
    · by_cases c : j = i
      · subst c
        rw [if_pos rfl, wrt_mns, wrt_mns]; omega
      · rw [if_neg c]; exact iv.le j hj
theorem InF.zero {lo hi : Fm} (v : Iv lo hi) (ks : List Bool) : InF lo hi ks (List.replicate ks.length z2) := by
  have e : ∀ i, (List.replicate ks.length z2).getD i z2 = z2 := fun i => by
    rw [List.getD_eq_getElem?_getD, List.getElem?_replicate]
    split <;> rfl
  refine ⟨by simp, fun i h => ?_, fun i h => ?_⟩ <;> rw [e, wrt_z2, wrt_z2]
  · omega
  · exact ⟨wholeF_ge v.l _, wholeF_ge v.h _⟩
/-- between the ends, they too -/
theorem Iv.between {lo hi r f : Fm} (v : Iv lo hi) (hl : ¬ lss r lo = true) (hh : ¬ lss hi r = true) (h1 : 0 ≤ wrt f lo) (h2 : 0 ≤ wrt f hi) : 0 ≤ wrt f r := by
  rw [lss_iff] at hl hh
  have e := Wi.eq (lo := lo) (hi := hi) (r := r) f
  have b1 := Int.mul_nonneg h1 (show 0 ≤ hi.1 * r.2 - r.1 * hi.2 by omega)
  have b2 := Int.mul_nonneg h2 (show 0 ≤ r.1 * lo.2 - lo.1 * r.2 by omega)
  have D := v.D
  rcases ilt (wrt f r) 0 with q | q
  · have := Int.mul_neg_of_neg_of_pos q D
    omega
  · exact q
theorem Sb.l2 {lo hi lo' hi' : Fm} (b : Sb lo hi lo' hi') : ¬ lss hi lo' = true := fun z => b.h (lss_trans b.v.h b.v'.l b.v'.h z b.v'.d)
theorem Sb.h2 {lo hi lo' hi' : Fm} (b : Sb lo hi lo' hi') : ¬ lss hi' lo = true := fun z => b.l (lss_trans b.v'.l b.v'.h b.v.l b.v'.d z)
theorem Sb.inF {lo hi lo' hi' : Fm} {ks : List Bool} {xs : List Fm} (b : Sb lo hi lo' hi') (iv : InF lo hi ks xs) : InF lo' hi' ks xs := by
  refine ⟨iv.len, fun i h => ?_, fun i h => ?_⟩
  · obtain ⟨g1, g2⟩ := iv.ge i h
    exact ⟨b.v.between b.l b.l2 g1 g2, b.v.between b.h2 b.h g1 g2⟩
  · obtain ⟨g1, g2⟩ := iv.le i h
    have h1 : 0 ≤ wrt (mns (wholeF (ks.getD i false)) (xs.getD i z2)) lo := by rw [wrt_mns]; omega
    have h2 : 0 ≤ wrt (mns (wholeF (ks.getD i false)) (xs.getD i z2)) hi := by rw [wrt_mns]; omega
    have e1 := b.v.between b.l b.l2 h1 h2
    have e2 := b.v.between b.h2 b.h h1 h2
    rw [wrt_mns] at e1 e2
    omega
theorem Sb.cut {lo hi lo' hi' : Fm} {xs : List Fm} {s : St} (b : Sb lo hi lo' hi') (h : firstCut lo hi xs s = none) : firstCut lo' hi' xs s = none := by
  unfold firstCut
  rw [List.findSome?_eq_none_iff]
  exact fun f hf => b.znone (firstCut_none h f hf)
theorem waitedF_congr {lo lo' f : Fm} {xs : List Fm} (h : ∀ g ∈ xs, signOf (mns g f) lo' = signOf (mns g f) lo) : waitedF lo' f xs = waitedF lo f xs := by
  unfold waitedF
  exact List.map_congr_left fun g hg => by rw [h g hg]
theorem least_congr {lo lo' : Fm} {ys : List Fm} (h : ∀ f ∈ ys, ∀ g ∈ ys, signOf (mns f g) lo' = signOf (mns f g) lo) : ∀ (xs : List Fm) (o : Option Fm), (∀ f ∈ xs, f ∈ ys) → (∀ g, o = some g → g ∈ ys) → xs.foldl (pickF lo') o = xs.foldl (pickF lo) o
  | [], _, _, _ => rfl
  | x :: xs, o, hx, ho => by
    have e : pickF lo' o x = pickF lo o x := by
      unfold pickF
      cases o with
      | none => rfl
      | some y =>
        simp only
        rw [h y (ho y rfl) x (hx x (List.mem_cons_self ..))]
    have m : ∀ g, pickF lo o x = some g → g ∈ ys := fun g hg => by
      unfold pickF at hg
      split at hg
      · exact ho g hg
      · split at hg
        · cases hg; exact hx x (List.mem_cons_self ..)
        · split at hg <;> cases hg
          · exact hx x (List.mem_cons_self ..)
          · exact ho _ rfl
    rw [List.foldl_cons, List.foldl_cons, e]
    exact least_congr h xs _ (fun f hf => hx f (List.mem_cons_of_mem _ hf)) m
theorem Sb.least {lo hi lo' hi' : Fm} {xs : List Fm} (b : Sb lo hi lo' hi') (h : firstCut lo hi xs .first = none) : least lo' xs = least lo xs :=
  least_congr (ys := xs) (fun f hf g hg => b.sign (firstCut_none h _ (ask_first hf hg))) xs none (fun _ h => h) (by simp)
theorem Sb.run1 {lo hi lo' hi' : Fm} {ks : List Bool} {q : RunF} {s : St} (b : Sb lo hi lo' hi') (h : firstCut lo hi q.xs s = none) : run1F ks lo' q s = run1F ks lo q s := by
  have hn := firstCut_none h
  unfold run1F
  cases s with
  | turn i => rfl
  | ring => rfl
  | wait i =>
    have : aftF ks lo' q.xs (.wait i) = aftF ks lo q.xs (.wait i) := waitedF_congr fun g hg => b.sign (hn _ (ask_wait hg))
    rw [this]
    rfl
  | first =>
    have e := b.least h
    have : aftF ks lo' q.xs .first = aftF ks lo q.xs .first := by
      unfold aftF
      simp only
      rw [e]
      cases c : G.least lo q.xs with
      | none => rfl
      | some f => exact waitedF_congr fun g hg => b.sign (hn _ (ask_first hg (least_some c).1))
    rw [this]
    unfold tkF
    simp only
    rw [e]
/-! ### cuts -/
def pairs : List Fm → List Fm
  | [] => []
  | x :: xs => xs.map (mns x ·) ++ pairs xs
def ask2 (xs : List Fm) : St → List Fm
  | .wait i => xs.map fun f => mns f (xs.getD i z2)
  | .first => pairs xs
  | _ => []
def dbt (lo hi : Fm) (xs : List Fm) (s : St) : Nat := (ask2 xs s).countP fun f => (zeroWithin lo hi f).isSome
theorem zeroOf_neg {f g : Fm} : zeroOf (mns f g) = zeroOf (mns g f) := by
  unfold zeroOf mns
  simp only
  have e1 : (f.1 - g.1) * (f.2 - g.2) = (g.1 - f.1) * (g.2 - f.2) := by grind
  have e2 : (f.2 - g.2).natAbs = (g.2 - f.2).natAbs := by omega
  have e3 : (f.1 - g.1).natAbs = (g.1 - f.1).natAbs := by omega
  rw [e1, e2, e3]
theorem zeroWithin_neg {lo hi f g : Fm} : zeroWithin lo hi (mns f g) = zeroWithin lo hi (mns g f) := by unfold zeroWithin; rw [zeroOf_neg]
theorem zeroWithin_self {lo hi f : Fm} : zeroWithin lo hi (mns f f) = none := by
  unfold zeroWithin zeroOf mns
  simp
theorem pairs_mem {lo hi : Fm} : ∀ {xs : List Fm} {f g r : Fm}, f ∈ xs → g ∈ xs → zeroWithin lo hi (mns f g) = some r → ∃ h ∈ pairs xs, zeroWithin lo hi h = some r
  | x :: xs, f, g, r, hf, hg, e => by
    rcases List.mem_cons.mp hf with rfl | hf'
    · rcases List.mem_cons.mp hg with rfl | hg'
      · rw [zeroWithin_self] at e; cases e
      · exact ⟨_, List.mem_append_left _ (List.mem_map_of_mem hg'), e⟩
    · rcases List.mem_cons.mp hg with rfl | hg'
      · exact ⟨_, List.mem_append_left _ (List.mem_map_of_mem hf'), by rw [zeroWithin_neg]; exact e⟩
      · obtain ⟨h, h1, h2⟩ := pairs_mem hf' hg' e
        exact ⟨h, List.mem_append_right _ h1, h2⟩
theorem pairs_len : ∀ xs : List Fm, 2 * (pairs xs).length = xs.length * (xs.length - 1)
  | [] => rfl
  | x :: xs => by
    rw [pairs, List.length_append, List.length_map, Nat.mul_add, pairs_len xs, List.length_cons]
    cases xs with
    | nil => rfl
    | cons y ys =>
      simp only [List.length_cons, Nat.add_sub_cancel]
      grind
theorem ask2_of {lo hi : Fm} {xs : List Fm} {s : St} {f r : Fm} (h : f ∈ asked xs s) (e : zeroWithin lo hi f = some r) : ∃ h ∈ ask2 xs s, zeroWithin lo hi h = some r := by
  cases s with
  | turn i => cases h
  | ring => cases h
  | wait i => exact ⟨f, h, e⟩
  | first =>
    obtain ⟨a, ha, h⟩ := List.mem_flatMap.mp h
    obtain ⟨b, hb, rfl⟩ := List.mem_map.mp h
    exact pairs_mem ha hb e
theorem firstCut_some {lo hi r : Fm} {xs : List Fm} {s : St} (h : firstCut lo hi xs s = some r) : ∃ f ∈ asked xs s, zeroWithin lo hi f = some r := by
  unfold firstCut at h
  obtain ⟨f, h1, h2⟩ := List.exists_of_findSome?_eq_some h
  exact ⟨f, h1, h2⟩
theorem countP_lt {α : Type} {p q : α → Bool} : ∀ {l : List α}, (∀ x ∈ l, p x = true → q x = true) → (∃ x ∈ l, q x = true ∧ p x = false) → l.countP p < l.countP q
  | [], _, h => by obtain ⟨x, hx, _⟩ := h; cases hx
  | a :: l, h, ⟨x, hx, h1, h2⟩ => by
    rw [List.countP_cons, List.countP_cons]
    have le : l.countP p ≤ l.countP q := List.countP_mono_left fun y hy => h y (List.mem_cons_of_mem _ hy)
    rcases List.mem_cons.mp hx with rfl | hx
    · simp [h1, h2]; omega
    · have := countP_lt (fun y hy => h y (List.mem_cons_of_mem _ hy)) ⟨x, hx, h1, h2⟩
      have ha := h a (List.mem_cons_self ..)
      cases hp : p a
      · simp; split <;> omega
      · simp [ha hp]; omega
theorem dbt_lt {lo hi lo' hi' r : Fm} {xs : List Fm} {s : St} (h : firstCut lo hi xs s = some r) (b : Sb lo hi lo' hi') (hr : lo' = r ∨ hi' = r) : dbt lo' hi' xs s < dbt lo hi xs s := by
  obtain ⟨f, hf, e⟩ := firstCut_some h
  obtain ⟨g, hg, e'⟩ := ask2_of hf e
  unfold dbt
  refine countP_lt (fun x _ hx => ?_) ⟨g, hg, by simp [e'], ?_⟩
  · cases c : zeroWithin lo' hi' x with
    | none => simp [c] at hx
    | some q => simp [b.zsome c]
  · cases c : zeroWithin lo' hi' g with
    | none => rfl
    | some q =>
      have := b.zsome c
      rw [e'] at this
      cases this
      have w := zeroWithin_Wi c
      rcases hr with rfl | rfl
      · have := w.l; rw [lss_irrefl] at this; cases this
      · have := w.h; rw [lss_irrefl] at this; cases this
theorem dbt_zero {lo hi : Fm} {xs : List Fm} {s : St} (h : dbt lo hi xs s = 0) : firstCut lo hi xs s = none := by
  cases c : firstCut lo hi xs s with
  | none => rfl
  | some r =>
    obtain ⟨f, hf, e⟩ := firstCut_some c
    obtain ⟨g, hg, e'⟩ := ask2_of hf e
    unfold dbt at h
    rw [List.countP_eq_zero] at h
    exact absurd (by simp [e']) (h g hg)
theorem ask2_len {xs : List Fm} {s : St} : (ask2 xs s).length ≤ xs.length + xs.length * (xs.length - 1) / 2 := by
  cases s with
  | turn i => simp [ask2]
  | ring => simp [ask2]
  | wait i => simp [ask2]
  | first =>
    show (pairs xs).length ≤ _
    have := pairs_len xs
    omega
/-! ### pieces -/
inductive Pc where
  | ev (lo hi : Fm) (q : RunF)
  | one (r : Fm) (q : Run)
def adv (ks : List Bool) : Nat → Pc → St → List Pc
  | _, .one r q, s => [.one r (run1 ks r.1 r.2 q s)]
  | 0, .ev lo hi q, s => [.ev lo hi (run1F ks lo q s)]
  | n + 1, .ev lo hi q, s => match firstCut lo hi q.xs s with
    | none => [.ev lo hi (run1F ks lo q s)]
    | some r => adv ks n (.ev lo r q) s ++ (.one r (run1 ks r.1 r.2 (evR r q) s) :: adv ks n (.ev r hi q) s)
def crs (ks : List Bool) (n : Nat) : List St → Pc → List Pc
  | [], P => [P]
  | s :: ss, P => (adv ks n P s).flatMap (crs ks n ss)
theorem foldl_crs {ks : List Bool} {n : Nat} : ∀ (ss : List St) (ps : List Pc), ss.foldl (fun ps s => ps.flatMap fun P => adv ks n P s) ps = ps.flatMap (crs ks n ss)
  | [], ps => by simp [crs]
  | s :: ss, ps => by
    rw [List.foldl_cons, foldl_crs ss, List.flatMap_assoc]
    rfl
def q0 (ks : List Bool) : RunF := ⟨List.replicate ks.length z2, z2, []⟩
def evenRun (ks : List Bool) (lo hi : Fm) : RunF → List St → Fm ⊕ RunF
  | q, [] => .inr q
  | q, s :: ss => match firstCut lo hi q.xs s with
    | some r => .inl r
    | none => evenRun ks lo hi (run1F ks lo q s) ss
def parts (ks : List Bool) (ss : List St) : Nat → Fm → Fm → List Pc
  | 0, _, _ => []
  | n + 1, lo, hi => match evenRun ks lo hi (q0 ks) ss with
    | .inr q => [.ev lo hi q]
    | .inl r => parts ks ss n lo r ++ (.one r (runM ks r.1 r.2 ss) :: parts ks ss n r hi)
theorem evenRun_app {ks : List Bool} {lo hi : Fm} : ∀ {pre : List St} {q q' : RunF} {ss : List St}, evenRun ks lo hi q pre = .inr q' → evenRun ks lo hi q (pre ++ ss) = evenRun ks lo hi q' ss
  | [], q, q', ss, h => by cases h; rfl
  | s :: pre, q, q', ss, h => by
    rw [evenRun] at h
    rw [List.cons_append, evenRun]
    cases e : firstCut lo hi q.xs s with
    | some r => rw [e] at h; cases h
    | none =>
      rw [e] at h
      exact evenRun_app h
theorem evenRun_sub {ks : List Bool} {lo hi lo' hi' : Fm} (b : Sb lo hi lo' hi') : ∀ {pre : List St} {q q' : RunF}, evenRun ks lo hi q pre = .inr q' → evenRun ks lo' hi' q pre = .inr q'
  | [], q, q', h => h
  | s :: pre, q, q', h => by
    rw [evenRun] at h ⊢
    cases e : firstCut lo hi q.xs s with
    | some r => rw [e] at h; cases h
    | none =>
      rw [e] at h
      rw [b.cut e]
      simp only
      rw [b.run1 e]
      exact evenRun_sub b h
theorem evenRun_in {ks : List Bool} {lo hi : Fm} (v : Iv lo hi) : ∀ {pre : List St} {q q' : RunF}, (∀ s ∈ pre, s.ok ks.length) → InF lo hi ks q.xs → evenRun ks lo hi q pre = .inr q' → InF lo hi ks q'.xs
  | [], q, q', _, iv, h => by cases h; exact iv
  | s :: pre, q, q', ok, iv, h => by
    rw [evenRun] at h
    cases e : firstCut lo hi q.xs s with
    | some r => rw [e] at h; cases h
    | none =>
      rw [e] at h
      exact evenRun_in v (fun s hs => ok s (List.mem_cons_of_mem _ hs)) (iv.step v (ok s (List.mem_cons_self ..)) e) h
theorem evenRun_at {ks : List Bool} {lo hi r : Fm} (v : Iv lo hi) (w : Wi lo hi r) : ∀ {pre : List St} {q q' : RunF}, (∀ s ∈ pre, s.ok ks.length) → InF lo hi ks q.xs → evenRun ks lo hi q pre = .inr q' → pre.foldl (run1 ks r.1 r.2) (evR r q) = evR r q'
  | [], q, q', _, iv, h => by cases h; rfl
  | s :: pre, q, q', ok, iv, h => by
    rw [evenRun] at h
    cases e : firstCut lo hi q.xs s with
    | some r => rw [e] at h; cases h
    | none =>
      rw [e] at h
      rw [List.foldl_cons, run1_at v w iv e]
      exact evenRun_at v w (fun s hs => ok s (List.mem_cons_of_mem _ hs)) (iv.step v (ok s (List.mem_cons_self ..)) e) h
theorem evR_q0 {ks : List Bool} {r : Fm} : evR r (q0 ks) = ⟨List.replicate ks.length 0, 0, []⟩ := by
  unfold evR q0
  simp [wrt_z2]
theorem crs_one {ks : List Bool} {n : Nat} {r : Fm} : ∀ (ss : List St) (q : Run), crs ks n ss (.one r q) = [.one r (ss.foldl (run1 ks r.1 r.2) q)]
  | [], q => rfl
  | s :: ss, q => by
    rw [crs]
    have : adv ks n (.one r q) s = [.one r (run1 ks r.1 r.2 q s)] := by cases n <;> rfl
    rw [this, List.flatMap_cons, List.flatMap_nil, List.append_nil, crs_one ss]
    rfl
/-- both ways of cutting give the same pieces -/
theorem crs_parts {ks : List Bool} {n B : Nat} (hB : ∀ (xs : List Fm) (s : St), xs.length = ks.length → (ask2 xs s).length ≤ B) (hn : B ≤ n) : ∀ (ss pre : List St) (lo hi : Fm) (q : RunF) (m : Nat), (∀ s ∈ pre ++ ss, s.ok ks.length) → Iv lo hi → evenRun ks lo hi (q0 ks) pre = .inr q →
    B * ss.length < m → crs ks n ss (.ev lo hi q) = parts ks (pre ++ ss) m lo hi := by
  intro ss
  induction ss with
  | nil =>
    intro pre lo hi q m ok v h hm
    cases m with
    | zero => omega
    | succ m =>
      rw [parts, evenRun_app h]
      rfl
  | cons s ss ih =>
    have go : ∀ (c : Nat) (pre : List St) (lo hi : Fm) (q : RunF) (m k : Nat), dbt lo hi q.xs s ≤ c → c ≤ k → (∀ t ∈ pre ++ s :: ss, t.ok ks.length) → Iv lo hi → evenRun ks lo hi (q0 ks) pre = .inr q → B * ss.length + c < m →
        (adv ks k (.ev lo hi q) s).flatMap (crs ks n ss) = parts ks (pre ++ s :: ss) m lo hi := by
      intro c
      induction c with
      | zero =>
        intro pre lo hi q m k hd hk ok v h hm
        have e := dbt_zero (Nat.le_zero.mp hd)
        have : adv ks k (.ev lo hi q) s = [.ev lo hi (run1F ks lo q s)] := by
          cases k with
          | zero => rfl
          | succ k => rw [adv, e]
        rw [this, List.flatMap_cons, List.flatMap_nil, List.append_nil]
        rw [ih (pre ++ [s]) lo hi _ m (by simpa using ok) v (by rw [evenRun_app h, evenRun, e]; rfl) (by omega)]
        rw [List.append_assoc]
        rfl
      | succ c ihc =>
        intro pre lo hi q m k hd hk ok v h hm
        cases k with
        | zero => omega
        | succ k =>
          cases e : firstCut lo hi q.xs s with
          | none =>
            rw [adv, e]
            simp only
            rw [List.flatMap_cons, List.flatMap_nil, List.append_nil]
            rw [ih (pre ++ [s]) lo hi _ m (by simpa using ok) v (by rw [evenRun_app h, evenRun, e]; rfl) (by omega)]
            rw [List.append_assoc]
            rfl
          | some r =>
            have w : Wi lo hi r := by
              obtain ⟨f, _, e'⟩ := firstCut_some e
              exact zeroWithin_Wi e'
            have bl := Sb.left v w
            have br := Sb.right v w
            have dl := dbt_lt e bl (.inr rfl)
            have dr := dbt_lt e br (.inl rfl)
            cases m with
            | zero => omega
            | succ m =>
              rw [adv, e, parts, evenRun_app h, evenRun, e]
              simp only
              rw [List.flatMap_append, List.flatMap_cons]
              rw [ihc pre lo r q m k (by omega) (by omega) ok bl.v' (evenRun_sub bl h) (by omega)]
              rw [ihc pre r hi q m k (by omega) (by omega) ok br.v' (evenRun_sub br h) (by omega)]
              rw [crs_one]
              have okp : ∀ t ∈ pre, t.ok ks.length := fun t ht => ok t (List.mem_append_left _ ht)
              have := evenRun_at v w okp (InF.zero v ks) h
              rw [evR_q0] at this
              have e2 : runM ks r.1 r.2 (pre ++ s :: ss) = ss.foldl (run1 ks r.1 r.2) (run1 ks r.1 r.2 (evR r q) s) := by
                rw [runM, List.foldl_append, List.foldl_cons, this]
              rw [e2]
              rfl
    intro pre lo hi q m ok v h hm
    have okp : ∀ t ∈ pre, t.ok ks.length := fun t ht => ok t (List.mem_append_left _ ht)
    have iv := evenRun_in v okp (InF.zero v ks) h
    have hb := hB q.xs s iv.len
    have hd : dbt lo hi q.xs s ≤ B := Nat.le_trans List.countP_le_length hb
    rw [crs]
    refine go B pre lo hi q m n hd hn ok v h ?_
    rw [List.length_cons, Nat.mul_add] at hm
    omega
end G

-- MF
namespace G
/-! ### how great the numbers are -/
def Bn : Nat → Int
  | 0 => 1
  | n + 1 => 2 * Bn n
theorem Bn_pos : ∀ n, 0 < Bn n
  | 0 => by simp [Bn]
  | n + 1 => by rw [Bn]; have := Bn_pos n; omega
theorem Bn_mono {n m : Nat} (h : n ≤ m) : Bn n ≤ Bn m := by
  induction h with
  | refl => exact Int.le_refl _
  | step _ ih => rw [Bn]; have := Bn_pos n; omega
theorem Bn_40 : Bn 40 = 1099511627776 := by decide +kernel
structure Sm (n : Nat) (f : Fm) : Prop where
  a1 : -(Bn n) ≤ f.1
  a2 : f.1 ≤ Bn n
  b1 : -(Bn n) ≤ f.2
  b2 : f.2 ≤ Bn n
theorem Sm.mono {n m : Nat} {f : Fm} (h : Sm n f) (l : n ≤ m) : Sm m f := by
  have := Bn_mono l
  obtain ⟨a, b, c, d⟩ := h
  exact ⟨by omega, by omega, by omega, by omega⟩
theorem Sm.mns {n : Nat} {f g : Fm} (h : Sm n f) (h' : Sm n g) : Sm (n + 1) (mns f g) := by
  obtain ⟨a, b, c, d⟩ := h
  obtain ⟨a', b', c', d'⟩ := h'
  unfold G.mns
  refine ⟨?_, ?_, ?_, ?_⟩ <;> rw [Bn] <;> simp only <;> omega
theorem Sm.pls {n : Nat} {f g : Fm} (h : Sm n f) (h' : Sm n g) : Sm (n + 1) (pls f g) := by
  obtain ⟨a, b, c, d⟩ := h
  obtain ⟨a', b', c', d'⟩ := h'
  unfold G.pls
  refine ⟨?_, ?_, ?_, ?_⟩ <;> rw [Bn] <;> simp only <;> omega
theorem Sm.z {n : Nat} : Sm n z2 := by
  have := Bn_pos n
  unfold z2
  exact ⟨by simp only; omega, by simp only; omega, by simp only; omega, by simp only; omega⟩
theorem Sm.whole {n : Nat} (q : Bool) : Sm n (wholeF q) := by
  have := Bn_pos n
  cases q <;> unfold wholeF <;> exact ⟨by simp only [if_true, reduceIte, Bool.false_eq_true]; omega, by simp only [if_true, reduceIte, Bool.false_eq_true]; omega, by simp only [if_true, reduceIte, Bool.false_eq_true]; omega, by simp only [if_true, reduceIte, Bool.false_eq_true]; omega⟩
theorem red_le {a b : Int} (ha : 0 < a) (hb : 0 < b) : (red a b).1 ≤ a ∧ (red a b).2 ≤ b := by
  obtain ⟨g, g0, e1, e2, r1, r2⟩ := red_pos ha hb
  constructor
  · have : (red a b).1 * 1 ≤ (red a b).1 * g := Int.mul_le_mul_of_nonneg_left (by omega) (by omega)
    omega
  · have : (red a b).2 * 1 ≤ (red a b).2 * g := Int.mul_le_mul_of_nonneg_left (by omega) (by omega)
    omega
theorem Sm.zero {n : Nat} {f r : Fm} (h : Sm n f) (e : zeroOf f = some r) : Sm n r := by
  obtain ⟨a, b, c, d⟩ := h
  have hr := (zeroOf_Rt e).2
  have hB := Bn_pos n
  unfold zeroOf at e
  split at e
  · cases e
  · rename_i hn
    have hz : f.1 ≠ 0 ∧ f.2 ≠ 0 := by
      constructor <;> intro z <;> rw [z] at hn <;> simp at hn
    have := red_le (a := f.2.natAbs) (b := f.1.natAbs) (by omega) (by omega)
    cases e
    exact ⟨by omega, by omega, by omega, by omega⟩
structure SmR (n : Nat) (q : RunF) : Prop where
  xs : ∀ f ∈ q.xs, Sm n f
  t : Sm n q.t
  hd : ∀ p ∈ q.hd, Sm n p.1
theorem SmR.mono {n m : Nat} {q : RunF} (h : SmR n q) (l : n ≤ m) : SmR m q := ⟨fun f hf => (h.xs f hf).mono l, h.t.mono l, fun p hp => (h.hd p hp).mono l⟩
theorem sm_getD {n i : Nat} {xs : List Fm} (h : ∀ f ∈ xs, Sm n f) : Sm n (xs.getD i z2) := by
  rw [List.getD_eq_getElem?_getD]
  cases e : xs[i]? with
  | none => exact .z
  | some f => exact h f (List.mem_of_getElem? e)
theorem sm_least {n : Nat} {lo : Fm} {xs : List Fm} (h : ∀ f ∈ xs, Sm n f) : Sm n ((least lo xs).getD z2) := by
  cases e : least lo xs with
  | none => exact .z
  | some f => exact h f (least_some e).1
theorem sm_waited {n : Nat} {lo f : Fm} {xs : List Fm} (h : ∀ f ∈ xs, Sm n f) (hf : Sm n f) : ∀ g ∈ waitedF lo f xs, Sm (n + 1) g := fun g hg => by
  unfold waitedF at hg
  obtain ⟨x, hx, rfl⟩ := List.mem_map.mp hg
  split
  · exact (h x hx).mns hf
  · exact .z
theorem SmR.step {n : Nat} {ks : List Bool} {lo : Fm} {q : RunF} {s : St} (h : SmR n q) : SmR (n + 1) (run1F ks lo q s) := by
  have hx : ∀ f ∈ q.xs, Sm (n + 1) f := fun f hf => (h.xs f hf).mono (by omega)
  have hh : ∀ p ∈ q.hd, Sm (n + 1) p.1 := fun p hp => (h.hd p hp).mono (by omega)
  refine ⟨fun f hf => ?_, ?_, fun p hp => ?_⟩
  · unfold run1F aftF at hf
    cases s with
    | turn i =>
      simp only at hf
      rcases List.mem_or_eq_of_mem_set hf with hf | rfl
      · exact hx f hf
      · exact (Sm.whole _).mns (sm_getD h.xs)
    | ring => exact hx f hf
    | wait i => exact sm_waited h.xs (sm_getD h.xs) f hf
    | first =>
      simp only at hf
      cases e : least lo q.xs with
      | none => rw [e] at hf; exact hx f hf
      | some g => rw [e] at hf; exact sm_waited h.xs (h.xs g (least_some e).1) f hf
  · unfold run1F
    refine h.t.pls ?_
    unfold tkF
    cases s with
    | turn i => exact .z
    | ring => exact .z
    | wait i => exact sm_getD h.xs
    | first => exact sm_least h.xs
  · unfold run1F at hp
    simp only at hp
    split at hp
    · rcases List.mem_append.mp hp with hp | hp
      · exact hh p hp
      · rw [List.mem_singleton.mp hp]
        exact h.t.mono (by omega)
    · exact hh p hp
theorem SmR.q0 {n : Nat} {ks : List Bool} : SmR n (q0 ks) := ⟨fun f hf => by
  unfold G.q0 at hf
  rw [(List.mem_replicate.mp hf).2]
  exact .z, .z, fun p hp => by cases hp⟩
theorem Sm.asked {n : Nat} {xs : List Fm} {s : St} (h : ∀ f ∈ xs, Sm n f) : ∀ f ∈ asked xs s, Sm (n + 1) f := fun f hf => by
  cases s with
  | turn i => cases hf
  | ring => cases hf
  | wait i =>
    obtain ⟨g, hg, rfl⟩ := List.mem_map.mp hf
    exact (h g hg).mns (sm_getD h)
  | first =>
    obtain ⟨a, ha, hf⟩ := List.mem_flatMap.mp hf
    obtain ⟨b, hb, rfl⟩ := List.mem_map.mp hf
    exact (h a ha).mns (h b hb)
theorem Sm.cut {n : Nat} {lo hi r : Fm} {xs : List Fm} {s : St} (h : ∀ f ∈ xs, Sm n f) (e : firstCut lo hi xs s = some r) : Sm (n + 1) r := by
  obtain ⟨f, hf, e'⟩ := firstCut_some e
  exact (Sm.asked h f hf).zero (zeroWithin_some.mp e').1
/-! ### how many pieces -/
def isEv : Pc → Bool
  | .ev _ _ _ => true
  | .one _ _ => false
def nz (xs : List Fm) : Nat := xs.countP fun f => decide (f ≠ z2)
theorem nz_le {xs : List Fm} : nz xs ≤ xs.length := List.countP_le_length
theorem nn_zero {lo hi f : Fm} (v : Iv lo hi) (h1 : 0 ≤ wrt f lo) (h2 : 0 ≤ wrt f hi) : zeroWithin lo hi f = none := by
  rw [zeroWithin_eq v.l v.h v.d, if_neg]
  rw [sgE_none]
  omega
theorem np_zero {lo hi f : Fm} (v : Iv lo hi) (h1 : wrt f lo ≤ 0) (h2 : wrt f hi ≤ 0) : zeroWithin lo hi f = none := by
  rw [zeroWithin_eq v.l v.h v.d, if_neg]
  rw [sgE_none]
  omega
def tri : Nat → Nat
  | 0 => 0
  | n + 1 => n + tri n
theorem dbt_pairs {lo hi : Fm} (v : Iv lo hi) : ∀ {xs : List Fm}, (∀ f ∈ xs, 0 ≤ wrt f lo ∧ 0 ≤ wrt f hi) → (pairs xs).countP (fun f => (zeroWithin lo hi f).isSome) ≤ tri (nz xs)
  | [], _ => Nat.le_refl _
  | x :: xs, h => by
    have ih := dbt_pairs v (xs := xs) fun f hf => h f (List.mem_cons_of_mem _ hf)
    have hx := h x (List.mem_cons_self ..)
    rw [pairs, List.countP_append, List.countP_map]
    by_cases e : x = z2
    · have : xs.countP ((fun f => (zeroWithin lo hi f).isSome) ∘ fun y => mns x y) = 0 := by
        rw [List.countP_eq_zero]
        intro y hy
        have hy' := h y (List.mem_cons_of_mem _ hy)
        simp only [Function.comp]
        rw [np_zero v (by rw [wrt_mns, e, wrt_z2]; omega) (by rw [wrt_mns, e, wrt_z2]; omega)]
        simp
      rw [this]
      have : nz (x :: xs) = nz xs := by
        unfold nz
        rw [List.countP_cons, if_neg (by simp [e])]
        rfl
      rw [this]
      omega
    · have h1 : xs.countP ((fun f => (zeroWithin lo hi f).isSome) ∘ fun y => mns x y) ≤ nz xs := by
        refine List.countP_mono_left fun y hy hp => ?_
        rw [decide_eq_true_iff]
        intro ey
        simp only [Function.comp] at hp
        rw [nn_zero v (by rw [wrt_mns, ey, wrt_z2]; omega) (by rw [wrt_mns, ey, wrt_z2]; omega)] at hp
        cases hp
      have : nz (x :: xs) = nz xs + 1 := by
        unfold nz
        rw [List.countP_cons, if_pos (by simp [e])]
      rw [this, tri]
      omega
theorem dbt_wait {lo hi : Fm} (v : Iv lo hi) {xs : List Fm} {i : Nat} (h : ∀ f ∈ xs, 0 ≤ wrt f lo ∧ 0 ≤ wrt f hi) (hi' : i < xs.length) : dbt lo hi xs (.wait i) ≤ nz xs - 1 := by
  unfold dbt ask2
  rw [List.countP_map]
  have hm : xs.getD i z2 ∈ xs := getD_mem hi'
  by_cases e : xs.getD i z2 = z2
  · have : xs.countP ((fun f => (zeroWithin lo hi f).isSome) ∘ fun f => mns f (xs.getD i z2)) = 0 := by
      rw [List.countP_eq_zero]
      intro y hy
      have hy' := h y hy
      simp only [Function.comp]
      rw [nn_zero v (by rw [wrt_mns, e, wrt_z2]; omega) (by rw [wrt_mns, e, wrt_z2]; omega)]
      simp
    omega
  · have : xs.countP ((fun f => (zeroWithin lo hi f).isSome) ∘ fun f => mns f (xs.getD i z2)) < nz xs := by
      refine countP_lt (fun y hy hp => ?_) ⟨_, hm, by simpa using e, ?_⟩
      · rw [decide_eq_true_iff]
        intro ey
        have hm' := h _ hm
        simp only [Function.comp] at hp
        rw [np_zero v (by rw [wrt_mns, ey, wrt_z2]; omega) (by rw [wrt_mns, ey, wrt_z2]; omega)] at hp
        cases hp
      · simp only [Function.comp]
        rw [zeroWithin_self]
        rfl
    omega
end G

-- MG
namespace G
theorem nz_waited {lo hi f : Fm} {ks : List Bool} {xs : List Fm} (v : Iv lo hi) (iv : InF lo hi ks xs) (hf : f ∈ xs) (hn : ∀ g ∈ xs, zeroWithin lo hi (mns g f) = none) : nz (waitedF lo f xs) ≤ nz xs ∧ (f ≠ z2 → nz (waitedF lo f xs) ≤ nz xs - 1) := by
  have ff := iv.mem hf
  have sg0 : ∀ g ∈ xs, 0 < signOf (mns g f) lo → g ≠ z2 ∧ g ≠ f := fun g hg hp => by
    have hs := sg_of v (hn g hg)
    generalize signOf (mns g f) lo = x at hs hp
    cases hs with
    | pos a b c =>
      rw [wrt_mns] at a b
      refine ⟨fun e => ?_, fun e => c ?_⟩
      · rw [e, wrt_z2] at a b
        have := v.zero (f := f) (by omega) (by omega)
        rw [e, this] at c
        exact c rfl
      · rw [e]
        unfold mns
        simp
    | neg a b c => omega
    | zero e => omega
  have e : nz (waitedF lo f xs) ≤ xs.countP fun g => decide (0 < signOf (mns g f) lo) := by
    unfold nz waitedF
    rw [List.countP_map]
    refine List.countP_mono_left fun g hg hp => ?_
    simp only [Function.comp, decide_eq_true_iff] at hp ⊢
    rcases ilt 0 (signOf (mns g f) lo) with h | h
    · exact h
    · rw [if_neg (by omega)] at hp
      exact absurd rfl hp
  constructor
  · refine Nat.le_trans e (List.countP_mono_left fun g hg hp => ?_)
    rw [decide_eq_true_iff] at hp ⊢
    exact (sg0 g hg hp).1
  · intro nf
    have : xs.countP (fun g => decide (0 < signOf (mns g f) lo)) < nz xs := by
      refine countP_lt (fun g hg hp => ?_) ⟨f, hf, by simpa using nf, ?_⟩
      · rw [decide_eq_true_iff] at hp ⊢
        exact (sg0 g hg hp).1
      · rw [decide_eq_false_iff_not]
        exact fun hp => (sg0 f hf hp).2 rfl
    omega
theorem nz_set {xs : List Fm} : ∀ {i : Nat} {f : Fm}, nz (xs.set i f) ≤ nz xs + 1 := by
  induction xs with
  | nil => intro i f; simp [nz]
  | cons x xs ih =>
    intro i f
    cases i with
    | zero =>
      unfold nz
      rw [List.set_cons_zero, List.countP_cons, List.countP_cons]
      split <;> split <;> omega
    | succ i =>
      have := ih (i := i) (f := f)
      unfold nz at this ⊢
      rw [List.set_cons_succ, List.countP_cons, List.countP_cons]
      omega
theorem nz_zero {xs : List Fm} (h : ∀ f ∈ xs, f = z2) : nz xs = 0 := by
  unfold nz
  rw [List.countP_eq_zero]
  intro f hf
  simp [h f hf]
/-- behind a step: how many run, at most -/
def aftN (xs : List Fm) : St → Nat
  | .turn _ => nz xs + 1
  | .ring => nz xs
  | .wait i => if xs.getD i z2 = z2 then nz xs else nz xs - 1
  | .first => nz xs - 1
theorem nz_step {lo hi : Fm} {ks : List Bool} {xs : List Fm} {s : St} (v : Iv lo hi) (iv : InF lo hi ks xs) (hs : s.ok ks.length) (h : firstCut lo hi xs s = none) : nz (aftF ks lo xs s) ≤ aftN xs s := by
  have hn := firstCut_none h
  cases s with
  | turn i => exact nz_set
  | ring => exact Nat.le_refl _
  | wait i =>
    have hm : xs.getD i z2 ∈ xs := getD_mem (iv.len ▸ hs)
    obtain ⟨a, b⟩ := nz_waited v iv hm (fun g hg => hn _ (ask_wait hg))
    unfold aftN
    simp only
    by_cases c : xs.getD i z2 = z2
    · rw [if_pos c]; exact a
    · rw [if_neg c]; exact b c
  | first =>
    unfold aftF aftN
    simp only
    cases e : least lo xs with
    | none =>
      have := nz_zero (least_none e)
      simp only
      omega
    | some f =>
      obtain ⟨m, nf⟩ := least_some e
      exact (nz_waited v iv m (fun g hg => hn _ (ask_first hg m))).2 nf
/-- cuts, at most -/
def cutN (xs : List Fm) : St → Nat
  | .wait i => if xs.getD i z2 = z2 then 0 else nz xs - 1
  | .first => tri (nz xs)
  | _ => 0
theorem dbt_cutN {lo hi : Fm} {ks : List Bool} {xs : List Fm} {s : St} (v : Iv lo hi) (iv : InF lo hi ks xs) (hs : s.ok ks.length) : dbt lo hi xs s ≤ cutN xs s := by
  cases s with
  | turn i => exact Nat.le_refl _
  | ring => exact Nat.le_refl _
  | first => exact dbt_pairs v fun f hf => iv.mem hf
  | wait i =>
    unfold cutN
    simp only
    by_cases c : xs.getD i z2 = z2
    · rw [if_pos c]
      unfold dbt ask2
      rw [List.countP_map, Nat.le_zero, List.countP_eq_zero]
      intro g hg
      have := iv.mem hg
      simp only [Function.comp]
      rw [nn_zero v (by rw [wrt_mns, c, wrt_z2]; omega) (by rw [wrt_mns, c, wrt_z2]; omega)]
      simp
    · rw [if_neg c]
      exact dbt_wait v (fun f hf => iv.mem hf) (iv.len ▸ hs)
/-- a cut's two sides -/
theorem countP_split {α : Type} {p q r : α → Bool} : ∀ {l : List α}, (∀ x ∈ l, p x = true → r x = true) → (∀ x ∈ l, q x = true → r x = true) → (∀ x ∈ l, p x = true → q x = false) → (∃ x ∈ l, r x = true ∧ p x = false ∧ q x = false) → l.countP p + l.countP q < l.countP r
  | [], _, _, _, h => by obtain ⟨x, hx, _⟩ := h; cases hx
  | a :: l, h1, h2, h3, ⟨x, hx, k1, k2, k3⟩ => by
    have weak : l.countP p + l.countP q ≤ l.countP r := by
      clear hx k1 k2 k3 x
      induction l with
      | nil => simp
      | cons b l ih =>
        have ih := ih (fun y hy => h1 y (by simp only [List.mem_cons] at hy ⊢; rcases hy with h | h <;> simp [h])) (fun y hy => h2 y (by simp only [List.mem_cons] at hy ⊢; rcases hy with h | h <;> simp [h])) (fun y hy => h3 y (by simp only [List.mem_cons] at hy ⊢; rcases hy with h | h <;> simp [h]))
        have b1 := h1 b (by simp)
        have b2 := h2 b (by simp)
        have b3 := h3 b (by simp)
        rw [List.countP_cons, List.countP_cons, List.countP_cons]
        cases hp : p b <;> cases hq : q b <;> simp [hp, hq] at b1 b2 b3 ⊢
        · split <;> omega
        · rw [b2]; simp; omega
        · rw [b1]; simp; omega
    have a1 := h1 a (List.mem_cons_self ..)
    have a2 := h2 a (List.mem_cons_self ..)
    have a3 := h3 a (List.mem_cons_self ..)
    rw [List.countP_cons, List.countP_cons, List.countP_cons]
    rcases List.mem_cons.mp hx with rfl | hx
    · simp [k1, k2, k3]; omega
    · have ih := countP_split (l := l) (fun y hy => h1 y (List.mem_cons_of_mem _ hy)) (fun y hy => h2 y (List.mem_cons_of_mem _ hy)) (fun y hy => h3 y (List.mem_cons_of_mem _ hy)) ⟨x, hx, k1, k2, k3⟩
      cases hp : p a <;> cases hq : q a <;> simp [hp, hq] at a1 a2 a3 ⊢
      · split <;> omega
      · rw [a2]; simp; omega
      · rw [a1]; simp; omega
theorem dbt_two {lo hi r : Fm} {xs : List Fm} {s : St} (v : Iv lo hi) (h : firstCut lo hi xs s = some r) : dbt lo r xs s + dbt r hi xs s < dbt lo hi xs s := by
  obtain ⟨f, hf, e⟩ := firstCut_some h
  obtain ⟨g, hg, e'⟩ := ask2_of hf e
  have w := zeroWithin_Wi e
  have bl := Sb.left v w
  have br := Sb.right v w
  unfold dbt
  refine countP_split (fun x _ hx => ?_) (fun x _ hx => ?_) (fun x _ hx => ?_) ⟨g, hg, by simp [e'], ?_, ?_⟩
  · cases c : zeroWithin lo r x with
    | none => simp [c] at hx
    | some q => simp [bl.zsome c]
  · cases c : zeroWithin r hi x with
    | none => simp [c] at hx
    | some q => simp [br.zsome c]
  · cases c : zeroWithin lo r x with
    | none => simp [c] at hx
    | some q =>
      cases c' : zeroWithin r hi x with
      | none => rfl
      | some q' =>
        have e1 := (zeroWithin_some.mp c)
        have e2 := (zeroWithin_some.mp c')
        rw [e1.1] at e2
        have := Option.some.inj e2.1
        subst this
        exact absurd e2.2.1 (lss_asymm e1.2.2)
  · cases c : zeroWithin lo r g with
    | none => rfl
    | some q =>
      have := bl.zsome c
      rw [e'] at this
      cases this
      have := (zeroWithin_some.mp c).2.2
      rw [lss_irrefl] at this
      cases this
  · cases c : zeroWithin r hi g with
    | none => rfl
    | some q =>
      have := br.zsome c
      rw [e'] at this
      cases this
      have := (zeroWithin_some.mp c).2.1
      rw [lss_irrefl] at this
      cases this
/-- what the pieces of a stretch are, behind a step -/
structure AdvOk (ks : List Bool) (lo hi : Fm) (q : RunF) (s : St) (ps : List Pc) : Prop where
  ev : ∀ lo' hi' q', Pc.ev lo' hi' q' ∈ ps → Sb lo hi lo' hi' ∧ q' = run1F ks lo' q s ∧ firstCut lo' hi' q.xs s = none ∧ (lo' = lo ∨ ∃ f ∈ asked q.xs s, zeroOf f = some lo') ∧ (hi' = hi ∨ ∃ f ∈ asked q.xs s, zeroOf f = some hi')
  one : ∀ r q', Pc.one r q' ∈ ps → Wi lo hi r ∧ q' = run1 ks r.1 r.2 (evR r q) s ∧ ∃ f ∈ asked q.xs s, zeroOf f = some r
  num : ps.countP isEv = (ps.countP fun P => !isEv P) + 1
  cnt : ps.countP isEv ≤ dbt lo hi q.xs s + 1
theorem adv_ok {ks : List Bool} {q : RunF} {s : St} : ∀ (n : Nat) (lo hi : Fm), Iv lo hi → dbt lo hi q.xs s ≤ n → AdvOk ks lo hi q s (adv ks n (.ev lo hi q) s) := by
  have base : ∀ lo hi, Iv lo hi → firstCut lo hi q.xs s = none → AdvOk ks lo hi q s [.ev lo hi (run1F ks lo q s)] := fun lo hi v e => by
    refine ⟨fun lo' hi' q' h => ?_, fun r q' h => ?_, by simp [isEv], by simp [isEv]⟩
    · have := List.mem_singleton.mp h
      cases this
      exact ⟨Sb.refl v, rfl, e, .inl rfl, .inl rfl⟩
    · have := List.mem_singleton.mp h
      cases this
  intro n
  induction n with
  | zero => intro lo hi v h; exact base lo hi v (dbt_zero (Nat.le_zero.mp h))
  | succ n ih =>
    intro lo hi v h
    rw [adv]
    cases e : firstCut lo hi q.xs s with
    | none => exact base lo hi v e
    | some r =>
      obtain ⟨f, hf, e'⟩ := firstCut_some e
      have w := zeroWithin_Wi e'
      have bl := Sb.left v w
      have br := Sb.right v w
      have hd := dbt_two v e
      have hl := ih lo r bl.v' (by omega)
      have hr := ih r hi br.v' (by omega)
      have zf := (zeroWithin_some.mp e').1
      simp only
      refine ⟨fun lo' hi' q' h => ?_, fun r' q' h => ?_, ?_, ?_⟩
      · rcases List.mem_append.mp h with h | h
        · obtain ⟨a, b, c, d, e⟩ := hl.ev _ _ _ h
          exact ⟨bl.trans a, b, c, d, e.elim (fun z => .inr ⟨f, hf, z ▸ zf⟩) .inr⟩
        · rcases List.mem_cons.mp h with h | h
          · cases h
          · obtain ⟨a, b, c, d, e⟩ := hr.ev _ _ _ h
            exact ⟨br.trans a, b, c, d.elim (fun z => .inr ⟨f, hf, z ▸ zf⟩) .inr, e⟩
      · rcases List.mem_append.mp h with h | h
        · obtain ⟨a, b, c⟩ := hl.one _ _ h
          exact ⟨⟨a.R, a.l, lss_trans a.R w.R v.h a.h w.h⟩, b, c⟩
        · rcases List.mem_cons.mp h with h | h
          · cases h
            exact ⟨w, rfl, f, hf, zf⟩
          · obtain ⟨a, b, c⟩ := hr.one _ _ h
            exact ⟨⟨a.R, lss_trans v.l w.R a.R w.l a.l, a.h⟩, b, c⟩
      · rw [List.countP_append, List.countP_cons, List.countP_append, List.countP_cons, hl.num, hr.num]
        simp [isEv]
        omega
      · have h1 := hl.cnt
        have h2 := hr.cnt
        rw [List.countP_append, List.countP_cons]
        simp [isEv]
        omega
end G

-- MH
namespace G
/-- sand keeps within its glass -/
structure In1 (ks : List Bool) (a b : Int) (xs : List Int) : Prop where
  len : xs.length = ks.length
  ge : ∀ i, i < xs.length → 0 ≤ xs.getD i 0
  le : ∀ i, i < xs.length → xs.getD i 0 ≤ whole a b (ks.getD i false)
theorem In1.mem {ks : List Bool} {a b : Int} {xs : List Int} (h : In1 ks a b xs) {x : Int} (hx : x ∈ xs) : 0 ≤ x := by
  obtain ⟨i, hi, e⟩ := List.getElem_of_mem hx
  have := h.ge i hi
  rw [List.getD_eq_getElem?_getD, List.getElem?_eq_getElem hi, Option.getD_some, e] at this
  exact this
theorem whole_ge {a b : Int} (ha : 0 ≤ a) (hb : 0 ≤ b) (q : Bool) : 0 ≤ whole a b q := by cases q <;> simp [whole] <;> assumption
theorem minI_mem {xs : List Int} {m : Int} (h : minI xs = some m) : m ∈ xs ∧ ∀ x ∈ xs, m ≤ x := by
  cases xs with
  | nil => cases h
  | cons x xs =>
    have h : some (xs.foldl (fun a b => if b < a then b else a) x) = some m := h
    obtain ⟨a, b, c⟩ := foldmin (xs := xs) (a := x)
    injection h with h
    rw [h] at a b c
    refine ⟨?_, fun y hy => ?_⟩
    · rcases c with c | c
      · rw [c]; simp
      · exact List.mem_cons_of_mem _ c
    · rcases List.mem_cons.mp hy with rfl | hy
      · exact b
      · exact a y hy
theorem tk_ge {ks : List Bool} {a b : Int} {xs : List Int} {s : St} (h : In1 ks a b xs) (hs : s.ok ks.length) : 0 ≤ tk xs s := by
  cases s with
  | turn i => simp [tk]
  | ring => simp [tk]
  | wait i => exact h.ge i (h.len ▸ hs)
  | first =>
    unfold tk
    cases e : minI (xs.filter (0 < ·)) with
    | none => simp
    | some m => have := (minI_mem e).1; simp at this ⊢; omega
theorem In1.step {ks : List Bool} {a b : Int} {xs : List Int} {s : St} (ha : 0 ≤ a) (hb : 0 ≤ b) (h : In1 ks a b xs) (hs : s.ok ks.length) : In1 ks a b (aft ks a b xs s) := by
  have ht := tk_ge h hs
  have go : In1 ks a b (xs.map fun x => max 0 (x - tk xs s)) := by
    have e : ∀ i, i < xs.length → (xs.map fun x => max 0 (x - tk xs s)).getD i 0 = max 0 (xs.getD i 0 - tk xs s) := fun i hi => by
      rw [List.getD_eq_getElem?_getD, List.getD_eq_getElem?_getD, List.getElem?_map, List.getElem?_eq_getElem hi]
      rfl
    refine ⟨by simp [h.len], fun i hi => ?_, fun i hi => ?_⟩ <;> rw [List.length_map] at hi <;> rw [e i hi]
    · omega
    · have := h.le i hi
      have := whole_ge ha hb (ks.getD i false)
      omega
  cases s with
  | wait i => exact go
  | first => exact go
  | ring => exact go
  | turn i =>
    have hi' : i < xs.length := h.len ▸ hs
    have g := h.ge i hi'
    have l := h.le i hi'
    have e : ∀ j, (aft ks a b xs (.turn i)).getD j 0 = if j = i then whole a b (ks.getD i false) - xs.getD i 0 else xs.getD j 0 := fun j => by
      unfold aft
      simp only
      rw [List.getD_eq_getElem?_getD, List.getElem?_set]
      by_cases c : i = j
      · subst c; simp [hi']
      · rw [if_neg c, if_neg (fun z => c z.symm), List.getD_eq_getElem?_getD]
    refine ⟨by rw [aft_len]; exact h.len, fun j hj => ?_, fun j hj => ?_⟩ <;> rw [aft_len] at hj <;> rw [e]
    · split
      · omega
      · exact h.ge j hj
    · split
      · rename_i c; subst c; omega
      · exact h.le j hj
theorem runM_in {ks : List Bool} {a b : Int} (ha : 0 ≤ a) (hb : 0 ≤ b) {ss : List St} (hs : ∀ s ∈ ss, s.ok ks.length) : In1 ks a b (runM ks a b ss).xs := by
  have go : ∀ (ss : List St) (r : Run), (∀ s ∈ ss, s.ok ks.length) → In1 ks a b r.xs → In1 ks a b (ss.foldl (run1 ks a b) r).xs := by
    intro ss
    induction ss with
    | nil => intro r _ h; exact h
    | cons s ss ih => intro r hs h; exact ih _ (fun s h => hs s (List.mem_cons_of_mem _ h)) (h.step ha hb (hs s (List.mem_cons_self ..)))
  refine go ss _ hs ⟨by simp, fun i hi => ?_, fun i hi => ?_⟩
  · simp at hi; simp [hi]
  · simp at hi; simp [hi]; exact whole_ge ha hb _

theorem evR_in {lo hi r : Fm} {ks : List Bool} {q : RunF} (v : Iv lo hi) (w : Wi lo hi r) (iv : InF lo hi ks q.xs) : In1 ks r.1 r.2 (evR r q).xs := by
  have e : ∀ i, (q.xs.map (wrt · r)).getD i 0 = wrt (q.xs.getD i z2) r := fun i => by
    rw [← getD_map (f := (wrt · r)), wrt_z2]
  refine ⟨by simp [evR, iv.len], fun i hi' => ?_, fun i hi' => ?_⟩ <;> unfold evR at hi' ⊢ <;> simp only [List.length_map] at hi' <;> simp only <;> rw [e]
  · exact ge_at v w iv (getD_mem hi')
  · rw [whole_wrt]
    have h1 := iv.le i hi'
    have := v.between (f := mns (wholeF (ks.getD i false)) (q.xs.getD i z2)) (lss_asymm w.l) (lss_asymm w.h) (by rw [wrt_mns]; omega) (by rw [wrt_mns]; omega)
    rw [wrt_mns] at this
    omega
/-- a piece, so many steps from the start -/
def PcOk (ks : List Bool) (c n : Nat) : Pc → Prop
  | .ev lo hi q => Iv lo hi ∧ InF lo hi ks q.xs ∧ SmR n q ∧ Sm (n + c) lo ∧ Sm (n + c) hi ∧ q.hd.length ≤ n
  | .one r q => 0 < r.1 ∧ 0 < r.2 ∧ Sm (n + c) r ∧ In1 ks r.1 r.2 q.xs ∧ q.hd.length ≤ n
theorem run1F_hd {ks : List Bool} {lo : Fm} {q : RunF} {s : St} : (run1F ks lo q s).hd.length ≤ q.hd.length + 1 := by
  unfold run1F
  simp only
  split <;> simp
theorem run1_hd {ks : List Bool} {a b : Int} {q : Run} {s : St} : (run1 ks a b q s).hd.length ≤ q.hd.length + 1 := by
  unfold run1
  simp only
  split <;> simp
theorem adv_one {ks : List Bool} {n : Nat} {r : Fm} {q : Run} {s : St} : adv ks n (.one r q) s = [.one r (run1 ks r.1 r.2 q s)] := by cases n <;> rfl
theorem PcOk.adv {ks : List Bool} {c n k : Nat} {P : Pc} {s : St} (h1 : 1 ≤ c) (h : PcOk ks c n P) (hs : s.ok ks.length) (hk : ∀ lo hi q, P = .ev lo hi q → dbt lo hi q.xs s ≤ k) : ∀ P' ∈ adv ks k P s, PcOk ks c (n + 1) P' := by
  intro P' hP
  cases P with
  | one r q =>
    rw [adv_one] at hP
    rw [List.mem_singleton.mp hP]
    obtain ⟨a, b, c', d, e⟩ := h
    refine ⟨a, b, c'.mono (by omega), d.step (by omega) (by omega) hs, Nat.le_trans run1_hd (by omega)⟩
  | ev lo hi q =>
    obtain ⟨v, iv, sm, sl, sh, hh⟩ := h
    have A := adv_ok (ks := ks) (q := q) (s := s) k lo hi v (hk lo hi q rfl)
    have za : ∀ {f r}, f ∈ asked q.xs s → zeroOf f = some r → Sm (n + 1) r := fun {f r} hf e => (Sm.asked sm.xs f hf).zero e
    cases P' with
    | ev lo' hi' q' =>
      obtain ⟨b, e, c', d1, d2⟩ := A.ev _ _ _ hP
      subst e
      refine ⟨b.v', (b.inF iv).step b.v' hs c', sm.step, ?_, ?_, Nat.le_trans run1F_hd (by omega)⟩
      · rcases d1 with rfl | ⟨f, hf, e⟩
        · exact sl.mono (by omega)
        · exact (za hf e).mono (by omega)
      · rcases d2 with rfl | ⟨f, hf, e⟩
        · exact sh.mono (by omega)
        · exact (za hf e).mono (by omega)
    | one r q' =>
      obtain ⟨w, e, f, hf, e'⟩ := A.one _ _ hP
      subst e
      obtain ⟨_, p1, p2⟩ := zeroOf_Rt e'
      refine ⟨p1, p2, (za hf e').mono (by omega), (evR_in v w iv).step (by omega) (by omega) hs, Nat.le_trans run1_hd ?_⟩
      unfold evR
      simp only [List.length_map]
      omega
/-! ### sums -/
def wtP : Pc → Nat
  | .ev _ _ q => 2 ^ nz q.xs
  | .one _ _ => 0
def wt (ps : List Pc) : Nat := (ps.map wtP).sum
theorem wt_nil : wt [] = 0 := rfl
theorem wt_cons {P : Pc} {ps : List Pc} : wt (P :: ps) = wtP P + wt ps := by simp [wt]
theorem wt_app {ps qs : List Pc} : wt (ps ++ qs) = wt ps + wt qs := by simp [wt]
theorem wt_le {m : Nat} : ∀ {ps : List Pc}, (∀ P ∈ ps, wtP P ≤ 2 ^ m) → wt ps ≤ (ps.countP isEv) * 2 ^ m
  | [], _ => by simp [wt]
  | P :: ps, h => by
    have ih := wt_le (ps := ps) fun P hP => h P (List.mem_cons_of_mem _ hP)
    have hp := h P (List.mem_cons_self ..)
    rw [wt_cons, List.countP_cons, Nat.add_mul]
    cases P with
    | ev lo hi q => simp [isEv]; omega
    | one r q => simp [isEv, wtP]; omega
theorem ev_le_wt : ∀ {ps : List Pc}, ps.countP isEv ≤ wt ps
  | [] => by simp [wt]
  | P :: ps => by
    have ih := ev_le_wt (ps := ps)
    rw [wt_cons, List.countP_cons]
    cases P with
    | ev lo hi q =>
      have : 0 < 2 ^ nz q.xs := Nat.pow_pos (by omega)
      simp [isEv, wtP]
      omega
    | one r q => simp [isEv, wtP]; omega
theorem adv_wt {ks : List Bool} {c n k : Nat} {P : Pc} {s : St} (h3 : ks.length ≤ 3) (h : PcOk ks c n P) (hs : s.ok ks.length) (hk : ∀ lo hi q, P = .ev lo hi q → dbt lo hi q.xs s ≤ k) : wt (adv ks k P s) ≤ 2 * wtP P := by
  cases P with
  | one r q => rw [adv_one, wt_cons, wt_nil]; simp [wtP]
  | ev lo hi q =>
    obtain ⟨v, iv, _⟩ := h
    have A := adv_ok (ks := ks) (q := q) (s := s) k lo hi v (hk lo hi q rfl)
    have hc := dbt_cutN v iv hs
    have h1 : ∀ P ∈ adv ks k (.ev lo hi q) s, wtP P ≤ 2 ^ aftN q.xs s := fun P hP => by
      cases P with
      | one r q' => simp [wtP]
      | ev lo' hi' q' =>
        obtain ⟨b, e, c, _⟩ := A.ev _ _ _ hP
        subst e
        exact Nat.pow_le_pow_right (by omega) (nz_step b.v' (b.inF iv) hs c)
    have h2 := wt_le h1
    have h3' := A.cnt
    have hz : nz q.xs ≤ 3 := Nat.le_trans nz_le (by rw [iv.len]; exact h3)
    have h4 : wt (adv ks k (.ev lo hi q) s) ≤ (cutN q.xs s + 1) * 2 ^ aftN q.xs s := Nat.le_trans h2 (Nat.mul_le_mul_right _ (by omega))
    refine Nat.le_trans h4 ?_
    show _ ≤ 2 * 2 ^ nz q.xs
    clear h4 h3' h2 h1 hc A hk
    unfold cutN aftN
    generalize nz q.xs = z at hz ⊢
    cases s with
    | turn i => simp only; rw [Nat.pow_succ]; omega
    | ring => simp only; omega
    | first =>
      simp only
      rcases (by omega : z = 0 ∨ z = 1 ∨ z = 2 ∨ z = 3) with rfl | rfl | rfl | rfl <;> decide
    | wait i =>
      simp only
      by_cases c : q.xs.getD i z2 = z2
      · rw [if_pos c, if_pos c]; omega
      · rw [if_neg c, if_neg c]
        rcases (by omega : z = 0 ∨ z = 1 ∨ z = 2 ∨ z = 3) with rfl | rfl | rfl | rfl <;> decide
theorem tri_le {n : Nat} (h : n ≤ 3) : tri n ≤ 3 := by
  rcases (by omega : n = 0 ∨ n = 1 ∨ n = 2 ∨ n = 3) with rfl | rfl | rfl | rfl <;> decide
theorem dbt_le3 {ks : List Bool} {c n : Nat} {P : Pc} {s : St} (h3 : ks.length ≤ 3) (h : PcOk ks c n P) (hs : s.ok ks.length) : ∀ lo hi q, P = .ev lo hi q → dbt lo hi q.xs s ≤ 3 := by
  rintro lo hi q rfl
  obtain ⟨v, iv, _⟩ := h
  have hz : nz q.xs ≤ 3 := Nat.le_trans nz_le (by rw [iv.len]; exact h3)
  refine Nat.le_trans (dbt_cutN v iv hs) ?_
  unfold cutN
  cases s with
  | first => exact tri_le hz
  | wait i => simp only; split <;> omega
  | turn i => simp
  | ring => simp
/-- all pieces, so many steps from the start -/
structure PsOk (ks : List Bool) (c n : Nat) (ps : List Pc) : Prop where
  all : ∀ P ∈ ps, PcOk ks c n P
  wt : G.wt ps ≤ 2 ^ n
  num : ps.countP isEv = (ps.countP fun P => !isEv P) + 1
theorem count_all : ∀ {ps : List Pc}, ps.length = ps.countP isEv + ps.countP fun P => !isEv P
  | [] => rfl
  | P :: ps => by
    have ih := count_all (ps := ps)
    rw [List.length_cons, List.countP_cons, List.countP_cons]
    cases isEv P <;> simp <;> omega
theorem PsOk.len {ks : List Bool} {c n : Nat} {ps : List Pc} (h : PsOk ks c n ps) : ps.length ≤ 2 ^ (n + 1) := by
  have h1 := h.wt
  have h2 := h.num
  have h3 := ev_le_wt (ps := ps)
  rw [count_all, Nat.pow_succ]
  omega
theorem adv_num {ks : List Bool} {c n k : Nat} {P : Pc} {s : St} (h : PcOk ks c n P) (hk : ∀ lo hi q, P = .ev lo hi q → dbt lo hi q.xs s ≤ k) : (adv ks k P s).countP isEv + (if isEv P = true then 0 else 1) = ((adv ks k P s).countP fun P => !isEv P) + (if isEv P = true then 1 else 0) := by
  cases P with
  | one r q => rw [adv_one]; simp [isEv]
  | ev lo hi q =>
    obtain ⟨v, iv, _⟩ := h
    have := (adv_ok (ks := ks) (q := q) (s := s) k lo hi v (hk lo hi q rfl)).num
    simp [isEv, this]
theorem PsOk.step {ks : List Bool} {c n : Nat} {ps : List Pc} {s : St} (hc : 1 ≤ c) (h : PsOk ks c n ps) (h3 : ks.length ≤ 3) (hs : s.ok ks.length) : PsOk ks c (n + 1) (ps.flatMap fun P => adv ks 3 P s) := by
  refine ⟨fun P' hP => ?_, ?_, ?_⟩
  · obtain ⟨P, h1, h2⟩ := List.mem_flatMap.mp hP
    exact (h.all P h1).adv hc hs (dbt_le3 h3 (h.all P h1) hs) P' h2
  · have : ∀ qs : List Pc, (∀ P ∈ qs, PcOk ks c n P) → G.wt (qs.flatMap fun P => adv ks 3 P s) ≤ 2 * G.wt qs := by
      intro qs
      induction qs with
      | nil => intro _; simp [wt_nil]
      | cons P qs ih =>
        intro hq
        have h1 := hq P (List.mem_cons_self ..)
        have := adv_wt h3 h1 hs (dbt_le3 h3 h1 hs)
        have := ih fun P hP => hq P (List.mem_cons_of_mem _ hP)
        rw [List.flatMap_cons, wt_app, wt_cons]
        omega
    have h1 := this ps h.all
    have h2 := h.wt
    rw [Nat.pow_succ]
    omega
  · have : ∀ qs : List Pc, (∀ P ∈ qs, PcOk ks c n P) → (qs.flatMap fun P => adv ks 3 P s).countP isEv + qs.countP (fun P => !isEv P) = ((qs.flatMap fun P => adv ks 3 P s).countP fun P => !isEv P) + qs.countP isEv := by
      intro qs
      induction qs with
      | nil => intro _; rfl
      | cons P qs ih =>
        intro hq
        have h1 := hq P (List.mem_cons_self ..)
        have a := adv_num h1 (dbt_le3 h3 h1 hs)
        have b := ih fun P hP => hq P (List.mem_cons_of_mem _ hP)
        rw [List.flatMap_cons, List.countP_append, List.countP_append, List.countP_cons, List.countP_cons]
        cases hP : isEv P <;> simp [hP] at a ⊢ <;> omega
    have h1 := this ps h.all
    have h2 := h.num
    omega
def lowF : Fm := (0, 1)
def highF : Fm := (1, 0)
theorem Iv.all : Iv lowF highF := ⟨⟨by decide, by decide, by decide⟩, ⟨by decide, by decide, by decide⟩, by decide⟩
theorem PsOk.start {lo hi : Fm} {c : Nat} (ks : List Bool) (v : Iv lo hi) (hl : Sm c lo) (hh : Sm c hi) : PsOk ks c 0 [.ev lo hi (q0 ks)] := by
  have hz : nz (q0 ks).xs = 0 := nz_zero fun f hf => (List.mem_replicate.mp hf).2
  refine ⟨fun P hP => ?_, ?_, by simp [isEv]⟩
  · rw [List.mem_singleton.mp hP]
    exact ⟨v, InF.zero v ks, SmR.q0, by rw [Nat.zero_add]; exact hl, by rw [Nat.zero_add]; exact hh, Nat.le_refl _⟩
  · rw [wt_cons, wt_nil]
    show 2 ^ nz (q0 ks).xs + 0 ≤ _
    rw [hz]
    exact Nat.le_refl _
theorem Sm.low : Sm 1 lowF := ⟨by decide, by decide, by decide, by decide⟩
theorem Sm.high : Sm 1 highF := ⟨by decide, by decide, by decide, by decide⟩
/-- all pieces of a plan between two ratios -/
def coursG (ks : List Bool) (lo hi : Fm) (ss : List St) : List Pc := ss.foldl (fun ps s => ps.flatMap fun P => adv ks 3 P s) [.ev lo hi (q0 ks)]
theorem coursG_snoc {ks : List Bool} {lo hi : Fm} {pre : List St} {s : St} : coursG ks lo hi (pre ++ [s]) = (coursG ks lo hi pre).flatMap fun P => adv ks 3 P s := by rw [coursG, List.foldl_append]; rfl
theorem coursG_ok {ks : List Bool} {lo hi : Fm} {c : Nat} (hc : 1 ≤ c) (h3 : ks.length ≤ 3) (v : Iv lo hi) (hl : Sm c lo) (hh : Sm c hi) {ss : List St} (hs : ∀ s ∈ ss, s.ok ks.length) : PsOk ks c ss.length (coursG ks lo hi ss) := by
  have go : ∀ (n : Nat) (ss : List St), ss.length = n → (∀ s ∈ ss, s.ok ks.length) → PsOk ks c n (coursG ks lo hi ss) := by
    intro n
    induction n with
    | zero =>
      intro ss hz _
      cases ss with
      | nil => exact PsOk.start ks v hl hh
      | cons _ _ => simp at hz
    | succ n ih =>
      intro ss hz hs
      obtain ⟨pre, s, rfl⟩ : ∃ pre s, ss = pre ++ [s] := ⟨ss.dropLast, ss.getLast (fun e => by rw [e] at hz; simp at hz), (List.dropLast_concat_getLast _).symm⟩
      rw [coursG_snoc]
      exact (ih pre (by simpa using hz) (fun t ht => hs t (by simp [ht]))).step hc h3 (hs s (by simp))
  exact go _ ss rfl hs
def coursM (ks : List Bool) (ss : List St) : List Pc := coursG ks lowF highF ss
theorem coursM_snoc {ks : List Bool} {pre : List St} {s : St} : coursM ks (pre ++ [s]) = (coursM ks pre).flatMap fun P => adv ks 3 P s := coursG_snoc
theorem coursM_ok {ks : List Bool} (h3 : ks.length ≤ 3) {ss : List St} (hs : ∀ s ∈ ss, s.ok ks.length) : PsOk ks 1 ss.length (coursM ks ss) := coursG_ok (by omega) h3 Iv.all Sm.low Sm.high hs
/-! ### the laws' way -/
theorem ask2_le3 {ks : List Bool} (h3 : ks.length ≤ 3) : ∀ (xs : List Fm) (s : St), xs.length = ks.length → (ask2 xs s).length ≤ 3 := by
  intro xs s h
  cases s with
  | turn i => simp [ask2]
  | ring => simp [ask2]
  | wait i => simp [ask2]; omega
  | first =>
    show (pairs xs).length ≤ 3
    have := pairs_len xs
    rcases (by omega : xs.length = 0 ∨ xs.length = 1 ∨ xs.length = 2 ∨ xs.length = 3) with h | h | h | h <;> rw [h] at this <;> omega
theorem parts_coursG {ks : List Bool} {ss : List St} {lo hi : Fm} {m : Nat} (h3 : ks.length ≤ 3) (hs : ∀ s ∈ ss, s.ok ks.length) (v : Iv lo hi) (hm : 3 * ss.length < m) : parts ks ss m lo hi = coursG ks lo hi ss := by
  have := crs_parts (n := 3) (B := 3) (ask2_le3 h3) (by omega) ss [] lo hi (q0 ks) m (by simpa using hs) v rfl hm
  rw [List.nil_append] at this
  rw [← this, coursG, foldl_crs]
  simp
/-- how deep a stretch is cut -/
inductive Deep (ks : List Bool) (ss : List St) : Nat → Fm → Fm → Prop where
  | flat {m : Nat} {lo hi : Fm} {q : RunF} : evenRun ks lo hi (q0 ks) ss = .inr q → Deep ks ss (m + 1) lo hi
  | cut {m : Nat} {lo hi r : Fm} : evenRun ks lo hi (q0 ks) ss = .inl r → Deep ks ss m lo r → Deep ks ss m r hi → Deep ks ss (m + 1) lo hi
theorem deep_of {ks : List Bool} {B : Nat} (hB : ∀ (xs : List Fm) (s : St), xs.length = ks.length → (ask2 xs s).length ≤ B) : ∀ (ss pre : List St) (lo hi : Fm) (q : RunF) (m : Nat), (∀ s ∈ pre ++ ss, s.ok ks.length) → Iv lo hi → evenRun ks lo hi (q0 ks) pre = .inr q →
    B * ss.length < m → Deep ks (pre ++ ss) m lo hi := by
  intro ss
  induction ss with
  | nil =>
    intro pre lo hi q m ok v h hm
    cases m with
    | zero => omega
    | succ m => exact .flat (q := q) (by rw [evenRun_app h]; rfl)
  | cons s ss ih =>
    have go : ∀ (c : Nat) (pre : List St) (lo hi : Fm) (q : RunF) (m : Nat), dbt lo hi q.xs s ≤ c → (∀ t ∈ pre ++ s :: ss, t.ok ks.length) → Iv lo hi → evenRun ks lo hi (q0 ks) pre = .inr q → B * ss.length + c < m → Deep ks (pre ++ s :: ss) m lo hi := by
      intro c
      induction c with
      | zero =>
        intro pre lo hi q m hd ok v h hm
        have e := dbt_zero (Nat.le_zero.mp hd)
        have := ih (pre ++ [s]) lo hi (run1F ks lo q s) m (by simpa using ok) v (by rw [evenRun_app h, evenRun, e]; rfl) (by omega)
        rw [List.append_assoc] at this
        exact this
      | succ c ihc =>
        intro pre lo hi q m hd ok v h hm
        cases e : firstCut lo hi q.xs s with
        | none =>
          have := ih (pre ++ [s]) lo hi (run1F ks lo q s) m (by simpa using ok) v (by rw [evenRun_app h, evenRun, e]; rfl) (by omega)
          rw [List.append_assoc] at this
          exact this
        | some r =>
          have w : Wi lo hi r := by
            obtain ⟨f, _, e'⟩ := firstCut_some e
            exact zeroWithin_Wi e'
          have bl := Sb.left v w
          have br := Sb.right v w
          have dl := dbt_lt e bl (.inr rfl)
          have dr := dbt_lt e br (.inl rfl)
          cases m with
          | zero => omega
          | succ m =>
            exact .cut (r := r) (by rw [evenRun_app h, evenRun, e]) (ihc pre lo r q m (by omega) ok bl.v' (evenRun_sub bl h) (by omega)) (ihc pre r hi q m (by omega) ok br.v' (evenRun_sub br h) (by omega))
    intro pre lo hi q m ok v h hm
    have okp : ∀ t ∈ pre, t.ok ks.length := fun t ht => ok t (List.mem_append_left _ ht)
    have iv := evenRun_in v okp (InF.zero v ks) h
    have hb := hB q.xs s iv.len
    have hd : dbt lo hi q.xs s ≤ B := Nat.le_trans List.countP_le_length hb
    rw [List.length_cons, Nat.mul_add] at hm
    exact go B pre lo hi q m hd ok v h (by omega)
end G

-- GY
set_option maxRecDepth 100000
set_option maxHeartbeats 2000000
/-! Ranges, without great numbers in sight. -/
namespace G
open PySem
def rngM (i j : Int) : M (List Vl) := if -(2 ^ 62) ≤ i ∧ i < 2 ^ 62 ∧ -(2 ^ 62) ≤ j ∧ j < 2 ^ 62 then ret (rngV i j) else fail
def rngM2 (i j : Int) : M (List Vl) := if 0 ≤ i ∧ i < 2 ^ 60 ∧ 0 ≤ j ∧ j < 2 ^ 60 then ret (rngV2 i j) else fail
theorem evI_seq {G : Gam} {e : E} {env : Env} : evI G (.seq e) env = bnd (ev G e env) fun x => bnd (lft x.toD) fun x => lft (itemsOf x) := by rw [evI]
theorem evI_zip {G : Gam} {a b : E} {env : Env} : evI G (.zip a b) env = bnd (ev G a env) fun x => bnd (lft x.toD) fun x => bnd (ev G b env) fun y => bnd (lft y.toD) fun y => lft (zipV x y) := by rw [evI]
theorem evI_rng1 {G : Gam} {a : E} {env : Env} : evI G (.rng1 a) env = bnd (ev G a env) fun x => bnd (lft x.toD) fun x => bnd (lft (toI x)) fun i => rngM 0 i := by
  rw [evI]
  refine congrArg _ (funext fun x => congrArg _ (funext fun y => congrArg _ (funext fun i => ?_)))
  unfold rngM
  by_cases h : -(2 ^ 62) ≤ i ∧ i < 2 ^ 62
  · rw [if_pos h, if_pos ⟨by decide, by decide, h⟩]
  · rw [if_neg h, if_neg (fun z => h z.2.2)]
theorem evI_rng2 {G : Gam} {a b : E} {env : Env} : evI G (.rng2 a b) env = bnd (ev G a env) fun x => bnd (lft x.toD) fun x => bnd (lft (toI x)) fun i => bnd (ev G b env) fun y => bnd (lft y.toD) fun y => bnd (lft (toI y)) fun j => rngM i j := by
  rw [evI]
  rfl
theorem evI_rng3 {G : Gam} {a b : E} {c : Int} {env : Env} : evI G (.rng3 a b c) env = bnd (ev G a env) fun x => bnd (lft x.toD) fun x => bnd (lft (toI x)) fun i => bnd (ev G b env) fun y => bnd (lft y.toD) fun y => bnd (lft (toI y)) fun j => rngM2 i j := by
  rw [evI]
  rfl
theorem evI_fns {G : Gam} {gs : List Nat} {env : Env} : evI G (.fns gs) env = ret (gs.map .fn) := by rw [evI]
/-- the numbers ahead of a length -/
@[reducible] def natV : Nat → Vl := fun k => .dat (.int (k : Int))
theorem rngV_nat (n : Nat) : rngV 0 n = (List.range n).map natV := by
  unfold rngV
  rw [Int.sub_zero, Int.toNat_natCast]
  refine List.map_congr_left fun k _ => ?_
  rw [Int.zero_add]
theorem rngM_nat {n : Nat} (h : n ≤ 100000) : rngM 0 (n : Int) = ret ((List.range n).map natV) := by
  unfold rngM
  rw [if_pos (by omega), rngV_nat]
/-- of a small whole number -/
theorem rngM_int {i : Int} (h : i ≤ 100000) (h' : -100000 ≤ i) : rngM 0 i = ret ((List.range i.toNat).map natV) := by
  rcases Int.lt_trichotomy i 0 with c | c | c
  · unfold rngM
    rw [if_pos (by omega), rngV, show (i - 0).toNat = 0 by omega, show i.toNat = 0 by omega]
    rfl
  · subst c
    exact rngM_nat (n := 0) (by omega)
  · obtain ⟨n, rfl⟩ := Int.eq_ofNat_of_zero_le (Int.le_of_lt c)
    rw [rngM_nat (by omega)]
    rfl
theorem wps_cons {G : Gam} {s : S} {r : Ss} {env : Env} {St : Sto} {Q : Fl × Env → Sto → Prop} : Wp (evSs G (.cons s r) env) St Q = Wp (evS G s env) St (fun q S' => Wp (seqF (evSs G r) q) S' Q) := by rw [evSs, wp_bnd]
theorem wps_nil {G : Gam} {env : Env} {St : Sto} {Q : Fl × Env → Sto → Prop} : Wp (evSs G .nil env) St Q = Q (.nx, env) St := by rw [evSs, wp_ret]
theorem seqF_nx {k : Env → M (Fl × Env)} {env : Env} : seqF k (.nx, env) = k env := rfl
theorem seqF_ret {k : Env → M (Fl × Env)} {env : Env} {v : RV} : seqF k (.ret v, env) = fun S => some (.ok (.ret v, env) S) := rfl
theorem seqF_brk {k : Env → M (Fl × Env)} {env : Env} : seqF k (.brk, env) = fun S => some (.ok (.brk, env) S) := rfl
theorem seqF_cont {k : Env → M (Fl × Env)} {env : Env} : seqF k (.cont, env) = fun S => some (.ok (.cont, env) S) := rfl
theorem gEqInt {a b : Int} : gEq (.int a) (.int b) = some (decide (a = b)) := by
  rw [gEq, if_pos ⟨shaped_int _, shaped_int _⟩, PyData.eqv]
  rfl
/-- measures: the length of a tuple, of an own list, a whole number -/
def slT (env : Env) (i : Nat) : Nat := match env[i]? with
  | some (.vl (.dat (.tuple xs))) => xs.length
  | _ => 0
def slO (env : Env) (i : Nat) : Nat := match env[i]? with
  | some (.own (.lst xs)) => xs.length
  | _ => 0
def slI (env : Env) (i : Nat) : Int := match env[i]? with
  | some (.vl (.dat (.int k))) => k
  | _ => 0
theorem mapV_filterI {f : Vl → M (Option D)} {xs : List Int} {p : Int → Bool} (h : ∀ b ∈ xs, f (vI b) = fun S => some (.ok (if p b = true then some (.int b) else none) S)) : mapV f (xs.map vI) = fun S => some (.ok (iL (xs.filter p)) S) := by
  rw [mapV_pure h, iL, ← fm_filter]
theorem ins_spec (a : Int) : ∀ r : List Int, (∀ x, x ∈ ins a r ↔ x = a ∨ x ∈ r) ∧ ∃ h t, ins a r = h :: t
  | [] => ⟨fun x => by simp [ins], a, [], rfl⟩
  | b :: r => by
    obtain ⟨h1, h, t, h2⟩ := ins_spec a r
    unfold ins
    split
    · exact ⟨fun x => by simp, _, _, rfl⟩
    · exact ⟨fun x => by simp [h1]; constructor <;> (rintro (h | h | h) <;> simp [h]), _, _, rfl⟩
theorem isort_spec : ∀ xs : List Int, (∀ x, x ∈ isort xs ↔ x ∈ xs) ∧ (isort xs = [] ↔ xs = []) ∧ ∀ h t, isort xs = h :: t → ∀ x ∈ xs, h ≤ x
  | [] => by simp [isort]
  | a :: r => by
    obtain ⟨h1, h2, h3⟩ := isort_spec r
    obtain ⟨m, h, t, e⟩ := ins_spec a (isort r)
    refine ⟨fun x => by rw [isort, m, h1, List.mem_cons], by rw [isort, e]; simp, fun h' t' e' x hx => ?_⟩
    rw [isort] at e'
    cases c : isort r with
    | nil =>
      rw [c] at e'
      have hr := h2.mp c
      subst hr
      simp [ins] at e'
      simp at hx
      omega
    | cons b q =>
      have hb := h3 b q c
      rw [c, ins] at e'
      split at e' <;> injection e' with e1 e2
      · rcases List.mem_cons.mp hx with rfl | hx
        · omega
        · have := hb x hx; omega
      · rcases List.mem_cons.mp hx with rfl | hx
        · omega
        · have := hb x hx; omega
theorem isort_head {xs : List Int} (h : xs ≠ []) : ∃ m t, isort xs = m :: t ∧ minI xs = some m := by
  obtain ⟨h1, h2, h3⟩ := isort_spec xs
  cases c : isort xs with
  | nil => exact absurd (h2.mp c) h
  | cons m t => exact ⟨m, t, rfl, minI_eq ((h1 m).mp (by rw [c]; simp)) (h3 m t c)⟩
theorem gSortI {xs : List Int} (h : xs.length < 64) : gBf .sortI [.list (iL xs)] = some (.new (iL (isort xs))) := by
  show ((intsOf (iL xs)).bind fun ns => if ns.length < 64 then some (RV.new ((isort ns).map PyData.int)) else none) = _
  rw [intsOfI, Option.bind_some, if_pos h]
theorem gIndexK (b : Bool) : gMt .index "pq" [.str ⟨#[kCh b]⟩] = some (.d (.int (if b then 1 else 0))) := by
  have h0 : Builtin.Str.occurrences "pq" ⟨#[kCh false]⟩ 0 ("pq" : Str).length 1 = [0] := by decide +kernel
  have h1 : Builtin.Str.occurrences "pq" ⟨#[kCh true]⟩ 0 ("pq" : Str).length 1 = [1] := by decide +kernel
  cases b
  · rw [gMt, h0]; rfl
  · rw [gMt, h1]; rfl
theorem gEq00 : gEq (.list []) (.list []) = some true := by decide +kernel
theorem gEqT00 : gEq (.tuple []) (.tuple []) = some true := by decide +kernel
@[reducible] def nL (A : List Nat) : List D := A.map fun i : Nat => .int (i : Int)
@[reducible] def nV : Nat → Vl := Vl.dat ∘ fun i : Nat => PyData.int (i : Int)
theorem gEqNilN (A : List Nat) : gEq (.list (nL A)) (.list []) = some (decide (A = [])) := by
  have := gEqNilI (A.map Int.ofNat)
  rw [iL, List.map_map] at this
  have e : (PyData.int ∘ Int.ofNat) = fun i : Nat => PyData.int (i : Int) := rfl
  rw [e] at this
  refine this.trans ?_
  simp
theorem mapV_filterN {f : Vl → M (Option D)} {A : List Nat} {p : Nat → Bool} {e : Nat → Vl} (h : ∀ b ∈ A, f (e b) = fun S => some (.ok (if p b = true then some (.int (b : Int)) else none) S)) : mapV f (A.map e) = fun S => some (.ok (nL (A.filter p)) S) := by
  rw [mapV_pure h, nL, ← fm_filter]
theorem gIxL {ys : List Int} {i : Nat} (h : i < ys.length) : gIx (.list (iL ys)) (.int i) = some (.int (ys.getD i 0)) := by
  rw [gIx, atI_map, atI_get h]
  simp [h]
theorem gIxT {ys : List Int} {i : Nat} (h : i < ys.length) : gIx (.tuple (iL ys)) (.int i) = some (.int (ys.getD i 0)) := by
  rw [gIx, atI_map, atI_get h]
  simp [h]
/-- what is awaited -/
theorem awaited_first {xs : List Int} (h0 : ∀ x ∈ xs, 0 ≤ x) : let A := (List.range xs.length).filter fun i => decide (0 < xs.getD i 0); (A = [] → tk xs .first = 0) ∧ (A ≠ [] → (∀ i ∈ A, i < xs.length ∧ tk xs .first ≤ xs.getD i 0) ∧ ∃ i ∈ A, xs.getD i 0 = tk xs .first) := by
  intro A
  have mem : ∀ i, i ∈ A ↔ i < xs.length ∧ 0 < xs.getD i 0 := fun i => by simp [A, -List.getD_eq_getElem?_getD]
  have pos : ∀ i, i < xs.length → (xs.getD i 0) ∈ xs := fun i hi => G.getD_mem hi
  have ex : ∀ x ∈ xs, ∃ i, i < xs.length ∧ xs.getD i 0 = x := fun x hx => by
    obtain ⟨i, hi, e⟩ := List.getElem_of_mem hx
    exact ⟨i, hi, by simp [hi, e]⟩
  constructor
  · intro e
    have : xs.filter (0 < ·) = [] := by
      rw [List.filter_eq_nil_iff]
      intro x hx
      obtain ⟨i, hi, rfl⟩ := ex x hx
      have : i ∉ A := by rw [e]; simp
      rw [mem] at this
      exact fun hc => this ⟨hi, of_decide_eq_true hc⟩
    rw [tk, this]
    rfl
  · intro ne
    obtain ⟨j, hj⟩ := List.exists_mem_of_ne_nil A ne
    have hj' := (mem j).mp hj
    have nn : xs.filter (0 < ·) ≠ [] := by
      intro e
      rw [List.filter_eq_nil_iff] at e
      exact e _ (pos j hj'.1) (decide_eq_true hj'.2)
    obtain ⟨m, t, _, hm⟩ := isort_head nn
    obtain ⟨m1, m2⟩ := minI_mem hm
    rw [List.mem_filter] at m1
    have et : tk xs .first = m := by rw [tk, hm]; rfl
    rw [et]
    refine ⟨fun i hi => ?_, ?_⟩
    · have hi' := (mem i).mp hi
      exact ⟨hi'.1, m2 _ (by rw [List.mem_filter]; exact ⟨pos i hi'.1, by simpa using hi'.2⟩)⟩
    · obtain ⟨i, hi, e⟩ := ex m m1.1
      have hp : 0 < m := by simpa using m1.2
      exact ⟨i, (mem i).mpr ⟨hi, by omega⟩, e⟩
theorem sE_tt : gEq (.str "turn") (.str "turn") = some true := by decide +kernel
theorem sE_tw : gEq (.str "turn") (.str "wait") = some false := by decide +kernel
theorem sE_tf : gEq (.str "turn") (.str "first") = some false := by decide +kernel
theorem sE_tr : gEq (.str "turn") (.str "ring") = some false := by decide +kernel
theorem sE_wt : gEq (.str "wait") (.str "turn") = some false := by decide +kernel
theorem sE_ww : gEq (.str "wait") (.str "wait") = some true := by decide +kernel
theorem sE_wf : gEq (.str "wait") (.str "first") = some false := by decide +kernel
theorem sE_wr : gEq (.str "wait") (.str "ring") = some false := by decide +kernel
theorem sE_ft : gEq (.str "first") (.str "turn") = some false := by decide +kernel
theorem sE_fw : gEq (.str "first") (.str "wait") = some false := by decide +kernel
theorem sE_ff : gEq (.str "first") (.str "first") = some true := by decide +kernel
theorem sE_fr : gEq (.str "first") (.str "ring") = some false := by decide +kernel
theorem sE_rt : gEq (.str "ring") (.str "turn") = some false := by decide +kernel
theorem sE_rw : gEq (.str "ring") (.str "wait") = some false := by decide +kernel
theorem sE_rf : gEq (.str "ring") (.str "first") = some false := by decide +kernel
theorem sE_rr : gEq (.str "ring") (.str "ring") = some true := by decide +kernel
theorem noLsM {α : Type} (f : α → Int) : ∀ zs : List α, noLs (zs.map fun x => PyData.int (f x)) = true
  | [] => rfl
  | z :: zs => by rw [List.map_cons, noLs, noLsM f zs]; rfl
/-- data that `==` can look at -/
structure Okd (n : Nat) (d : D) : Prop where
  lay : PyData.canLay0 d = true
  dep : PyData.depth d ≤ n
theorem Okd.int {n : Nat} (i : Int) : Okd n (.int i) := ⟨rfl, Nat.zero_le _⟩
theorem Okd.bool {n : Nat} (b : Bool) : Okd n (.bool b) := ⟨rfl, Nat.zero_le _⟩
theorem Okd.none {n : Nat} : Okd n .none := ⟨rfl, Nat.zero_le _⟩
theorem Okd.str {n : Nat} {s : Str} (h : PyData.strOk s = true) : Okd n (.str s) := ⟨by rw [PyData.canLay0, h], Nat.zero_le _⟩
theorem okd_all {n : Nat} : ∀ {xs : List D}, (∀ x ∈ xs, Okd n x) → PyData.canLayAll0 xs = true ∧ PyData.depthAll xs ≤ n
  | [], _ => ⟨rfl, Nat.zero_le _⟩
  | x :: xs, h => by
    obtain ⟨a, b⟩ := okd_all fun y hy => h y (List.mem_cons_of_mem _ hy)
    obtain ⟨c, e⟩ := h x (List.mem_cons_self ..)
    rw [PyData.canLayAll0, PyData.depthAll, a, c]
    exact ⟨rfl, by omega⟩
theorem Okd.list {n : Nat} {xs : List D} (h : ∀ x ∈ xs, Okd n x) : Okd (n + 1) (.list xs) := by
  obtain ⟨a, b⟩ := okd_all h
  exact ⟨by rw [PyData.canLay0, a], by rw [PyData.depth]; omega⟩
theorem Okd.tuple {n : Nat} {xs : List D} (h : ∀ x ∈ xs, Okd n x) : Okd (n + 1) (.tuple xs) := by
  obtain ⟨a, b⟩ := okd_all h
  exact ⟨by rw [PyData.canLay0, a], by rw [PyData.depth]; omega⟩
theorem Okd.mono {n m : Nat} {d : D} (h : Okd n d) (l : n ≤ m) : Okd m d := ⟨h.lay, Nat.le_trans h.dep l⟩
theorem Okd.shaped {n : Nat} {d : D} (h : Okd n d) (l : n ≤ 64) : SeqAt.shaped d = true := by
  unfold SeqAt.shaped
  rw [h.lay]
  have := h.dep
  simp
  omega
theorem gEq_self {n : Nat} {d : D} (h : Okd n d) (l : n ≤ 64) : gEq d d = some true := by
  rw [gEq, if_pos ⟨h.shaped l, h.shaped l⟩, SeqAt.eqv_refl d h.lay]
theorem wp_fun {α : Type} {f : Sto → α} {g : Sto → Sto} {S : Sto} {Q : α → Sto → Prop} : Wp (fun S => some (.ok (f S) (g S))) S Q = Q (f S) (g S) := propext ⟨fun ⟨_, _, h, q⟩ => by cases h; exact q, fun q => ⟨_, _, rfl, q⟩⟩
theorem bnd_ex {α β : Type} {c : Nat} {p : Option Int} {k : α → M β} : bnd (fun S => some (.ex c p S)) k = fun S => some (.ex c p S) := rfl
theorem told_ex {c : Nat} {s : Str} (h : errW c = some s) : told (fun S => some (.ex c none S)) = fun S => some (.ok (.d (.str s)) S) := by
  funext S
  unfold told
  simp only
  rw [h]
  rfl
theorem told_1 : told (fun S => some (.ex 1 none S)) = fun S => some (.ok (.d (.str "plan value")) S) := told_ex rfl
theorem sV_1 : gEq (.str "plan value") (.str "plan value") = some true := by decide +kernel
theorem told_2 : told (fun S => some (.ex 2 none S)) = fun S => some (.ok (.d (.str "set value")) S) := told_ex rfl
theorem sV_2 : gEq (.str "set value") (.str "set value") = some true := by decide +kernel
theorem told_3 : told (fun S => some (.ex 3 none S)) = fun S => some (.ok (.d (.str "times value")) S) := told_ex rfl
theorem sV_3 : gEq (.str "times value") (.str "times value") = some true := by decide +kernel
theorem told_4 : told (fun S => some (.ex 4 none S)) = fun S => some (.ok (.d (.str "form value")) S) := told_ex rfl
theorem sV_4 : gEq (.str "form value") (.str "form value") = some true := by decide +kernel
theorem told_5 : told (fun S => some (.ex 5 none S)) = fun S => some (.ok (.d (.str "stretch value")) S) := told_ex rfl
theorem sV_5 : gEq (.str "stretch value") (.str "stretch value") = some true := by decide +kernel
theorem told_6 : told (fun S => some (.ex 6 none S)) = fun S => some (.ok (.d (.str "ratio value")) S) := told_ex rfl
theorem sV_6 : gEq (.str "ratio value") (.str "ratio value") = some true := by decide +kernel
theorem told_7 : told (fun S => some (.ex 7 none S)) = fun S => some (.ok (.d (.str "index value")) S) := told_ex rfl
theorem sV_7 : gEq (.str "index value") (.str "index value") = some true := by decide +kernel
theorem told_8 : told (fun S => some (.ex 8 none S)) = fun S => some (.ok (.d (.str "sight value")) S) := told_ex rfl
theorem sV_8 : gEq (.str "sight value") (.str "sight value") = some true := by decide +kernel
theorem told_9 : told (fun S => some (.ex 9 none S)) = fun S => some (.ok (.d (.str "number value")) S) := told_ex rfl
theorem sV_9 : gEq (.str "number value") (.str "number value") = some true := by decide +kernel
theorem told_10 : told (fun S => some (.ex 10 none S)) = fun S => some (.ok (.d (.str "step value")) S) := told_ex rfl
theorem sV_10 : gEq (.str "step value") (.str "step value") = some true := by decide +kernel
theorem told_11 : told (fun S => some (.ex 11 none S)) = fun S => some (.ok (.d (.str "undo value")) S) := told_ex rfl
theorem sV_11 : gEq (.str "undo value") (.str "undo value") = some true := by decide +kernel
theorem gPow12 : gPow (.int 10) (.int 12) = some (.d (.int 1000000000000)) := by rw [gPow, if_pos (by decide)]; rfl
theorem cut_to {xs : List D} {i : Nat} : cutD xs none (some (i : Int)) = xs.take i := by
  unfold cutD
  rw [HT.sIx_none, HT.sIx_nat, List.drop_zero, Nat.sub_zero]
  rcases Nat.le_total i xs.length with h | h
  · rw [Nat.min_eq_left h]
  · rw [Nat.min_eq_right h, List.take_of_length_le (Nat.le_refl _), List.take_of_length_le h]
theorem cut_last {xs : List D} : cutD xs none (some (-1)) = xs.dropLast := by
  unfold cutD
  rw [HT.sIx_none, List.drop_zero, Nat.sub_zero, HT.sIx, if_pos (by decide), List.dropLast_eq_take]
  congr 1
  omega
end G

-- PA05
set_option maxRecDepth 100000
set_option maxHeartbeats 4000000
namespace G05
open PySem G
theorem t_isWhole (d : Nat) (v lo hi : Int) : Gm T (d+1) 0 [.dat (.int v), .dat (.int lo), .dat (.int hi)] = ret (.d (.bool (decide (lo ≤ v) && decide (v ≤ hi)))) := by
  have hT : T[0]? = some d0 := rfl
  rw [gm_open hT]
  simp only [runDf, d0, startE]
  by_cases h : lo ≤ v
  · by_cases h' : v ≤ hi
    · simp -implicitDefEqProofs [evSs, evS, evX, evRs, ev, evs, evV, evB, evC, evO, evI_seq, evI_zip, evI_rng1, evI_rng2, evI_rng3, evI_fns, endV, seqF, bnd_ret, getV, getF, getL, frz, thaw, isR, lft, noEx_ret, RV.toD, RV.toV, isTy, toB, toI, toS, cop, bop, gOrd, gAdd, gSub, itemsOf, wipeE, bindT, tst, Function.comp_apply, gIx0, gIx1, gIx2, puts, putRV, isL, chg_eq, sE_tt, sE_tw, sE_tf, sE_tr, sE_wt, sE_ww, sE_wf, sE_wr, sE_ft, sE_fw, sE_ff, sE_fr, sE_rt, sE_rw, sE_rf, sE_rr, h, h']
    · simp -implicitDefEqProofs [evSs, evS, evX, evRs, ev, evs, evV, evB, evC, evO, evI_seq, evI_zip, evI_rng1, evI_rng2, evI_rng3, evI_fns, endV, seqF, bnd_ret, getV, getF, getL, frz, thaw, isR, lft, noEx_ret, RV.toD, RV.toV, isTy, toB, toI, toS, cop, bop, gOrd, gAdd, gSub, itemsOf, wipeE, bindT, tst, Function.comp_apply, gIx0, gIx1, gIx2, puts, putRV, isL, chg_eq, sE_tt, sE_tw, sE_tf, sE_tr, sE_wt, sE_ww, sE_wf, sE_wr, sE_ft, sE_fw, sE_ff, sE_fr, sE_rt, sE_rw, sE_rf, sE_rr, h, h']
  · simp -implicitDefEqProofs [evSs, evS, evX, evRs, ev, evs, evV, evB, evC, evO, evI_seq, evI_zip, evI_rng1, evI_rng2, evI_rng3, evI_fns, endV, seqF, bnd_ret, getV, getF, getL, frz, thaw, isR, lft, noEx_ret, RV.toD, RV.toV, isTy, toB, toI, toS, cop, bop, gOrd, gAdd, gSub, itemsOf, wipeE, bindT, tst, Function.comp_apply, gIx0, gIx1, gIx2, puts, putRV, isL, chg_eq, sE_tt, sE_tw, sE_tf, sE_tr, sE_wt, sE_ww, sE_wf, sE_wr, sE_ft, sE_fw, sE_ff, sE_fr, sE_rt, sE_rw, sE_rf, sE_rr, h]
theorem t_timeOf (d : Nat) (b : Bool) (u v : Int) : Gm T (d+1) 8 [.dat (.str ⟨#[kCh b]⟩), .dat (.tuple [.int u, .int v])] = ret (.d (.int (whole u v b))) := by
  have hT : T[8]? = some d8 := rfl
  rw [gm_open hT]
  simp only [runDf, d8, startE]
  have e : gEq (.str ⟨#[kCh b]⟩) (.str "p") = some (!b) := by cases b <;> decide +kernel
  cases b <;> simp -implicitDefEqProofs [evSs, evS, evX, evRs, ev, evs, evV, evB, evC, evO, evI_seq, evI_zip, evI_rng1, evI_rng2, evI_rng3, evI_fns, endV, seqF, bnd_ret, getV, getF, getL, frz, thaw, isR, lft, noEx_ret, RV.toD, RV.toV, isTy, toB, toI, toS, cop, bop, gOrd, gAdd, gSub, itemsOf, wipeE, bindT, tst, Function.comp_apply, gIx0, gIx1, gIx2, puts, putRV, isL, chg_eq, sE_tt, sE_tw, sE_tf, sE_tr, sE_wt, sE_ww, sE_wf, sE_wr, sE_ft, sE_fw, sE_ff, sE_fr, sE_rt, sE_rw, sE_rf, sE_rr, e, gIx, L2.atI, L2.ixN, whole]
theorem t_passed (d : Nat) (xs : List Int) (t : Int) (hl : xs.length ≤ 4) : Gm T (d+1) 10 [.dat (.tuple (iL xs)), .dat (.int t)] = ret (.d (.tuple (iL (xs.map fun x => max 0 (x - t))))) := by
  have hT : T[10]? = some d10 := rfl
  rw [gm_open hT]
  simp only [runDf, d10, startE]
  simp -implicitDefEqProofs [evSs, evS, evX, evRs, ev, evs, evV, evB, evC, evO, evI_seq, evI_zip, evI_rng1, evI_rng2, evI_rng3, evI_fns, endV, seqF, bnd_ret, getV, getF, getL, frz, thaw, isR, lft, noEx_ret, RV.toD, RV.toV, isTy, toB, toI, toS, cop, bop, gOrd, gAdd, gSub, itemsOf, wipeE, bindT, tst, Function.comp_apply, gIx0, gIx1, gIx2, puts, putRV, isL, chg_eq, sE_tt, sE_tw, sE_tf, sE_tr, sE_wt, sE_ww, sE_wf, sE_wr, sE_ft, sE_fw, sE_ff, sE_fr, sE_rt, sE_rw, sE_rf, sE_rr]
  rw [mapV_pure (e := Vl.dat ∘ PyData.int) (g := fun x => some (.int (max 0 (x - t))))]
  · simp -implicitDefEqProofs [evSs, evS, evX, evRs, ev, evs, evV, evB, evC, evO, evI_seq, evI_zip, evI_rng1, evI_rng2, evI_rng3, evI_fns, endV, seqF, bnd_ret, getV, getF, getL, frz, thaw, isR, lft, noEx_ret, RV.toD, RV.toV, isTy, toB, toI, toS, cop, bop, gOrd, gAdd, gSub, itemsOf, wipeE, bindT, tst, Function.comp_apply, gIx0, gIx1, gIx2, puts, putRV, isL, chg_eq, sE_tt, sE_tw, sE_tf, sE_tr, sE_wt, sE_ww, sE_wf, sE_wr, sE_ft, sE_fw, sE_ff, sE_fr, sE_rt, sE_rw, sE_rf, sE_rr, gBf, sizeLine, Function.comp_def, show xs.length ≤ 16777216 by omega]
  · intro b _
    have h : (if t < b then b - t else 0) = max 0 (b - t) := by split <;> omega
    simp -implicitDefEqProofs [evSs, evS, evX, evRs, ev, evs, evV, evB, evC, evO, evI_seq, evI_zip, evI_rng1, evI_rng2, evI_rng3, evI_fns, endV, seqF, bnd_ret, getV, getF, getL, frz, thaw, isR, lft, noEx_ret, RV.toD, RV.toV, isTy, toB, toI, toS, cop, bop, gOrd, gAdd, gSub, itemsOf, wipeE, bindT, tst, Function.comp_apply, gIx0, gIx1, gIx2, puts, putRV, isL, chg_eq, sE_tt, sE_tw, sE_tf, sE_tr, sE_wt, sE_ww, sE_wf, sE_wr, sE_ft, sE_fw, sE_ff, sE_fr, sE_rt, sE_rw, sE_rf, sE_rr, gBf, h]
theorem t_look (d : Nat) (xs : List Int) (hl : xs.length ≤ 4) : Gm T (d+1) 13 [.dat (.tuple (iL xs))] = ret (.d (.tuple ((xs.map (decide <| 0 < ·)).map .bool))) := by
  have hT : T[13]? = some d13 := rfl
  rw [gm_open hT]
  simp only [runDf, d13, startE]
  simp -implicitDefEqProofs [evSs, evS, evX, evRs, ev, evs, evV, evB, evC, evO, evI_seq, evI_zip, evI_rng1, evI_rng2, evI_rng3, evI_fns, endV, seqF, bnd_ret, getV, getF, getL, frz, thaw, isR, lft, noEx_ret, RV.toD, RV.toV, isTy, toB, toI, toS, cop, bop, gOrd, gAdd, gSub, itemsOf, wipeE, bindT, tst, Function.comp_apply, gIx0, gIx1, gIx2, puts, putRV, isL, chg_eq, sE_tt, sE_tw, sE_tf, sE_tr, sE_wt, sE_ww, sE_wf, sE_wr, sE_ft, sE_fw, sE_ff, sE_fr, sE_rt, sE_rw, sE_rf, sE_rr]
  rw [mapV_pure (e := Vl.dat ∘ PyData.int) (g := fun x => some (.bool (decide (0 < x))))]
  · simp -implicitDefEqProofs [evSs, evS, evX, evRs, ev, evs, evV, evB, evC, evO, evI_seq, evI_zip, evI_rng1, evI_rng2, evI_rng3, evI_fns, endV, seqF, bnd_ret, getV, getF, getL, frz, thaw, isR, lft, noEx_ret, RV.toD, RV.toV, isTy, toB, toI, toS, cop, bop, gOrd, gAdd, gSub, itemsOf, wipeE, bindT, tst, Function.comp_apply, gIx0, gIx1, gIx2, puts, putRV, isL, chg_eq, sE_tt, sE_tw, sE_tf, sE_tr, sE_wt, sE_ww, sE_wf, sE_wr, sE_ft, sE_fw, sE_ff, sE_fr, sE_rt, sE_rw, sE_rf, sE_rr, gBf, sizeLine, Function.comp_def, show xs.length ≤ 16777216 by omega]
  · intro b _
    simp -implicitDefEqProofs [evSs, evS, evX, evRs, ev, evs, evV, evB, evC, evO, evI_seq, evI_zip, evI_rng1, evI_rng2, evI_rng3, evI_fns, endV, seqF, bnd_ret, getV, getF, getL, frz, thaw, isR, lft, noEx_ret, RV.toD, RV.toV, isTy, toB, toI, toS, cop, bop, gOrd, gAdd, gSub, itemsOf, wipeE, bindT, tst, Function.comp_apply, gIx0, gIx1, gIx2, puts, putRV, isL, chg_eq, sE_tt, sE_tw, sE_tf, sE_tr, sE_wt, sE_ww, sE_wf, sE_wr, sE_ft, sE_fw, sE_ff, sE_fr, sE_rt, sE_rw, sE_rf, sE_rr]
theorem t_turned (d : Nat) (ks : List Bool) (a b : Int) (xs : List Int) (i : Nat) (h4 : ks.length ≤ 4) (hl : xs.length = ks.length) (hi : i < ks.length) :
    Gm T (d+2) 9 [.dat (kD ks), .dat (.tuple [.int a, .int b]), .dat (.tuple (iL xs)), .dat (.int i)] = ret (.d (.tuple (iL (aft ks a b xs (.turn i))))) := by
  have hT : T[9]? = some d9 := rfl
  rw [gm_open hT]
  simp only [runDf, d9, startE]
  have e1 := gIxK hi h4
  have e2 : gIx (.tuple (iL xs)) (.int i) = some (.int xs[i]) := by rw [gIx, atI_map, atI_get (by omega)]; rfl
  have e3 : (iL xs).length = ks.length := by simpa using hl
  simp -implicitDefEqProofs [evSs, evS, evX, evRs, ev, evs, evV, evB, evC, evO, evI_seq, evI_zip, evI_rng1, evI_rng2, evI_rng3, evI_fns, endV, seqF, bnd_ret, getV, getF, getL, frz, thaw, isR, lft, noEx_ret, RV.toD, RV.toV, isTy, toB, toI, toS, cop, bop, gOrd, gAdd, gSub, itemsOf, wipeE, bindT, tst, Function.comp_apply, gIx0, gIx1, gIx2, puts, putRV, isL, chg_eq, sE_tt, sE_tw, sE_tf, sE_tr, sE_wt, sE_ww, sE_wf, sE_wr, sE_ft, sE_fw, sE_ff, sE_fr, sE_rt, sE_rw, sE_rf, sE_rr, e1, e2, t_timeOf, gSl, cut_lo (xs := iL xs) (i := i) (by omega), cut_hi (xs := iL xs) (i := i) (by omega), sizeLine]
  rw [if_pos (by omega)]
  simp -implicitDefEqProofs [evSs, evS, evX, evRs, ev, evs, evV, evB, evC, evO, evI_seq, evI_zip, evI_rng1, evI_rng2, evI_rng3, evI_fns, endV, seqF, bnd_ret, getV, getF, getL, frz, thaw, isR, lft, noEx_ret, RV.toD, RV.toV, isTy, toB, toI, toS, cop, bop, gOrd, gAdd, gSub, itemsOf, wipeE, bindT, tst, Function.comp_apply, gIx0, gIx1, gIx2, puts, putRV, isL, chg_eq, sE_tt, sE_tw, sE_tf, sE_tr, sE_wt, sE_ww, sE_wf, sE_wr, sE_ft, sE_fw, sE_ff, sE_fr, sE_rt, sE_rw, sE_rf, sE_rr]
  rw [if_pos (by omega)]
  simp -implicitDefEqProofs [evSs, evS, evX, evRs, ev, evs, evV, evB, evC, evO, evI_seq, evI_zip, evI_rng1, evI_rng2, evI_rng3, evI_fns, endV, seqF, bnd_ret, getV, getF, getL, frz, thaw, isR, lft, noEx_ret, RV.toD, RV.toV, isTy, toB, toI, toS, cop, bop, gOrd, gAdd, gSub, itemsOf, wipeE, bindT, tst, Function.comp_apply, gIx0, gIx1, gIx2, puts, putRV, isL, chg_eq, sE_tt, sE_tw, sE_tf, sE_tr, sE_wt, sE_ww, sE_wf, sE_wr, sE_ft, sE_fw, sE_ff, sE_fr, sE_rt, sE_rw, sE_rf, sE_rr]
  rw [cut_set (by omega)]
  simp [aft, hi, show i < xs.length by omega]
theorem t_ticks (d : Nat) (xs : List Int) (s : St) (h4 : xs.length ≤ 4) (hs : ∀ i, s ≠ .turn i) (hi : ∀ i, s = .wait i → i < xs.length) :
    Gm T (d+1) 11 [.dat (.tuple (iL xs)), .dat s.d] = ret (.d (.int (tk xs s))) := by
  have hT : T[11]? = some d11 := rfl
  rw [gm_open hT]
  simp only [runDf, d11, startE]
  have e0 : gEq (.str "turn") (.str "wait") = some false := by decide +kernel
  have e1 : gEq (.str "wait") (.str "wait") = some true := by decide +kernel
  have e2 : gEq (.str "first") (.str "wait") = some false := by decide +kernel
  have e3 : gEq (.str "ring") (.str "wait") = some false := by decide +kernel
  have e4 : gEq (.str "ring") (.str "first") = some false := by decide +kernel
  have e5 : gEq (.str "first") (.str "first") = some true := by decide +kernel
  have hm : ∀ (f : Vl → M (Option D)), (∀ b ∈ xs, f (vI b) = fun S => some (.ok (if 0 < b then some (.int b) else none) S)) → mapV f (xs.map vI) = fun S => some (.ok (iL (xs.filter (0 < ·))) S) := fun f h => by
    rw [mapV_pure h, iL, ← fm_filter]
    simp
  have hl : (xs.filter (0 < ·)).length ≤ 16777216 := Nat.le_trans (List.length_filter_le ..) (by omega)
  cases s with
  | turn i => exact absurd rfl (hs i)
  | wait i =>
    have := hi i rfl
    simp -implicitDefEqProofs [evSs, evS, evX, evRs, ev, evs, evV, evB, evC, evO, evI_seq, evI_zip, evI_rng1, evI_rng2, evI_rng3, evI_fns, endV, seqF, bnd_ret, getV, getF, getL, frz, thaw, isR, lft, noEx_ret, RV.toD, RV.toV, isTy, toB, toI, toS, cop, bop, gOrd, gAdd, gSub, itemsOf, wipeE, bindT, tst, Function.comp_apply, gIx0, gIx1, gIx2, puts, putRV, isL, chg_eq, sE_tt, sE_tw, sE_tf, sE_tr, sE_wt, sE_ww, sE_wf, sE_wr, sE_ft, sE_fw, sE_ff, sE_fr, sE_rt, sE_rw, sE_rf, sE_rr, e1, gIx, atI_map, L2.atI, L2.ixN, tk, this]
  | first =>
    simp -implicitDefEqProofs [evSs, evS, evX, evRs, ev, evs, evV, evB, evC, evO, evI_seq, evI_zip, evI_rng1, evI_rng2, evI_rng3, evI_fns, endV, seqF, bnd_ret, getV, getF, getL, frz, thaw, isR, lft, noEx_ret, RV.toD, RV.toV, isTy, toB, toI, toS, cop, bop, gOrd, gAdd, gSub, itemsOf, wipeE, bindT, tst, Function.comp_apply, gIx0, gIx1, gIx2, puts, putRV, isL, chg_eq, sE_tt, sE_tw, sE_tf, sE_tr, sE_wt, sE_ww, sE_wf, sE_wr, sE_ft, sE_fw, sE_ff, sE_fr, sE_rt, sE_rw, sE_rf, sE_rr, e2, e5, gIx, atI_map, L2.atI, L2.ixN, tk]
    rw [hm]
    · simp -implicitDefEqProofs [evSs, evS, evX, evRs, ev, evs, evV, evB, evC, evO, evI_seq, evI_zip, evI_rng1, evI_rng2, evI_rng3, evI_fns, endV, seqF, bnd_ret, getV, getF, getL, frz, thaw, isR, lft, noEx_ret, RV.toD, RV.toV, isTy, toB, toI, toS, cop, bop, gOrd, gAdd, gSub, itemsOf, wipeE, bindT, tst, Function.comp_apply, gIx0, gIx1, gIx2, puts, putRV, isL, chg_eq, sE_tt, sE_tw, sE_tf, sE_tr, sE_wt, sE_ww, sE_wf, sE_wr, sE_ft, sE_fw, sE_ff, sE_fr, sE_rt, sE_rw, sE_rf, sE_rr, e2, e5, gIx, atI_map, L2.atI, L2.ixN, sizeLine, hl, gEqNilI, gBf, intsOfI, -List.filter_eq_nil_iff]
      by_cases hn : xs.filter (0 < ·) = []
      · simp -implicitDefEqProofs [evSs, evS, evX, evRs, ev, evs, evV, evB, evC, evO, evI_seq, evI_zip, evI_rng1, evI_rng2, evI_rng3, evI_fns, endV, seqF, bnd_ret, getV, getF, getL, frz, thaw, isR, lft, noEx_ret, RV.toD, RV.toV, isTy, toB, toI, toS, cop, bop, gOrd, gAdd, gSub, itemsOf, wipeE, bindT, tst, Function.comp_apply, gIx0, gIx1, gIx2, puts, putRV, isL, chg_eq, sE_tt, sE_tw, sE_tf, sE_tr, sE_wt, sE_ww, sE_wf, sE_wr, sE_ft, sE_fw, sE_ff, sE_fr, sE_rt, sE_rw, sE_rf, sE_rr, hn, minI]
      · simp only [hn]
        cases hx : xs.filter (0 < ·) with
        | nil => exact absurd hx hn
        | cons y ys => simp -implicitDefEqProofs [evSs, evS, evX, evRs, ev, evs, evV, evB, evC, evO, evI_seq, evI_zip, evI_rng1, evI_rng2, evI_rng3, evI_fns, endV, seqF, bnd_ret, getV, getF, getL, frz, thaw, isR, lft, noEx_ret, RV.toD, RV.toV, isTy, toB, toI, toS, cop, bop, gOrd, gAdd, gSub, itemsOf, wipeE, bindT, tst, Function.comp_apply, gIx0, gIx1, gIx2, puts, putRV, isL, chg_eq, sE_tt, sE_tw, sE_tf, sE_tr, sE_wt, sE_ww, sE_wf, sE_wr, sE_ft, sE_fw, sE_ff, sE_fr, sE_rt, sE_rw, sE_rf, sE_rr, gBf, minI, intsOfI, hx, intsOf]
    · intro b _
      by_cases hb : 0 < b <;> simp -implicitDefEqProofs [evSs, evS, evX, evRs, ev, evs, evV, evB, evC, evO, evI_seq, evI_zip, evI_rng1, evI_rng2, evI_rng3, evI_fns, endV, seqF, bnd_ret, getV, getF, getL, frz, thaw, isR, lft, noEx_ret, RV.toD, RV.toV, isTy, toB, toI, toS, cop, bop, gOrd, gAdd, gSub, itemsOf, wipeE, bindT, tst, Function.comp_apply, gIx0, gIx1, gIx2, puts, putRV, isL, chg_eq, sE_tt, sE_tw, sE_tf, sE_tr, sE_wt, sE_ww, sE_wf, sE_wr, sE_ft, sE_fw, sE_ff, sE_fr, sE_rt, sE_rw, sE_rf, sE_rr, hb]
  | ring =>
    simp -implicitDefEqProofs [evSs, evS, evX, evRs, ev, evs, evV, evB, evC, evO, evI_seq, evI_zip, evI_rng1, evI_rng2, evI_rng3, evI_fns, endV, seqF, bnd_ret, getV, getF, getL, frz, thaw, isR, lft, noEx_ret, RV.toD, RV.toV, isTy, toB, toI, toS, cop, bop, gOrd, gAdd, gSub, itemsOf, wipeE, bindT, tst, Function.comp_apply, gIx0, gIx1, gIx2, puts, putRV, isL, chg_eq, sE_tt, sE_tw, sE_tf, sE_tr, sE_wt, sE_ww, sE_wf, sE_wr, sE_ft, sE_fw, sE_ff, sE_fr, sE_rt, sE_rw, sE_rf, sE_rr, e3, e4, gIx, atI_map, L2.atI, L2.ixN, tk]
    rw [hm]
    · simp -implicitDefEqProofs [evSs, evS, evX, evRs, ev, evs, evV, evB, evC, evO, evI_seq, evI_zip, evI_rng1, evI_rng2, evI_rng3, evI_fns, endV, seqF, bnd_ret, getV, getF, getL, frz, thaw, isR, lft, noEx_ret, RV.toD, RV.toV, isTy, toB, toI, toS, cop, bop, gOrd, gAdd, gSub, itemsOf, wipeE, bindT, tst, Function.comp_apply, gIx0, gIx1, gIx2, puts, putRV, isL, chg_eq, sE_tt, sE_tw, sE_tf, sE_tr, sE_wt, sE_ww, sE_wf, sE_wr, sE_ft, sE_fw, sE_ff, sE_fr, sE_rt, sE_rw, sE_rf, sE_rr, e3, e4, gIx, atI_map, L2.atI, L2.ixN, sizeLine, hl]
    · intro b _
      by_cases hb : 0 < b <;> simp -implicitDefEqProofs [evSs, evS, evX, evRs, ev, evs, evV, evB, evC, evO, evI_seq, evI_zip, evI_rng1, evI_rng2, evI_rng3, evI_fns, endV, seqF, bnd_ret, getV, getF, getL, frz, thaw, isR, lft, noEx_ret, RV.toD, RV.toV, isTy, toB, toI, toS, cop, bop, gOrd, gAdd, gSub, itemsOf, wipeE, bindT, tst, Function.comp_apply, gIx0, gIx1, gIx2, puts, putRV, isL, chg_eq, sE_tt, sE_tw, sE_tf, sE_tr, sE_wt, sE_ww, sE_wf, sE_wr, sE_ft, sE_fw, sE_ff, sE_fr, sE_rt, sE_rw, sE_rf, sE_rr, hb]
theorem t_stepped (d : Nat) (ks : List Bool) (a b : Int) (xs : List Int) (s : St) (h4 : ks.length ≤ 4) (hl : xs.length = ks.length) (hs : s.ok ks.length) :
    Gm T (d+3) 12 [.dat (kD ks), .dat (.tuple [.int a, .int b]), .dat (.tuple (iL xs)), .dat s.d] = ret (.d (.tuple [.int (tk xs s), .tuple (iL (aft ks a b xs s))])) := by
  have hT : T[12]? = some d12 := rfl
  rw [gm_open hT]
  simp only [runDf, d12, startE]
  have e0 : gEq (.str "turn") (.str "turn") = some true := by decide +kernel
  have e1 : gEq (.str "wait") (.str "turn") = some false := by decide +kernel
  have e2 : gEq (.str "first") (.str "turn") = some false := by decide +kernel
  have e3 : gEq (.str "ring") (.str "turn") = some false := by decide +kernel
  cases s with
  | turn i => simp -implicitDefEqProofs [evSs, evS, evX, evRs, ev, evs, evV, evB, evC, evO, evI_seq, evI_zip, evI_rng1, evI_rng2, evI_rng3, evI_fns, endV, seqF, bnd_ret, getV, getF, getL, frz, thaw, isR, lft, noEx_ret, RV.toD, RV.toV, isTy, toB, toI, toS, cop, bop, gOrd, gAdd, gSub, itemsOf, wipeE, bindT, tst, Function.comp_apply, gIx0, gIx1, gIx2, puts, putRV, isL, chg_eq, sE_tt, sE_tw, sE_tf, sE_tr, sE_wt, sE_ww, sE_wf, sE_wr, sE_ft, sE_fw, sE_ff, sE_fr, sE_rt, sE_rw, sE_rf, sE_rr, e0, gIx, L2.atI, L2.ixN, tk, t_turned, h4, hl, show i < ks.length from hs]
  | wait i =>
    have h := t_ticks (d+1) xs (.wait i) (by omega) (by simp) (by simp; exact hl ▸ hs)
    have h' := t_passed (d+1) xs (tk xs (.wait i)) (by omega)
    simp -implicitDefEqProofs [evSs, evS, evX, evRs, ev, evs, evV, evB, evC, evO, evI_seq, evI_zip, evI_rng1, evI_rng2, evI_rng3, evI_fns, endV, seqF, bnd_ret, getV, getF, getL, frz, thaw, isR, lft, noEx_ret, RV.toD, RV.toV, isTy, toB, toI, toS, cop, bop, gOrd, gAdd, gSub, itemsOf, wipeE, bindT, tst, Function.comp_apply, gIx0, gIx1, gIx2, puts, putRV, isL, chg_eq, sE_tt, sE_tw, sE_tf, sE_tr, sE_wt, sE_ww, sE_wf, sE_wr, sE_ft, sE_fw, sE_ff, sE_fr, sE_rt, sE_rw, sE_rf, sE_rr, e1, gIx, L2.atI, L2.ixN, aft]
    simp -implicitDefEqProofs [evSs, evS, evX, evRs, ev, evs, evV, evB, evC, evO, evI_seq, evI_zip, evI_rng1, evI_rng2, evI_rng3, evI_fns, endV, seqF, bnd_ret, getV, getF, getL, frz, thaw, isR, lft, noEx_ret, RV.toD, RV.toV, isTy, toB, toI, toS, cop, bop, gOrd, gAdd, gSub, itemsOf, wipeE, bindT, tst, Function.comp_apply, gIx0, gIx1, gIx2, puts, putRV, isL, chg_eq, sE_tt, sE_tw, sE_tf, sE_tr, sE_wt, sE_ww, sE_wf, sE_wr, sE_ft, sE_fw, sE_ff, sE_fr, sE_rt, sE_rw, sE_rf, sE_rr, h, h']
  | first =>
    have h := t_ticks (d+1) xs .first (by omega) (by simp) (by simp)
    have h' := t_passed (d+1) xs (tk xs .first) (by omega)
    simp -implicitDefEqProofs [evSs, evS, evX, evRs, ev, evs, evV, evB, evC, evO, evI_seq, evI_zip, evI_rng1, evI_rng2, evI_rng3, evI_fns, endV, seqF, bnd_ret, getV, getF, getL, frz, thaw, isR, lft, noEx_ret, RV.toD, RV.toV, isTy, toB, toI, toS, cop, bop, gOrd, gAdd, gSub, itemsOf, wipeE, bindT, tst, Function.comp_apply, gIx0, gIx1, gIx2, puts, putRV, isL, chg_eq, sE_tt, sE_tw, sE_tf, sE_tr, sE_wt, sE_ww, sE_wf, sE_wr, sE_ft, sE_fw, sE_ff, sE_fr, sE_rt, sE_rw, sE_rf, sE_rr, e2, gIx, L2.atI, L2.ixN, aft]
    simp -implicitDefEqProofs [evSs, evS, evX, evRs, ev, evs, evV, evB, evC, evO, evI_seq, evI_zip, evI_rng1, evI_rng2, evI_rng3, evI_fns, endV, seqF, bnd_ret, getV, getF, getL, frz, thaw, isR, lft, noEx_ret, RV.toD, RV.toV, isTy, toB, toI, toS, cop, bop, gOrd, gAdd, gSub, itemsOf, wipeE, bindT, tst, Function.comp_apply, gIx0, gIx1, gIx2, puts, putRV, isL, chg_eq, sE_tt, sE_tw, sE_tf, sE_tr, sE_wt, sE_ww, sE_wf, sE_wr, sE_ft, sE_fw, sE_ff, sE_fr, sE_rt, sE_rw, sE_rf, sE_rr, h, h']
  | ring =>
    have h := t_ticks (d+1) xs .ring (by omega) (by simp) (by simp)
    have h' := t_passed (d+1) xs (tk xs .ring) (by omega)
    simp -implicitDefEqProofs [evSs, evS, evX, evRs, ev, evs, evV, evB, evC, evO, evI_seq, evI_zip, evI_rng1, evI_rng2, evI_rng3, evI_fns, endV, seqF, bnd_ret, getV, getF, getL, frz, thaw, isR, lft, noEx_ret, RV.toD, RV.toV, isTy, toB, toI, toS, cop, bop, gOrd, gAdd, gSub, itemsOf, wipeE, bindT, tst, Function.comp_apply, gIx0, gIx1, gIx2, puts, putRV, isL, chg_eq, sE_tt, sE_tw, sE_tf, sE_tr, sE_wt, sE_ww, sE_wf, sE_wr, sE_ft, sE_fw, sE_ff, sE_fr, sE_rt, sE_rw, sE_rf, sE_rr, e3, gIx, L2.atI, L2.ixN, aft]
    simp -implicitDefEqProofs [evSs, evS, evX, evRs, ev, evs, evV, evB, evC, evO, evI_seq, evI_zip, evI_rng1, evI_rng2, evI_rng3, evI_fns, endV, seqF, bnd_ret, getV, getF, getL, frz, thaw, isR, lft, noEx_ret, RV.toD, RV.toV, isTy, toB, toI, toS, cop, bop, gOrd, gAdd, gSub, itemsOf, wipeE, bindT, tst, Function.comp_apply, gIx0, gIx1, gIx2, puts, putRV, isL, chg_eq, sE_tt, sE_tw, sE_tf, sE_tr, sE_wt, sE_ww, sE_wf, sE_wr, sE_ft, sE_fw, sE_ff, sE_fr, sE_rt, sE_rw, sE_rf, sE_rr, h, h']
end G05

-- PB05
set_option maxRecDepth 100000
set_option maxHeartbeats 4000000
namespace G05
open PySem G
theorem t_isSet (d : Nat) (ks : List Bool) (h0 : 1 ≤ ks.length) (h4 : ks.length ≤ 4) : Gm T (d+1) 1 [.dat (kD ks)] = ret (.d (.bool true)) := by
  have hT : T[1]? = some d1 := rfl
  rw [gm_open hT]
  simp only [runDf, d1, startE]
  have hi : itemsOf (kD ks) = some (ks.map fun b => .dat (.str ⟨#[kCh b]⟩)) := by rw [kD, itemsOf]; simp
  simp [evSs, evS, ev, evB, evs, evI, hi, endV, seqF, bnd_ret, getV, frz, thaw, lft, RV.toD, isTy, toB, tst, gLenK h4, cop, gOrd, h0, h4, evX, show ¬ (4 < (ks.length : Int)) by omega, show (1 : Int) ≤ (ks.length : Int) by omega, show (ks.length : Int) ≤ 4 by omega, wipeE]
  rw [mapV_none]
  · simp -implicitDefEqProofs [evSs, evS, evX, evRs, ev, evs, evV, evB, evC, evO, evI_seq, evI_zip, evI_rng1, evI_rng2, evI_rng3, evI_fns, endV, seqF, bnd_ret, getV, getF, getL, frz, thaw, isR, lft, noEx_ret, RV.toD, RV.toV, isTy, toB, toI, toS, cop, bop, gOrd, gAdd, gSub, itemsOf, wipeE, bindT, tst, Function.comp_apply, gIx0, gIx1, gIx2, puts, putRV, isL, chg_eq, sE_tt, sE_tw, sE_tf, sE_tr, sE_wt, sE_ww, sE_wf, sE_wr, sE_ft, sE_fw, sE_ff, sE_fr, sE_rt, sE_rw, sE_rf, sE_rr, sizeLine, gEq, SeqAt.shaped, PyData.canLay0, PyData.canLayAll0, PyData.depth, PyData.depthAll, PyData.eqv, PyData.eqvAll]
  · intro b _
    have e : gIn (.str ⟨#[kCh b]⟩) (.str "pq") = some true := by cases b <;> decide +kernel
    simp -implicitDefEqProofs [evSs, evS, evX, evRs, ev, evs, evV, evB, evC, evO, evI_seq, evI_zip, evI_rng1, evI_rng2, evI_rng3, evI_fns, endV, seqF, bnd_ret, getV, getF, getL, frz, thaw, isR, lft, noEx_ret, RV.toD, RV.toV, isTy, toB, toI, toS, cop, bop, gOrd, gAdd, gSub, itemsOf, wipeE, bindT, tst, Function.comp_apply, gIx0, gIx1, gIx2, puts, putRV, isL, chg_eq, sE_tt, sE_tw, sE_tf, sE_tr, sE_wt, sE_ww, sE_wf, sE_wr, sE_ft, sE_fw, sE_ff, sE_fr, sE_rt, sE_rw, sE_rf, sE_rr, e]
theorem t_isStep (d : Nat) (ks : List Bool) (s : St) (h0 : 1 ≤ ks.length) (h4 : ks.length ≤ 4) (hs : s.ok ks.length) : Gm T (d+2) 4 [.dat (kD ks), .dat s.d] = ret (.d (.bool true)) := by
  have hT : T[4]? = some d4 := rfl
  rw [gm_open hT]
  simp only [runDf, d4, startE]
  have sh : ∀ (t : Str) (i : Nat), PyData.strOk t = true → gEq (.tuple [.str t, .int i]) (.tuple []) = some false := by
    intro t i h
    simp [gEq, SeqAt.shaped, PyData.canLay0, PyData.canLayAll0, PyData.depth, PyData.depthAll, PyData.eqv, PyData.eqvAll, h]
  have n1 : gIn (.str "turn") (.tuple [.str "first", .str "ring"]) = some false := by decide +kernel
  have n2 : gIn (.str "wait") (.tuple [.str "first", .str "ring"]) = some false := by decide +kernel
  have n3 : gIn (.str "turn") (.tuple [.str "turn", .str "wait"]) = some true := by decide +kernel
  have n4 : gIn (.str "wait") (.tuple [.str "turn", .str "wait"]) = some true := by decide +kernel
  have n5 : gIn (.str "first") (.tuple [.str "first", .str "ring"]) = some true := by decide +kernel
  have n6 : gIn (.str "ring") (.tuple [.str "first", .str "ring"]) = some true := by decide +kernel
  have m1 : gEq (.int 2) (.int 2) = some true := by decide +kernel
  have m2 : gEq (.int 1) (.int 1) = some true := by decide +kernel
  cases s with
  | turn i =>
    have hi : i < ks.length := hs
    simp -implicitDefEqProofs [evSs, evS, evX, evRs, ev, evs, evV, evB, evC, evO, evI_seq, evI_zip, evI_rng1, evI_rng2, evI_rng3, evI_fns, endV, seqF, bnd_ret, getV, getF, getL, frz, thaw, isR, lft, noEx_ret, RV.toD, RV.toV, isTy, toB, toI, toS, cop, bop, gOrd, gAdd, gSub, itemsOf, wipeE, bindT, tst, Function.comp_apply, gIx0, gIx1, gIx2, puts, putRV, isL, chg_eq, sE_tt, sE_tw, sE_tf, sE_tr, sE_wt, sE_ww, sE_wf, sE_wr, sE_ft, sE_fw, sE_ff, sE_fr, sE_rt, sE_rw, sE_rf, sE_rr, sh "turn" i (by decide +kernel), n1, n3, gBf, m1, kS_len, sizeLine, show ks.length ≤ 16777216 by omega, t_isWhole, show (i : Int) ≤ (ks.length : Int) - 1 by omega]
  | wait i =>
    have hi : i < ks.length := hs
    simp -implicitDefEqProofs [evSs, evS, evX, evRs, ev, evs, evV, evB, evC, evO, evI_seq, evI_zip, evI_rng1, evI_rng2, evI_rng3, evI_fns, endV, seqF, bnd_ret, getV, getF, getL, frz, thaw, isR, lft, noEx_ret, RV.toD, RV.toV, isTy, toB, toI, toS, cop, bop, gOrd, gAdd, gSub, itemsOf, wipeE, bindT, tst, Function.comp_apply, gIx0, gIx1, gIx2, puts, putRV, isL, chg_eq, sE_tt, sE_tw, sE_tf, sE_tr, sE_wt, sE_ww, sE_wf, sE_wr, sE_ft, sE_fw, sE_ff, sE_fr, sE_rt, sE_rw, sE_rf, sE_rr, sh "wait" i (by decide +kernel), n2, n4, gBf, m1, kS_len, sizeLine, show ks.length ≤ 16777216 by omega, t_isWhole, show (i : Int) ≤ (ks.length : Int) - 1 by omega]
  | first =>
    have e : gEq St.first.d (.tuple []) = some false := by decide +kernel
    simp -implicitDefEqProofs [evSs, evS, evX, evRs, ev, evs, evV, evB, evC, evO, evI_seq, evI_zip, evI_rng1, evI_rng2, evI_rng3, evI_fns, endV, seqF, bnd_ret, getV, getF, getL, frz, thaw, isR, lft, noEx_ret, RV.toD, RV.toV, isTy, toB, toI, toS, cop, bop, gOrd, gAdd, gSub, itemsOf, wipeE, bindT, tst, Function.comp_apply, gIx0, gIx1, gIx2, puts, putRV, isL, chg_eq, sE_tt, sE_tw, sE_tf, sE_tr, sE_wt, sE_ww, sE_wf, sE_wr, sE_ft, sE_fw, sE_ff, sE_fr, sE_rt, sE_rw, sE_rf, sE_rr, e, n5, gBf, m2]
  | ring =>
    have e : gEq St.ring.d (.tuple []) = some false := by decide +kernel
    simp -implicitDefEqProofs [evSs, evS, evX, evRs, ev, evs, evV, evB, evC, evO, evI_seq, evI_zip, evI_rng1, evI_rng2, evI_rng3, evI_fns, endV, seqF, bnd_ret, getV, getF, getL, frz, thaw, isR, lft, noEx_ret, RV.toD, RV.toV, isTy, toB, toI, toS, cop, bop, gOrd, gAdd, gSub, itemsOf, wipeE, bindT, tst, Function.comp_apply, gIx0, gIx1, gIx2, puts, putRV, isL, chg_eq, sE_tt, sE_tw, sE_tf, sE_tr, sE_wt, sE_ww, sE_wf, sE_wr, sE_ft, sE_fw, sE_ff, sE_fr, sE_rt, sE_rw, sE_rf, sE_rr, e, n6, gBf, m2]
theorem t_isPlan (d : Nat) (ks : List Bool) (ss : List St) (h0 : 1 ≤ ks.length) (h4 : ks.length ≤ 4) (hn : ss.length ≤ 12) (hs : ∀ s ∈ ss, s.ok ks.length) :
    Gm T (d+3) 5 [.dat (.tuple [kD ks, .tuple (ss.map St.d)])] = ret (.d (.bool true)) := by
  have hT : T[5]? = some d5 := rfl
  rw [gm_open hT]
  simp only [runDf, d5, startE]
  have m1 : gEq (.int 2) (.int 2) = some true := by decide +kernel
  have m2 : gEq (.list []) (.list []) = some true := by decide +kernel
  simp -implicitDefEqProofs [evSs, evS, evX, evRs, ev, evs, evV, evB, evC, evO, evI_seq, evI_zip, evI_rng1, evI_rng2, evI_rng3, evI_fns, endV, seqF, bnd_ret, getV, getF, getL, frz, thaw, isR, lft, noEx_ret, RV.toD, RV.toV, isTy, toB, toI, toS, cop, bop, gOrd, gAdd, gSub, itemsOf, wipeE, bindT, tst, Function.comp_apply, gIx0, gIx1, gIx2, puts, putRV, isL, chg_eq, sE_tt, sE_tw, sE_tf, sE_tr, sE_wt, sE_ww, sE_wf, sE_wr, sE_ft, sE_fw, sE_ff, sE_fr, sE_rt, sE_rw, sE_rf, sE_rr, gBf, m1, t_isSet, h0, h4, gcon, hn, show ¬ (12 < (ss.length : Int)) by omega]
  rw [mapV_none]
  · simp -implicitDefEqProofs [evSs, evS, evX, evRs, ev, evs, evV, evB, evC, evO, evI_seq, evI_zip, evI_rng1, evI_rng2, evI_rng3, evI_fns, endV, seqF, bnd_ret, getV, getF, getL, frz, thaw, isR, lft, noEx_ret, RV.toD, RV.toV, isTy, toB, toI, toS, cop, bop, gOrd, gAdd, gSub, itemsOf, wipeE, bindT, tst, Function.comp_apply, gIx0, gIx1, gIx2, puts, putRV, isL, chg_eq, sE_tt, sE_tw, sE_tf, sE_tr, sE_wt, sE_ww, sE_wf, sE_wr, sE_ft, sE_fw, sE_ff, sE_fr, sE_rt, sE_rw, sE_rf, sE_rr, sizeLine, m2]
  · intro b hb
    simp -implicitDefEqProofs [evSs, evS, evX, evRs, ev, evs, evV, evB, evC, evO, evI_seq, evI_zip, evI_rng1, evI_rng2, evI_rng3, evI_fns, endV, seqF, bnd_ret, getV, getF, getL, frz, thaw, isR, lft, noEx_ret, RV.toD, RV.toV, isTy, toB, toI, toS, cop, bop, gOrd, gAdd, gSub, itemsOf, wipeE, bindT, tst, Function.comp_apply, gIx0, gIx1, gIx2, puts, putRV, isL, chg_eq, sE_tt, sE_tw, sE_tf, sE_tr, sE_wt, sE_ww, sE_wf, sE_wr, sE_ft, sE_fw, sE_ff, sE_fr, sE_rt, sE_rw, sE_rf, sE_rr, t_isStep d ks b h0 h4 (hs b hb)]
theorem t_needPlan (d : Nat) (ks : List Bool) (ss : List St) (h0 : 1 ≤ ks.length) (h4 : ks.length ≤ 4) (hn : ss.length ≤ 12) (hs : ∀ s ∈ ss, s.ok ks.length) :
    Gm T (d+4) 6 [.dat (.tuple [kD ks, .tuple (ss.map St.d)])] = ret (.d .none) := by
  have hT : T[6]? = some d6 := rfl
  rw [gm_open hT]
  simp only [runDf, d6, startE]
  simp -implicitDefEqProofs [evSs, evS, evX, evRs, ev, evs, evV, evB, evC, evO, evI_seq, evI_zip, evI_rng1, evI_rng2, evI_rng3, evI_fns, endV, seqF, bnd_ret, getV, getF, getL, frz, thaw, isR, lft, noEx_ret, RV.toD, RV.toV, isTy, toB, toI, toS, cop, bop, gOrd, gAdd, gSub, itemsOf, wipeE, bindT, tst, Function.comp_apply, gIx0, gIx1, gIx2, puts, putRV, isL, chg_eq, sE_tt, sE_tw, sE_tf, sE_tr, sE_wt, sE_ww, sE_wf, sE_wr, sE_ft, sE_fw, sE_ff, sE_fr, sE_rt, sE_rw, sE_rf, sE_rr, t_isPlan d ks ss h0 h4 hn hs]
end G05

-- PC05
set_option maxRecDepth 100000
set_option maxHeartbeats 4000000
namespace G05
open PySem G
theorem w_under (d : Nat) (n : Nat) (m : Int) (S : Sto) (hm : 0 < m) (hm' : m < 2 ^ 64) (hv : Vat n S) :
    Wp (Gm T (d+1) 38 [.loc n, .dat (.int m)]) S (fun v S' => Vat n S' ∧ ∃ r : Int, v = .d (.int r) ∧ 0 ≤ r ∧ r < m) := by
  have hT : T[38]? = some d38 := rfl
  rw [gm_open hT]
  simp only [runDf, d38, startE]
  obtain ⟨a, b, hS, ha, hb, hb'⟩ := hv
  have hn := vat_lt hS
  have r1 : ∀ x : Int, 0 ≤ x % m ∧ x % m < m := fun x => ⟨Int.emod_nonneg _ (by omega), Int.emod_lt_of_pos _ hm⟩
  have hl := log2_64 hm hm'
  by_cases hp : 0 < a
  · simp -implicitDefEqProofs [evSs, evS, evX, evRs, ev, evs, evV, evB, evC, evO, evI_seq, evI_zip, evI_rng1, evI_rng2, evI_rng3, evI_fns, endV, seqF, bnd_ret, getV, getF, getL, frz, thaw, isR, lft, noEx_ret, RV.toD, RV.toV, isTy, toB, toI, toS, cop, bop, gOrd, gAdd, gSub, itemsOf, wipeE, bindT, tst, Function.comp_apply, gIx0, gIx1, gIx2, puts, putRV, isL, chg_eq, sE_tt, sE_tw, sE_tf, sE_tr, sE_wt, sE_ww, sE_wf, sE_wr, sE_ft, sE_fw, sE_ff, sE_fr, sE_rt, sE_rw, sE_rf, sE_rr, wp_bnd, wp_ret, wp_atS hS, wp_chgL hS, at0, at1, gMod, gFdiv, gBf, hm, hl, hp, L2.ixN, noL]
    exact ⟨⟨a / m, b, by simp [hn], Int.ediv_nonneg ha (by omega), hb, hb'⟩, r1 a⟩
  · have hS2 : ∀ x, (S.set n x)[n]? = some x := by simp [hn]
    have q1 := fun (xs : List D) (k : Int) (Q : RV → Sto → Prop) => wp_atS (k := k) (Q := Q) (hS2 (.lst xs))
    have g1 := gMulC (i := b) (j := 39373) (by omega) (by omega)
    have b0 : 0 ≤ (b * 39373 + 101) % 2147483629 := Int.emod_nonneg _ (by omega)
    have b1 : (b * 39373 + 101) % 2147483629 < 2147483629 := Int.emod_lt_of_pos _ (by omega)
    have g2 := fun j => gMulB (i := (b * 39373 + 101) % 2147483629) (j := j) (by omega) (by omega)
    have l1 : Nat.log2 32 < 9000 := by decide +kernel
    have l2 : Nat.log2 5 < 9000 := by decide +kernel
    simp -implicitDefEqProofs [evSs, evS, evX, evRs, ev, evs, evV, evB, evC, evO, evI_seq, evI_zip, evI_rng1, evI_rng2, evI_rng3, evI_fns, endV, seqF, bnd_ret, getV, getF, getL, frz, thaw, isR, lft, noEx_ret, RV.toD, RV.toV, isTy, toB, toI, toS, cop, bop, gOrd, gAdd, gSub, itemsOf, wipeE, bindT, tst, Function.comp_apply, gIx0, gIx1, gIx2, puts, putRV, isL, chg_eq, sE_tt, sE_tw, sE_tf, sE_tr, sE_wt, sE_ww, sE_wf, sE_wr, sE_ft, sE_fw, sE_ff, sE_fr, sE_rt, sE_rw, sE_rf, sE_rr, wp_bnd, wp_ret, wp_atS hS, wp_chgL hS, at0, at1, gMod, gFdiv, gBf, hm, l1, l2, hp, L2.ixN, noL, q1, g1, g2]
    exact ⟨⟨a, _, by simp [hn], ha, b0, by omega⟩, r1 _⟩
theorem w_some (d : Nat) (n : Nat) (xs : List D) (S : Sto) (h0 : xs ≠ []) (h1 : xs.length ≤ 1000) (hv : Vat n S) :
    Wp (Gm T (d+2) 39 [.loc n, .dat (.list xs)]) S (fun v S' => Vat n S' ∧ ∃ x ∈ xs, v = .d x) := by
  have hT : T[39]? = some d39 := rfl
  rw [gm_open hT]
  simp only [runDf, d39, startE]
  have hl : 0 < xs.length := List.length_pos_iff.mpr h0
  simp -implicitDefEqProofs [evSs, evS, evX, evRs, ev, evs, evV, evB, evC, evO, evI_seq, evI_zip, evI_rng1, evI_rng2, evI_rng3, evI_fns, endV, seqF, bnd_ret, getV, getF, getL, frz, thaw, isR, lft, noEx_ret, RV.toD, RV.toV, isTy, toB, toI, toS, cop, bop, gOrd, gAdd, gSub, itemsOf, wipeE, bindT, tst, Function.comp_apply, gIx0, gIx1, gIx2, puts, putRV, isL, chg_eq, sE_tt, sE_tw, sE_tf, sE_tr, sE_wt, sE_ww, sE_wf, sE_wr, sE_ft, sE_fw, sE_ff, sE_fr, sE_rt, sE_rw, sE_rf, sE_rr, wp_bnd, wp_ret, gBf]
  refine wp_mono (w_under d n xs.length S (by omega) (by omega) hv) ?_
  rintro v S' ⟨hv', r, rfl, r0, r1⟩
  obtain ⟨k, rfl⟩ := Int.eq_ofNat_of_zero_le r0
  have hk : k < xs.length := by omega
  simp -implicitDefEqProofs [evSs, evS, evX, evRs, ev, evs, evV, evB, evC, evO, evI_seq, evI_zip, evI_rng1, evI_rng2, evI_rng3, evI_fns, endV, seqF, bnd_ret, getV, getF, getL, frz, thaw, isR, lft, noEx_ret, RV.toD, RV.toV, isTy, toB, toI, toS, cop, bop, gOrd, gAdd, gSub, itemsOf, wipeE, bindT, tst, Function.comp_apply, gIx0, gIx1, gIx2, puts, putRV, isL, chg_eq, sE_tt, sE_tw, sE_tf, sE_tr, sE_wt, sE_ww, sE_wf, sE_wr, sE_ft, sE_fw, sE_ff, sE_fr, sE_rt, sE_rw, sE_rf, sE_rr, wp_bnd, wp_ret, gIx, L2.atI, L2.ixN, hk, hv']
end G05

-- PD05
set_option maxRecDepth 100000
set_option maxHeartbeats 4000000
namespace G05
open PySem G
theorem w_step (d : Nat) (n : Nat) (ks : List Bool) (S : Sto) (h0 : 1 ≤ ks.length) (h4 : ks.length ≤ 4) (hv : Vat n S) :
    Wp (Gm T (d+2) 41 [.loc n, .dat (kD ks)]) S (fun v S' => Vat n S' ∧ ∃ s : St, s.ok ks.length ∧ v = .d s.d) := by
  have hT : T[41]? = some d41 := rfl
  rw [gm_open hT]
  simp only [runDf, d41, startE]
  simp -implicitDefEqProofs [evSs, evS, evX, evRs, ev, evs, evV, evB, evC, evO, evI_seq, evI_zip, evI_rng1, evI_rng2, evI_rng3, evI_fns, endV, seqF, bnd_ret, getV, getF, getL, frz, thaw, isR, lft, noEx_ret, RV.toD, RV.toV, isTy, toB, toI, toS, cop, bop, gOrd, gAdd, gSub, itemsOf, wipeE, bindT, tst, Function.comp_apply, gIx0, gIx1, gIx2, puts, putRV, isL, chg_eq, sE_tt, sE_tw, sE_tf, sE_tr, sE_wt, sE_ww, sE_wf, sE_wr, sE_ft, sE_fw, sE_ff, sE_fr, sE_rt, sE_rw, sE_rf, sE_rr, wp_bnd, wp_ret]
  refine wp_mono (w_under d n 9 S (by omega) (by omega) hv) ?_
  rintro v S1 ⟨hv1, r, rfl, r0, r1⟩
  simp -implicitDefEqProofs [evSs, evS, evX, evRs, ev, evs, evV, evB, evC, evO, evI_seq, evI_zip, evI_rng1, evI_rng2, evI_rng3, evI_fns, endV, seqF, bnd_ret, getV, getF, getL, frz, thaw, isR, lft, noEx_ret, RV.toD, RV.toV, isTy, toB, toI, toS, cop, bop, gOrd, gAdd, gSub, itemsOf, wipeE, bindT, tst, Function.comp_apply, gIx0, gIx1, gIx2, puts, putRV, isL, chg_eq, sE_tt, sE_tw, sE_tf, sE_tr, sE_wt, sE_ww, sE_wf, sE_wr, sE_ft, sE_fw, sE_ff, sE_fr, sE_rt, sE_rw, sE_rf, sE_rr, wp_bnd, wp_ret, gLenK h4]
  refine wp_mono (w_under d n ks.length S1 (by omega) (by omega) hv1) ?_
  rintro v S2 ⟨hv2, q, rfl, q0, q1⟩
  obtain ⟨k, rfl⟩ := Int.eq_ofNat_of_zero_le q0
  have hk : k < ks.length := by omega
  by_cases c1 : r < 4
  · simp -implicitDefEqProofs [evSs, evS, evX, evRs, ev, evs, evV, evB, evC, evO, evI_seq, evI_zip, evI_rng1, evI_rng2, evI_rng3, evI_fns, endV, seqF, bnd_ret, getV, getF, getL, frz, thaw, isR, lft, noEx_ret, RV.toD, RV.toV, isTy, toB, toI, toS, cop, bop, gOrd, gAdd, gSub, itemsOf, wipeE, bindT, tst, Function.comp_apply, gIx0, gIx1, gIx2, puts, putRV, isL, chg_eq, sE_tt, sE_tw, sE_tf, sE_tr, sE_wt, sE_ww, sE_wf, sE_wr, sE_ft, sE_fw, sE_ff, sE_fr, sE_rt, sE_rw, sE_rf, sE_rr, wp_bnd, wp_ret, c1, hv2]
    exact ⟨.turn k, hk, rfl⟩
  · by_cases c2 : r < 6
    · simp -implicitDefEqProofs [evSs, evS, evX, evRs, ev, evs, evV, evB, evC, evO, evI_seq, evI_zip, evI_rng1, evI_rng2, evI_rng3, evI_fns, endV, seqF, bnd_ret, getV, getF, getL, frz, thaw, isR, lft, noEx_ret, RV.toD, RV.toV, isTy, toB, toI, toS, cop, bop, gOrd, gAdd, gSub, itemsOf, wipeE, bindT, tst, Function.comp_apply, gIx0, gIx1, gIx2, puts, putRV, isL, chg_eq, sE_tt, sE_tw, sE_tf, sE_tr, sE_wt, sE_ww, sE_wf, sE_wr, sE_ft, sE_fw, sE_ff, sE_fr, sE_rt, sE_rw, sE_rf, sE_rr, wp_bnd, wp_ret, c1, c2, hv2]
      exact ⟨.wait k, hk, rfl⟩
    · by_cases c3 : r < 8
      · simp -implicitDefEqProofs [evSs, evS, evX, evRs, ev, evs, evV, evB, evC, evO, evI_seq, evI_zip, evI_rng1, evI_rng2, evI_rng3, evI_fns, endV, seqF, bnd_ret, getV, getF, getL, frz, thaw, isR, lft, noEx_ret, RV.toD, RV.toV, isTy, toB, toI, toS, cop, bop, gOrd, gAdd, gSub, itemsOf, wipeE, bindT, tst, Function.comp_apply, gIx0, gIx1, gIx2, puts, putRV, isL, chg_eq, sE_tt, sE_tw, sE_tf, sE_tr, sE_wt, sE_ww, sE_wf, sE_wr, sE_ft, sE_fw, sE_ff, sE_fr, sE_rt, sE_rw, sE_rf, sE_rr, wp_bnd, wp_ret, c1, c2, c3, hv2]
        exact ⟨.first, trivial, rfl⟩
      · simp -implicitDefEqProofs [evSs, evS, evX, evRs, ev, evs, evV, evB, evC, evO, evI_seq, evI_zip, evI_rng1, evI_rng2, evI_rng3, evI_fns, endV, seqF, bnd_ret, getV, getF, getL, frz, thaw, isR, lft, noEx_ret, RV.toD, RV.toV, isTy, toB, toI, toS, cop, bop, gOrd, gAdd, gSub, itemsOf, wipeE, bindT, tst, Function.comp_apply, gIx0, gIx1, gIx2, puts, putRV, isL, chg_eq, sE_tt, sE_tw, sE_tf, sE_tr, sE_wt, sE_ww, sE_wf, sE_wr, sE_ft, sE_fw, sE_ff, sE_fr, sE_rt, sE_rw, sE_rf, sE_rr, wp_bnd, wp_ret, c1, c2, c3, hv2]
        exact ⟨.ring, trivial, rfl⟩
theorem w_waits (d : Nat) (n : Nat) (ks : List Bool) (S : Sto) (h0 : 1 ≤ ks.length) (h4 : ks.length ≤ 4) (hv : Vat n S) :
    Wp (Gm T (d+3) 42 [.loc n, .dat (kD ks)]) S (fun v S' => Vat n S' ∧ ∃ s : St, s.ok ks.length ∧ v = .d s.d) := by
  have hT : T[42]? = some d42 := rfl
  rw [gm_open hT]
  simp only [runDf, d42, startE]
  simp -implicitDefEqProofs [evSs, evS, evX, evRs, ev, evs, evV, evB, evC, evO, evI_seq, evI_zip, evI_rng1, evI_rng2, evI_rng3, evI_fns, endV, seqF, bnd_ret, getV, getF, getL, frz, thaw, isR, lft, noEx_ret, RV.toD, RV.toV, isTy, toB, toI, toS, cop, bop, gOrd, gAdd, gSub, itemsOf, wipeE, bindT, tst, Function.comp_apply, gIx0, gIx1, gIx2, puts, putRV, isL, chg_eq, sE_tt, sE_tw, sE_tf, sE_tr, sE_wt, sE_ww, sE_wf, sE_wr, sE_ft, sE_fw, sE_ff, sE_fr, sE_rt, sE_rw, sE_rf, sE_rr, wp_bnd, wp_ret, gLenK h4]
  refine wp_mono (w_under (d+1) n ks.length S (by omega) (by omega) hv) ?_
  rintro v S1 ⟨hv1, q, rfl, q0, q1⟩
  obtain ⟨k, rfl⟩ := Int.eq_ofNat_of_zero_le q0
  have hk : k < ks.length := by omega
  simp -implicitDefEqProofs [evSs, evS, evX, evRs, ev, evs, evV, evB, evC, evO, evI_seq, evI_zip, evI_rng1, evI_rng2, evI_rng3, evI_fns, endV, seqF, bnd_ret, getV, getF, getL, frz, thaw, isR, lft, noEx_ret, RV.toD, RV.toV, isTy, toB, toI, toS, cop, bop, gOrd, gAdd, gSub, itemsOf, wipeE, bindT, tst, Function.comp_apply, gIx0, gIx1, gIx2, puts, putRV, isL, chg_eq, sE_tt, sE_tw, sE_tf, sE_tr, sE_wt, sE_ww, sE_wf, sE_wr, sE_ft, sE_fw, sE_ff, sE_fr, sE_rt, sE_rw, sE_rf, sE_rr, wp_bnd, wp_ret]
  refine wp_mono (w_some d n _ S1 (by simp) (by simp) hv1) ?_
  rintro v S2 ⟨hv2, x, hx, rfl⟩
  simp -implicitDefEqProofs [evSs, evS, evX, evRs, ev, evs, evV, evB, evC, evO, evI_seq, evI_zip, evI_rng1, evI_rng2, evI_rng3, evI_fns, endV, seqF, bnd_ret, getV, getF, getL, frz, thaw, isR, lft, noEx_ret, RV.toD, RV.toV, isTy, toB, toI, toS, cop, bop, gOrd, gAdd, gSub, itemsOf, wipeE, bindT, tst, Function.comp_apply, gIx0, gIx1, gIx2, puts, putRV, isL, chg_eq, sE_tt, sE_tw, sE_tf, sE_tr, sE_wt, sE_ww, sE_wf, sE_wr, sE_ft, sE_fw, sE_ff, sE_fr, sE_rt, sE_rw, sE_rf, sE_rr, wp_bnd, wp_ret, hv2]
  simp at hx
  rcases hx with rfl | rfl
  · exact ⟨.first, trivial, rfl⟩
  · exact ⟨.wait k, hk, rfl⟩
theorem strsK : ∀ ks : List Bool, strsOf (ks.map fun b => .str ⟨#[kCh b]⟩) = some (ks.map fun b => ⟨#[kCh b]⟩)
  | [] => rfl
  | _ :: ks => by rw [List.map_cons, strsOf, strsK ks]; rfl
theorem jnK : ∀ ks : List Bool, ks.length ≤ 4 → Txt.join "" (ks.map fun b => ⟨#[kCh b]⟩) = kS ks ∧ ((ks.map fun b => (⟨#[kCh b]⟩ : Str)).map (·.length)).sum + (ks.map fun b => (⟨#[kCh b]⟩ : Str)).length * ("" : Str).length ≤ 16777216
  | [], _ => by decide +kernel
  | [a], _ => by cases a <;> decide +kernel
  | [a, b], _ => by cases a <;> cases b <;> decide +kernel
  | [a, b, c], _ => by cases a <;> cases b <;> cases c <;> decide +kernel
  | [a, b, c, e], _ => by cases a <;> cases b <;> cases c <;> cases e <;> decide +kernel
  | _ :: _ :: _ :: _ :: _ :: _, h => by simp at h; try omega
theorem joinK (ks : List Bool) (h : ks.length ≤ 4) : gMt .join "" [.list (ks.map fun b => .str ⟨#[kCh b]⟩)] = some (.d (kD ks)) := by
  rw [gMt, strsK, Option.bind_some, if_pos (jnK ks h).2, (jnK ks h).1]
theorem w_kinds (d : Nat) (n : Nat) (most : Int) (S : Sto) (h1 : 1 ≤ most) (h4 : most ≤ 4) (hv : Vat n S) :
    Wp (Gm T (d+3) 40 [.loc n, .dat (.int most)]) S (fun v S' => Vat n S' ∧ ∃ ks : List Bool, 1 ≤ ks.length ∧ (ks.length : Int) ≤ most ∧ v = .d (kD ks)) := by
  have hT : T[40]? = some d40 := rfl
  rw [gm_open hT]
  simp only [runDf, d40, startE]
  simp -implicitDefEqProofs [evSs, evS, evX, evRs, ev, evs, evV, evB, evC, evO, evI_seq, evI_zip, evI_rng1, evI_rng2, evI_rng3, evI_fns, endV, seqF, bnd_ret, getV, getF, getL, frz, thaw, isR, lft, noEx_ret, RV.toD, RV.toV, isTy, toB, toI, toS, cop, bop, gOrd, gAdd, gSub, itemsOf, wipeE, bindT, tst, Function.comp_apply, gIx0, gIx1, gIx2, puts, putRV, isL, chg_eq, sE_tt, sE_tw, sE_tf, sE_tr, sE_wt, sE_ww, sE_wf, sE_wr, sE_ft, sE_fw, sE_ff, sE_fr, sE_rt, sE_rw, sE_rf, sE_rr, wp_bnd, wp_ret]
  refine wp_mono (w_some (d) n _ S (by simp) (by simp) hv) ?_
  rintro v S1 ⟨hv1, x, hx, rfl⟩
  have : ∃ m : Int, 1 ≤ m ∧ m ≤ 4 ∧ x = .int m := by
    simp at hx
    rcases hx with rfl | rfl | rfl | rfl <;> exact ⟨_, by omega, by omega, rfl⟩
  obtain ⟨m, m1, m4, rfl⟩ := this
  have hw : ∃ w : Nat, 1 ≤ w ∧ (w : Int) ≤ most ∧ (if most < m then most else m) = (w : Int) := by
    refine ⟨(if most < m then most else m).toNat, ?_⟩
    split <;> omega
  obtain ⟨w, w1, w4, hw⟩ := hw
  simp -implicitDefEqProofs [evSs, evS, evX, evRs, ev, evs, evV, evB, evC, evO, evI_seq, evI_zip, evI_rng1, evI_rng2, evI_rng3, evI_fns, endV, seqF, bnd_ret, getV, getF, getL, frz, thaw, isR, lft, noEx_ret, RV.toD, RV.toV, isTy, toB, toI, toS, cop, bop, gOrd, gAdd, gSub, itemsOf, wipeE, bindT, tst, Function.comp_apply, gIx0, gIx1, gIx2, puts, putRV, isL, chg_eq, sE_tt, sE_tw, sE_tf, sE_tr, sE_wt, sE_ww, sE_wf, sE_wr, sE_ft, sE_fw, sE_ff, sE_fr, sE_rt, sE_rw, sE_rf, sE_rr, wp_bnd, wp_ret, gBf, hw, rngM_nat (n := w) (by omega)]
  refine wp_mono (mapV_wp (I := Vat n) (R := fun _ (x : D) => ∃ b : Bool, x = .str ⟨#[kCh b]⟩) ?_ hv1) ?_
  · intro x _ S2 hv2
    refine noEx_wp ?_
    simp -implicitDefEqProofs [evSs, evS, evX, evRs, ev, evs, evV, evB, evC, evO, evI_seq, evI_zip, evI_rng1, evI_rng2, evI_rng3, evI_fns, endV, seqF, bnd_ret, getV, getF, getL, frz, thaw, isR, lft, noEx_ret, RV.toD, RV.toV, isTy, toB, toI, toS, cop, bop, gOrd, gAdd, gSub, itemsOf, wipeE, bindT, tst, Function.comp_apply, gIx0, gIx1, gIx2, puts, putRV, isL, chg_eq, sE_tt, sE_tw, sE_tf, sE_tr, sE_wt, sE_ww, sE_wf, sE_wr, sE_ft, sE_fw, sE_ff, sE_fr, sE_rt, sE_rw, sE_rf, sE_rr, wp_bnd, wp_ret]
    refine wp_mono (w_some d n _ S2 (by simp) (by simp) hv2) ?_
    rintro v S3 ⟨hv3, x, hx, rfl⟩
    simp -implicitDefEqProofs [evSs, evS, evX, evRs, ev, evs, evV, evB, evC, evO, evI_seq, evI_zip, evI_rng1, evI_rng2, evI_rng3, evI_fns, endV, seqF, bnd_ret, getV, getF, getL, frz, thaw, isR, lft, noEx_ret, RV.toD, RV.toV, isTy, toB, toI, toS, cop, bop, gOrd, gAdd, gSub, itemsOf, wipeE, bindT, tst, Function.comp_apply, gIx0, gIx1, gIx2, puts, putRV, isL, chg_eq, sE_tt, sE_tw, sE_tf, sE_tr, sE_wt, sE_ww, sE_wf, sE_wr, sE_ft, sE_fw, sE_ff, sE_fr, sE_rt, sE_rw, sE_rf, sE_rr, wp_bnd, wp_ret, hv3]
    simp only [List.mem_cons, List.not_mem_nil, or_false] at hx
    rcases hx with rfl | rfl
    · exact Or.inl (congrArg PyData.str (by decide +kernel))
    · exact Or.inr (congrArg PyData.str (by decide +kernel))
  · rintro r S2 ⟨hv2, hl, hr⟩
    have hks : ∃ ks : List Bool, r = ks.map fun b => .str ⟨#[kCh b]⟩ := by
      clear hl
      induction r with
      | nil => exact ⟨[], rfl⟩
      | cons x r ih =>
        obtain ⟨ks, rfl⟩ := ih fun a ha => hr a (List.mem_cons_of_mem _ ha)
        obtain ⟨_, _, b, rfl⟩ := hr x (List.mem_cons_self ..)
        exact ⟨b :: ks, rfl⟩
    obtain ⟨ks, rfl⟩ := hks
    have hlk : ks.length = w := by simpa using hl
    have hb : (List.map (fun b => PyData.str ⟨#[kCh b]⟩) ks).length ≤ 16777216 := by simp; omega
    simp -implicitDefEqProofs [evSs, evS, evX, evRs, ev, evs, evV, evB, evC, evO, evI_seq, evI_zip, evI_rng1, evI_rng2, evI_rng3, evI_fns, endV, seqF, bnd_ret, getV, getF, getL, frz, thaw, isR, lft, noEx_ret, RV.toD, RV.toV, isTy, toB, toI, toS, cop, bop, gOrd, gAdd, gSub, itemsOf, wipeE, bindT, tst, Function.comp_apply, gIx0, gIx1, gIx2, puts, putRV, isL, chg_eq, sE_tt, sE_tw, sE_tf, sE_tr, sE_wt, sE_ww, sE_wf, sE_wr, sE_ft, sE_fw, sE_ff, sE_fr, sE_rt, sE_rw, sE_rf, sE_rr, wp_bnd, wp_ret, gBf, sizeLine, show ks.length ≤ 16777216 by omega]
    have fin : ∀ (ks : List Bool) (S' : Sto), ks.length = w → Vat n S' → gMt .join "" [.list (ks.map fun b => .str ⟨#[kCh b]⟩)] = some (.d (kD ks)) := fun ks S' h _ => joinK ks (by omega)
    have ep : PyData.str (Str.ofString "p") = .str ⟨#[kCh false]⟩ := congrArg PyData.str (by decide +kernel)
    have eq : PyData.str (Str.ofString "q") = .str ⟨#[kCh true]⟩ := congrArg PyData.str (by decide +kernel)
    by_cases c1 : 1 < ks.length
    · simp -implicitDefEqProofs [evSs, evS, evX, evRs, ev, evs, evV, evB, evC, evO, evI_seq, evI_zip, evI_rng1, evI_rng2, evI_rng3, evI_fns, endV, seqF, bnd_ret, getV, getF, getL, frz, thaw, isR, lft, noEx_ret, RV.toD, RV.toV, isTy, toB, toI, toS, cop, bop, gOrd, gAdd, gSub, itemsOf, wipeE, bindT, tst, Function.comp_apply, gIx0, gIx1, gIx2, puts, putRV, isL, chg_eq, sE_tt, sE_tw, sE_tf, sE_tr, sE_wt, sE_ww, sE_wf, sE_wr, sE_ft, sE_fw, sE_ff, sE_fr, sE_rt, sE_rw, sE_rf, sE_rr, wp_bnd, wp_ret, show (1 : Int) < (ks.length : Int) by omega]
      refine wp_mono (w_under (d+1) n 3 S2 (by omega) (by omega) hv2) ?_
      rintro v S3 ⟨hv3, q, rfl, q0, q1⟩
      by_cases c2 : 0 < q
      · have hset : ((ks.map fun b => PyData.str ⟨#[kCh b]⟩).set 0 (.str ⟨#[kCh false]⟩)).set 1 (.str ⟨#[kCh true]⟩) = ((ks.set 0 false).set 1 true).map fun b => PyData.str ⟨#[kCh b]⟩ := by rw [List.map_set, List.map_set]
        have hf := fin ((ks.set 0 false).set 1 true) S3 (by simp [hlk]) hv3
        simp -implicitDefEqProofs [evSs, evS, evX, evRs, ev, evs, evV, evB, evC, evO, evI_seq, evI_zip, evI_rng1, evI_rng2, evI_rng3, evI_fns, endV, seqF, bnd_ret, getV, getF, getL, frz, thaw, isR, lft, noEx_ret, RV.toD, RV.toV, isTy, toB, toI, toS, cop, bop, gOrd, gAdd, gSub, itemsOf, wipeE, bindT, tst, Function.comp_apply, gIx0, gIx1, gIx2, puts, putRV, isL, chg_eq, sE_tt, sE_tw, sE_tf, sE_tr, sE_wt, sE_ww, sE_wf, sE_wr, sE_ft, sE_fw, sE_ff, sE_fr, sE_rt, sE_rw, sE_rf, sE_rr, wp_bnd, wp_ret, c2, noL, L2.ixN, show (1 : Int) < (ks.length : Int) by omega, show 0 < ks.length by omega]
        rw [ep, eq, hset, hf]
        simp -implicitDefEqProofs [evSs, evS, evX, evRs, ev, evs, evV, evB, evC, evO, evI_seq, evI_zip, evI_rng1, evI_rng2, evI_rng3, evI_fns, endV, seqF, bnd_ret, getV, getF, getL, frz, thaw, isR, lft, noEx_ret, RV.toD, RV.toV, isTy, toB, toI, toS, cop, bop, gOrd, gAdd, gSub, itemsOf, wipeE, bindT, tst, Function.comp_apply, gIx0, gIx1, gIx2, puts, putRV, isL, chg_eq, sE_tt, sE_tw, sE_tf, sE_tr, sE_wt, sE_ww, sE_wf, sE_wr, sE_ft, sE_fw, sE_ff, sE_fr, sE_rt, sE_rw, sE_rf, sE_rr, wp_bnd, wp_ret, hv3]
        exact ⟨(ks.set 0 false).set 1 true, by simp; omega, by simp; omega, by rw [List.map_set, List.map_set]⟩
      · have hf := fin ks S3 hlk hv3
        simp -implicitDefEqProofs [evSs, evS, evX, evRs, ev, evs, evV, evB, evC, evO, evI_seq, evI_zip, evI_rng1, evI_rng2, evI_rng3, evI_fns, endV, seqF, bnd_ret, getV, getF, getL, frz, thaw, isR, lft, noEx_ret, RV.toD, RV.toV, isTy, toB, toI, toS, cop, bop, gOrd, gAdd, gSub, itemsOf, wipeE, bindT, tst, Function.comp_apply, gIx0, gIx1, gIx2, puts, putRV, isL, chg_eq, sE_tt, sE_tw, sE_tf, sE_tr, sE_wt, sE_ww, sE_wf, sE_wr, sE_ft, sE_fw, sE_ff, sE_fr, sE_rt, sE_rw, sE_rf, sE_rr, wp_bnd, wp_ret, c2, hf, hv3]
        exact ⟨ks, by omega, by omega, rfl⟩
    · have hf := fin ks S2 hlk hv2
      simp -implicitDefEqProofs [evSs, evS, evX, evRs, ev, evs, evV, evB, evC, evO, evI_seq, evI_zip, evI_rng1, evI_rng2, evI_rng3, evI_fns, endV, seqF, bnd_ret, getV, getF, getL, frz, thaw, isR, lft, noEx_ret, RV.toD, RV.toV, isTy, toB, toI, toS, cop, bop, gOrd, gAdd, gSub, itemsOf, wipeE, bindT, tst, Function.comp_apply, gIx0, gIx1, gIx2, puts, putRV, isL, chg_eq, sE_tt, sE_tw, sE_tf, sE_tr, sE_wt, sE_ww, sE_wf, sE_wr, sE_ft, sE_fw, sE_ff, sE_fr, sE_rt, sE_rw, sE_rf, sE_rr, wp_bnd, wp_ret, show ¬ ((1 : Int) < (ks.length : Int)) by omega, hf, hv2]
      exact ⟨ks, by omega, by omega, rfl⟩
end G05

-- PE05
set_option maxRecDepth 100000
set_option maxHeartbeats 4000000
namespace G05
open PySem G
theorem gEqT0 {ss : List St} : gEq (.tuple (ss.map St.d)) (.tuple []) = some (decide (ss = [])) := by
  have canl : ∀ s : St, PyData.canLay0 s.d = true := by
    have h1 : PyData.strOk "turn" = true := by decide +kernel
    have h2 : PyData.strOk "wait" = true := by decide +kernel
    have h3 : PyData.strOk "first" = true := by decide +kernel
    have h4 : PyData.strOk "ring" = true := by decide +kernel
    intro s
    cases s <;> simp [PyData.canLay0, PyData.canLayAll0, h1, h2, h3, h4]
  have dep : ∀ s : St, PyData.depth s.d = 1 := by
    intro s
    cases s <;> simp [PyData.depth, PyData.depthAll]
  have a1 : ∀ ss : List St, PyData.canLayAll0 (ss.map St.d) = true := by
    intro ss
    induction ss with
    | nil => rfl
    | cons s ss ih => rw [List.map_cons, PyData.canLayAll0, canl, ih]; rfl
  have a2 : ∀ ss : List St, PyData.depthAll (ss.map St.d) ≤ 1 := by
    intro ss
    induction ss with
    | nil => simp [PyData.depthAll]
    | cons s ss ih => rw [List.map_cons, PyData.depthAll, dep]; omega
  have sh : SeqAt.shaped (.tuple (ss.map St.d)) = true := by
    unfold SeqAt.shaped
    rw [PyData.canLay0, PyData.depth, a1]
    have := a2 ss
    simp
    omega
  have sh0 : SeqAt.shaped (.tuple []) = true := by decide +kernel
  rw [gEq, if_pos ⟨sh, sh0⟩, PyData.eqv]
  cases ss <;> simp [PyData.eqvAll]
theorem w_steps (d : Nat) (n : Nat) (ks : List Bool) (most : Nat) (S : Sto) (h0 : 1 ≤ ks.length) (h4 : ks.length ≤ 4) (hm : most ≤ 1000) (hv : Vat n S) :
    Wp (Gm T (d+4) 43 [.loc n, .dat (kD ks), .dat (.int most)]) S (fun v S' => Vat n S' ∧ ∃ ss : List St, ss.length ≤ most ∧ (∀ s ∈ ss, s.ok ks.length) ∧ v = .d (.tuple (ss.map St.d))) := by
  have hT : T[43]? = some d43 := rfl
  rw [gm_open hT]
  simp only [runDf, d43, startE]
  simp -implicitDefEqProofs [wps_cons, wps_nil, seqF_nx, seqF_ret, seqF_brk, seqF_cont, wp_bnd, wp_ret, evS, evX, evRs, ev, evs, evV, evB, evC, evO, evI_seq, evI_zip, evI_rng1, evI_rng2, evI_rng3, evI_fns, endV, bnd_ret, getV, getF, getL, frz, thaw, isR, lft, noEx_ret, RV.toD, RV.toV, isTy, toB, toI, toS, cop, bop, gOrd, gAdd, gSub, itemsOf, wipeE, bindT, tst, Function.comp_apply, gIx0, gIx1, gIx2, puts, putRV, isL, chg_eq, sE_tt, sE_tw, sE_tf, sE_tr, sE_wt, sE_ww, sE_wf, sE_wr, sE_ft, sE_fw, sE_ff, sE_fr, sE_rt, sE_rw, sE_rf, sE_rr]
  refine wp_mono (w_under (d+2) n 4 S (by omega) (by omega) hv) ?_
  rintro v S1 ⟨hv1, q, rfl, q0, q1⟩
  simp -implicitDefEqProofs [wps_cons, wps_nil, seqF_nx, seqF_ret, seqF_brk, seqF_cont, wp_bnd, wp_ret, evS, evX, evRs, ev, evs, evV, evB, evC, evO, evI_seq, evI_zip, evI_rng1, evI_rng2, evI_rng3, evI_fns, endV, bnd_ret, getV, getF, getL, frz, thaw, isR, lft, noEx_ret, RV.toD, RV.toV, isTy, toB, toI, toS, cop, bop, gOrd, gAdd, gSub, itemsOf, wipeE, bindT, tst, Function.comp_apply, gIx0, gIx1, gIx2, puts, putRV, isL, chg_eq, sE_tt, sE_tw, sE_tf, sE_tr, sE_wt, sE_ww, sE_wf, sE_wr, sE_ft, sE_fw, sE_ff, sE_fr, sE_rt, sE_rw, sE_rf, sE_rr, gLenK h4]
  refine wp_mono (Q := fun r S' => S' = S1 ∧ ∃ ss : List St, ss.length ≤ 4 ∧ (∀ s ∈ ss, s.ok ks.length) ∧ r = (.nx, [.vl (.loc n), .vl (.dat (kD ks)), .vl (.dat (.int most)), .vl (.dat (.tuple (ss.map St.d))), .un, .un, .un])) ?_ ?_
  · by_cases c : 0 < q
    · rw [if_pos c]
      simp -implicitDefEqProofs [wps_cons, wps_nil, seqF_nx, seqF_ret, seqF_brk, seqF_cont, wp_bnd, wp_ret, evS, evX, evRs, ev, evs, evV, evB, evC, evO, evI_seq, evI_zip, evI_rng1, evI_rng2, evI_rng3, evI_fns, endV, bnd_ret, getV, getF, getL, frz, thaw, isR, lft, noEx_ret, RV.toD, RV.toV, isTy, toB, toI, toS, cop, bop, gOrd, gAdd, gSub, itemsOf, wipeE, bindT, tst, Function.comp_apply, gIx0, gIx1, gIx2, puts, putRV, isL, chg_eq, sE_tt, sE_tw, sE_tf, sE_tr, sE_wt, sE_ww, sE_wf, sE_wr, sE_ft, sE_fw, sE_ff, sE_fr, sE_rt, sE_rw, sE_rf, sE_rr, gLenK h4, rngM_nat (n := ks.length) (by omega)]
      rw [mapV_pure (e := natV) (g := fun k => some (St.turn k).d)]
      · simp -implicitDefEqProofs [wps_cons, wps_nil, seqF_nx, seqF_ret, seqF_brk, seqF_cont, wp_bnd, wp_ret, evS, evX, evRs, ev, evs, evV, evB, evC, evO, evI_seq, evI_zip, evI_rng1, evI_rng2, evI_rng3, evI_fns, endV, bnd_ret, getV, getF, getL, frz, thaw, isR, lft, noEx_ret, RV.toD, RV.toV, isTy, toB, toI, toS, cop, bop, gOrd, gAdd, gSub, itemsOf, wipeE, bindT, tst, Function.comp_apply, gIx0, gIx1, gIx2, puts, putRV, isL, chg_eq, sE_tt, sE_tw, sE_tf, sE_tr, sE_wt, sE_ww, sE_wf, sE_wr, sE_ft, sE_fw, sE_ff, sE_fr, sE_rt, sE_rw, sE_rf, sE_rr, gBf, sizeLine, show ks.length ≤ 16777216 by omega]
        exact ⟨(List.range ks.length).map .turn, by simpa using h4, by simp [St.ok], by simp [Function.comp_def]⟩
      · intro b _
        simp -implicitDefEqProofs [evSs, evS, evX, evRs, ev, evs, evV, evB, evC, evO, evI_seq, evI_zip, evI_rng1, evI_rng2, evI_rng3, evI_fns, endV, seqF, bnd_ret, getV, getF, getL, frz, thaw, isR, lft, noEx_ret, RV.toD, RV.toV, isTy, toB, toI, toS, cop, bop, gOrd, gAdd, gSub, itemsOf, wipeE, bindT, tst, Function.comp_apply, gIx0, gIx1, gIx2, puts, putRV, isL, chg_eq, sE_tt, sE_tw, sE_tf, sE_tr, sE_wt, sE_ww, sE_wf, sE_wr, sE_ft, sE_fw, sE_ff, sE_fr, sE_rt, sE_rw, sE_rf, sE_rr]
    · rw [if_neg c]
      simp -implicitDefEqProofs [wps_cons, wps_nil, seqF_nx, seqF_ret, seqF_brk, seqF_cont, wp_bnd, wp_ret, evS, evX, evRs, ev, evs, evV, evB, evC, evO, evI_seq, evI_zip, evI_rng1, evI_rng2, evI_rng3, evI_fns, endV, bnd_ret, getV, getF, getL, frz, thaw, isR, lft, noEx_ret, RV.toD, RV.toV, isTy, toB, toI, toS, cop, bop, gOrd, gAdd, gSub, itemsOf, wipeE, bindT, tst, Function.comp_apply, gIx0, gIx1, gIx2, puts, putRV, isL, chg_eq, sE_tt, sE_tw, sE_tf, sE_tr, sE_wt, sE_ww, sE_wf, sE_wr, sE_ft, sE_fw, sE_ff, sE_fr, sE_rt, sE_rw, sE_rf, sE_rr]
  rintro r S1' ⟨rfl, ss, hl, hok, rfl⟩
  simp -implicitDefEqProofs [wps_cons, wps_nil, seqF_nx, seqF_ret, seqF_brk, seqF_cont, wp_bnd, wp_ret, evS, evX, evRs, ev, evs, evV, evB, evC, evO, evI_seq, evI_zip, evI_rng1, evI_rng2, evI_rng3, evI_fns, endV, bnd_ret, getV, getF, getL, frz, thaw, isR, lft, noEx_ret, RV.toD, RV.toV, isTy, toB, toI, toS, cop, bop, gOrd, gAdd, gSub, itemsOf, wipeE, bindT, tst, Function.comp_apply, gIx0, gIx1, gIx2, puts, putRV, isL, chg_eq, sE_tt, sE_tw, sE_tf, sE_tr, sE_wt, sE_ww, sE_wf, sE_wr, sE_ft, sE_fw, sE_ff, sE_fr, sE_rt, sE_rw, sE_rf, sE_rr]
  refine wp_mono (w_under (d+2) n (most + 1) S1' (by omega) (by omega) hv1) ?_
  rintro v S2 ⟨hv2, m, rfl, m0, m1⟩
  simp -implicitDefEqProofs [wps_cons, wps_nil, seqF_nx, seqF_ret, seqF_brk, seqF_cont, wp_bnd, wp_ret, evS, evX, evRs, ev, evs, evV, evB, evC, evO, evI_seq, evI_zip, evI_rng1, evI_rng2, evI_rng3, evI_fns, endV, bnd_ret, getV, getF, getL, frz, thaw, isR, lft, noEx_ret, RV.toD, RV.toV, isTy, toB, toI, toS, cop, bop, gOrd, gAdd, gSub, itemsOf, wipeE, bindT, tst, Function.comp_apply, gIx0, gIx1, gIx2, puts, putRV, isL, chg_eq, sE_tt, sE_tw, sE_tf, sE_tr, sE_wt, sE_ww, sE_wf, sE_wr, sE_ft, sE_fw, sE_ff, sE_fr, sE_rt, sE_rw, sE_rf, sE_rr]
  refine wp_mono (Q := fun r S' => r.1 = .nx ∧ (Vat n S' ∧ ∃ ss : List St, ss.length ≤ 1004 ∧ (∀ s ∈ ss, s.ok ks.length) ∧ ∃ s5, r.2 = [.vl (.loc n), .vl (.dat (kD ks)), .vl (.dat (.int most)), .vl (.dat (.tuple (ss.map St.d))), .vl (.dat (.int m)), s5, .un])) ?_ ?_
  · refine loop_wp (I := fun env S' => Vat n S' ∧ ∃ ss : List St, ss.length ≤ 1004 ∧ (∀ s ∈ ss, s.ok ks.length) ∧ ∃ s5, env = [.vl (.loc n), .vl (.dat (kD ks)), .vl (.dat (.int most)), .vl (.dat (.tuple (ss.map St.d))), .vl (.dat (.int m)), s5, .un])
      (Q := fun env S' => Vat n S' ∧ ∃ ss : List St, ss.length ≤ 1004 ∧ (∀ s ∈ ss, s.ok ks.length) ∧ ∃ s5, env = [.vl (.loc n), .vl (.dat (kD ks)), .vl (.dat (.int most)), .vl (.dat (.tuple (ss.map St.d))), .vl (.dat (.int m)), s5, .un])
      (μ := fun env => 1004 - slT env 3) ?_ ⟨hv2, ss, by omega, hok, .un, rfl⟩
    rintro env S3 ⟨hv3, ss, hl, hok, s5, rfl⟩
    simp -implicitDefEqProofs [wps_cons, wps_nil, seqF_nx, seqF_ret, seqF_brk, seqF_cont, wp_bnd, wp_ret, evS, evX, evRs, ev, evs, evV, evB, evC, evO, evI_seq, evI_zip, evI_rng1, evI_rng2, evI_rng3, evI_fns, endV, bnd_ret, getV, getF, getL, frz, thaw, isR, lft, noEx_ret, RV.toD, RV.toV, isTy, toB, toI, toS, cop, bop, gOrd, gAdd, gSub, itemsOf, wipeE, bindT, tst, Function.comp_apply, gIx0, gIx1, gIx2, puts, putRV, isL, chg_eq, sE_tt, sE_tw, sE_tf, sE_tr, sE_wt, sE_ww, sE_wf, sE_wr, sE_ft, sE_fw, sE_ff, sE_fr, sE_rt, sE_rw, sE_rf, sE_rr, gBf]
    refine ⟨fun hlt => ?_, fun _ => ⟨hv3, ss, hl, hok, rfl⟩⟩
    refine wp_mono (w_step (d+1) n ks S3 h0 h4 hv3) ?_
    rintro v S4 ⟨hv4, s, hs, rfl⟩
    simp -implicitDefEqProofs [wps_cons, wps_nil, seqF_nx, seqF_ret, seqF_brk, seqF_cont, wp_bnd, wp_ret, evS, evX, evRs, ev, evs, evV, evB, evC, evO, evI_seq, evI_zip, evI_rng1, evI_rng2, evI_rng3, evI_fns, endV, bnd_ret, getV, getF, getL, frz, thaw, isR, lft, noEx_ret, RV.toD, RV.toV, isTy, toB, toI, toS, cop, bop, gOrd, gAdd, gSub, itemsOf, wipeE, bindT, tst, Function.comp_apply, gIx0, gIx1, gIx2, puts, putRV, isL, chg_eq, sE_tt, sE_tw, sE_tf, sE_tr, sE_wt, sE_ww, sE_wf, sE_wr, sE_ft, sE_fw, sE_ff, sE_fr, sE_rt, sE_rw, sE_rf, sE_rr]
    refine wp_mono (w_under (d+2) n 3 S4 (by omega) (by omega) hv4) ?_
    rintro v S5 ⟨hv5, q, rfl, q0, q1⟩
    have e : gEq (.int q) (.int 0) = some (decide (q = 0)) := gEqInt
    simp -implicitDefEqProofs [wps_cons, wps_nil, seqF_nx, seqF_ret, seqF_brk, seqF_cont, wp_bnd, wp_ret, evS, evX, evRs, ev, evs, evV, evB, evC, evO, evI_seq, evI_zip, evI_rng1, evI_rng2, evI_rng3, evI_fns, endV, bnd_ret, getV, getF, getL, frz, thaw, isR, lft, noEx_ret, RV.toD, RV.toV, isTy, toB, toI, toS, cop, bop, gOrd, gAdd, gSub, itemsOf, wipeE, bindT, tst, Function.comp_apply, gIx0, gIx1, gIx2, puts, putRV, isL, chg_eq, sE_tt, sE_tw, sE_tf, sE_tr, sE_wt, sE_ww, sE_wf, sE_wr, sE_ft, sE_fw, sE_ff, sE_fr, sE_rt, sE_rw, sE_rf, sE_rr, e]
    refine wp_mono (Q := fun r S' => Vat n S' ∧ ∃ ts : List St, ts.length ≤ 2 ∧ 1 ≤ ts.length ∧ (∀ s ∈ ts, s.ok ks.length) ∧ r = (.nx, [.vl (.loc n), .vl (.dat (kD ks)), .vl (.dat (.int most)), .vl (.dat (.tuple (ss.map St.d))), .vl (.dat (.int m)), .vl (.dat (.tuple (ts.map St.d))), .un])) ?_ ?_
    · by_cases c : q = 0
      · rw [if_pos c]
        simp -implicitDefEqProofs [wps_cons, wps_nil, seqF_nx, seqF_ret, seqF_brk, seqF_cont, wp_bnd, wp_ret, evS, evX, evRs, ev, evs, evV, evB, evC, evO, evI_seq, evI_zip, evI_rng1, evI_rng2, evI_rng3, evI_fns, endV, bnd_ret, getV, getF, getL, frz, thaw, isR, lft, noEx_ret, RV.toD, RV.toV, isTy, toB, toI, toS, cop, bop, gOrd, gAdd, gSub, itemsOf, wipeE, bindT, tst, Function.comp_apply, gIx0, gIx1, gIx2, puts, putRV, isL, chg_eq, sE_tt, sE_tw, sE_tf, sE_tr, sE_wt, sE_ww, sE_wf, sE_wr, sE_ft, sE_fw, sE_ff, sE_fr, sE_rt, sE_rw, sE_rf, sE_rr, gLenK h4]
        refine wp_mono (w_under (d+2) n ks.length S5 (by omega) (by omega) hv5) ?_
        rintro v S6 ⟨hv6, k, rfl, k0, k1⟩
        obtain ⟨k, rfl⟩ := Int.eq_ofNat_of_zero_le k0
        simp -implicitDefEqProofs [wps_cons, wps_nil, seqF_nx, seqF_ret, seqF_brk, seqF_cont, wp_bnd, wp_ret, evS, evX, evRs, ev, evs, evV, evB, evC, evO, evI_seq, evI_zip, evI_rng1, evI_rng2, evI_rng3, evI_fns, endV, bnd_ret, getV, getF, getL, frz, thaw, isR, lft, noEx_ret, RV.toD, RV.toV, isTy, toB, toI, toS, cop, bop, gOrd, gAdd, gSub, itemsOf, wipeE, bindT, tst, Function.comp_apply, gIx0, gIx1, gIx2, puts, putRV, isL, chg_eq, sE_tt, sE_tw, sE_tf, sE_tr, sE_wt, sE_ww, sE_wf, sE_wr, sE_ft, sE_fw, sE_ff, sE_fr, sE_rt, sE_rw, sE_rf, sE_rr]
        refine wp_mono (w_waits d n ks S6 h0 h4 hv6) ?_
        rintro v S7 ⟨hv7, t, ht, rfl⟩
        simp -implicitDefEqProofs [wps_cons, wps_nil, seqF_nx, seqF_ret, seqF_brk, seqF_cont, wp_bnd, wp_ret, evS, evX, evRs, ev, evs, evV, evB, evC, evO, evI_seq, evI_zip, evI_rng1, evI_rng2, evI_rng3, evI_fns, endV, bnd_ret, getV, getF, getL, frz, thaw, isR, lft, noEx_ret, RV.toD, RV.toV, isTy, toB, toI, toS, cop, bop, gOrd, gAdd, gSub, itemsOf, wipeE, bindT, tst, Function.comp_apply, gIx0, gIx1, gIx2, puts, putRV, isL, chg_eq, sE_tt, sE_tw, sE_tf, sE_tr, sE_wt, sE_ww, sE_wf, sE_wr, sE_ft, sE_fw, sE_ff, sE_fr, sE_rt, sE_rw, sE_rf, sE_rr]
        exact ⟨hv7, [.turn k, t], by simp, by simp, by simp [St.ok]; exact ⟨by omega, ht⟩, rfl⟩
      · rw [if_neg c]
        simp -implicitDefEqProofs [wps_cons, wps_nil, seqF_nx, seqF_ret, seqF_brk, seqF_cont, wp_bnd, wp_ret, evS, evX, evRs, ev, evs, evV, evB, evC, evO, evI_seq, evI_zip, evI_rng1, evI_rng2, evI_rng3, evI_fns, endV, bnd_ret, getV, getF, getL, frz, thaw, isR, lft, noEx_ret, RV.toD, RV.toV, isTy, toB, toI, toS, cop, bop, gOrd, gAdd, gSub, itemsOf, wipeE, bindT, tst, Function.comp_apply, gIx0, gIx1, gIx2, puts, putRV, isL, chg_eq, sE_tt, sE_tw, sE_tf, sE_tr, sE_wt, sE_ww, sE_wf, sE_wr, sE_ft, sE_fw, sE_ff, sE_fr, sE_rt, sE_rw, sE_rf, sE_rr]
        exact ⟨hv5, [s], by simp, by simp, by simpa using hs, rfl⟩
    · rintro r S6 ⟨hv6, ts, t2, t1, hts, rfl⟩
      have hlt' : ss.length < 1001 := by omega
      simp -implicitDefEqProofs [wps_cons, wps_nil, seqF_nx, seqF_ret, seqF_brk, seqF_cont, wp_bnd, wp_ret, evS, evX, evRs, ev, evs, evV, evB, evC, evO, evI_seq, evI_zip, evI_rng1, evI_rng2, evI_rng3, evI_fns, endV, bnd_ret, getV, getF, getL, frz, thaw, isR, lft, noEx_ret, RV.toD, RV.toV, isTy, toB, toI, toS, cop, bop, gOrd, gAdd, gSub, itemsOf, wipeE, bindT, tst, Function.comp_apply, gIx0, gIx1, gIx2, puts, putRV, isL, chg_eq, sE_tt, sE_tw, sE_tf, sE_tr, sE_wt, sE_ww, sE_wf, sE_wr, sE_ft, sE_fw, sE_ff, sE_fr, sE_rt, sE_rw, sE_rf, sE_rr, sizeLine, show ss.length + ts.length ≤ 16777216 by omega, slT]
      refine ⟨⟨hv6, ss ++ ts, by simp; omega, ?_, by simp⟩, by omega⟩
      intro x hx
      rcases List.mem_append.mp hx with hx | hx
      · exact hok x hx
      · exact hts x hx
  rintro ⟨f, env⟩ S3 ⟨hf, hv3, ss, hl, hok, s5, he⟩
  have hf : f = .nx := hf
  have he : env = _ := he
  subst hf he
  simp -implicitDefEqProofs [wps_cons, wps_nil, seqF_nx, seqF_ret, seqF_brk, seqF_cont, wp_bnd, wp_ret, evS, evX, evRs, ev, evs, evV, evB, evC, evO, evI_seq, evI_zip, evI_rng1, evI_rng2, evI_rng3, evI_fns, endV, bnd_ret, getV, getF, getL, frz, thaw, isR, lft, noEx_ret, RV.toD, RV.toV, isTy, toB, toI, toS, cop, bop, gOrd, gAdd, gSub, itemsOf, wipeE, bindT, tst, Function.comp_apply, gIx0, gIx1, gIx2, puts, putRV, isL, chg_eq, sE_tt, sE_tw, sE_tf, sE_tr, sE_wt, sE_ww, sE_wf, sE_wr, sE_ft, sE_fw, sE_ff, sE_fr, sE_rt, sE_rw, sE_rf, sE_rr, gSl, cut_to]
  have hok' : ∀ s ∈ ss.take most, s.ok ks.length := fun s hs => hok s (List.mem_of_mem_take hs)
  have hl' : (ss.take most).length ≤ most := List.length_take_le ..
  rw [← List.map_take]
  generalize ss.take most = ts at hok' hl'
  by_cases c : ts = []
  · subst c
    have e : gEq (.tuple []) (.tuple []) = some true := by decide +kernel
    simp -implicitDefEqProofs [wps_cons, wps_nil, seqF_nx, seqF_ret, seqF_brk, seqF_cont, wp_bnd, wp_ret, evS, evX, evRs, ev, evs, evV, evB, evC, evO, evI_seq, evI_zip, evI_rng1, evI_rng2, evI_rng3, evI_fns, endV, bnd_ret, getV, getF, getL, frz, thaw, isR, lft, noEx_ret, RV.toD, RV.toV, isTy, toB, toI, toS, cop, bop, gOrd, gAdd, gSub, itemsOf, wipeE, bindT, tst, Function.comp_apply, gIx0, gIx1, gIx2, puts, putRV, isL, chg_eq, sE_tt, sE_tw, sE_tf, sE_tr, sE_wt, sE_ww, sE_wf, sE_wr, sE_ft, sE_fw, sE_ff, sE_fr, sE_rt, sE_rw, sE_rf, sE_rr, e, hv3]
  · simp -implicitDefEqProofs [wps_cons, wps_nil, seqF_nx, seqF_ret, seqF_brk, seqF_cont, wp_bnd, wp_ret, evS, evX, evRs, ev, evs, evV, evB, evC, evO, evI_seq, evI_zip, evI_rng1, evI_rng2, evI_rng3, evI_fns, endV, bnd_ret, getV, getF, getL, frz, thaw, isR, lft, noEx_ret, RV.toD, RV.toV, isTy, toB, toI, toS, cop, bop, gOrd, gAdd, gSub, itemsOf, wipeE, bindT, tst, Function.comp_apply, gIx0, gIx1, gIx2, puts, putRV, isL, chg_eq, sE_tt, sE_tw, sE_tf, sE_tr, sE_wt, sE_ww, sE_wf, sE_wr, sE_ft, sE_fw, sE_ff, sE_fr, sE_rt, sE_rw, sE_rf, sE_rr, gEqT0, c]
    refine wp_mono (w_under (d+2) n 4 S3 (by omega) (by omega) hv3) ?_
    rintro v S4 ⟨hv4, q, rfl, q0, q1⟩
    by_cases c2 : 0 < q
    · have hl2 : ts.length - 1 + 1 ≤ 16777216 := by omega
      simp -implicitDefEqProofs [wps_cons, wps_nil, seqF_nx, seqF_ret, seqF_brk, seqF_cont, wp_bnd, wp_ret, evS, evX, evRs, ev, evs, evV, evB, evC, evO, evI_seq, evI_zip, evI_rng1, evI_rng2, evI_rng3, evI_fns, endV, bnd_ret, getV, getF, getL, frz, thaw, isR, lft, noEx_ret, RV.toD, RV.toV, isTy, toB, toI, toS, cop, bop, gOrd, gAdd, gSub, itemsOf, wipeE, bindT, tst, Function.comp_apply, gIx0, gIx1, gIx2, puts, putRV, isL, chg_eq, sE_tt, sE_tw, sE_tf, sE_tr, sE_wt, sE_ww, sE_wf, sE_wr, sE_ft, sE_fw, sE_ff, sE_fr, sE_rt, sE_rw, sE_rf, sE_rr, c2, gSl, cut_last, sizeLine, hl2, hv4]
      refine ⟨ts.dropLast ++ [.ring], by simp; have := List.length_pos_iff.mpr c; omega, ?_, by simp⟩
      intro x hx
      rcases List.mem_append.mp hx with hx | hx
      · exact hok' x (List.dropLast_subset _ hx)
      · rw [List.mem_singleton.mp hx]; trivial
    · simp -implicitDefEqProofs [wps_cons, wps_nil, seqF_nx, seqF_ret, seqF_brk, seqF_cont, wp_bnd, wp_ret, evS, evX, evRs, ev, evs, evV, evB, evC, evO, evI_seq, evI_zip, evI_rng1, evI_rng2, evI_rng3, evI_fns, endV, bnd_ret, getV, getF, getL, frz, thaw, isR, lft, noEx_ret, RV.toD, RV.toV, isTy, toB, toI, toS, cop, bop, gOrd, gAdd, gSub, itemsOf, wipeE, bindT, tst, Function.comp_apply, gIx0, gIx1, gIx2, puts, putRV, isL, chg_eq, sE_tt, sE_tw, sE_tf, sE_tr, sE_wt, sE_ww, sE_wf, sE_wr, sE_ft, sE_fw, sE_ff, sE_fr, sE_rt, sE_rw, sE_rf, sE_rr, c2, hv4]
      exact ⟨ts, hl', hok', rfl⟩
theorem w_plan (d : Nat) (n : Nat) (most peak : Nat) (S : Sto) (hp : 1 ≤ peak) (hp4 : peak ≤ 4) (hm : most ≤ 1000) (hv : Vat n S) :
    Wp (Gm T (d+5) 44 [.loc n, .dat (.int most), .dat (.int peak)]) S (fun v S' => Vat n S' ∧ ∃ ks : List Bool, ∃ ss : List St, 1 ≤ ks.length ∧ ks.length ≤ peak ∧ ss.length ≤ most ∧ (∀ s ∈ ss, s.ok ks.length) ∧ v = .d (.tuple [kD ks, .tuple (ss.map St.d)])) := by
  have hT : T[44]? = some d44 := rfl
  rw [gm_open hT]
  simp only [runDf, d44, startE]
  simp -implicitDefEqProofs [wps_cons, wps_nil, seqF_nx, seqF_ret, seqF_brk, seqF_cont, wp_bnd, wp_ret, evS, evX, evRs, ev, evs, evV, evB, evC, evO, evI_seq, evI_zip, evI_rng1, evI_rng2, evI_rng3, evI_fns, endV, bnd_ret, getV, getF, getL, frz, thaw, isR, lft, noEx_ret, RV.toD, RV.toV, isTy, toB, toI, toS, cop, bop, gOrd, gAdd, gSub, itemsOf, wipeE, bindT, tst, Function.comp_apply, gIx0, gIx1, gIx2, puts, putRV, isL, chg_eq, sE_tt, sE_tw, sE_tf, sE_tr, sE_wt, sE_ww, sE_wf, sE_wr, sE_ft, sE_fw, sE_ff, sE_fr, sE_rt, sE_rw, sE_rf, sE_rr]
  refine wp_mono (w_kinds (d+1) n peak S (by omega) (by omega) hv) ?_
  rintro v S1 ⟨hv1, ks, h1, h2, rfl⟩
  simp -implicitDefEqProofs [wps_cons, wps_nil, seqF_nx, seqF_ret, seqF_brk, seqF_cont, wp_bnd, wp_ret, evS, evX, evRs, ev, evs, evV, evB, evC, evO, evI_seq, evI_zip, evI_rng1, evI_rng2, evI_rng3, evI_fns, endV, bnd_ret, getV, getF, getL, frz, thaw, isR, lft, noEx_ret, RV.toD, RV.toV, isTy, toB, toI, toS, cop, bop, gOrd, gAdd, gSub, itemsOf, wipeE, bindT, tst, Function.comp_apply, gIx0, gIx1, gIx2, puts, putRV, isL, chg_eq, sE_tt, sE_tw, sE_tf, sE_tr, sE_wt, sE_ww, sE_wf, sE_wr, sE_ft, sE_fw, sE_ff, sE_fr, sE_rt, sE_rw, sE_rf, sE_rr]
  refine wp_mono (w_steps d n ks most S1 h1 (by omega) hm hv1) ?_
  rintro v S2 ⟨hv2, ss, h3, h4, rfl⟩
  simp -implicitDefEqProofs [wps_cons, wps_nil, seqF_nx, seqF_ret, seqF_brk, seqF_cont, wp_bnd, wp_ret, evS, evX, evRs, ev, evs, evV, evB, evC, evO, evI_seq, evI_zip, evI_rng1, evI_rng2, evI_rng3, evI_fns, endV, bnd_ret, getV, getF, getL, frz, thaw, isR, lft, noEx_ret, RV.toD, RV.toV, isTy, toB, toI, toS, cop, bop, gOrd, gAdd, gSub, itemsOf, wipeE, bindT, tst, Function.comp_apply, gIx0, gIx1, gIx2, puts, putRV, isL, chg_eq, sE_tt, sE_tw, sE_tf, sE_tr, sE_wt, sE_ww, sE_wf, sE_wr, sE_ft, sE_fw, sE_ff, sE_fr, sE_rt, sE_rw, sE_rf, sE_rr]
  exact ⟨hv2, ks, h1, by omega, ss, h3, h4, rfl, rfl⟩
theorem w_vat (d : Nat) (ns : List Int) (k : Nat) (S : Sto) (hk : k < 1000) : Wp (Gm T (d+1) 37 [.dat (.list (iL ns)), .dat (.int k)]) S (fun v S' => S' = S ∧ ∃ a b : Int, v = .new [.int a, .int b] ∧ 0 ≤ a ∧ 0 ≤ b ∧ b < 2147483647) := by
  have hT : T[37]? = some d37 := rfl
  rw [gm_open hT]
  simp only [runDf, d37, startE]
  simp -implicitDefEqProofs [wps_cons, wps_nil, seqF_nx, seqF_ret, seqF_brk, seqF_cont, wp_bnd, wp_ret, evS, evX, evRs, ev, evs, evV, evB, evC, evO, evI_seq, evI_zip, evI_rng1, evI_rng2, evI_rng3, evI_fns, endV, bnd_ret, getV, getF, getL, frz, thaw, isR, lft, noEx_ret, RV.toD, RV.toV, isTy, toB, toI, toS, cop, bop, gOrd, gAdd, gSub, itemsOf, wipeE, bindT, tst, Function.comp_apply, gIx0, gIx1, gIx2, puts, putRV, isL, chg_eq, sE_tt, sE_tw, sE_tf, sE_tr, sE_wt, sE_ww, sE_wf, sE_wr, sE_ft, sE_fw, sE_ff, sE_fr, sE_rt, sE_rw, sE_rf, sE_rr, gMulC (i := 7919) (j := (k : Int)) (by omega) (by omega), gBf]
  refine wp_mono (Q := fun r S' => S' = S ∧ ∃ c : Int, 0 ≤ c ∧ r = (.nx, [.vl (.dat (.list (iL ns))), .vl (.dat (.int k)), .vl (.dat (.int c))])) ?_ ?_
  · by_cases c : k < ns.length
    · rw [if_pos c]
      have e : gIx (.list (iL ns)) (.int k) = some (.int ns[k]) := by rw [gIx, atI_map, atI_get c]; rfl
      simp -implicitDefEqProofs [wps_cons, wps_nil, seqF_nx, seqF_ret, seqF_brk, seqF_cont, wp_bnd, wp_ret, evS, evX, evRs, ev, evs, evV, evB, evC, evO, evI_seq, evI_zip, evI_rng1, evI_rng2, evI_rng3, evI_fns, endV, bnd_ret, getV, getF, getL, frz, thaw, isR, lft, noEx_ret, RV.toD, RV.toV, isTy, toB, toI, toS, cop, bop, gOrd, gAdd, gSub, itemsOf, wipeE, bindT, tst, Function.comp_apply, gIx0, gIx1, gIx2, puts, putRV, isL, chg_eq, sE_tt, sE_tw, sE_tf, sE_tr, sE_wt, sE_ww, sE_wf, sE_wr, sE_ft, sE_fw, sE_ff, sE_fr, sE_rt, sE_rw, sE_rf, sE_rr, e, gBf]
      omega
    · rw [if_neg c]
      simp -implicitDefEqProofs [wps_cons, wps_nil, seqF_nx, seqF_ret, seqF_brk, seqF_cont, wp_bnd, wp_ret, evS, evX, evRs, ev, evs, evV, evB, evC, evO, evI_seq, evI_zip, evI_rng1, evI_rng2, evI_rng3, evI_fns, endV, bnd_ret, getV, getF, getL, frz, thaw, isR, lft, noEx_ret, RV.toD, RV.toV, isTy, toB, toI, toS, cop, bop, gOrd, gAdd, gSub, itemsOf, wipeE, bindT, tst, Function.comp_apply, gIx0, gIx1, gIx2, puts, putRV, isL, chg_eq, sE_tt, sE_tw, sE_tf, sE_tr, sE_wt, sE_ww, sE_wf, sE_wr, sE_ft, sE_fw, sE_ff, sE_fr, sE_rt, sE_rw, sE_rf, sE_rr]
      omega
  · rintro r S' ⟨rfl, c, h0, rfl⟩
    have b0 : 0 ≤ (c * 131071 + 8191 * k + 5) % 2147483629 := Int.emod_nonneg _ (by omega)
    have b1 : (c * 131071 + 8191 * k + 5) % 2147483629 < 2147483629 := Int.emod_lt_of_pos _ (by omega)
    have ep : gPow (.int 10) (.int 18) = some (.d (.int 1000000000000000000)) := by rw [gPow, if_pos (by decide)]; rfl
    simp -implicitDefEqProofs [wps_cons, wps_nil, seqF_nx, seqF_ret, seqF_brk, seqF_cont, wp_bnd, wp_ret, evS, evX, evRs, ev, evs, evV, evB, evC, evO, evI_seq, evI_zip, evI_rng1, evI_rng2, evI_rng3, evI_fns, endV, bnd_ret, getV, getF, getL, frz, thaw, isR, lft, noEx_ret, RV.toD, RV.toV, isTy, toB, toI, toS, cop, bop, gOrd, gAdd, gSub, itemsOf, wipeE, bindT, tst, Function.comp_apply, gIx0, gIx1, gIx2, puts, putRV, isL, chg_eq, sE_tt, sE_tw, sE_tf, sE_tr, sE_wt, sE_ww, sE_wf, sE_wr, sE_ft, sE_fw, sE_ff, sE_fr, sE_rt, sE_rw, sE_rf, sE_rr, gMulC (i := c) (j := 131071) (by omega) (by omega), gMulB (i := 8191) (j := (k : Int)) (by omega) (by omega), gBf, gMod, ep]
    by_cases h : 1000000000000000000 ≤ c
    · simp -implicitDefEqProofs [wps_cons, wps_nil, seqF_nx, seqF_ret, seqF_brk, seqF_cont, wp_bnd, wp_ret, evS, evX, evRs, ev, evs, evV, evB, evC, evO, evI_seq, evI_zip, evI_rng1, evI_rng2, evI_rng3, evI_fns, endV, bnd_ret, getV, getF, getL, frz, thaw, isR, lft, noEx_ret, RV.toD, RV.toV, isTy, toB, toI, toS, cop, bop, gOrd, gAdd, gSub, itemsOf, wipeE, bindT, tst, Function.comp_apply, gIx0, gIx1, gIx2, puts, putRV, isL, chg_eq, sE_tt, sE_tw, sE_tf, sE_tr, sE_wt, sE_ww, sE_wf, sE_wr, sE_ft, sE_fw, sE_ff, sE_fr, sE_rt, sE_rw, sE_rf, sE_rr, h, gMulC (i := c) (j := 131071) (by omega) (by omega), gMulB (i := 8191) (j := (k : Int)) (by omega) (by omega), gBf, gMod, ep]
      exact ⟨_, _, ⟨rfl, rfl⟩, by omega, by omega, by omega⟩
    · simp -implicitDefEqProofs [wps_cons, wps_nil, seqF_nx, seqF_ret, seqF_brk, seqF_cont, wp_bnd, wp_ret, evS, evX, evRs, ev, evs, evV, evB, evC, evO, evI_seq, evI_zip, evI_rng1, evI_rng2, evI_rng3, evI_fns, endV, bnd_ret, getV, getF, getL, frz, thaw, isR, lft, noEx_ret, RV.toD, RV.toV, isTy, toB, toI, toS, cop, bop, gOrd, gAdd, gSub, itemsOf, wipeE, bindT, tst, Function.comp_apply, gIx0, gIx1, gIx2, puts, putRV, isL, chg_eq, sE_tt, sE_tw, sE_tf, sE_tr, sE_wt, sE_ww, sE_wf, sE_wr, sE_ft, sE_fw, sE_ff, sE_fr, sE_rt, sE_rw, sE_rf, sE_rr, h, gMulC (i := c) (j := 131071) (by omega) (by omega), gMulB (i := 8191) (j := (k : Int)) (by omega) (by omega), gBf, gMod, ep]
      exact ⟨_, _, ⟨rfl, rfl⟩, by omega, by omega, by omega⟩
end G05

-- PF05
set_option maxRecDepth 100000
set_option maxHeartbeats 4000000
namespace G05
open PySem G
theorem t_lPause (d : Nat) (xs : List Int) (s : St) (h4 : xs.length ≤ 4) (hs : ∀ i, s ≠ .turn i) (hi : ∀ i, s = .wait i → i < xs.length) :
    Gm T (d+1) 50 [.dat (.tuple (iL xs)), .dat s.d] = ret (.d (.int (tk xs s))) := by
  have hT : T[50]? = some d50 := rfl
  rw [gm_open hT]
  simp only [runDf, d50, startE]
  have e1 : gEq (.str "wait") (.str "wait") = some true := by decide +kernel
  have e2 : gEq (.str "first") (.str "wait") = some false := by decide +kernel
  have e3 : gEq (.str "ring") (.str "wait") = some false := by decide +kernel
  have e4 : gEq (.str "ring") (.str "first") = some false := by decide +kernel
  have e5 : gEq (.str "first") (.str "first") = some true := by decide +kernel
  have hl0 : (xs.filter (0 < ·)).length ≤ xs.length := List.length_filter_le ..
  have hl : (xs.filter (0 < ·)).length ≤ 16777216 := by omega
  have hg := gSortI (xs := xs.filter (0 < ·)) (by omega)
  cases s with
  | turn i => exact absurd rfl (hs i)
  | wait i =>
    have := hi i rfl
    simp -implicitDefEqProofs [evSs, evS, evX, evRs, ev, evs, evV, evB, evC, evO, evI_seq, evI_zip, evI_rng1, evI_rng2, evI_rng3, evI_fns, endV, seqF, bnd_ret, getV, getF, getL, frz, thaw, isR, lft, noEx_ret, RV.toD, RV.toV, isTy, toB, toI, toS, cop, bop, gOrd, gAdd, gSub, itemsOf, wipeE, bindT, tst, Function.comp_apply, gIx0, gIx1, gIx2, puts, putRV, isL, chg_eq, sE_tt, sE_tw, sE_tf, sE_tr, sE_wt, sE_ww, sE_wf, sE_wr, sE_ft, sE_fw, sE_ff, sE_fr, sE_rt, sE_rw, sE_rf, sE_rr, e1, gIx, atI_map, L2.atI, L2.ixN, tk, this]
  | first =>
    simp -implicitDefEqProofs [evSs, evS, evX, evRs, ev, evs, evV, evB, evC, evO, evI_seq, evI_zip, evI_rng1, evI_rng2, evI_rng3, evI_fns, endV, seqF, bnd_ret, getV, getF, getL, frz, thaw, isR, lft, noEx_ret, RV.toD, RV.toV, isTy, toB, toI, toS, cop, bop, gOrd, gAdd, gSub, itemsOf, wipeE, bindT, tst, Function.comp_apply, gIx0, gIx1, gIx2, puts, putRV, isL, chg_eq, sE_tt, sE_tw, sE_tf, sE_tr, sE_wt, sE_ww, sE_wf, sE_wr, sE_ft, sE_fw, sE_ff, sE_fr, sE_rt, sE_rw, sE_rf, sE_rr, e2, e5, gIx, atI_map, L2.atI, L2.ixN, tk]
    rw [mapV_filterI (p := (0 < ·))]
    · simp -implicitDefEqProofs [evSs, evS, evX, evRs, ev, evs, evV, evB, evC, evO, evI_seq, evI_zip, evI_rng1, evI_rng2, evI_rng3, evI_fns, endV, seqF, bnd_ret, getV, getF, getL, frz, thaw, isR, lft, noEx_ret, RV.toD, RV.toV, isTy, toB, toI, toS, cop, bop, gOrd, gAdd, gSub, itemsOf, wipeE, bindT, tst, Function.comp_apply, gIx0, gIx1, gIx2, puts, putRV, isL, chg_eq, sE_tt, sE_tw, sE_tf, sE_tr, sE_wt, sE_ww, sE_wf, sE_wr, sE_ft, sE_fw, sE_ff, sE_fr, sE_rt, sE_rw, sE_rf, sE_rr, sizeLine, hl, hg]
      by_cases hn : xs.filter (0 < ·) = []
      · simp -implicitDefEqProofs [evSs, evS, evX, evRs, ev, evs, evV, evB, evC, evO, evI_seq, evI_zip, evI_rng1, evI_rng2, evI_rng3, evI_fns, endV, seqF, bnd_ret, getV, getF, getL, frz, thaw, isR, lft, noEx_ret, RV.toD, RV.toV, isTy, toB, toI, toS, cop, bop, gOrd, gAdd, gSub, itemsOf, wipeE, bindT, tst, Function.comp_apply, gIx0, gIx1, gIx2, puts, putRV, isL, chg_eq, sE_tt, sE_tw, sE_tf, sE_tr, sE_wt, sE_ww, sE_wf, sE_wr, sE_ft, sE_fw, sE_ff, sE_fr, sE_rt, sE_rw, sE_rf, sE_rr, e5, hn, isort, minI, gEq00]
      · obtain ⟨m, t, h1, h2⟩ := isort_head hn
        rw [h1]
        have e6 : gEq (.list (.int m :: t.map PyData.int)) (.list []) = some false := gEqNilI (m :: t)
        simp -implicitDefEqProofs [evSs, evS, evX, evRs, ev, evs, evV, evB, evC, evO, evI_seq, evI_zip, evI_rng1, evI_rng2, evI_rng3, evI_fns, endV, seqF, bnd_ret, getV, getF, getL, frz, thaw, isR, lft, noEx_ret, RV.toD, RV.toV, isTy, toB, toI, toS, cop, bop, gOrd, gAdd, gSub, itemsOf, wipeE, bindT, tst, Function.comp_apply, gIx0, gIx1, gIx2, puts, putRV, isL, chg_eq, sE_tt, sE_tw, sE_tf, sE_tr, sE_wt, sE_ww, sE_wf, sE_wr, sE_ft, sE_fw, sE_ff, sE_fr, sE_rt, sE_rw, sE_rf, sE_rr, e5, e6, h2, hn]
    · intro b _
      by_cases hb : 0 < b <;> simp -implicitDefEqProofs [evSs, evS, evX, evRs, ev, evs, evV, evB, evC, evO, evI_seq, evI_zip, evI_rng1, evI_rng2, evI_rng3, evI_fns, endV, seqF, bnd_ret, getV, getF, getL, frz, thaw, isR, lft, noEx_ret, RV.toD, RV.toV, isTy, toB, toI, toS, cop, bop, gOrd, gAdd, gSub, itemsOf, wipeE, bindT, tst, Function.comp_apply, gIx0, gIx1, gIx2, puts, putRV, isL, chg_eq, sE_tt, sE_tw, sE_tf, sE_tr, sE_wt, sE_ww, sE_wf, sE_wr, sE_ft, sE_fw, sE_ff, sE_fr, sE_rt, sE_rw, sE_rf, sE_rr, hb]
  | ring =>
    simp -implicitDefEqProofs [evSs, evS, evX, evRs, ev, evs, evV, evB, evC, evO, evI_seq, evI_zip, evI_rng1, evI_rng2, evI_rng3, evI_fns, endV, seqF, bnd_ret, getV, getF, getL, frz, thaw, isR, lft, noEx_ret, RV.toD, RV.toV, isTy, toB, toI, toS, cop, bop, gOrd, gAdd, gSub, itemsOf, wipeE, bindT, tst, Function.comp_apply, gIx0, gIx1, gIx2, puts, putRV, isL, chg_eq, sE_tt, sE_tw, sE_tf, sE_tr, sE_wt, sE_ww, sE_wf, sE_wr, sE_ft, sE_fw, sE_ff, sE_fr, sE_rt, sE_rw, sE_rf, sE_rr, e3, e4, gIx, atI_map, L2.atI, L2.ixN, tk]
    rw [mapV_filterI (p := (0 < ·))]
    · simp -implicitDefEqProofs [evSs, evS, evX, evRs, ev, evs, evV, evB, evC, evO, evI_seq, evI_zip, evI_rng1, evI_rng2, evI_rng3, evI_fns, endV, seqF, bnd_ret, getV, getF, getL, frz, thaw, isR, lft, noEx_ret, RV.toD, RV.toV, isTy, toB, toI, toS, cop, bop, gOrd, gAdd, gSub, itemsOf, wipeE, bindT, tst, Function.comp_apply, gIx0, gIx1, gIx2, puts, putRV, isL, chg_eq, sE_tt, sE_tw, sE_tf, sE_tr, sE_wt, sE_ww, sE_wf, sE_wr, sE_ft, sE_fw, sE_ff, sE_fr, sE_rt, sE_rw, sE_rf, sE_rr, e4, sizeLine, hl, hg]
    · intro b _
      by_cases hb : 0 < b <;> simp -implicitDefEqProofs [evSs, evS, evX, evRs, ev, evs, evV, evB, evC, evO, evI_seq, evI_zip, evI_rng1, evI_rng2, evI_rng3, evI_fns, endV, seqF, bnd_ret, getV, getF, getL, frz, thaw, isR, lft, noEx_ret, RV.toD, RV.toV, isTy, toB, toI, toS, cop, bop, gOrd, gAdd, gSub, itemsOf, wipeE, bindT, tst, Function.comp_apply, gIx0, gIx1, gIx2, puts, putRV, isL, chg_eq, sE_tt, sE_tw, sE_tf, sE_tr, sE_wt, sE_ww, sE_wf, sE_wr, sE_ft, sE_fw, sE_ff, sE_fr, sE_rt, sE_rw, sE_rf, sE_rr, hb]
theorem t_lGo (d : Nat) (ks : List Bool) (a b : Int) (xs : List Int) (s : St) (h4 : ks.length ≤ 4) (hl : xs.length = ks.length) (hs : s.ok ks.length) :
    Gm T (d+2) 51 [.dat (kD ks), .dat (.tuple [.int a, .int b]), .dat (.tuple (iL xs)), .dat s.d] = ret (.d (.tuple (iL (aft ks a b xs s)))) := by
  have hT : T[51]? = some d51 := rfl
  rw [gm_open hT]
  simp only [runDf, d51, startE]
  have e0 : gEq (.str "turn") (.str "turn") = some true := by decide +kernel
  have e1 : gEq (.str "wait") (.str "turn") = some false := by decide +kernel
  have e2 : gEq (.str "first") (.str "turn") = some false := by decide +kernel
  have e3 : gEq (.str "ring") (.str "turn") = some false := by decide +kernel
  have hm : ∀ t : Int, (fun x : Int => x - (if t < x then t else x)) = fun x => max 0 (x - t) := fun t => by
    funext x
    split <;> omega
  have hlx : xs.length ≤ 16777216 := by omega
  refine eq_of_wp fun S => ?_
  cases s with
  | turn i =>
    have hi : i < ks.length := hs
    have hi' : i < xs.length := by omega
    have q1 := gIxK hi h4
    have q2 : gIx (.list (iL xs)) (.int i) = some (.int xs[i]) := by rw [gIx, atI_map, atI_get hi']; rfl
    have q3 : gIx (.tuple [.int a, .int b]) (.int (if ks[i] = true then 1 else 0)) = some (.int (whole a b ks[i])) := by
      cases ks[i] <;> simp [gIx, L2.atI, L2.ixN, whole]
    simp -implicitDefEqProofs [wps_cons, wps_nil, seqF_nx, seqF_ret, seqF_brk, seqF_cont, wp_bnd, wp_ret, evS, evX, evRs, ev, evs, evV, evB, evC, evO, evI_seq, evI_zip, evI_rng1, evI_rng2, evI_rng3, evI_fns, endV, bnd_ret, getV, getF, getL, frz, thaw, isR, lft, noEx_ret, RV.toD, RV.toV, isTy, toB, toI, toS, cop, bop, gOrd, gAdd, gSub, itemsOf, wipeE, bindT, tst, Function.comp_apply, gIx0, gIx1, gIx2, puts, putRV, isL, chg_eq, sE_tt, sE_tw, sE_tf, sE_tr, sE_wt, sE_ww, sE_wf, sE_wr, sE_ft, sE_fw, sE_ff, sE_fr, sE_rt, sE_rw, sE_rf, sE_rr, e0, gBf, q1, gIndexK, q3, q2, noR, noL, noLs, L2.ixN, hi', List.map_set]
    rw [aft]
    simp [hi, hi', List.map_set]
  | wait i =>
    have h := t_lPause d xs (.wait i) (by omega) (by simp) (by simp; exact hl ▸ hs)
    simp -implicitDefEqProofs [wps_cons, wps_nil, seqF_nx, seqF_ret, seqF_brk, seqF_cont, wp_bnd, wp_ret, evS, evX, evRs, ev, evs, evV, evB, evC, evO, evI_seq, evI_zip, evI_rng1, evI_rng2, evI_rng3, evI_fns, endV, bnd_ret, getV, getF, getL, frz, thaw, isR, lft, noEx_ret, RV.toD, RV.toV, isTy, toB, toI, toS, cop, bop, gOrd, gAdd, gSub, itemsOf, wipeE, bindT, tst, Function.comp_apply, gIx0, gIx1, gIx2, puts, putRV, isL, chg_eq, sE_tt, sE_tw, sE_tf, sE_tr, sE_wt, sE_ww, sE_wf, sE_wr, sE_ft, sE_fw, sE_ff, sE_fr, sE_rt, sE_rw, sE_rf, sE_rr, e1, h]
    rw [mapV_pure (e := vI) (g := fun x => some (.int (max 0 (x - tk xs (.wait i)))))]
    · simp -implicitDefEqProofs [wps_cons, wps_nil, seqF_nx, seqF_ret, seqF_brk, seqF_cont, wp_bnd, wp_ret, evS, evX, evRs, ev, evs, evV, evB, evC, evO, evI_seq, evI_zip, evI_rng1, evI_rng2, evI_rng3, evI_fns, endV, bnd_ret, getV, getF, getL, frz, thaw, isR, lft, noEx_ret, RV.toD, RV.toV, isTy, toB, toI, toS, cop, bop, gOrd, gAdd, gSub, itemsOf, wipeE, bindT, tst, Function.comp_apply, gIx0, gIx1, gIx2, puts, putRV, isL, chg_eq, sE_tt, sE_tw, sE_tf, sE_tr, sE_wt, sE_ww, sE_wf, sE_wr, sE_ft, sE_fw, sE_ff, sE_fr, sE_rt, sE_rw, sE_rf, sE_rr, gBf, sizeLine, hlx, aft]
    · intro b _
      have := congrFun (hm (tk xs (.wait i))) b
      simp -implicitDefEqProofs [evSs, evS, evX, evRs, ev, evs, evV, evB, evC, evO, evI_seq, evI_zip, evI_rng1, evI_rng2, evI_rng3, evI_fns, endV, seqF, bnd_ret, getV, getF, getL, frz, thaw, isR, lft, noEx_ret, RV.toD, RV.toV, isTy, toB, toI, toS, cop, bop, gOrd, gAdd, gSub, itemsOf, wipeE, bindT, tst, Function.comp_apply, gIx0, gIx1, gIx2, puts, putRV, isL, chg_eq, sE_tt, sE_tw, sE_tf, sE_tr, sE_wt, sE_ww, sE_wf, sE_wr, sE_ft, sE_fw, sE_ff, sE_fr, sE_rt, sE_rw, sE_rf, sE_rr, gBf, this]
  | first =>
    have h := t_lPause d xs .first (by omega) (by simp) (by simp)
    simp -implicitDefEqProofs [wps_cons, wps_nil, seqF_nx, seqF_ret, seqF_brk, seqF_cont, wp_bnd, wp_ret, evS, evX, evRs, ev, evs, evV, evB, evC, evO, evI_seq, evI_zip, evI_rng1, evI_rng2, evI_rng3, evI_fns, endV, bnd_ret, getV, getF, getL, frz, thaw, isR, lft, noEx_ret, RV.toD, RV.toV, isTy, toB, toI, toS, cop, bop, gOrd, gAdd, gSub, itemsOf, wipeE, bindT, tst, Function.comp_apply, gIx0, gIx1, gIx2, puts, putRV, isL, chg_eq, sE_tt, sE_tw, sE_tf, sE_tr, sE_wt, sE_ww, sE_wf, sE_wr, sE_ft, sE_fw, sE_ff, sE_fr, sE_rt, sE_rw, sE_rf, sE_rr, e2, h]
    rw [mapV_pure (e := vI) (g := fun x => some (.int (max 0 (x - tk xs .first))))]
    · simp -implicitDefEqProofs [wps_cons, wps_nil, seqF_nx, seqF_ret, seqF_brk, seqF_cont, wp_bnd, wp_ret, evS, evX, evRs, ev, evs, evV, evB, evC, evO, evI_seq, evI_zip, evI_rng1, evI_rng2, evI_rng3, evI_fns, endV, bnd_ret, getV, getF, getL, frz, thaw, isR, lft, noEx_ret, RV.toD, RV.toV, isTy, toB, toI, toS, cop, bop, gOrd, gAdd, gSub, itemsOf, wipeE, bindT, tst, Function.comp_apply, gIx0, gIx1, gIx2, puts, putRV, isL, chg_eq, sE_tt, sE_tw, sE_tf, sE_tr, sE_wt, sE_ww, sE_wf, sE_wr, sE_ft, sE_fw, sE_ff, sE_fr, sE_rt, sE_rw, sE_rf, sE_rr, gBf, sizeLine, hlx, aft]
    · intro b _
      have := congrFun (hm (tk xs .first)) b
      simp -implicitDefEqProofs [evSs, evS, evX, evRs, ev, evs, evV, evB, evC, evO, evI_seq, evI_zip, evI_rng1, evI_rng2, evI_rng3, evI_fns, endV, seqF, bnd_ret, getV, getF, getL, frz, thaw, isR, lft, noEx_ret, RV.toD, RV.toV, isTy, toB, toI, toS, cop, bop, gOrd, gAdd, gSub, itemsOf, wipeE, bindT, tst, Function.comp_apply, gIx0, gIx1, gIx2, puts, putRV, isL, chg_eq, sE_tt, sE_tw, sE_tf, sE_tr, sE_wt, sE_ww, sE_wf, sE_wr, sE_ft, sE_fw, sE_ff, sE_fr, sE_rt, sE_rw, sE_rf, sE_rr, gBf, this]
  | ring =>
    have h := t_lPause d xs .ring (by omega) (by simp) (by simp)
    simp -implicitDefEqProofs [wps_cons, wps_nil, seqF_nx, seqF_ret, seqF_brk, seqF_cont, wp_bnd, wp_ret, evS, evX, evRs, ev, evs, evV, evB, evC, evO, evI_seq, evI_zip, evI_rng1, evI_rng2, evI_rng3, evI_fns, endV, bnd_ret, getV, getF, getL, frz, thaw, isR, lft, noEx_ret, RV.toD, RV.toV, isTy, toB, toI, toS, cop, bop, gOrd, gAdd, gSub, itemsOf, wipeE, bindT, tst, Function.comp_apply, gIx0, gIx1, gIx2, puts, putRV, isL, chg_eq, sE_tt, sE_tw, sE_tf, sE_tr, sE_wt, sE_ww, sE_wf, sE_wr, sE_ft, sE_fw, sE_ff, sE_fr, sE_rt, sE_rw, sE_rf, sE_rr, e3, h]
    rw [mapV_pure (e := vI) (g := fun x => some (.int (max 0 (x - tk xs .ring))))]
    · simp -implicitDefEqProofs [wps_cons, wps_nil, seqF_nx, seqF_ret, seqF_brk, seqF_cont, wp_bnd, wp_ret, evS, evX, evRs, ev, evs, evV, evB, evC, evO, evI_seq, evI_zip, evI_rng1, evI_rng2, evI_rng3, evI_fns, endV, bnd_ret, getV, getF, getL, frz, thaw, isR, lft, noEx_ret, RV.toD, RV.toV, isTy, toB, toI, toS, cop, bop, gOrd, gAdd, gSub, itemsOf, wipeE, bindT, tst, Function.comp_apply, gIx0, gIx1, gIx2, puts, putRV, isL, chg_eq, sE_tt, sE_tw, sE_tf, sE_tr, sE_wt, sE_ww, sE_wf, sE_wr, sE_ft, sE_fw, sE_ff, sE_fr, sE_rt, sE_rw, sE_rf, sE_rr, gBf, sizeLine, hlx, aft]
    · intro b _
      have := congrFun (hm (tk xs .ring)) b
      simp -implicitDefEqProofs [evSs, evS, evX, evRs, ev, evs, evV, evB, evC, evO, evI_seq, evI_zip, evI_rng1, evI_rng2, evI_rng3, evI_fns, endV, seqF, bnd_ret, getV, getF, getL, frz, thaw, isR, lft, noEx_ret, RV.toD, RV.toV, isTy, toB, toI, toS, cop, bop, gOrd, gAdd, gSub, itemsOf, wipeE, bindT, tst, Function.comp_apply, gIx0, gIx1, gIx2, puts, putRV, isL, chg_eq, sE_tt, sE_tw, sE_tf, sE_tr, sE_wt, sE_ww, sE_wf, sE_wr, sE_ft, sE_fw, sE_ff, sE_fr, sE_rt, sE_rw, sE_rf, sE_rr, gBf, this]
theorem t_lFate (d : Nat) (ks : List Bool) (a b : Int) (ss : List St) (h0 : 1 ≤ ks.length) (h4 : ks.length ≤ 4) (hn : ss.length ≤ 1000) (hs : ∀ s ∈ ss, s.ok ks.length) :
    Gm T (d+3) 52 [.dat (.tuple [kD ks, .tuple (ss.map St.d)]), .dat (.tuple [.int a, .int b])] = ret (.d (.tuple [.list (hdD (runM ks a b ss).hd), .tuple (iL (runM ks a b ss).xs), .int (runM ks a b ss).t])) := by
  have hT : T[52]? = some d52 := rfl
  rw [gm_open hT]
  simp only [runDf, d52, startE]
  refine eq_of_wp fun S => ?_
  simp -implicitDefEqProofs [wps_cons, wps_nil, seqF_nx, seqF_ret, seqF_brk, seqF_cont, wp_bnd, wp_ret, evS, evX, evRs, ev, evs, evV, evB, evC, evO, evI_seq, evI_zip, evI_rng1, evI_rng2, evI_rng3, evI_fns, endV, bnd_ret, getV, getF, getL, frz, thaw, isR, lft, noEx_ret, RV.toD, RV.toV, isTy, toB, toI, toS, cop, bop, gOrd, gAdd, gSub, itemsOf, wipeE, bindT, tst, Function.comp_apply, gIx0, gIx1, gIx2, puts, putRV, isL, chg_eq, sE_tt, sE_tw, sE_tf, sE_tr, sE_wt, sE_ww, sE_wf, sE_wr, sE_ft, sE_fw, sE_ff, sE_fr, sE_rt, sE_rw, sE_rf, sE_rr, gLenK h4, gMulZ ks.length h0 h4]
  refine wp_mono (forV_wp (P := fun pre env S' => S' = S ∧ ∃ s2 s6, env = [.vl (.dat (.tuple [kD ks, .tuple (ss.map St.d)])), .vl (.dat (.tuple [.int a, .int b])), s2, .vl (.dat (.tuple (iL (runM ks a b pre).xs))), .vl (.dat (.int (runM ks a b pre).t)), .own (.lst (hdD (runM ks a b pre).hd)), s6]) ?_ ⟨rfl, .un, .un, by simp [runM]⟩) ?_
  · rintro pre s post env S' rfl ⟨rfl, s2, s6, rfl⟩
    refine ⟨_, rfl, ?_⟩
    have hl := runM_len (ks := ks) (a := a) (b := b) (ss := pre)
    have hh := runM_hd (ks := ks) (a := a) (b := b) (ss := pre)
    have hc := t_lGo d ks a b (runM ks a b pre).xs s h4 hl (hs s (by simp))
    have hal : (aft ks a b (runM ks a b pre).xs s).length ≤ 16777216 := by rw [aft_len, hl]; omega
    have hn' : (runM ks a b pre).hd.length < 16777216 := by simp at hn; omega
    have ht := nm_turn (s := s)
    have hr := nm_ring (s := s)
    rw [runM_snoc]
    simp -implicitDefEqProofs [wps_cons, wps_nil, seqF_nx, seqF_ret, seqF_brk, seqF_cont, wp_bnd, wp_ret, evS, evX, evRs, ev, evs, evV, evB, evC, evO, evI_seq, evI_zip, evI_rng1, evI_rng2, evI_rng3, evI_fns, endV, bnd_ret, getV, getF, getL, frz, thaw, isR, lft, noEx_ret, RV.toD, RV.toV, isTy, toB, toI, toS, cop, bop, gOrd, gAdd, gSub, itemsOf, wipeE, bindT, tst, Function.comp_apply, gIx0, gIx1, gIx2, puts, putRV, isL, chg_eq, sE_tt, sE_tw, sE_tf, sE_tr, sE_wt, sE_ww, sE_wf, sE_wr, sE_ft, sE_fw, sE_ff, sE_fr, sE_rt, sE_rw, sE_rf, sE_rr, gIxS, ht]
    refine wp_mono (Q := fun r S'' => S'' = S' ∧ r = (.nx, [.vl (.dat (.tuple [kD ks, .tuple ((pre ++ s :: post).map St.d)])), .vl (.dat (.tuple [.int a, .int b])), .vl (.dat s.d), .vl (.dat (.tuple (iL (runM ks a b pre).xs))), .vl (.dat (.int ((runM ks a b pre).t + tk (runM ks a b pre).xs s))), .own (.lst (hdD (runM ks a b pre).hd)), s6])) ?_ ?_
    · cases s with
      | turn i => simp -implicitDefEqProofs [wps_cons, wps_nil, seqF_nx, seqF_ret, seqF_brk, seqF_cont, wp_bnd, wp_ret, evS, evX, evRs, ev, evs, evV, evB, evC, evO, evI_seq, evI_zip, evI_rng1, evI_rng2, evI_rng3, evI_fns, endV, bnd_ret, getV, getF, getL, frz, thaw, isR, lft, noEx_ret, RV.toD, RV.toV, isTy, toB, toI, toS, cop, bop, gOrd, gAdd, gSub, itemsOf, wipeE, bindT, tst, Function.comp_apply, gIx0, gIx1, gIx2, puts, putRV, isL, chg_eq, sE_tt, sE_tw, sE_tf, sE_tr, sE_wt, sE_ww, sE_wf, sE_wr, sE_ft, sE_fw, sE_ff, sE_fr, sE_rt, sE_rw, sE_rf, sE_rr, tk]
      | wait i =>
        have hp := t_lPause (d+1) (runM ks a b pre).xs (.wait i) (by omega) (by simp) (by simp; rw [hl]; exact hs (.wait i) (by simp))
        simp -implicitDefEqProofs [wps_cons, wps_nil, seqF_nx, seqF_ret, seqF_brk, seqF_cont, wp_bnd, wp_ret, evS, evX, evRs, ev, evs, evV, evB, evC, evO, evI_seq, evI_zip, evI_rng1, evI_rng2, evI_rng3, evI_fns, endV, bnd_ret, getV, getF, getL, frz, thaw, isR, lft, noEx_ret, RV.toD, RV.toV, isTy, toB, toI, toS, cop, bop, gOrd, gAdd, gSub, itemsOf, wipeE, bindT, tst, Function.comp_apply, gIx0, gIx1, gIx2, puts, putRV, isL, chg_eq, sE_tt, sE_tw, sE_tf, sE_tr, sE_wt, sE_ww, sE_wf, sE_wr, sE_ft, sE_fw, sE_ff, sE_fr, sE_rt, sE_rw, sE_rf, sE_rr, hp]
      | first =>
        have hp := t_lPause (d+1) (runM ks a b pre).xs .first (by omega) (by simp) (by simp)
        simp -implicitDefEqProofs [wps_cons, wps_nil, seqF_nx, seqF_ret, seqF_brk, seqF_cont, wp_bnd, wp_ret, evS, evX, evRs, ev, evs, evV, evB, evC, evO, evI_seq, evI_zip, evI_rng1, evI_rng2, evI_rng3, evI_fns, endV, bnd_ret, getV, getF, getL, frz, thaw, isR, lft, noEx_ret, RV.toD, RV.toV, isTy, toB, toI, toS, cop, bop, gOrd, gAdd, gSub, itemsOf, wipeE, bindT, tst, Function.comp_apply, gIx0, gIx1, gIx2, puts, putRV, isL, chg_eq, sE_tt, sE_tw, sE_tf, sE_tr, sE_wt, sE_ww, sE_wf, sE_wr, sE_ft, sE_fw, sE_ff, sE_fr, sE_rt, sE_rw, sE_rf, sE_rr, hp]
      | ring =>
        have hp := t_lPause (d+1) (runM ks a b pre).xs .ring (by omega) (by simp) (by simp)
        simp -implicitDefEqProofs [wps_cons, wps_nil, seqF_nx, seqF_ret, seqF_brk, seqF_cont, wp_bnd, wp_ret, evS, evX, evRs, ev, evs, evV, evB, evC, evO, evI_seq, evI_zip, evI_rng1, evI_rng2, evI_rng3, evI_fns, endV, bnd_ret, getV, getF, getL, frz, thaw, isR, lft, noEx_ret, RV.toD, RV.toV, isTy, toB, toI, toS, cop, bop, gOrd, gAdd, gSub, itemsOf, wipeE, bindT, tst, Function.comp_apply, gIx0, gIx1, gIx2, puts, putRV, isL, chg_eq, sE_tt, sE_tw, sE_tf, sE_tr, sE_wt, sE_ww, sE_wf, sE_wr, sE_ft, sE_fw, sE_ff, sE_fr, sE_rt, sE_rw, sE_rf, sE_rr, hp]
    · rintro r S'' ⟨rfl, rfl⟩
      simp -implicitDefEqProofs [wps_cons, wps_nil, seqF_nx, seqF_ret, seqF_brk, seqF_cont, wp_bnd, wp_ret, evS, evX, evRs, ev, evs, evV, evB, evC, evO, evI_seq, evI_zip, evI_rng1, evI_rng2, evI_rng3, evI_fns, endV, bnd_ret, getV, getF, getL, frz, thaw, isR, lft, noEx_ret, RV.toD, RV.toV, isTy, toB, toI, toS, cop, bop, gOrd, gAdd, gSub, itemsOf, wipeE, bindT, tst, Function.comp_apply, gIx0, gIx1, gIx2, puts, putRV, isL, chg_eq, sE_tt, sE_tw, sE_tf, sE_tr, sE_wt, sE_ww, sE_wf, sE_wr, sE_ft, sE_fw, sE_ff, sE_fr, sE_rt, sE_rw, sE_rf, sE_rr, hc, gIxS, hr]
      by_cases c : s = .ring
      · rw [if_pos c]
        subst c
        simp -implicitDefEqProofs [wps_cons, wps_nil, seqF_nx, seqF_ret, seqF_brk, seqF_cont, wp_bnd, wp_ret, evS, evX, evRs, ev, evs, evV, evB, evC, evO, evI_seq, evI_zip, evI_rng1, evI_rng2, evI_rng3, evI_fns, endV, bnd_ret, getV, getF, getL, frz, thaw, isR, lft, noEx_ret, RV.toD, RV.toV, isTy, toB, toI, toS, cop, bop, gOrd, gAdd, gSub, itemsOf, wipeE, bindT, tst, Function.comp_apply, gIx0, gIx1, gIx2, puts, putRV, isL, chg_eq, sE_tt, sE_tw, sE_tf, sE_tr, sE_wt, sE_ww, sE_wf, sE_wr, sE_ft, sE_fw, sE_ff, sE_fr, sE_rt, sE_rw, sE_rf, sE_rr]
        rw [mapV_pure (e := vI) (g := fun x => some (.bool (decide (0 < x))))]
        · simp -implicitDefEqProofs [wps_cons, wps_nil, seqF_nx, seqF_ret, seqF_brk, seqF_cont, wp_bnd, wp_ret, evS, evX, evRs, ev, evs, evV, evB, evC, evO, evI_seq, evI_zip, evI_rng1, evI_rng2, evI_rng3, evI_fns, endV, bnd_ret, getV, getF, getL, frz, thaw, isR, lft, noEx_ret, RV.toD, RV.toV, isTy, toB, toI, toS, cop, bop, gOrd, gAdd, gSub, itemsOf, wipeE, bindT, tst, Function.comp_apply, gIx0, gIx1, gIx2, puts, putRV, isL, chg_eq, sE_tt, sE_tw, sE_tf, sE_tr, sE_wt, sE_ww, sE_wf, sE_wr, sE_ft, sE_fw, sE_ff, sE_fr, sE_rt, sE_rw, sE_rf, sE_rr, gBf, sizeLine, hal, hn', run1, Function.comp_def]
        · intro b _
          simp -implicitDefEqProofs [evSs, evS, evX, evRs, ev, evs, evV, evB, evC, evO, evI_seq, evI_zip, evI_rng1, evI_rng2, evI_rng3, evI_fns, endV, seqF, bnd_ret, getV, getF, getL, frz, thaw, isR, lft, noEx_ret, RV.toD, RV.toV, isTy, toB, toI, toS, cop, bop, gOrd, gAdd, gSub, itemsOf, wipeE, bindT, tst, Function.comp_apply, gIx0, gIx1, gIx2, puts, putRV, isL, chg_eq, sE_tt, sE_tw, sE_tf, sE_tr, sE_wt, sE_ww, sE_wf, sE_wr, sE_ft, sE_fw, sE_ff, sE_fr, sE_rt, sE_rw, sE_rf, sE_rr]
      · rw [if_neg c]
        simp -implicitDefEqProofs [wps_cons, wps_nil, seqF_nx, seqF_ret, seqF_brk, seqF_cont, wp_bnd, wp_ret, evS, evX, evRs, ev, evs, evV, evB, evC, evO, evI_seq, evI_zip, evI_rng1, evI_rng2, evI_rng3, evI_fns, endV, bnd_ret, getV, getF, getL, frz, thaw, isR, lft, noEx_ret, RV.toD, RV.toV, isTy, toB, toI, toS, cop, bop, gOrd, gAdd, gSub, itemsOf, wipeE, bindT, tst, Function.comp_apply, gIx0, gIx1, gIx2, puts, putRV, isL, chg_eq, sE_tt, sE_tw, sE_tf, sE_tr, sE_wt, sE_ww, sE_wf, sE_wr, sE_ft, sE_fw, sE_ff, sE_fr, sE_rt, sE_rw, sE_rf, sE_rr, run1, c]
  · rintro ⟨f, env⟩ S' ⟨hf, rfl, s2, s6, rfl⟩
    cases hf
    simp -implicitDefEqProofs [wps_cons, wps_nil, seqF_nx, seqF_ret, seqF_brk, seqF_cont, wp_bnd, wp_ret, evS, evX, evRs, ev, evs, evV, evB, evC, evO, evI_seq, evI_zip, evI_rng1, evI_rng2, evI_rng3, evI_fns, endV, bnd_ret, getV, getF, getL, frz, thaw, isR, lft, noEx_ret, RV.toD, RV.toV, isTy, toB, toI, toS, cop, bop, gOrd, gAdd, gSub, itemsOf, wipeE, bindT, tst, Function.comp_apply, gIx0, gIx1, gIx2, puts, putRV, isL, chg_eq, sE_tt, sE_tw, sE_tf, sE_tr, sE_wt, sE_ww, sE_wf, sE_wr, sE_ft, sE_fw, sE_ff, sE_fr, sE_rt, sE_rw, sE_rf, sE_rr]
end G05

-- GYa
set_option maxRecDepth 100000
set_option maxHeartbeats 2000000
/-! Forms, ratios, pieces as data. -/
namespace G
open PySem
@[reducible] def fD (f : Fm) : D := .tuple [.int f.1, .int f.2]
theorem okdF {n : Nat} (f : Fm) : Okd (n + 1) (fD f) := Okd.tuple fun x hx => by
  simp only [List.mem_cons, List.not_mem_nil, or_false] at hx
  rcases hx with rfl | rfl <;> exact .int _
theorem eqvF {f g : Fm} : PyData.eqv (fD f) (fD g) = decide (f = g) := by
  rw [fD, fD, PyData.eqv, PyData.eqvAll, PyData.eqvAll, PyData.eqvAll, PyData.eqv, PyData.eqv]
  obtain ⟨a, b⟩ := f
  obtain ⟨c, d⟩ := g
  simp only
  by_cases h : a = c <;> by_cases h' : b = d <;> simp [h, h']
theorem gEqF (f g : Fm) : gEq (fD f) (fD g) = some (decide (f = g)) := by
  rw [gEq, if_pos ⟨(okdF (n := 1) f).shaped (by omega), (okdF (n := 1) g).shaped (by omega)⟩, eqvF]
theorem gEqFz (f : Fm) : gEq (.tuple [.int f.1, .int f.2]) (.tuple [.int 0, .int 0]) = some (decide (f = z2)) := gEqF f z2
theorem gEqFg (f g : Fm) : gEq (.tuple [.int f.1, .int f.2]) (.tuple [.int g.1, .int g.2]) = some (decide (f = g)) := gEqF f g
theorem Sm.lt1 {f : Fm} (h : Sm 40 f) : -(2 ^ 64) < f.1 ∧ f.1 < 2 ^ 64 := by
  have := h.a1
  have := h.a2
  rw [Bn_40] at *
  omega
theorem Sm.lt2 {f : Fm} (h : Sm 40 f) : -(2 ^ 64) < f.2 ∧ f.2 < 2 ^ 64 := by
  have := h.b1
  have := h.b2
  rw [Bn_40] at *
  omega
theorem Sm.m1 {f : Fm} (h : Sm 40 f) (j : Int) : gMul (.int f.1) (.int j) = some (.d (.int (f.1 * j))) := gMulB h.lt1.1 h.lt1.2
theorem Sm.m2 {f : Fm} (h : Sm 40 f) (j : Int) : gMul (.int f.2) (.int j) = some (.d (.int (f.2 * j))) := gMulB h.lt2.1 h.lt2.2
theorem Sm.c1 {f : Fm} (h : Sm 40 f) (j : Int) : gMul (.int j) (.int f.1) = some (.d (.int (j * f.1))) := gMulC h.lt1.1 h.lt1.2
theorem Sm.c2 {f : Fm} (h : Sm 40 f) (j : Int) : gMul (.int j) (.int f.2) = some (.d (.int (j * f.2))) := gMulC h.lt2.1 h.lt2.2
@[reducible] def rgF (p : Fm × List Bool) : D := .tuple [fD p.1, lkD p.2]
def pcD : Pc → D
  | .ev lo hi q => .tuple [fD lo, fD hi, .tuple (q.xs.map fD), fD q.t, .tuple (q.hd.map rgF)]
  | .one r q => .tuple [fD r, fD r, .tuple (iL q.xs), .int q.t, .tuple (hdD q.hd)]
def optD : Option Fm → D
  | none => .none
  | some f => fD f
/-- a walk that may end with a value -/
theorem forV_find {β : Type} {tg : Tg} {b : Env → M (Fl × Env)} {e : β → Vl} {g : β → Option RV} {I : Env → Prop} :
    ∀ {xs : List β}, (∀ x ∈ xs, ∀ env S, I env → ∃ env1, bindT tg (e x) env = some env1 ∧ Wp (b env1) S (fun r S' => S' = S ∧ (match g x with | none => r.1 = .nx ∧ I r.2 | some v => r.1 = .ret v))) → ∀ {env : Env} {S : Sto}, I env →
    Wp (forV tg b (xs.map e) env) S (fun r S' => S' = S ∧ (match xs.findSome? g with | none => r.1 = .nx ∧ I r.2 | some v => r.1 = .ret v))
  | [], _, env, S, i => ⟨_, _, rfl, rfl, rfl, i⟩
  | x :: xs, h, env, S, i => by
    obtain ⟨env1, h1, h2⟩ := h x (List.mem_cons_self ..) env S i
    rw [List.map_cons, forV, h1]
    show Wp (bnd (fun S => some (.ok env1 S)) _) S _
    rw [bnd_ret, wp_bnd]
    refine wp_mono h2 ?_
    rintro ⟨f, env2⟩ S2 ⟨rfl, hf⟩
    rw [List.findSome?_cons]
    cases hg : g x with
    | none =>
      rw [hg] at hf
      obtain ⟨hf, i2⟩ := hf
      cases hf
      exact forV_find (fun y hy => h y (List.mem_cons_of_mem _ hy)) i2
    | some v =>
      rw [hg] at hf
      cases hf
      exact ⟨_, _, rfl, rfl, rfl⟩
theorem forV_until {β : Type} {tg : Tg} {b : Env → M (Fl × Env)} {e : β → Vl} {P : List β → Env → Prop} {R : RV → Prop} {xs : List β} {S : Sto}
    (h : ∀ pre x post env, xs = pre ++ x :: post → P pre env → ∃ env1, bindT tg (e x) env = some env1 ∧ Wp (b env1) S (fun r S' => S' = S ∧ ((r.1 = .nx ∧ P (pre ++ [x]) r.2) ∨ ∃ v, r.1 = .ret v ∧ R v))) {env : Env} (p : P [] env) :
    Wp (forV tg b (xs.map e) env) S (fun r S' => S' = S ∧ ((r.1 = .nx ∧ P xs r.2) ∨ ∃ v, r.1 = .ret v ∧ R v)) := by
  have go : ∀ (post pre : List β) (env : Env), xs = pre ++ post → P pre env → Wp (forV tg b (post.map e) env) S (fun r S' => S' = S ∧ ((r.1 = .nx ∧ P xs r.2) ∨ ∃ v, r.1 = .ret v ∧ R v)) := by
    intro post
    induction post with
    | nil =>
      intro pre env hx hp
      rw [List.append_nil] at hx
      subst hx
      exact ⟨_, _, rfl, rfl, .inl ⟨rfl, hp⟩⟩
    | cons x post ih =>
      intro pre env hx hp
      obtain ⟨env1, h1, h2⟩ := h pre x post env hx hp
      rw [List.map_cons, forV, h1]
      show Wp (bnd (fun S => some (.ok env1 S)) _) S _
      rw [bnd_ret, wp_bnd]
      refine wp_mono h2 ?_
      rintro ⟨f, env2⟩ S2 ⟨rfl, h3⟩
      rcases h3 with ⟨hf, hp2⟩ | ⟨v, hf, hr⟩
      · cases hf
        exact ih (pre ++ [x]) env2 (by simp [hx]) hp2
      · cases hf
        exact ⟨_, _, rfl, rfl, .inr ⟨v, rfl, hr⟩⟩
  exact go xs [] env rfl p
theorem findSome_flatMap {α β γ : Type} {F : α → List β} {g : β → Option γ} : ∀ xs : List α, (xs.flatMap F).findSome? g = xs.findSome? fun x => (F x).findSome? g
  | [] => rfl
  | x :: xs => by
    rw [List.flatMap_cons, List.findSome?_append, findSome_flatMap xs, List.findSome?_cons]
    cases (F x).findSome? g <;> rfl
def sgD : Option Int → D
  | some x => .int x
  | none => .none
theorem gIn_signs (l : List (Option Int)) : gIn (.int (-1)) (.list (l.map sgD)) = some (l.any fun x => decide (x = some (-1))) := by
  have h1 : (l.map sgD).all flatD = true := by
    rw [List.all_map, List.all_eq_true]
    intro x _
    cases x <;> rfl
  rw [gIn, if_pos ⟨rfl, h1⟩, List.any_map]
  congr 2
  funext x
  cases x with
  | none => rfl
  | some x =>
    show PyData.eqv (.int x) (.int (-1)) = _
    rw [PyData.eqv]
    by_cases h : x = -1 <;> simp [h]
theorem noLsF : ∀ xs : List Fm, noLs (xs.map fD) = true
  | [] => rfl
  | _ :: xs => by rw [List.map_cons, noLs, noLsF xs]; rfl
theorem gMulZZ : ∀ n : Nat, 1 ≤ n → n ≤ 4 → gMul (.tuple [.tuple [.int 0, .int 0]]) (.int n) = some (.d (.tuple ((List.replicate n z2).map fD))) := by
  intro n h1 h4
  rcases (by omega : n = 1 ∨ n = 2 ∨ n = 3 ∨ n = 4) with rfl | rfl | rfl | rfl <;> rfl
theorem cut_setF {α : Type} (f : α → D) {xs : List α} {i : Nat} (h : i < xs.length) (y : α) : (xs.map f).take i ++ f y :: (xs.map f).drop (i + 1) = (xs.set i y).map f := by
  rw [List.map_set, List.set_eq_take_append_cons_drop, if_pos (by simpa using h)]
theorem gIxFs {xs : List Fm} {i : Nat} (h : i < xs.length) : gIx (.tuple (xs.map fD)) (.int i) = some (fD (xs.getD i z2)) := by
  rw [gIx, atI_map, atI_get h]
  simp [h]
theorem pls_z2 {f : Fm} : pls f z2 = f := by simp [pls, z2]
theorem gEqIv {lo hi : Fm} (v : Iv lo hi) : gEq (.tuple [.int lo.1, .int lo.2]) (.tuple [.int hi.1, .int hi.2]) = some false := by
  rw [gEqFg, decide_eq_false]
  intro e
  have := v.d
  rw [e, lss_irrefl] at this
  cases this
theorem pcD0 {P : Pc} : gIx (pcD P) (.int 0) = some (fD (match P with | .ev lo _ _ => lo | .one r _ => r)) := by cases P <;> simp [pcD, gIx, L2.atI, L2.ixN]
theorem pcD1 {P : Pc} : gIx (pcD P) (.int 1) = some (fD (match P with | .ev _ hi _ => hi | .one r _ => r)) := by cases P <;> simp [pcD, gIx, L2.atI, L2.ixN]
theorem adv_len {ks : List Bool} {n : Nat} {lo hi : Fm} {q : RunF} {s : St} (v : Iv lo hi) (h : dbt lo hi q.xs s ≤ n) : (adv ks n (.ev lo hi q) s).length ≤ 2 * n + 2 := by
  have A := adv_ok (ks := ks) (q := q) (s := s) n lo hi v h
  have h1 := A.num
  have h2 := A.cnt
  rw [count_all]
  omega
theorem repZ (n : Nat) : (List.replicate n [(PyData.tuple [.int 0, .int 0])]).flatten = (List.replicate n z2).map fD := by
  induction n with
  | zero => rfl
  | succ n ih => rw [List.replicate_succ, List.flatten_cons, ih, List.replicate_succ]; rfl
/-- a part, as the laws write it -/
def ptD : Pc → D
  | .ev lo hi q => .tuple [fD lo, fD hi, .list (q.hd.map rgF), .tuple (q.xs.map fD), fD q.t]
  | .one r q => .tuple [fD r, fD r, .list (hdD q.hd), .tuple (iL q.xs), .int q.t]
theorem gcd_step {a b : Int} (ha : 0 ≤ a) (hb : 0 < b) : Int.gcd b (a % b) = Int.gcd a b := by
  obtain ⟨m, rfl⟩ := Int.eq_ofNat_of_zero_le ha
  obtain ⟨n, rfl⟩ := Int.eq_ofNat_of_zero_le (Int.le_of_lt hb)
  rw [← Int.natCast_emod]
  show Nat.gcd n (m % n) = Nat.gcd m n
  rw [Nat.gcd_comm n, ← Nat.gcd_rec, Nat.gcd_comm]
end G

-- QA05
set_option maxRecDepth 100000
set_option maxHeartbeats 4000000
namespace G05
open PySem G
theorem t_less (d : Nat) (f g : Fm) (hf : Sm 40 f) : Gm T (d+1) 3 [.dat (fD f), .dat (fD g)] = ret (.d (.bool (lss f g))) := by
  have hT : T[3]? = some d3 := rfl
  rw [gm_open hT]
  simp only [runDf, d3, startE]
  simp -implicitDefEqProofs [evSs, evS, evX, evRs, ev, evs, evV, evB, evC, evO, evI_seq, evI_zip, evI_rng1, evI_rng2, evI_rng3, evI_fns, endV, seqF, bnd_ret, getV, getF, getL, frz, thaw, isR, lft, noEx_ret, RV.toD, RV.toV, isTy, toB, toI, toS, cop, bop, gOrd, gAdd, gSub, itemsOf, wipeE, bindT, tst, Function.comp_apply, gIx0, gIx1, gIx2, puts, putRV, isL, chg_eq, sE_tt, sE_tw, sE_tf, sE_tr, sE_wt, sE_ww, sE_wf, sE_wr, sE_ft, sE_fw, sE_ff, sE_fr, sE_rt, sE_rw, sE_rf, sE_rr, hf.m1, hf.c2, lss]
theorem t_valueAt (d : Nat) (f r : Fm) (hf : Sm 40 f) : Gm T (d+1) 14 [.dat (fD f), .dat (fD r)] = ret (.d (.int (wrt f r))) := by
  have hT : T[14]? = some d14 := rfl
  rw [gm_open hT]
  simp only [runDf, d14, startE]
  simp -implicitDefEqProofs [evSs, evS, evX, evRs, ev, evs, evV, evB, evC, evO, evI_seq, evI_zip, evI_rng1, evI_rng2, evI_rng3, evI_fns, endV, seqF, bnd_ret, getV, getF, getL, frz, thaw, isR, lft, noEx_ret, RV.toD, RV.toV, isTy, toB, toI, toS, cop, bop, gOrd, gAdd, gSub, itemsOf, wipeE, bindT, tst, Function.comp_apply, gIx0, gIx1, gIx2, puts, putRV, isL, chg_eq, sE_tt, sE_tw, sE_tf, sE_tr, sE_wt, sE_ww, sE_wf, sE_wr, sE_ft, sE_fw, sE_ff, sE_fr, sE_rt, sE_rw, sE_rf, sE_rr, hf.m1, hf.m2, wrt]
theorem t_minus (d : Nat) (f g : Fm) : Gm T (d+1) 15 [.dat (fD f), .dat (fD g)] = ret (.d (fD (mns f g))) := by
  have hT : T[15]? = some d15 := rfl
  rw [gm_open hT]
  simp only [runDf, d15, startE]
  simp -implicitDefEqProofs [evSs, evS, evX, evRs, ev, evs, evV, evB, evC, evO, evI_seq, evI_zip, evI_rng1, evI_rng2, evI_rng3, evI_fns, endV, seqF, bnd_ret, getV, getF, getL, frz, thaw, isR, lft, noEx_ret, RV.toD, RV.toV, isTy, toB, toI, toS, cop, bop, gOrd, gAdd, gSub, itemsOf, wipeE, bindT, tst, Function.comp_apply, gIx0, gIx1, gIx2, puts, putRV, isL, chg_eq, sE_tt, sE_tw, sE_tf, sE_tr, sE_wt, sE_ww, sE_wf, sE_wr, sE_ft, sE_fw, sE_ff, sE_fr, sE_rt, sE_rw, sE_rf, sE_rr, mns]
theorem t_lowest (d : Nat) (a b : Int) (ha : 0 < a) (hb : 0 < b) (hb' : b < 2 ^ 64) : Gm T (d+1) 2 [.dat (.int a), .dat (.int b)] = ret (.d (fD (red a b))) := by
  refine eq_of_wp fun S => ?_
  have hT : T[2]? = some d2 := rfl
  rw [gm_open hT]
  simp only [runDf, d2, startE, List.length_cons, List.length_nil, Nat.zero_add, if_true, reduceIte, Nat.reduceAdd, List.map_cons, List.map_nil, List.cons_append, List.nil_append, Nat.reduceSub, List.replicate_succ, List.replicate_zero, wp_bnd]
  rw [wps_cons]
  simp -implicitDefEqProofs [wps_nil, seqF_nx, seqF_ret, seqF_brk, seqF_cont, wp_bnd, wp_ret, evS, evX, evRs, ev, evs, evV, evB, evC, evO, evI_seq, evI_zip, evI_rng1, evI_rng2, evI_rng3, evI_fns, endV, bnd_ret, getV, getF, getL, frz, thaw, isR, lft, noEx_ret, RV.toD, RV.toV, isTy, toB, toI, toS, cop, bop, gOrd, gAdd, gSub, itemsOf, wipeE, bindT, tst, Function.comp_apply, gIx0, gIx1, gIx2, puts, putRV, isL, chg_eq, sE_tt, sE_tw, sE_tf, sE_tr, sE_wt, sE_ww, sE_wf, sE_wr, sE_ft, sE_fw, sE_ff, sE_fr, sE_rt, sE_rw, sE_rf, sE_rr]
  rw [wps_cons]
  simp -implicitDefEqProofs [wps_nil, seqF_nx, seqF_ret, seqF_brk, seqF_cont, wp_bnd, wp_ret, evS, evX, evRs, ev, evs, evV, evB, evC, evO, evI_seq, evI_zip, evI_rng1, evI_rng2, evI_rng3, evI_fns, endV, bnd_ret, getV, getF, getL, frz, thaw, isR, lft, noEx_ret, RV.toD, RV.toV, isTy, toB, toI, toS, cop, bop, gOrd, gAdd, gSub, itemsOf, wipeE, bindT, tst, Function.comp_apply, gIx0, gIx1, gIx2, puts, putRV, isL, chg_eq, sE_tt, sE_tw, sE_tf, sE_tr, sE_wt, sE_ww, sE_wf, sE_wr, sE_ft, sE_fw, sE_ff, sE_fr, sE_rt, sE_rw, sE_rf, sE_rr]
  refine wp_mono (loop_wp (I := fun env S' => S' = S ∧ ∃ x y : Int, 0 ≤ x ∧ 0 ≤ y ∧ (0 < x ∨ 0 < y) ∧ Int.gcd x y = Int.gcd a b ∧ env = [.vl (.dat (.int a)), .vl (.dat (.int b)), .vl (.dat (.int x)), .vl (.dat (.int y))])
    (Q := fun env S' => S' = S ∧ env = [.vl (.dat (.int a)), .vl (.dat (.int b)), .vl (.dat (.int (Int.gcd a b))), .vl (.dat (.int 0))])
    (μ := fun env => (slI env 3).toNat) ?_ ⟨rfl, a, b, by omega, by omega, .inl ha, rfl, rfl⟩) ?_
  · rintro env S' ⟨rfl, x, y, hx, hy, hxy, hg, rfl⟩
    simp -implicitDefEqProofs [wps_nil, seqF_nx, seqF_ret, seqF_brk, seqF_cont, wp_bnd, wp_ret, evS, evX, evRs, ev, evs, evV, evB, evC, evO, evI_seq, evI_zip, evI_rng1, evI_rng2, evI_rng3, evI_fns, endV, bnd_ret, getV, getF, getL, frz, thaw, isR, lft, noEx_ret, RV.toD, RV.toV, isTy, toB, toI, toS, cop, bop, gOrd, gAdd, gSub, itemsOf, wipeE, bindT, tst, Function.comp_apply, gIx0, gIx1, gIx2, puts, putRV, isL, chg_eq, sE_tt, sE_tw, sE_tf, sE_tr, sE_wt, sE_ww, sE_wf, sE_wr, sE_ft, sE_fw, sE_ff, sE_fr, sE_rt, sE_rw, sE_rf, sE_rr]
    refine ⟨fun h => ?_, fun h => ?_⟩
    · have y1 := Int.emod_nonneg x (show y ≠ 0 by omega)
      have y2 := Int.emod_lt_of_pos x h
      have e := gcd_step hx h
      simp -implicitDefEqProofs [wps_cons, wps_nil, seqF_nx, seqF_ret, seqF_brk, seqF_cont, wp_bnd, wp_ret, evS, evX, evRs, ev, evs, evV, evB, evC, evO, evI_seq, evI_zip, evI_rng1, evI_rng2, evI_rng3, evI_fns, endV, bnd_ret, getV, getF, getL, frz, thaw, isR, lft, noEx_ret, RV.toD, RV.toV, isTy, toB, toI, toS, cop, bop, gOrd, gAdd, gSub, itemsOf, wipeE, bindT, tst, Function.comp_apply, gIx0, gIx1, gIx2, puts, putRV, isL, chg_eq, sE_tt, sE_tw, sE_tf, sE_tr, sE_wt, sE_ww, sE_wf, sE_wr, sE_ft, sE_fw, sE_ff, sE_fr, sE_rt, sE_rw, sE_rf, sE_rr, gMod, h, slI]
      exact ⟨⟨y, by omega, x % y, y1, .inl h, by rw [e]; exact hg, rfl, rfl⟩, by omega⟩
    · have : y = 0 := by omega
      subst this
      have : Int.gcd x 0 = x.natAbs := by simp
      rw [this] at hg
      exact ⟨by omega, rfl⟩
  · rintro ⟨f, env⟩ S' ⟨hf, rfl, rfl⟩
    cases hf
    have g0 : 0 < Int.gcd a b := Nat.pos_of_ne_zero fun e => by have := (Int.gcd_eq_zero_iff.mp e).1; omega
    have gl : Int.gcd a b ≤ b.natAbs := Nat.le_of_dvd (by omega) (Int.gcd_dvd_natAbs_right ..)
    have g1 : (Int.gcd a b).log2 < 9000 := by
      have : (Int.gcd a b).log2 < 64 := (Nat.log2_lt (by omega)).mpr (by omega)
      omega
    rw [seqF_nx]
    simp -implicitDefEqProofs [wps_cons, wps_nil, seqF_nx, seqF_ret, seqF_brk, seqF_cont, wp_bnd, wp_ret, evS, evX, evRs, ev, evs, evV, evB, evC, evO, evI_seq, evI_zip, evI_rng1, evI_rng2, evI_rng3, evI_fns, endV, bnd_ret, getV, getF, getL, frz, thaw, isR, lft, noEx_ret, RV.toD, RV.toV, isTy, toB, toI, toS, cop, bop, gOrd, gAdd, gSub, itemsOf, wipeE, bindT, tst, Function.comp_apply, gIx0, gIx1, gIx2, puts, putRV, isL, chg_eq, sE_tt, sE_tw, sE_tf, sE_tr, sE_wt, sE_ww, sE_wf, sE_wr, sE_ft, sE_fw, sE_ff, sE_fr, sE_rt, sE_rw, sE_rf, sE_rr, gFdiv, g0, g1, red]
/-- a ratio or nothing, as data -/
theorem t_zeroOf (d : Nat) (f : Fm) (hf : Sm 40 f) : Gm T (d+2) 16 [.dat (fD f)] = ret (.d (match zeroOf f with | none => .none | some r => fD r)) := by
  have hT : T[16]? = some d16 := rfl
  rw [gm_open hT]
  simp only [runDf, d16, startE]
  by_cases h : 0 ≤ f.1 * f.2
  · simp -implicitDefEqProofs [evSs, evS, evX, evRs, ev, evs, evV, evB, evC, evO, evI_seq, evI_zip, evI_rng1, evI_rng2, evI_rng3, evI_fns, endV, seqF, bnd_ret, getV, getF, getL, frz, thaw, isR, lft, noEx_ret, RV.toD, RV.toV, isTy, toB, toI, toS, cop, bop, gOrd, gAdd, gSub, itemsOf, wipeE, bindT, tst, Function.comp_apply, gIx0, gIx1, gIx2, puts, putRV, isL, chg_eq, sE_tt, sE_tw, sE_tf, sE_tr, sE_wt, sE_ww, sE_wf, sE_wr, sE_ft, sE_fw, sE_ff, sE_fr, sE_rt, sE_rw, sE_rf, sE_rr, hf.m1, h, zeroOf]
  · have hz : f.1 ≠ 0 ∧ f.2 ≠ 0 := by
      constructor <;> intro z <;> rw [z] at h <;> simp at h
    have e1 : (if f.2 < 0 then -f.2 else f.2) = (f.2.natAbs : Int) := by split <;> omega
    have e2 : (if f.1 < 0 then -f.1 else f.1) = (f.1.natAbs : Int) := by split <;> omega
    have hl := t_lowest d f.2.natAbs f.1.natAbs (by omega) (by omega) (by have := hf.lt1; omega)
    simp -implicitDefEqProofs [evSs, evS, evX, evRs, ev, evs, evV, evB, evC, evO, evI_seq, evI_zip, evI_rng1, evI_rng2, evI_rng3, evI_fns, endV, seqF, bnd_ret, getV, getF, getL, frz, thaw, isR, lft, noEx_ret, RV.toD, RV.toV, isTy, toB, toI, toS, cop, bop, gOrd, gAdd, gSub, itemsOf, wipeE, bindT, tst, Function.comp_apply, gIx0, gIx1, gIx2, puts, putRV, isL, chg_eq, sE_tt, sE_tw, sE_tf, sE_tr, sE_wt, sE_ww, sE_wf, sE_wr, sE_ft, sE_fw, sE_ff, sE_fr, sE_rt, sE_rw, sE_rf, sE_rr, hf.m1, h, zeroOf, gBf, e1, e2] at hl ⊢
    simp -implicitDefEqProofs [evSs, evS, evX, evRs, ev, evs, evV, evB, evC, evO, evI_seq, evI_zip, evI_rng1, evI_rng2, evI_rng3, evI_fns, endV, seqF, bnd_ret, getV, getF, getL, frz, thaw, isR, lft, noEx_ret, RV.toD, RV.toV, isTy, toB, toI, toS, cop, bop, gOrd, gAdd, gSub, itemsOf, wipeE, bindT, tst, Function.comp_apply, gIx0, gIx1, gIx2, puts, putRV, isL, chg_eq, sE_tt, sE_tw, sE_tf, sE_tr, sE_wt, sE_ww, sE_wf, sE_wr, sE_ft, sE_fw, sE_ff, sE_fr, sE_rt, sE_rw, sE_rf, sE_rr, hl]
theorem t_zeroWithin (d : Nat) (f lo hi : Fm) (hf : Sm 40 f) (hl : Sm 40 lo) : Gm T (d+3) 17 [.dat (fD f), .dat (fD lo), .dat (fD hi)] = ret (.d (match zeroWithin lo hi f with | none => .none | some r => fD r)) := by
  have hT : T[17]? = some d17 := rfl
  rw [gm_open hT]
  simp only [runDf, d17, startE]
  have h := t_zeroOf d f hf
  unfold zeroWithin
  cases e : zeroOf f with
  | none =>
    rw [e] at h
    simp -implicitDefEqProofs [evSs, evS, evX, evRs, ev, evs, evV, evB, evC, evO, evI_seq, evI_zip, evI_rng1, evI_rng2, evI_rng3, evI_fns, endV, seqF, bnd_ret, getV, getF, getL, frz, thaw, isR, lft, noEx_ret, RV.toD, RV.toV, isTy, toB, toI, toS, cop, bop, gOrd, gAdd, gSub, itemsOf, wipeE, bindT, tst, Function.comp_apply, gIx0, gIx1, gIx2, puts, putRV, isL, chg_eq, sE_tt, sE_tw, sE_tf, sE_tr, sE_wt, sE_ww, sE_wf, sE_wr, sE_ft, sE_fw, sE_ff, sE_fr, sE_rt, sE_rw, sE_rf, sE_rr, h, isNon]
  | some r =>
    rw [e] at h
    rw [Option.filter_some]
    have hr := hf.zero e
    by_cases c1 : lss lo r = true
    · by_cases c2 : lss r hi = true
      · simp -implicitDefEqProofs [evSs, evS, evX, evRs, ev, evs, evV, evB, evC, evO, evI_seq, evI_zip, evI_rng1, evI_rng2, evI_rng3, evI_fns, endV, seqF, bnd_ret, getV, getF, getL, frz, thaw, isR, lft, noEx_ret, RV.toD, RV.toV, isTy, toB, toI, toS, cop, bop, gOrd, gAdd, gSub, itemsOf, wipeE, bindT, tst, Function.comp_apply, gIx0, gIx1, gIx2, puts, putRV, isL, chg_eq, sE_tt, sE_tw, sE_tf, sE_tr, sE_wt, sE_ww, sE_wf, sE_wr, sE_ft, sE_fw, sE_ff, sE_fr, sE_rt, sE_rw, sE_rf, sE_rr, h, isNon, t_less _ lo r hl, t_less _ r hi hr, c1, c2]
      · simp -implicitDefEqProofs [evSs, evS, evX, evRs, ev, evs, evV, evB, evC, evO, evI_seq, evI_zip, evI_rng1, evI_rng2, evI_rng3, evI_fns, endV, seqF, bnd_ret, getV, getF, getL, frz, thaw, isR, lft, noEx_ret, RV.toD, RV.toV, isTy, toB, toI, toS, cop, bop, gOrd, gAdd, gSub, itemsOf, wipeE, bindT, tst, Function.comp_apply, gIx0, gIx1, gIx2, puts, putRV, isL, chg_eq, sE_tt, sE_tw, sE_tf, sE_tr, sE_wt, sE_ww, sE_wf, sE_wr, sE_ft, sE_fw, sE_ff, sE_fr, sE_rt, sE_rw, sE_rf, sE_rr, h, isNon, t_less _ lo r hl, t_less _ r hi hr, c1, c2]
    · simp -implicitDefEqProofs [evSs, evS, evX, evRs, ev, evs, evV, evB, evC, evO, evI_seq, evI_zip, evI_rng1, evI_rng2, evI_rng3, evI_fns, endV, seqF, bnd_ret, getV, getF, getL, frz, thaw, isR, lft, noEx_ret, RV.toD, RV.toV, isTy, toB, toI, toS, cop, bop, gOrd, gAdd, gSub, itemsOf, wipeE, bindT, tst, Function.comp_apply, gIx0, gIx1, gIx2, puts, putRV, isL, chg_eq, sE_tt, sE_tw, sE_tf, sE_tr, sE_wt, sE_ww, sE_wf, sE_wr, sE_ft, sE_fw, sE_ff, sE_fr, sE_rt, sE_rw, sE_rf, sE_rr, h, isNon, t_less _ lo r hl, c1]
theorem t_signOf (d : Nat) (f lo : Fm) (hf : Sm 40 f) (hl : Sm 40 lo) : Gm T (d+3) 18 [.dat (fD f), .dat (fD lo)] = ret (.d (.int (signOf f lo))) := by
  have hT : T[18]? = some d18 := rfl
  rw [gm_open hT]
  simp only [runDf, d18, startE]
  have h := t_zeroOf d f hf
  unfold signOf
  cases e : zeroOf f with
  | none =>
    rw [e] at h
    simp -implicitDefEqProofs [evSs, evS, evX, evRs, ev, evs, evV, evB, evC, evO, evI_seq, evI_zip, evI_rng1, evI_rng2, evI_rng3, evI_fns, endV, seqF, bnd_ret, getV, getF, getL, frz, thaw, isR, lft, noEx_ret, RV.toD, RV.toV, isTy, toB, toI, toS, cop, bop, gOrd, gAdd, gSub, itemsOf, wipeE, bindT, tst, Function.comp_apply, gIx0, gIx1, gIx2, puts, putRV, isL, chg_eq, sE_tt, sE_tw, sE_tf, sE_tr, sE_wt, sE_ww, sE_wf, sE_wr, sE_ft, sE_fw, sE_ff, sE_fr, sE_rt, sE_rw, sE_rf, sE_rr, h, isNon]
    rcases Int.lt_trichotomy (f.1 + f.2) 0 with c | c | c
    · simp [c, show ¬ 0 < f.1 + f.2 by omega]
    · simp [c]
    · simp [c, show ¬ f.1 + f.2 < 0 by omega]
  | some r =>
    rw [e] at h
    by_cases c : 0 < f.1
    · by_cases c1 : lss lo r = true
      · simp -implicitDefEqProofs [evSs, evS, evX, evRs, ev, evs, evV, evB, evC, evO, evI_seq, evI_zip, evI_rng1, evI_rng2, evI_rng3, evI_fns, endV, seqF, bnd_ret, getV, getF, getL, frz, thaw, isR, lft, noEx_ret, RV.toD, RV.toV, isTy, toB, toI, toS, cop, bop, gOrd, gAdd, gSub, itemsOf, wipeE, bindT, tst, Function.comp_apply, gIx0, gIx1, gIx2, puts, putRV, isL, chg_eq, sE_tt, sE_tw, sE_tf, sE_tr, sE_wt, sE_ww, sE_wf, sE_wr, sE_ft, sE_fw, sE_ff, sE_fr, sE_rt, sE_rw, sE_rf, sE_rr, h, isNon, t_less _ lo r hl, c1, c]
      · simp -implicitDefEqProofs [evSs, evS, evX, evRs, ev, evs, evV, evB, evC, evO, evI_seq, evI_zip, evI_rng1, evI_rng2, evI_rng3, evI_fns, endV, seqF, bnd_ret, getV, getF, getL, frz, thaw, isR, lft, noEx_ret, RV.toD, RV.toV, isTy, toB, toI, toS, cop, bop, gOrd, gAdd, gSub, itemsOf, wipeE, bindT, tst, Function.comp_apply, gIx0, gIx1, gIx2, puts, putRV, isL, chg_eq, sE_tt, sE_tw, sE_tf, sE_tr, sE_wt, sE_ww, sE_wf, sE_wr, sE_ft, sE_fw, sE_ff, sE_fr, sE_rt, sE_rw, sE_rf, sE_rr, h, isNon, t_less _ lo r hl, c1, c]
    · by_cases c1 : lss lo r = true
      · simp -implicitDefEqProofs [evSs, evS, evX, evRs, ev, evs, evV, evB, evC, evO, evI_seq, evI_zip, evI_rng1, evI_rng2, evI_rng3, evI_fns, endV, seqF, bnd_ret, getV, getF, getL, frz, thaw, isR, lft, noEx_ret, RV.toD, RV.toV, isTy, toB, toI, toS, cop, bop, gOrd, gAdd, gSub, itemsOf, wipeE, bindT, tst, Function.comp_apply, gIx0, gIx1, gIx2, puts, putRV, isL, chg_eq, sE_tt, sE_tw, sE_tf, sE_tr, sE_wt, sE_ww, sE_wf, sE_wr, sE_ft, sE_fw, sE_ff, sE_fr, sE_rt, sE_rw, sE_rf, sE_rr, h, isNon, t_less _ lo r hl, c1, c]
      · simp -implicitDefEqProofs [evSs, evS, evX, evRs, ev, evs, evV, evB, evC, evO, evI_seq, evI_zip, evI_rng1, evI_rng2, evI_rng3, evI_fns, endV, seqF, bnd_ret, getV, getF, getL, frz, thaw, isR, lft, noEx_ret, RV.toD, RV.toV, isTy, toB, toI, toS, cop, bop, gOrd, gAdd, gSub, itemsOf, wipeE, bindT, tst, Function.comp_apply, gIx0, gIx1, gIx2, puts, putRV, isL, chg_eq, sE_tt, sE_tw, sE_tf, sE_tr, sE_wt, sE_ww, sE_wf, sE_wr, sE_ft, sE_fw, sE_ff, sE_fr, sE_rt, sE_rw, sE_rf, sE_rr, h, isNon, t_less _ lo r hl, c1, c]
end G05

-- QB05
set_option maxRecDepth 100000
set_option maxHeartbeats 4000000
namespace G05
open PySem G
theorem t_begin (d : Nat) (ks : List Bool) (h0 : 1 ≤ ks.length) (h4 : ks.length ≤ 4) : Gm T (d+1) 19 [.dat (kD ks), .dat (fD lowF), .dat (fD highF)] = ret (.d (pcD (.ev lowF highF (q0 ks)))) := by
  refine eq_of_wp fun S => ?_
  have hT : T[19]? = some d19 := rfl
  rw [gm_open hT]
  simp only [runDf, d19, startE, List.length_cons, List.length_nil, Nat.zero_add, if_true, reduceIte, Nat.reduceAdd, List.map_cons, List.map_nil, List.cons_append, List.nil_append, Nat.reduceSub, List.replicate_succ, List.replicate_zero, wp_bnd]
  have e := gEqF lowF highF
  rw [show decide (lowF = highF) = false by decide] at e
  have hm := gMulZZ ks.length h0 h4
  simp at hm
  simp -implicitDefEqProofs [wps_cons, wps_nil, seqF_nx, seqF_ret, seqF_brk, seqF_cont, wp_bnd, wp_ret, evS, evX, evRs, ev, evs, evV, evB, evC, evO, evI_seq, evI_zip, evI_rng1, evI_rng2, evI_rng3, evI_fns, endV, bnd_ret, getV, getF, getL, frz, thaw, isR, lft, noEx_ret, RV.toD, RV.toV, isTy, toB, toI, toS, cop, bop, gOrd, gAdd, gSub, itemsOf, wipeE, bindT, tst, Function.comp_apply, gIx0, gIx1, gIx2, puts, putRV, isL, chg_eq, sE_tt, sE_tw, sE_tf, sE_tr, sE_wt, sE_ww, sE_wf, sE_wr, sE_ft, sE_fw, sE_ff, sE_fr, sE_rt, sE_rw, sE_rf, sE_rr, e, gLenK h4, hm, pcD, q0, z2]
theorem t_atRatio (d : Nat) (lo hi r : Fm) (q : RunF) (h4 : q.xs.length ≤ 4) (hh : q.hd.length ≤ 1000) (hq : SmR 40 q) : Gm T (d+2) 20 [.dat (pcD (.ev lo hi q)), .dat (fD r)] = ret (.d (pcD (.one r (evR r q)))) := by
  refine eq_of_wp fun S => ?_
  have hT : T[20]? = some d20 := rfl
  rw [gm_open hT]
  simp only [runDf, d20, startE, List.length_cons, List.length_nil, Nat.zero_add, if_true, reduceIte, Nat.reduceAdd, List.map_cons, List.map_nil, List.cons_append, List.nil_append, Nat.reduceSub, List.replicate_succ, List.replicate_zero, wp_bnd]
  rw [wps_cons]
  simp -implicitDefEqProofs [wps_nil, seqF_nx, seqF_ret, seqF_brk, seqF_cont, wp_bnd, wp_ret, evS, evX, evRs, ev, evs, evV, evB, evC, evO, evI_seq, evI_zip, evI_rng1, evI_rng2, evI_rng3, evI_fns, endV, bnd_ret, getV, getF, getL, frz, thaw, isR, lft, noEx_ret, RV.toD, RV.toV, isTy, toB, toI, toS, cop, bop, gOrd, gAdd, gSub, itemsOf, wipeE, bindT, tst, Function.comp_apply, gIx0, gIx1, gIx2, puts, putRV, isL, chg_eq, sE_tt, sE_tw, sE_tf, sE_tr, sE_wt, sE_ww, sE_wf, sE_wr, sE_ft, sE_fw, sE_ff, sE_fr, sE_rt, sE_rw, sE_rf, sE_rr, pcD]
  rw [mapV_pure (e := Vl.dat ∘ fD) (g := fun f => some (.int (wrt f r)))]
  · simp -implicitDefEqProofs [wps_nil, seqF_nx, seqF_ret, seqF_brk, seqF_cont, wp_bnd, wp_ret, evS, evX, evRs, ev, evs, evV, evB, evC, evO, evI_seq, evI_zip, evI_rng1, evI_rng2, evI_rng3, evI_fns, endV, bnd_ret, getV, getF, getL, frz, thaw, isR, lft, noEx_ret, RV.toD, RV.toV, isTy, toB, toI, toS, cop, bop, gOrd, gAdd, gSub, itemsOf, wipeE, bindT, tst, Function.comp_apply, gIx0, gIx1, gIx2, puts, putRV, isL, chg_eq, sE_tt, sE_tw, sE_tf, sE_tr, sE_wt, sE_ww, sE_wf, sE_wr, sE_ft, sE_fw, sE_ff, sE_fr, sE_rt, sE_rw, sE_rf, sE_rr, gBf, sizeLine, show q.xs.length ≤ 16777216 by omega]
    rw [wps_cons]
    simp -implicitDefEqProofs [wps_nil, seqF_nx, seqF_ret, seqF_brk, seqF_cont, wp_bnd, wp_ret, evS, evX, evRs, ev, evs, evV, evB, evC, evO, evI_seq, evI_zip, evI_rng1, evI_rng2, evI_rng3, evI_fns, endV, bnd_ret, getV, getF, getL, frz, thaw, isR, lft, noEx_ret, RV.toD, RV.toV, isTy, toB, toI, toS, cop, bop, gOrd, gAdd, gSub, itemsOf, wipeE, bindT, tst, Function.comp_apply, gIx0, gIx1, gIx2, puts, putRV, isL, chg_eq, sE_tt, sE_tw, sE_tf, sE_tr, sE_wt, sE_ww, sE_wf, sE_wr, sE_ft, sE_fw, sE_ff, sE_fr, sE_rt, sE_rw, sE_rf, sE_rr]
    have e4 : gIx (.tuple [fD lo, fD hi, .tuple (q.xs.map fD), fD q.t, .tuple (q.hd.map rgF)]) (.int 4) = some (.tuple (q.hd.map rgF)) := by simp [gIx, L2.atI, L2.ixN]
    have e3 : gIx (.tuple [fD lo, fD hi, .tuple (q.xs.map fD), fD q.t, .tuple (q.hd.map rgF)]) (.int 3) = some (fD q.t) := by simp [gIx, L2.atI, L2.ixN]
    simp -implicitDefEqProofs [wps_nil, seqF_nx, seqF_ret, seqF_brk, seqF_cont, wp_bnd, wp_ret, evS, evX, evRs, ev, evs, evV, evB, evC, evO, evI_seq, evI_zip, evI_rng1, evI_rng2, evI_rng3, evI_fns, endV, bnd_ret, getV, getF, getL, frz, thaw, isR, lft, noEx_ret, RV.toD, RV.toV, isTy, toB, toI, toS, cop, bop, gOrd, gAdd, gSub, itemsOf, wipeE, bindT, tst, Function.comp_apply, gIx0, gIx1, gIx2, puts, putRV, isL, chg_eq, sE_tt, sE_tw, sE_tf, sE_tr, sE_wt, sE_ww, sE_wf, sE_wr, sE_ft, sE_fw, sE_ff, sE_fr, sE_rt, sE_rw, sE_rf, sE_rr, e4]
    rw [mapV_pure (e := Vl.dat ∘ rgF) (g := fun p => some (rgD (wrt p.1 r, p.2)))]
    · simp -implicitDefEqProofs [wps_nil, seqF_nx, seqF_ret, seqF_brk, seqF_cont, wp_bnd, wp_ret, evS, evX, evRs, ev, evs, evV, evB, evC, evO, evI_seq, evI_zip, evI_rng1, evI_rng2, evI_rng3, evI_fns, endV, bnd_ret, getV, getF, getL, frz, thaw, isR, lft, noEx_ret, RV.toD, RV.toV, isTy, toB, toI, toS, cop, bop, gOrd, gAdd, gSub, itemsOf, wipeE, bindT, tst, Function.comp_apply, gIx0, gIx1, gIx2, puts, putRV, isL, chg_eq, sE_tt, sE_tw, sE_tf, sE_tr, sE_wt, sE_ww, sE_wf, sE_wr, sE_ft, sE_fw, sE_ff, sE_fr, sE_rt, sE_rw, sE_rf, sE_rr, gBf, sizeLine, show q.hd.length ≤ 16777216 by omega]
      rw [wps_cons]
      simp -implicitDefEqProofs [wps_nil, seqF_nx, seqF_ret, seqF_brk, seqF_cont, wp_bnd, wp_ret, evS, evX, evRs, ev, evs, evV, evB, evC, evO, evI_seq, evI_zip, evI_rng1, evI_rng2, evI_rng3, evI_fns, endV, bnd_ret, getV, getF, getL, frz, thaw, isR, lft, noEx_ret, RV.toD, RV.toV, isTy, toB, toI, toS, cop, bop, gOrd, gAdd, gSub, itemsOf, wipeE, bindT, tst, Function.comp_apply, gIx0, gIx1, gIx2, puts, putRV, isL, chg_eq, sE_tt, sE_tw, sE_tf, sE_tr, sE_wt, sE_ww, sE_wf, sE_wr, sE_ft, sE_fw, sE_ff, sE_fr, sE_rt, sE_rw, sE_rf, sE_rr, e3, t_valueAt d q.t r hq.t, evR, Function.comp_def]
    · intro p hp
      simp -implicitDefEqProofs [evSs, evS, evX, evRs, ev, evs, evV, evB, evC, evO, evI_seq, evI_zip, evI_rng1, evI_rng2, evI_rng3, evI_fns, endV, seqF, bnd_ret, getV, getF, getL, frz, thaw, isR, lft, noEx_ret, RV.toD, RV.toV, isTy, toB, toI, toS, cop, bop, gOrd, gAdd, gSub, itemsOf, wipeE, bindT, tst, Function.comp_apply, gIx0, gIx1, gIx2, puts, putRV, isL, chg_eq, sE_tt, sE_tw, sE_tf, sE_tr, sE_wt, sE_ww, sE_wf, sE_wr, sE_ft, sE_fw, sE_ff, sE_fr, sE_rt, sE_rw, sE_rf, sE_rr, t_valueAt d p.1 r (hq.hd p hp)]
  · intro f hf
    simp -implicitDefEqProofs [evSs, evS, evX, evRs, ev, evs, evV, evB, evC, evO, evI_seq, evI_zip, evI_rng1, evI_rng2, evI_rng3, evI_fns, endV, seqF, bnd_ret, getV, getF, getL, frz, thaw, isR, lft, noEx_ret, RV.toD, RV.toV, isTy, toB, toI, toS, cop, bop, gOrd, gAdd, gSub, itemsOf, wipeE, bindT, tst, Function.comp_apply, gIx0, gIx1, gIx2, puts, putRV, isL, chg_eq, sE_tt, sE_tw, sE_tf, sE_tr, sE_wt, sE_ww, sE_wf, sE_wr, sE_ft, sE_fw, sE_ff, sE_fr, sE_rt, sE_rw, sE_rf, sE_rr, t_valueAt d f r (hq.xs f hf)]
theorem t_cut (d : Nat) (lo hi r : Fm) (q : RunF) (h4 : q.xs.length ≤ 4) (hh : q.hd.length ≤ 1000) (hq : SmR 40 q) : Gm T (d+3) 21 [.dat (pcD (.ev lo hi q)), .dat (fD r)] = ret (.new [pcD (.ev lo r q), pcD (.one r (evR r q)), pcD (.ev r hi q)]) := by
  have hT : T[21]? = some d21 := rfl
  rw [gm_open hT]
  simp only [runDf, d21, startE]
  have h := t_atRatio d lo hi r q h4 hh hq
  simp -implicitDefEqProofs [evSs, evS, evX, evRs, ev, evs, evV, evB, evC, evO, evI_seq, evI_zip, evI_rng1, evI_rng2, evI_rng3, evI_fns, endV, seqF, bnd_ret, getV, getF, getL, frz, thaw, isR, lft, noEx_ret, RV.toD, RV.toV, isTy, toB, toI, toS, cop, bop, gOrd, gAdd, gSub, itemsOf, wipeE, bindT, tst, Function.comp_apply, gIx0, gIx1, gIx2, puts, putRV, isL, chg_eq, sE_tt, sE_tw, sE_tf, sE_tr, sE_wt, sE_ww, sE_wf, sE_wr, sE_ft, sE_fw, sE_ff, sE_fr, sE_rt, sE_rw, sE_rf, sE_rr, h, pcD, gSl, cutD, HT.sIx, sizeLine] at h ⊢
theorem t_asked (d : Nat) (xs : List Fm) (s : St) (h4 : xs.length ≤ 4) (hs : s.ok xs.length) : Gm T (d+2) 22 [.dat (.tuple (xs.map fD)), .dat s.d] = ret (.new ((asked xs s).map fD)) := by
  refine eq_of_wp fun S => ?_
  have hT : T[22]? = some d22 := rfl
  rw [gm_open hT]
  simp only [runDf, d22, startE, List.length_cons, List.length_nil, Nat.zero_add, if_true, reduceIte, Nat.reduceAdd, List.map_cons, List.map_nil, List.cons_append, List.nil_append, Nat.reduceSub, List.replicate_succ, List.replicate_zero, wp_bnd]
  cases s with
  | turn i =>
    simp -implicitDefEqProofs [wps_cons, wps_nil, seqF_nx, seqF_ret, seqF_brk, seqF_cont, wp_bnd, wp_ret, evS, evX, evRs, ev, evs, evV, evB, evC, evO, evI_seq, evI_zip, evI_rng1, evI_rng2, evI_rng3, evI_fns, endV, bnd_ret, getV, getF, getL, frz, thaw, isR, lft, noEx_ret, RV.toD, RV.toV, isTy, toB, toI, toS, cop, bop, gOrd, gAdd, gSub, itemsOf, wipeE, bindT, tst, Function.comp_apply, gIx0, gIx1, gIx2, puts, putRV, isL, chg_eq, sE_tt, sE_tw, sE_tf, sE_tr, sE_wt, sE_ww, sE_wf, sE_wr, sE_ft, sE_fw, sE_ff, sE_fr, sE_rt, sE_rw, sE_rf, sE_rr, asked]
  | ring =>
    simp -implicitDefEqProofs [wps_cons, wps_nil, seqF_nx, seqF_ret, seqF_brk, seqF_cont, wp_bnd, wp_ret, evS, evX, evRs, ev, evs, evV, evB, evC, evO, evI_seq, evI_zip, evI_rng1, evI_rng2, evI_rng3, evI_fns, endV, bnd_ret, getV, getF, getL, frz, thaw, isR, lft, noEx_ret, RV.toD, RV.toV, isTy, toB, toI, toS, cop, bop, gOrd, gAdd, gSub, itemsOf, wipeE, bindT, tst, Function.comp_apply, gIx0, gIx1, gIx2, puts, putRV, isL, chg_eq, sE_tt, sE_tw, sE_tf, sE_tr, sE_wt, sE_ww, sE_wf, sE_wr, sE_ft, sE_fw, sE_ff, sE_fr, sE_rt, sE_rw, sE_rf, sE_rr, asked]
  | wait i =>
    have hi : i < xs.length := hs
    have e : gIx (.tuple (xs.map fD)) (.int i) = some (fD (xs.getD i z2)) := by
      rw [gIx, atI_map, atI_get hi]
      simp [hi]
    simp -implicitDefEqProofs [wps_cons, wps_nil, seqF_nx, seqF_ret, seqF_brk, seqF_cont, wp_bnd, wp_ret, evS, evX, evRs, ev, evs, evV, evB, evC, evO, evI_seq, evI_zip, evI_rng1, evI_rng2, evI_rng3, evI_fns, endV, bnd_ret, getV, getF, getL, frz, thaw, isR, lft, noEx_ret, RV.toD, RV.toV, isTy, toB, toI, toS, cop, bop, gOrd, gAdd, gSub, itemsOf, wipeE, bindT, tst, Function.comp_apply, gIx0, gIx1, gIx2, puts, putRV, isL, chg_eq, sE_tt, sE_tw, sE_tf, sE_tr, sE_wt, sE_ww, sE_wf, sE_wr, sE_ft, sE_fw, sE_ff, sE_fr, sE_rt, sE_rw, sE_rf, sE_rr]
    rw [mapV_pure (e := Vl.dat ∘ fD) (g := fun f => some (fD (mns f (xs.getD i z2))))]
    · simp -implicitDefEqProofs [wps_nil, seqF_nx, seqF_ret, seqF_brk, seqF_cont, wp_bnd, wp_ret, evS, evX, evRs, ev, evs, evV, evB, evC, evO, evI_seq, evI_zip, evI_rng1, evI_rng2, evI_rng3, evI_fns, endV, bnd_ret, getV, getF, getL, frz, thaw, isR, lft, noEx_ret, RV.toD, RV.toV, isTy, toB, toI, toS, cop, bop, gOrd, gAdd, gSub, itemsOf, wipeE, bindT, tst, Function.comp_apply, gIx0, gIx1, gIx2, puts, putRV, isL, chg_eq, sE_tt, sE_tw, sE_tf, sE_tr, sE_wt, sE_ww, sE_wf, sE_wr, sE_ft, sE_fw, sE_ff, sE_fr, sE_rt, sE_rw, sE_rf, sE_rr, sizeLine, show xs.length ≤ 16777216 by omega, asked]
    · intro f hf
      simp -implicitDefEqProofs [evSs, evS, evX, evRs, ev, evs, evV, evB, evC, evO, evI_seq, evI_zip, evI_rng1, evI_rng2, evI_rng3, evI_fns, endV, seqF, bnd_ret, getV, getF, getL, frz, thaw, isR, lft, noEx_ret, RV.toD, RV.toV, isTy, toB, toI, toS, cop, bop, gOrd, gAdd, gSub, itemsOf, wipeE, bindT, tst, Function.comp_apply, gIx0, gIx1, gIx2, puts, putRV, isL, chg_eq, sE_tt, sE_tw, sE_tf, sE_tr, sE_wt, sE_ww, sE_wf, sE_wr, sE_ft, sE_fw, sE_ff, sE_fr, sE_rt, sE_rw, sE_rf, sE_rr, e, t_minus, -List.getD_eq_getElem?_getD]
  | first =>
    simp -implicitDefEqProofs [wps_cons, wps_nil, seqF_nx, seqF_ret, seqF_brk, seqF_cont, wp_bnd, wp_ret, evS, evX, evRs, ev, evs, evV, evB, evC, evO, evI_seq, evI_zip, evI_rng1, evI_rng2, evI_rng3, evI_fns, endV, bnd_ret, getV, getF, getL, frz, thaw, isR, lft, noEx_ret, RV.toD, RV.toV, isTy, toB, toI, toS, cop, bop, gOrd, gAdd, gSub, itemsOf, wipeE, bindT, tst, Function.comp_apply, gIx0, gIx1, gIx2, puts, putRV, isL, chg_eq, sE_tt, sE_tw, sE_tf, sE_tr, sE_wt, sE_ww, sE_wf, sE_wr, sE_ft, sE_fw, sE_ff, sE_fr, sE_rt, sE_rw, sE_rf, sE_rr]
    rw [mapV_pure (e := Vl.dat ∘ fD) (g := fun f => some (xs.map fun g => fD (mns f g)))]
    · have hl : ((xs.map fun f => xs.map fun g => fD (mns f g)).map List.length).sum ≤ 16777216 := by
        have : ∀ ys : List Fm, ((ys.map fun f => xs.map fun g => fD (mns f g)).map List.length).sum = ys.length * xs.length := by
          intro ys
          induction ys with
          | nil => simp
          | cons y ys ih => simp only [List.map_cons, List.sum_cons, ih, List.length_map, List.length_cons, Nat.add_mul]; omega
        rw [this]
        have := Nat.mul_le_mul h4 h4
        omega
      have e : (xs.map fun f => xs.map fun g => fD (mns f g)).flatten = (asked xs .first).map fD := by
        unfold asked
        simp only
        rw [List.map_flatMap, ← List.flatMap_def]
        simp only [List.map_map, Function.comp_def]
      have ea : xs.filterMap (fun f => some (xs.map fun g => fD (mns f g))) = xs.map fun f => xs.map fun g => fD (mns f g) := by simp
      rw [ea, wp_ret]
      rw [if_pos (show _ ≤ sizeLine from hl)]
      exact ⟨_, _, rfl, by rw [e], rfl⟩
    · intro f hf
      simp -implicitDefEqProofs [evSs, evS, evX, evRs, ev, evs, evV, evB, evC, evO, evI_seq, evI_zip, evI_rng1, evI_rng2, evI_rng3, evI_fns, endV, seqF, bnd_ret, getV, getF, getL, frz, thaw, isR, lft, noEx_ret, RV.toD, RV.toV, isTy, toB, toI, toS, cop, bop, gOrd, gAdd, gSub, itemsOf, wipeE, bindT, tst, Function.comp_apply, gIx0, gIx1, gIx2, puts, putRV, isL, chg_eq, sE_tt, sE_tw, sE_tf, sE_tr, sE_wt, sE_ww, sE_wf, sE_wr, sE_ft, sE_fw, sE_ff, sE_fr, sE_rt, sE_rw, sE_rf, sE_rr, noOwn, unOwn]
      rw [mapV_pure (e := Vl.dat ∘ fD) (g := fun g => some (fD (mns f g)))]
      · simp -implicitDefEqProofs [evSs, evS, evX, evRs, ev, evs, evV, evB, evC, evO, evI_seq, evI_zip, evI_rng1, evI_rng2, evI_rng3, evI_fns, endV, seqF, bnd_ret, getV, getF, getL, frz, thaw, isR, lft, noEx_ret, RV.toD, RV.toV, isTy, toB, toI, toS, cop, bop, gOrd, gAdd, gSub, itemsOf, wipeE, bindT, tst, Function.comp_apply, gIx0, gIx1, gIx2, puts, putRV, isL, chg_eq, sE_tt, sE_tw, sE_tf, sE_tr, sE_wt, sE_ww, sE_wf, sE_wr, sE_ft, sE_fw, sE_ff, sE_fr, sE_rt, sE_rw, sE_rf, sE_rr]
      · intro g hg
        simp -implicitDefEqProofs [evSs, evS, evX, evRs, ev, evs, evV, evB, evC, evO, evI_seq, evI_zip, evI_rng1, evI_rng2, evI_rng3, evI_fns, endV, seqF, bnd_ret, getV, getF, getL, frz, thaw, isR, lft, noEx_ret, RV.toD, RV.toV, isTy, toB, toI, toS, cop, bop, gOrd, gAdd, gSub, itemsOf, wipeE, bindT, tst, Function.comp_apply, gIx0, gIx1, gIx2, puts, putRV, isL, chg_eq, sE_tt, sE_tw, sE_tf, sE_tr, sE_wt, sE_ww, sE_wf, sE_wr, sE_ft, sE_fw, sE_ff, sE_fr, sE_rt, sE_rw, sE_rf, sE_rr, t_minus]
theorem t_firstCut (d : Nat) (lo hi : Fm) (q : RunF) (s : St) (h4 : q.xs.length ≤ 4) (hs : s.ok q.xs.length) (hq : SmR 39 q) (hl : Sm 40 lo) : Gm T (d+4) 23 [.dat (pcD (.ev lo hi q)), .dat s.d] = ret (.d (optD (firstCut lo hi q.xs s))) := by
  refine eq_of_wp fun S => ?_
  have hT : T[23]? = some d23 := rfl
  rw [gm_open hT]
  simp only [runDf, d23, startE, List.length_cons, List.length_nil, Nat.zero_add, if_true, reduceIte, Nat.reduceAdd, List.map_cons, List.map_nil, List.cons_append, List.nil_append, Nat.reduceSub, List.replicate_succ, List.replicate_zero, wp_bnd]
  have ha := t_asked (d+1) q.xs s h4 hs
  have e0 : gIx (pcD (.ev lo hi q)) (.int 0) = some (fD lo) := by simp [pcD, gIx, L2.atI, L2.ixN]
  have e1 : gIx (pcD (.ev lo hi q)) (.int 1) = some (fD hi) := by simp [pcD, gIx, L2.atI, L2.ixN]
  have e2 : gIx (pcD (.ev lo hi q)) (.int 2) = some (.tuple (q.xs.map fD)) := by simp [pcD, gIx, L2.atI, L2.ixN]
  have sm := Sm.asked (s := s) hq.xs
  rw [wps_cons]
  simp -implicitDefEqProofs [wps_nil, seqF_nx, seqF_ret, seqF_brk, seqF_cont, wp_bnd, wp_ret, evS, evX, evRs, ev, evs, evV, evB, evC, evO, evI_seq, evI_zip, evI_rng1, evI_rng2, evI_rng3, evI_fns, endV, bnd_ret, getV, getF, getL, frz, thaw, isR, lft, noEx_ret, RV.toD, RV.toV, isTy, toB, toI, toS, cop, bop, gOrd, gAdd, gSub, itemsOf, wipeE, bindT, tst, Function.comp_apply, gIx0, gIx1, gIx2, puts, putRV, isL, chg_eq, sE_tt, sE_tw, sE_tf, sE_tr, sE_wt, sE_ww, sE_wf, sE_wr, sE_ft, sE_fw, sE_ff, sE_fr, sE_rt, sE_rw, sE_rf, sE_rr, e2, ha]
  generalize hP : pcD (.ev lo hi q) = P at e0 e1 e2
  refine wp_mono (forV_find (e := Vl.dat ∘ fD) (g := fun f => (zeroWithin lo hi f).map fun r => RV.d (fD r)) (I := fun env => ∃ s2 s3, env = [.vl (.dat P), .vl (.dat s.d), s2, s3]) ?_ ⟨_, _, rfl⟩) ?_
  · rintro f hf env S' ⟨s2, s3, rfl⟩
    refine ⟨_, rfl, ?_⟩
    have hz := t_zeroWithin d f lo hi (sm f hf) hl
    cases e : zeroWithin lo hi f with
    | none =>
      rw [e] at hz
      simp -implicitDefEqProofs [wps_cons, wps_nil, seqF_nx, seqF_ret, seqF_brk, seqF_cont, wp_bnd, wp_ret, evS, evX, evRs, ev, evs, evV, evB, evC, evO, evI_seq, evI_zip, evI_rng1, evI_rng2, evI_rng3, evI_fns, endV, bnd_ret, getV, getF, getL, frz, thaw, isR, lft, noEx_ret, RV.toD, RV.toV, isTy, toB, toI, toS, cop, bop, gOrd, gAdd, gSub, itemsOf, wipeE, bindT, tst, Function.comp_apply, gIx0, gIx1, gIx2, puts, putRV, isL, chg_eq, sE_tt, sE_tw, sE_tf, sE_tr, sE_wt, sE_ww, sE_wf, sE_wr, sE_ft, sE_fw, sE_ff, sE_fr, sE_rt, sE_rw, sE_rf, sE_rr, e0, e1, hz, isNon]
    | some r =>
      rw [e] at hz
      simp -implicitDefEqProofs [wps_cons, wps_nil, seqF_nx, seqF_ret, seqF_brk, seqF_cont, wp_bnd, wp_ret, evS, evX, evRs, ev, evs, evV, evB, evC, evO, evI_seq, evI_zip, evI_rng1, evI_rng2, evI_rng3, evI_fns, endV, bnd_ret, getV, getF, getL, frz, thaw, isR, lft, noEx_ret, RV.toD, RV.toV, isTy, toB, toI, toS, cop, bop, gOrd, gAdd, gSub, itemsOf, wipeE, bindT, tst, Function.comp_apply, gIx0, gIx1, gIx2, puts, putRV, isL, chg_eq, sE_tt, sE_tw, sE_tf, sE_tr, sE_wt, sE_ww, sE_wf, sE_wr, sE_ft, sE_fw, sE_ff, sE_fr, sE_rt, sE_rw, sE_rf, sE_rr, e0, e1, hz, isNon]
  · rintro ⟨f, env⟩ S' ⟨rfl, h⟩
    have ef : firstCut lo hi q.xs s = (asked q.xs s).findSome? (zeroWithin lo hi) := rfl
    have em : (asked q.xs s).findSome? (fun f => (zeroWithin lo hi f).map fun r => RV.d (fD r)) = (firstCut lo hi q.xs s).map fun r => RV.d (fD r) := by
      rw [ef, List.map_findSome?]
      rfl
    rw [em] at h
    cases e : firstCut lo hi q.xs s with
    | none =>
      rw [e] at h
      obtain ⟨h, s2, s3, rfl⟩ := h
      cases h
      simp -implicitDefEqProofs [wps_cons, wps_nil, seqF_nx, seqF_ret, seqF_brk, seqF_cont, wp_bnd, wp_ret, evS, evX, evRs, ev, evs, evV, evB, evC, evO, evI_seq, evI_zip, evI_rng1, evI_rng2, evI_rng3, evI_fns, endV, bnd_ret, getV, getF, getL, frz, thaw, isR, lft, noEx_ret, RV.toD, RV.toV, isTy, toB, toI, toS, cop, bop, gOrd, gAdd, gSub, itemsOf, wipeE, bindT, tst, Function.comp_apply, gIx0, gIx1, gIx2, puts, putRV, isL, chg_eq, sE_tt, sE_tw, sE_tf, sE_tr, sE_wt, sE_ww, sE_wf, sE_wr, sE_ft, sE_fw, sE_ff, sE_fr, sE_rt, sE_rw, sE_rf, sE_rr, optD]
    | some r =>
      rw [e] at h
      cases h
      simp -implicitDefEqProofs [wps_cons, wps_nil, seqF_nx, seqF_ret, seqF_brk, seqF_cont, wp_bnd, wp_ret, evS, evX, evRs, ev, evs, evV, evB, evC, evO, evI_seq, evI_zip, evI_rng1, evI_rng2, evI_rng3, evI_fns, endV, bnd_ret, getV, getF, getL, frz, thaw, isR, lft, noEx_ret, RV.toD, RV.toV, isTy, toB, toI, toS, cop, bop, gOrd, gAdd, gSub, itemsOf, wipeE, bindT, tst, Function.comp_apply, gIx0, gIx1, gIx2, puts, putRV, isL, chg_eq, sE_tt, sE_tw, sE_tf, sE_tr, sE_wt, sE_ww, sE_wf, sE_wr, sE_ft, sE_fw, sE_ff, sE_fr, sE_rt, sE_rw, sE_rf, sE_rr, optD]
theorem t_least (d : Nat) (lo : Fm) (xs : List Fm) (hx : ∀ f ∈ xs, Sm 39 f) (hl : Sm 40 lo) : Gm T (d+4) 24 [.dat (.tuple (xs.map fD)), .dat (fD lo)] = ret (.d (optD (least lo xs))) := by
  refine eq_of_wp fun S => ?_
  have hT : T[24]? = some d24 := rfl
  rw [gm_open hT]
  simp only [runDf, d24, startE, List.length_cons, List.length_nil, Nat.zero_add, if_true, reduceIte, Nat.reduceAdd, List.map_cons, List.map_nil, List.cons_append, List.nil_append, Nat.reduceSub, List.replicate_succ, List.replicate_zero, wp_bnd]
  rw [wps_cons]
  simp -implicitDefEqProofs [wps_nil, seqF_nx, seqF_ret, seqF_brk, seqF_cont, wp_bnd, wp_ret, evS, evX, evRs, ev, evs, evV, evB, evC, evO, evI_seq, evI_zip, evI_rng1, evI_rng2, evI_rng3, evI_fns, endV, bnd_ret, getV, getF, getL, frz, thaw, isR, lft, noEx_ret, RV.toD, RV.toV, isTy, toB, toI, toS, cop, bop, gOrd, gAdd, gSub, itemsOf, wipeE, bindT, tst, Function.comp_apply, gIx0, gIx1, gIx2, puts, putRV, isL, chg_eq, sE_tt, sE_tw, sE_tf, sE_tr, sE_wt, sE_ww, sE_wf, sE_wr, sE_ft, sE_fw, sE_ff, sE_fr, sE_rt, sE_rw, sE_rf, sE_rr]
  rw [wps_cons]
  simp -implicitDefEqProofs [wps_nil, seqF_nx, seqF_ret, seqF_brk, seqF_cont, wp_bnd, wp_ret, evS, evX, evRs, ev, evs, evV, evB, evC, evO, evI_seq, evI_zip, evI_rng1, evI_rng2, evI_rng3, evI_fns, endV, bnd_ret, getV, getF, getL, frz, thaw, isR, lft, noEx_ret, RV.toD, RV.toV, isTy, toB, toI, toS, cop, bop, gOrd, gAdd, gSub, itemsOf, wipeE, bindT, tst, Function.comp_apply, gIx0, gIx1, gIx2, puts, putRV, isL, chg_eq, sE_tt, sE_tw, sE_tf, sE_tr, sE_wt, sE_ww, sE_wf, sE_wr, sE_ft, sE_fw, sE_ff, sE_fr, sE_rt, sE_rw, sE_rf, sE_rr]
  refine wp_mono (forV_wp (e := Vl.dat ∘ fD) (P := fun pre env S' => S' = S ∧ ∃ s3, env = [.vl (.dat (.tuple (xs.map fD))), .vl (.dat (fD lo)), .vl (.dat (optD (pre.foldl (pickF lo) none))), s3]) ?_ ⟨rfl, _, rfl⟩) ?_
  · rintro pre f post env S' hx' ⟨rfl, s3, rfl⟩
    refine ⟨_, rfl, ?_⟩
    have hf : Sm 39 f := hx f (by rw [hx']; simp)
    have ef : (pre ++ [f]).foldl (pickF lo) none = pickF lo (pre.foldl (pickF lo) none) f := by rw [List.foldl_append]; rfl
    rw [ef]
    have hg : ∀ g, pre.foldl (pickF lo) none = some g → Sm 39 g := fun g e => by
      have := ((least_fold (lo := lo) pre none (by simp)).1 g e).1
      exact hx g (by rw [hx']; rcases this with h | h; simp [h]; cases h)
    generalize pre.foldl (pickF lo) none = o at hg
    unfold pickF
    by_cases c : f = z2
    · simp -implicitDefEqProofs [wps_cons, wps_nil, seqF_nx, seqF_ret, seqF_brk, seqF_cont, wp_bnd, wp_ret, evS, evX, evRs, ev, evs, evV, evB, evC, evO, evI_seq, evI_zip, evI_rng1, evI_rng2, evI_rng3, evI_fns, endV, bnd_ret, getV, getF, getL, frz, thaw, isR, lft, noEx_ret, RV.toD, RV.toV, isTy, toB, toI, toS, cop, bop, gOrd, gAdd, gSub, itemsOf, wipeE, bindT, tst, Function.comp_apply, gIx0, gIx1, gIx2, puts, putRV, isL, chg_eq, sE_tt, sE_tw, sE_tf, sE_tr, sE_wt, sE_ww, sE_wf, sE_wr, sE_ft, sE_fw, sE_ff, sE_fr, sE_rt, sE_rw, sE_rf, sE_rr, gEqFz, c]
    · cases o with
      | none => simp -implicitDefEqProofs [wps_cons, wps_nil, seqF_nx, seqF_ret, seqF_brk, seqF_cont, wp_bnd, wp_ret, evS, evX, evRs, ev, evs, evV, evB, evC, evO, evI_seq, evI_zip, evI_rng1, evI_rng2, evI_rng3, evI_fns, endV, bnd_ret, getV, getF, getL, frz, thaw, isR, lft, noEx_ret, RV.toD, RV.toV, isTy, toB, toI, toS, cop, bop, gOrd, gAdd, gSub, itemsOf, wipeE, bindT, tst, Function.comp_apply, gIx0, gIx1, gIx2, puts, putRV, isL, chg_eq, sE_tt, sE_tw, sE_tf, sE_tr, sE_wt, sE_ww, sE_wf, sE_wr, sE_ft, sE_fw, sE_ff, sE_fr, sE_rt, sE_rw, sE_rf, sE_rr, gEqFz, c, optD, isNon]
      | some g =>
        have hm := t_signOf d (mns g f) lo ((hg g rfl).mns hf) hl
        by_cases c2 : 0 < signOf (mns g f) lo
        · simp -implicitDefEqProofs [wps_cons, wps_nil, seqF_nx, seqF_ret, seqF_brk, seqF_cont, wp_bnd, wp_ret, evS, evX, evRs, ev, evs, evV, evB, evC, evO, evI_seq, evI_zip, evI_rng1, evI_rng2, evI_rng3, evI_fns, endV, bnd_ret, getV, getF, getL, frz, thaw, isR, lft, noEx_ret, RV.toD, RV.toV, isTy, toB, toI, toS, cop, bop, gOrd, gAdd, gSub, itemsOf, wipeE, bindT, tst, Function.comp_apply, gIx0, gIx1, gIx2, puts, putRV, isL, chg_eq, sE_tt, sE_tw, sE_tf, sE_tr, sE_wt, sE_ww, sE_wf, sE_wr, sE_ft, sE_fw, sE_ff, sE_fr, sE_rt, sE_rw, sE_rf, sE_rr, gEqFz, c, optD, isNon, t_minus, hm, c2]
        · simp -implicitDefEqProofs [wps_cons, wps_nil, seqF_nx, seqF_ret, seqF_brk, seqF_cont, wp_bnd, wp_ret, evS, evX, evRs, ev, evs, evV, evB, evC, evO, evI_seq, evI_zip, evI_rng1, evI_rng2, evI_rng3, evI_fns, endV, bnd_ret, getV, getF, getL, frz, thaw, isR, lft, noEx_ret, RV.toD, RV.toV, isTy, toB, toI, toS, cop, bop, gOrd, gAdd, gSub, itemsOf, wipeE, bindT, tst, Function.comp_apply, gIx0, gIx1, gIx2, puts, putRV, isL, chg_eq, sE_tt, sE_tw, sE_tf, sE_tr, sE_wt, sE_ww, sE_wf, sE_wr, sE_ft, sE_fw, sE_ff, sE_fr, sE_rt, sE_rw, sE_rf, sE_rr, gEqFz, c, optD, isNon, t_minus, hm, c2]
  · rintro ⟨f, env⟩ S' ⟨hf, rfl, s3, rfl⟩
    cases hf
    simp -implicitDefEqProofs [wps_cons, wps_nil, seqF_nx, seqF_ret, seqF_brk, seqF_cont, wp_bnd, wp_ret, evS, evX, evRs, ev, evs, evV, evB, evC, evO, evI_seq, evI_zip, evI_rng1, evI_rng2, evI_rng3, evI_fns, endV, bnd_ret, getV, getF, getL, frz, thaw, isR, lft, noEx_ret, RV.toD, RV.toV, isTy, toB, toI, toS, cop, bop, gOrd, gAdd, gSub, itemsOf, wipeE, bindT, tst, Function.comp_apply, gIx0, gIx1, gIx2, puts, putRV, isL, chg_eq, sE_tt, sE_tw, sE_tf, sE_tr, sE_wt, sE_ww, sE_wf, sE_wr, sE_ft, sE_fw, sE_ff, sE_fr, sE_rt, sE_rw, sE_rf, sE_rr, least]
theorem t_waited (d : Nat) (lo hi f : Fm) (q : RunF) (h4 : q.xs.length ≤ 4) (hq : SmR 39 q) (hl : Sm 40 lo) (hf : Sm 39 f) : Gm T (d+4) 25 [.dat (pcD (.ev lo hi q)), .dat (fD f)] = ret (.d (pcD (.ev lo hi ⟨waitedF lo f q.xs, pls q.t f, q.hd⟩))) := by
  refine eq_of_wp fun S => ?_
  have hT : T[25]? = some d25 := rfl
  rw [gm_open hT]
  simp only [runDf, d25, startE, List.length_cons, List.length_nil, Nat.zero_add, if_true, reduceIte, Nat.reduceAdd, List.map_cons, List.map_nil, List.cons_append, List.nil_append, Nat.reduceSub, List.replicate_succ, List.replicate_zero, wp_bnd]
  rw [wps_cons]
  simp -implicitDefEqProofs [wps_nil, seqF_nx, seqF_ret, seqF_brk, seqF_cont, wp_bnd, wp_ret, evS, evX, evRs, ev, evs, evV, evB, evC, evO, evI_seq, evI_zip, evI_rng1, evI_rng2, evI_rng3, evI_fns, endV, bnd_ret, getV, getF, getL, frz, thaw, isR, lft, noEx_ret, RV.toD, RV.toV, isTy, toB, toI, toS, cop, bop, gOrd, gAdd, gSub, itemsOf, wipeE, bindT, tst, Function.comp_apply, gIx0, gIx1, gIx2, puts, putRV, isL, chg_eq, sE_tt, sE_tw, sE_tf, sE_tr, sE_wt, sE_ww, sE_wf, sE_wr, sE_ft, sE_fw, sE_ff, sE_fr, sE_rt, sE_rw, sE_rf, sE_rr, pcD]
  rw [wps_cons]
  simp -implicitDefEqProofs [wps_nil, seqF_nx, seqF_ret, seqF_brk, seqF_cont, wp_bnd, wp_ret, evS, evX, evRs, ev, evs, evV, evB, evC, evO, evI_seq, evI_zip, evI_rng1, evI_rng2, evI_rng3, evI_fns, endV, bnd_ret, getV, getF, getL, frz, thaw, isR, lft, noEx_ret, RV.toD, RV.toV, isTy, toB, toI, toS, cop, bop, gOrd, gAdd, gSub, itemsOf, wipeE, bindT, tst, Function.comp_apply, gIx0, gIx1, gIx2, puts, putRV, isL, chg_eq, sE_tt, sE_tw, sE_tf, sE_tr, sE_wt, sE_ww, sE_wf, sE_wr, sE_ft, sE_fw, sE_ff, sE_fr, sE_rt, sE_rw, sE_rf, sE_rr]
  rw [mapV_pure (e := Vl.dat ∘ fD) (g := fun g => some (fD (mns g f)))]
  · simp -implicitDefEqProofs [wps_nil, seqF_nx, seqF_ret, seqF_brk, seqF_cont, wp_bnd, wp_ret, evS, evX, evRs, ev, evs, evV, evB, evC, evO, evI_seq, evI_zip, evI_rng1, evI_rng2, evI_rng3, evI_fns, endV, bnd_ret, getV, getF, getL, frz, thaw, isR, lft, noEx_ret, RV.toD, RV.toV, isTy, toB, toI, toS, cop, bop, gOrd, gAdd, gSub, itemsOf, wipeE, bindT, tst, Function.comp_apply, gIx0, gIx1, gIx2, puts, putRV, isL, chg_eq, sE_tt, sE_tw, sE_tf, sE_tr, sE_wt, sE_ww, sE_wf, sE_wr, sE_ft, sE_fw, sE_ff, sE_fr, sE_rt, sE_rw, sE_rf, sE_rr, sizeLine, show q.xs.length ≤ 16777216 by omega]
    rw [wps_cons]
    simp -implicitDefEqProofs [wps_nil, seqF_nx, seqF_ret, seqF_brk, seqF_cont, wp_bnd, wp_ret, evS, evX, evRs, ev, evs, evV, evB, evC, evO, evI_seq, evI_zip, evI_rng1, evI_rng2, evI_rng3, evI_fns, endV, bnd_ret, getV, getF, getL, frz, thaw, isR, lft, noEx_ret, RV.toD, RV.toV, isTy, toB, toI, toS, cop, bop, gOrd, gAdd, gSub, itemsOf, wipeE, bindT, tst, Function.comp_apply, gIx0, gIx1, gIx2, puts, putRV, isL, chg_eq, sE_tt, sE_tw, sE_tf, sE_tr, sE_wt, sE_ww, sE_wf, sE_wr, sE_ft, sE_fw, sE_ff, sE_fr, sE_rt, sE_rw, sE_rf, sE_rr]
    rw [mapV_pure (e := Vl.dat ∘ fun g => fD (mns g f)) (g := fun g => some (fD (if 0 < signOf (mns g f) lo then mns g f else z2)))]
    · simp -implicitDefEqProofs [wps_nil, seqF_nx, seqF_ret, seqF_brk, seqF_cont, wp_bnd, wp_ret, evS, evX, evRs, ev, evs, evV, evB, evC, evO, evI_seq, evI_zip, evI_rng1, evI_rng2, evI_rng3, evI_fns, endV, bnd_ret, getV, getF, getL, frz, thaw, isR, lft, noEx_ret, RV.toD, RV.toV, isTy, toB, toI, toS, cop, bop, gOrd, gAdd, gSub, itemsOf, wipeE, bindT, tst, Function.comp_apply, gIx0, gIx1, gIx2, puts, putRV, isL, chg_eq, sE_tt, sE_tw, sE_tf, sE_tr, sE_wt, sE_ww, sE_wf, sE_wr, sE_ft, sE_fw, sE_ff, sE_fr, sE_rt, sE_rw, sE_rf, sE_rr, gBf, sizeLine, show q.xs.length ≤ 16777216 by omega]
      rw [wps_cons]
      simp -implicitDefEqProofs [wps_nil, seqF_nx, seqF_ret, seqF_brk, seqF_cont, wp_bnd, wp_ret, evS, evX, evRs, ev, evs, evV, evB, evC, evO, evI_seq, evI_zip, evI_rng1, evI_rng2, evI_rng3, evI_fns, endV, bnd_ret, getV, getF, getL, frz, thaw, isR, lft, noEx_ret, RV.toD, RV.toV, isTy, toB, toI, toS, cop, bop, gOrd, gAdd, gSub, itemsOf, wipeE, bindT, tst, Function.comp_apply, gIx0, gIx1, gIx2, puts, putRV, isL, chg_eq, sE_tt, sE_tw, sE_tf, sE_tr, sE_wt, sE_ww, sE_wf, sE_wr, sE_ft, sE_fw, sE_ff, sE_fr, sE_rt, sE_rw, sE_rf, sE_rr, waitedF, pls, Function.comp_def]
    · intro g hg
      have hs := t_signOf d (mns g f) lo ((hq.xs g hg).mns hf) hl
      by_cases c : 0 < signOf (mns g f) lo
      · simp -implicitDefEqProofs [evSs, evS, evX, evRs, ev, evs, evV, evB, evC, evO, evI_seq, evI_zip, evI_rng1, evI_rng2, evI_rng3, evI_fns, endV, seqF, bnd_ret, getV, getF, getL, frz, thaw, isR, lft, noEx_ret, RV.toD, RV.toV, isTy, toB, toI, toS, cop, bop, gOrd, gAdd, gSub, itemsOf, wipeE, bindT, tst, Function.comp_apply, gIx0, gIx1, gIx2, puts, putRV, isL, chg_eq, sE_tt, sE_tw, sE_tf, sE_tr, sE_wt, sE_ww, sE_wf, sE_wr, sE_ft, sE_fw, sE_ff, sE_fr, sE_rt, sE_rw, sE_rf, sE_rr, hs, c]
      · simp -implicitDefEqProofs [evSs, evS, evX, evRs, ev, evs, evV, evB, evC, evO, evI_seq, evI_zip, evI_rng1, evI_rng2, evI_rng3, evI_fns, endV, seqF, bnd_ret, getV, getF, getL, frz, thaw, isR, lft, noEx_ret, RV.toD, RV.toV, isTy, toB, toI, toS, cop, bop, gOrd, gAdd, gSub, itemsOf, wipeE, bindT, tst, Function.comp_apply, gIx0, gIx1, gIx2, puts, putRV, isL, chg_eq, sE_tt, sE_tw, sE_tf, sE_tr, sE_wt, sE_ww, sE_wf, sE_wr, sE_ft, sE_fw, sE_ff, sE_fr, sE_rt, sE_rw, sE_rf, sE_rr, hs, c, z2]
  · intro g hg
    simp -implicitDefEqProofs [evSs, evS, evX, evRs, ev, evs, evV, evB, evC, evO, evI_seq, evI_zip, evI_rng1, evI_rng2, evI_rng3, evI_fns, endV, seqF, bnd_ret, getV, getF, getL, frz, thaw, isR, lft, noEx_ret, RV.toD, RV.toV, isTy, toB, toI, toS, cop, bop, gOrd, gAdd, gSub, itemsOf, wipeE, bindT, tst, Function.comp_apply, gIx0, gIx1, gIx2, puts, putRV, isL, chg_eq, sE_tt, sE_tw, sE_tf, sE_tr, sE_wt, sE_ww, sE_wf, sE_wr, sE_ft, sE_fw, sE_ff, sE_fr, sE_rt, sE_rw, sE_rf, sE_rr, t_minus]
end G05

-- QC05
set_option maxRecDepth 100000
set_option maxHeartbeats 4000000
namespace G05
open PySem G
theorem t_moved (d : Nat) (ks : List Bool) (lo hi : Fm) (q : RunF) (s : St) (h4 : ks.length ≤ 4) (hl : q.xs.length = ks.length) (hs : s.ok ks.length) (hh : q.hd.length ≤ 1000) (hq : SmR 39 q) (hlo : Sm 40 lo) :
    Gm T (d+5) 26 [.dat (kD ks), .dat (pcD (.ev lo hi q)), .dat s.d] = ret (.d (pcD (.ev lo hi (run1F ks lo q s)))) := by
  refine eq_of_wp fun S => ?_
  have hT : T[26]? = some d26 := rfl
  rw [gm_open hT]
  simp only [runDf, d26, startE, List.length_cons, List.length_nil, Nat.zero_add, if_true, reduceIte, Nat.reduceAdd, List.map_cons, List.map_nil, List.cons_append, List.nil_append, Nat.reduceSub, List.replicate_succ, List.replicate_zero, wp_bnd]
  have hw := fun f hf => t_waited d lo hi f q (by omega) hq hlo hf
  have hle := t_least d lo q.xs hq.xs hlo
  rw [wps_cons]
  simp -implicitDefEqProofs [wps_nil, seqF_nx, seqF_ret, seqF_brk, seqF_cont, wp_bnd, wp_ret, evS, evX, evRs, ev, evs, evV, evB, evC, evO, evI_seq, evI_zip, evI_rng1, evI_rng2, evI_rng3, evI_fns, endV, bnd_ret, getV, getF, getL, frz, thaw, isR, lft, noEx_ret, RV.toD, RV.toV, isTy, toB, toI, toS, cop, bop, gOrd, gAdd, gSub, itemsOf, wipeE, bindT, tst, Function.comp_apply, gIx0, gIx1, gIx2, puts, putRV, isL, chg_eq, sE_tt, sE_tw, sE_tf, sE_tr, sE_wt, sE_ww, sE_wf, sE_wr, sE_ft, sE_fw, sE_ff, sE_fr, sE_rt, sE_rw, sE_rf, sE_rr, pcD]
  have hxl : q.xs.length ≤ 16777216 := by omega
  have hhl : q.hd.length + 1 ≤ 16777216 := by omega
  cases s with
  | turn i =>
    have hi1 : i < ks.length := hs
    have hi2 : i < q.xs.length := by omega
    have e1 := gIxK hi1 h4
    have e2 := gIxFs hi2
    have ek : gEq (.str ⟨#[kCh ks[i]]⟩) (.str "p") = some (!ks[i]) := by cases ks[i] <;> decide +kernel
    have hlen : ((q.xs.map fD).take i).length + 1 ≤ 16777216 := by simp; omega
    have hlen2 : ((q.xs.map fD).take i).length + 1 + ((q.xs.map fD).drop (i + 1)).length ≤ 16777216 := by simp; omega
    have hset := cut_setF fD hi2 (mns (wholeF ks[i]) (q.xs.getD i z2))
    have hlo' := cut_lo (xs := q.xs.map fD) (i := i) (by simpa using hi2)
    have hhi' := cut_hi (xs := q.xs.map fD) (i := i) (by simpa using hi2)
    have hm := t_minus (d+3) (wholeF ks[i]) (q.xs.getD i z2)
    have hr : run1F ks lo q (.turn i) = ⟨q.xs.set i (mns (wholeF ks[i]) (q.xs.getD i z2)), q.t, q.hd⟩ := by
      simp [run1F, aftF, tkF, pls_z2, hi1]
    rw [hr]
    generalize mns (wholeF ks[i]) (q.xs.getD i z2) = y at hset hm ⊢
    generalize (q.xs.map fD).take i = A at hset hlo' hlen hlen2
    generalize (q.xs.map fD).drop (i + 1) = B at hset hhi' hlen2
    generalize q.xs.getD i z2 = x at e2 hm
    rw [← hset]
    cases hk : ks[i] <;> rw [hk] at e1 ek hm <;> simp [wholeF] at hm
    · simp -implicitDefEqProofs [wps_cons, wps_nil, seqF_nx, seqF_ret, seqF_brk, seqF_cont, wp_bnd, wp_ret, evS, evX, evRs, ev, evs, evV, evB, evC, evO, evI_seq, evI_zip, evI_rng1, evI_rng2, evI_rng3, evI_fns, endV, bnd_ret, getV, getF, getL, frz, thaw, isR, lft, noEx_ret, RV.toD, RV.toV, isTy, toB, toI, toS, cop, bop, gOrd, gAdd, gSub, itemsOf, wipeE, bindT, tst, Function.comp_apply, gIx0, gIx1, gIx2, puts, putRV, isL, chg_eq, sE_tt, sE_tw, sE_tf, sE_tr, sE_wt, sE_ww, sE_wf, sE_wr, sE_ft, sE_fw, sE_ff, sE_fr, sE_rt, sE_rw, sE_rf, sE_rr, e1, ek, e2, hm, gSl, hlo', hhi', sizeLine, hlen, hlen2]
    · simp -implicitDefEqProofs [wps_cons, wps_nil, seqF_nx, seqF_ret, seqF_brk, seqF_cont, wp_bnd, wp_ret, evS, evX, evRs, ev, evs, evV, evB, evC, evO, evI_seq, evI_zip, evI_rng1, evI_rng2, evI_rng3, evI_fns, endV, bnd_ret, getV, getF, getL, frz, thaw, isR, lft, noEx_ret, RV.toD, RV.toV, isTy, toB, toI, toS, cop, bop, gOrd, gAdd, gSub, itemsOf, wipeE, bindT, tst, Function.comp_apply, gIx0, gIx1, gIx2, puts, putRV, isL, chg_eq, sE_tt, sE_tw, sE_tf, sE_tr, sE_wt, sE_ww, sE_wf, sE_wr, sE_ft, sE_fw, sE_ff, sE_fr, sE_rt, sE_rw, sE_rf, sE_rr, e1, ek, e2, hm, gSl, hlo', hhi', sizeLine, hlen, hlen2]
  | ring =>
    rw [wps_cons]
    simp -implicitDefEqProofs [wps_cons, wps_nil, seqF_nx, seqF_ret, seqF_brk, seqF_cont, wp_bnd, wp_ret, evS, evX, evRs, ev, evs, evV, evB, evC, evO, evI_seq, evI_zip, evI_rng1, evI_rng2, evI_rng3, evI_fns, endV, bnd_ret, getV, getF, getL, frz, thaw, isR, lft, noEx_ret, RV.toD, RV.toV, isTy, toB, toI, toS, cop, bop, gOrd, gAdd, gSub, itemsOf, wipeE, bindT, tst, Function.comp_apply, gIx0, gIx1, gIx2, puts, putRV, isL, chg_eq, sE_tt, sE_tw, sE_tf, sE_tr, sE_wt, sE_ww, sE_wf, sE_wr, sE_ft, sE_fw, sE_ff, sE_fr, sE_rt, sE_rw, sE_rf, sE_rr]
    rw [mapV_pure (e := Vl.dat ∘ fD) (g := fun f => some (.bool (decide (f ≠ z2))))]
    · simp -implicitDefEqProofs [wps_cons, wps_nil, seqF_nx, seqF_ret, seqF_brk, seqF_cont, wp_bnd, wp_ret, evS, evX, evRs, ev, evs, evV, evB, evC, evO, evI_seq, evI_zip, evI_rng1, evI_rng2, evI_rng3, evI_fns, endV, bnd_ret, getV, getF, getL, frz, thaw, isR, lft, noEx_ret, RV.toD, RV.toV, isTy, toB, toI, toS, cop, bop, gOrd, gAdd, gSub, itemsOf, wipeE, bindT, tst, Function.comp_apply, gIx0, gIx1, gIx2, puts, putRV, isL, chg_eq, sE_tt, sE_tw, sE_tf, sE_tr, sE_wt, sE_ww, sE_wf, sE_wr, sE_ft, sE_fw, sE_ff, sE_fr, sE_rt, sE_rw, sE_rf, sE_rr, gBf, sizeLine, hxl, hhl, run1F, aftF, tkF, pls_z2, Function.comp_def]
    · intro f _
      simp -implicitDefEqProofs [evSs, evS, evX, evRs, ev, evs, evV, evB, evC, evO, evI_seq, evI_zip, evI_rng1, evI_rng2, evI_rng3, evI_fns, endV, seqF, bnd_ret, getV, getF, getL, frz, thaw, isR, lft, noEx_ret, RV.toD, RV.toV, isTy, toB, toI, toS, cop, bop, gOrd, gAdd, gSub, itemsOf, wipeE, bindT, tst, Function.comp_apply, gIx0, gIx1, gIx2, puts, putRV, isL, chg_eq, sE_tt, sE_tw, sE_tf, sE_tr, sE_wt, sE_ww, sE_wf, sE_wr, sE_ft, sE_fw, sE_ff, sE_fr, sE_rt, sE_rw, sE_rf, sE_rr, gEqFz]
  | wait i =>
    have hi2 : i < q.xs.length := by rw [hl]; exact hs
    have e2 := gIxFs hi2
    have hw' := hw _ (sm_getD (i := i) hq.xs)
    simp [pcD] at hw'
    simp -implicitDefEqProofs [wps_cons, wps_nil, seqF_nx, seqF_ret, seqF_brk, seqF_cont, wp_bnd, wp_ret, evS, evX, evRs, ev, evs, evV, evB, evC, evO, evI_seq, evI_zip, evI_rng1, evI_rng2, evI_rng3, evI_fns, endV, bnd_ret, getV, getF, getL, frz, thaw, isR, lft, noEx_ret, RV.toD, RV.toV, isTy, toB, toI, toS, cop, bop, gOrd, gAdd, gSub, itemsOf, wipeE, bindT, tst, Function.comp_apply, gIx0, gIx1, gIx2, puts, putRV, isL, chg_eq, sE_tt, sE_tw, sE_tf, sE_tr, sE_wt, sE_ww, sE_wf, sE_wr, sE_ft, sE_fw, sE_ff, sE_fr, sE_rt, sE_rw, sE_rf, sE_rr, e2, isNon, hw', run1F, aftF, tkF]
  | first =>
    cases e : least lo q.xs with
    | none =>
      rw [e] at hle
      simp -implicitDefEqProofs [wps_cons, wps_nil, seqF_nx, seqF_ret, seqF_brk, seqF_cont, wp_bnd, wp_ret, evS, evX, evRs, ev, evs, evV, evB, evC, evO, evI_seq, evI_zip, evI_rng1, evI_rng2, evI_rng3, evI_fns, endV, bnd_ret, getV, getF, getL, frz, thaw, isR, lft, noEx_ret, RV.toD, RV.toV, isTy, toB, toI, toS, cop, bop, gOrd, gAdd, gSub, itemsOf, wipeE, bindT, tst, Function.comp_apply, gIx0, gIx1, gIx2, puts, putRV, isL, chg_eq, sE_tt, sE_tw, sE_tf, sE_tr, sE_wt, sE_ww, sE_wf, sE_wr, sE_ft, sE_fw, sE_ff, sE_fr, sE_rt, sE_rw, sE_rf, sE_rr, hle, optD, isNon, run1F, aftF, tkF, e, pls_z2]
    | some f =>
      rw [e] at hle
      have hw' := hw f (hq.xs f (least_some e).1)
      simp [pcD] at hw'
      simp -implicitDefEqProofs [wps_cons, wps_nil, seqF_nx, seqF_ret, seqF_brk, seqF_cont, wp_bnd, wp_ret, evS, evX, evRs, ev, evs, evV, evB, evC, evO, evI_seq, evI_zip, evI_rng1, evI_rng2, evI_rng3, evI_fns, endV, bnd_ret, getV, getF, getL, frz, thaw, isR, lft, noEx_ret, RV.toD, RV.toV, isTy, toB, toI, toS, cop, bop, gOrd, gAdd, gSub, itemsOf, wipeE, bindT, tst, Function.comp_apply, gIx0, gIx1, gIx2, puts, putRV, isL, chg_eq, sE_tt, sE_tw, sE_tf, sE_tr, sE_wt, sE_ww, sE_wf, sE_wr, sE_ft, sE_fw, sE_ff, sE_fr, sE_rt, sE_rw, sE_rf, sE_rr, hle, optD, isNon, hw', run1F, aftF, tkF, e]
theorem t_movedAt (d : Nat) (ks : List Bool) (r : Fm) (q : G.Run) (s : St) (h4 : ks.length ≤ 4) (hl : q.xs.length = ks.length) (hs : s.ok ks.length) (hh : q.hd.length ≤ 1000) :
    Gm T (d+4) 27 [.dat (kD ks), .dat (pcD (.one r q)), .dat s.d] = ret (.d (pcD (.one r (run1 ks r.1 r.2 q s)))) := by
  refine eq_of_wp fun S => ?_
  have hT : T[27]? = some d27 := rfl
  rw [gm_open hT]
  simp only [runDf, d27, startE, List.length_cons, List.length_nil, Nat.zero_add, if_true, reduceIte, Nat.reduceAdd, List.map_cons, List.map_nil, List.cons_append, List.nil_append, Nat.reduceSub, List.replicate_succ, List.replicate_zero, wp_bnd]
  have hc := t_stepped d ks r.1 r.2 q.xs s h4 hl hs
  have hk := t_look (d+2) (aft ks r.1 r.2 q.xs s) (by rw [aft_len, hl]; exact h4)
  have hr := nm_ring (s := s)
  rw [wps_cons]
  simp -implicitDefEqProofs [wps_nil, seqF_nx, seqF_ret, seqF_brk, seqF_cont, wp_bnd, wp_ret, evS, evX, evRs, ev, evs, evV, evB, evC, evO, evI_seq, evI_zip, evI_rng1, evI_rng2, evI_rng3, evI_fns, endV, bnd_ret, getV, getF, getL, frz, thaw, isR, lft, noEx_ret, RV.toD, RV.toV, isTy, toB, toI, toS, cop, bop, gOrd, gAdd, gSub, itemsOf, wipeE, bindT, tst, Function.comp_apply, gIx0, gIx1, gIx2, puts, putRV, isL, chg_eq, sE_tt, sE_tw, sE_tf, sE_tr, sE_wt, sE_ww, sE_wf, sE_wr, sE_ft, sE_fw, sE_ff, sE_fr, sE_rt, sE_rw, sE_rf, sE_rr, pcD]
  rw [wps_cons]
  simp -implicitDefEqProofs [wps_nil, seqF_nx, seqF_ret, seqF_brk, seqF_cont, wp_bnd, wp_ret, evS, evX, evRs, ev, evs, evV, evB, evC, evO, evI_seq, evI_zip, evI_rng1, evI_rng2, evI_rng3, evI_fns, endV, bnd_ret, getV, getF, getL, frz, thaw, isR, lft, noEx_ret, RV.toD, RV.toV, isTy, toB, toI, toS, cop, bop, gOrd, gAdd, gSub, itemsOf, wipeE, bindT, tst, Function.comp_apply, gIx0, gIx1, gIx2, puts, putRV, isL, chg_eq, sE_tt, sE_tw, sE_tf, sE_tr, sE_wt, sE_ww, sE_wf, sE_wr, sE_ft, sE_fw, sE_ff, sE_fr, sE_rt, sE_rw, sE_rf, sE_rr, hc]
  rw [wps_cons]
  simp -implicitDefEqProofs [wps_nil, seqF_nx, seqF_ret, seqF_brk, seqF_cont, wp_bnd, wp_ret, evS, evX, evRs, ev, evs, evV, evB, evC, evO, evI_seq, evI_zip, evI_rng1, evI_rng2, evI_rng3, evI_fns, endV, bnd_ret, getV, getF, getL, frz, thaw, isR, lft, noEx_ret, RV.toD, RV.toV, isTy, toB, toI, toS, cop, bop, gOrd, gAdd, gSub, itemsOf, wipeE, bindT, tst, Function.comp_apply, gIx0, gIx1, gIx2, puts, putRV, isL, chg_eq, sE_tt, sE_tw, sE_tf, sE_tr, sE_wt, sE_ww, sE_wf, sE_wr, sE_ft, sE_fw, sE_ff, sE_fr, sE_rt, sE_rw, sE_rf, sE_rr, gIxS, hr]
  have hhl : q.hd.length + 1 ≤ 16777216 := by omega
  by_cases c : s = .ring
  · rw [if_pos c]
    have t0 : tk q.xs s = 0 := by rw [c]; rfl
    simp -implicitDefEqProofs [wps_cons, wps_nil, seqF_nx, seqF_ret, seqF_brk, seqF_cont, wp_bnd, wp_ret, evS, evX, evRs, ev, evs, evV, evB, evC, evO, evI_seq, evI_zip, evI_rng1, evI_rng2, evI_rng3, evI_fns, endV, bnd_ret, getV, getF, getL, frz, thaw, isR, lft, noEx_ret, RV.toD, RV.toV, isTy, toB, toI, toS, cop, bop, gOrd, gAdd, gSub, itemsOf, wipeE, bindT, tst, Function.comp_apply, gIx0, gIx1, gIx2, puts, putRV, isL, chg_eq, sE_tt, sE_tw, sE_tf, sE_tr, sE_wt, sE_ww, sE_wf, sE_wr, sE_ft, sE_fw, sE_ff, sE_fr, sE_rt, sE_rw, sE_rf, sE_rr, hk, sizeLine, hhl]
    simp [run1, c, tk]
  · rw [if_neg c]
    simp -implicitDefEqProofs [wps_cons, wps_nil, seqF_nx, seqF_ret, seqF_brk, seqF_cont, wp_bnd, wp_ret, evS, evX, evRs, ev, evs, evV, evB, evC, evO, evI_seq, evI_zip, evI_rng1, evI_rng2, evI_rng3, evI_fns, endV, bnd_ret, getV, getF, getL, frz, thaw, isR, lft, noEx_ret, RV.toD, RV.toV, isTy, toB, toI, toS, cop, bop, gOrd, gAdd, gSub, itemsOf, wipeE, bindT, tst, Function.comp_apply, gIx0, gIx1, gIx2, puts, putRV, isL, chg_eq, sE_tt, sE_tw, sE_tf, sE_tr, sE_wt, sE_ww, sE_wf, sE_wr, sE_ft, sE_fw, sE_ff, sE_fr, sE_rt, sE_rw, sE_rf, sE_rr, run1, c]
theorem t_advance (ks : List Bool) (s : St) (h4 : ks.length ≤ 4) (hs : s.ok ks.length) : ∀ (n d : Nat) (P : Pc) (m : Nat), m ≤ 20 → PcOk ks 1 m P → (∀ lo hi q, P = .ev lo hi q → dbt lo hi q.xs s ≤ n) → n ≤ 100 →
    Gm T (d+6+n) 28 [.dat (kD ks), .dat (pcD P), .dat s.d] = ret (.new ((adv ks n P s).map pcD)) ∨ Gm T (d+6+n) 28 [.dat (kD ks), .dat (pcD P), .dat s.d] = ret (.d (.list ((adv ks n P s).map pcD))) := by
  intro n
  induction n with
  | zero =>
    intro d P m hm hP hk hn
    refine .inl (eq_of_wp fun S => ?_)
    rw [show d + 6 + 0 = (d + 5) + 1 from rfl]
    have hT : T[28]? = some d28 := rfl
    rw [gm_open hT]
    simp only [runDf, d28, startE, List.length_cons, List.length_nil, Nat.zero_add, if_true, reduceIte, Nat.reduceAdd, List.map_cons, List.map_nil, List.cons_append, List.nil_append, Nat.reduceSub, List.replicate_succ, List.replicate_zero, wp_bnd]
    rw [wps_cons]
    simp -implicitDefEqProofs [wps_nil, seqF_nx, seqF_ret, seqF_brk, seqF_cont, wp_bnd, wp_ret, evS, evX, evRs, ev, evs, evV, evB, evC, evO, evI_seq, evI_zip, evI_rng1, evI_rng2, evI_rng3, evI_fns, endV, bnd_ret, getV, getF, getL, frz, thaw, isR, lft, noEx_ret, RV.toD, RV.toV, isTy, toB, toI, toS, cop, bop, gOrd, gAdd, gSub, itemsOf, wipeE, bindT, tst, Function.comp_apply, gIx0, gIx1, gIx2, puts, putRV, isL, chg_eq, sE_tt, sE_tw, sE_tf, sE_tr, sE_wt, sE_ww, sE_wf, sE_wr, sE_ft, sE_fw, sE_ff, sE_fr, sE_rt, sE_rw, sE_rf, sE_rr, pcD0, pcD1]
    cases P with
    | one r q =>
      obtain ⟨p1, p2, p3, p4, p5⟩ := hP
      have h := t_movedAt (d+1) ks r q s h4 p4.len hs (by omega)
      have e := gEqFg r r
      rw [decide_eq_true rfl] at e
      simp -implicitDefEqProofs [wps_cons, wps_nil, seqF_nx, seqF_ret, seqF_brk, seqF_cont, wp_bnd, wp_ret, evS, evX, evRs, ev, evs, evV, evB, evC, evO, evI_seq, evI_zip, evI_rng1, evI_rng2, evI_rng3, evI_fns, endV, bnd_ret, getV, getF, getL, frz, thaw, isR, lft, noEx_ret, RV.toD, RV.toV, isTy, toB, toI, toS, cop, bop, gOrd, gAdd, gSub, itemsOf, wipeE, bindT, tst, Function.comp_apply, gIx0, gIx1, gIx2, puts, putRV, isL, chg_eq, sE_tt, sE_tw, sE_tf, sE_tr, sE_wt, sE_ww, sE_wf, sE_wr, sE_ft, sE_fw, sE_ff, sE_fr, sE_rt, sE_rw, sE_rf, sE_rr, e, h, adv]
    | ev lo hi q =>
      obtain ⟨v, iv, sm, sl, sh, hh⟩ := hP
      have e := gEqIv v
      have hd := hk lo hi q rfl
      have hc := t_firstCut (d+1) lo hi q s (by rw [iv.len]; exact h4) (by rw [iv.len]; exact hs) (sm.mono (by omega)) (sl.mono (by omega))
      have hz := dbt_zero (Nat.le_zero.mp hd)
      rw [hz] at hc
      have hmv := t_moved d ks lo hi q s h4 iv.len hs (by omega) (sm.mono (by omega)) (sl.mono (by omega))
      simp -implicitDefEqProofs [wps_cons, wps_nil, seqF_nx, seqF_ret, seqF_brk, seqF_cont, wp_bnd, wp_ret, evS, evX, evRs, ev, evs, evV, evB, evC, evO, evI_seq, evI_zip, evI_rng1, evI_rng2, evI_rng3, evI_fns, endV, bnd_ret, getV, getF, getL, frz, thaw, isR, lft, noEx_ret, RV.toD, RV.toV, isTy, toB, toI, toS, cop, bop, gOrd, gAdd, gSub, itemsOf, wipeE, bindT, tst, Function.comp_apply, gIx0, gIx1, gIx2, puts, putRV, isL, chg_eq, sE_tt, sE_tw, sE_tf, sE_tr, sE_wt, sE_ww, sE_wf, sE_wr, sE_ft, sE_fw, sE_ff, sE_fr, sE_rt, sE_rw, sE_rf, sE_rr, e, hc, optD, isNon, hmv, adv]
  | succ n ih =>
    intro d P m hm hP hk hn
    rw [show d + 6 + (n + 1) = (d + 6 + n) + 1 from rfl]
    cases P with
    | one r q =>
      refine .inl (eq_of_wp fun S => ?_)
      have hT : T[28]? = some d28 := rfl
      rw [gm_open hT]
      simp only [runDf, d28, startE, List.length_cons, List.length_nil, Nat.zero_add, if_true, reduceIte, Nat.reduceAdd, List.map_cons, List.map_nil, List.cons_append, List.nil_append, Nat.reduceSub, List.replicate_succ, List.replicate_zero, wp_bnd]
      rw [wps_cons]
      simp -implicitDefEqProofs [wps_nil, seqF_nx, seqF_ret, seqF_brk, seqF_cont, wp_bnd, wp_ret, evS, evX, evRs, ev, evs, evV, evB, evC, evO, evI_seq, evI_zip, evI_rng1, evI_rng2, evI_rng3, evI_fns, endV, bnd_ret, getV, getF, getL, frz, thaw, isR, lft, noEx_ret, RV.toD, RV.toV, isTy, toB, toI, toS, cop, bop, gOrd, gAdd, gSub, itemsOf, wipeE, bindT, tst, Function.comp_apply, gIx0, gIx1, gIx2, puts, putRV, isL, chg_eq, sE_tt, sE_tw, sE_tf, sE_tr, sE_wt, sE_ww, sE_wf, sE_wr, sE_ft, sE_fw, sE_ff, sE_fr, sE_rt, sE_rw, sE_rf, sE_rr, pcD0, pcD1]
      obtain ⟨p1, p2, p3, p4, p5⟩ := hP
      have h := t_movedAt (d+2+n) ks r q s h4 p4.len hs (by omega)
      rw [show d + 2 + n + 4 = d + 6 + n by omega] at h
      have e := gEqFg r r
      rw [decide_eq_true rfl] at e
      simp -implicitDefEqProofs [wps_cons, wps_nil, seqF_nx, seqF_ret, seqF_brk, seqF_cont, wp_bnd, wp_ret, evS, evX, evRs, ev, evs, evV, evB, evC, evO, evI_seq, evI_zip, evI_rng1, evI_rng2, evI_rng3, evI_fns, endV, bnd_ret, getV, getF, getL, frz, thaw, isR, lft, noEx_ret, RV.toD, RV.toV, isTy, toB, toI, toS, cop, bop, gOrd, gAdd, gSub, itemsOf, wipeE, bindT, tst, Function.comp_apply, gIx0, gIx1, gIx2, puts, putRV, isL, chg_eq, sE_tt, sE_tw, sE_tf, sE_tr, sE_wt, sE_ww, sE_wf, sE_wr, sE_ft, sE_fw, sE_ff, sE_fr, sE_rt, sE_rw, sE_rf, sE_rr, e, h, adv]
    | ev lo hi q =>
      have hP0 := hP
      obtain ⟨v, iv, sm, sl, sh, hh⟩ := hP
      have e := gEqIv v
      have hd := hk lo hi q rfl
      have hc := t_firstCut (d+2+n) lo hi q s (by rw [iv.len]; exact h4) (by rw [iv.len]; exact hs) (sm.mono (by omega)) (sl.mono (by omega))
      have hmv := t_moved (d+1+n) ks lo hi q s h4 iv.len hs (by omega) (sm.mono (by omega)) (sl.mono (by omega))
      rw [show d + 2 + n + 4 = d + 6 + n by omega] at hc
      rw [show d + 1 + n + 5 = d + 6 + n by omega] at hmv
      cases ec : firstCut lo hi q.xs s with
      | none =>
        rw [ec] at hc
        refine .inl (eq_of_wp fun S => ?_)
        have hT : T[28]? = some d28 := rfl
        rw [gm_open hT]
        simp only [runDf, d28, startE, List.length_cons, List.length_nil, Nat.zero_add, if_true, reduceIte, Nat.reduceAdd, List.map_cons, List.map_nil, List.cons_append, List.nil_append, Nat.reduceSub, List.replicate_succ, List.replicate_zero, wp_bnd]
        rw [wps_cons]
        simp -implicitDefEqProofs [wps_nil, seqF_nx, seqF_ret, seqF_brk, seqF_cont, wp_bnd, wp_ret, evS, evX, evRs, ev, evs, evV, evB, evC, evO, evI_seq, evI_zip, evI_rng1, evI_rng2, evI_rng3, evI_fns, endV, bnd_ret, getV, getF, getL, frz, thaw, isR, lft, noEx_ret, RV.toD, RV.toV, isTy, toB, toI, toS, cop, bop, gOrd, gAdd, gSub, itemsOf, wipeE, bindT, tst, Function.comp_apply, gIx0, gIx1, gIx2, puts, putRV, isL, chg_eq, sE_tt, sE_tw, sE_tf, sE_tr, sE_wt, sE_ww, sE_wf, sE_wr, sE_ft, sE_fw, sE_ff, sE_fr, sE_rt, sE_rw, sE_rf, sE_rr, pcD0, pcD1]
        simp -implicitDefEqProofs [wps_cons, wps_nil, seqF_nx, seqF_ret, seqF_brk, seqF_cont, wp_bnd, wp_ret, evS, evX, evRs, ev, evs, evV, evB, evC, evO, evI_seq, evI_zip, evI_rng1, evI_rng2, evI_rng3, evI_fns, endV, bnd_ret, getV, getF, getL, frz, thaw, isR, lft, noEx_ret, RV.toD, RV.toV, isTy, toB, toI, toS, cop, bop, gOrd, gAdd, gSub, itemsOf, wipeE, bindT, tst, Function.comp_apply, gIx0, gIx1, gIx2, puts, putRV, isL, chg_eq, sE_tt, sE_tw, sE_tf, sE_tr, sE_wt, sE_ww, sE_wf, sE_wr, sE_ft, sE_fw, sE_ff, sE_fr, sE_rt, sE_rw, sE_rf, sE_rr, e, hc, optD, isNon, hmv, adv, ec]
      | some r =>
        rw [ec] at hc
        obtain ⟨f, hf, ez⟩ := firstCut_some ec
        have w := zeroWithin_Wi ez
        have bl := Sb.left v w
        have br := Sb.right v w
        have hr : Sm (m + 1) r := Sm.cut sm.xs ec
        have zp := (zeroOf_Rt (zeroWithin_some.mp ez).1).2
        have hct := t_cut (d+3+n) lo hi r q (by rw [iv.len]; exact h4) (by omega) (sm.mono (by omega))
        rw [show d + 3 + n + 3 = d + 6 + n by omega] at hct
        have i1 := ih d (.ev lo r q) m hm ⟨bl.v', bl.inF iv, sm, sl, hr, hh⟩ (fun lo' hi' q' h => by cases h; have := dbt_lt ec bl (.inr rfl); omega) (by omega)
        have i2 := ih d (.one r (evR r q)) m hm ⟨zp.1, zp.2, hr, evR_in v w iv, by simp [evR]; exact hh⟩ (fun lo' hi' q' h => by cases h) (by omega)
        have i3 := ih d (.ev r hi q) m hm ⟨br.v', br.inF iv, sm, hr, sh, hh⟩ (fun lo' hi' q' h => by cases h; have := dbt_lt ec br (.inl rfl); omega) (by omega)
        have l1 := adv_len (ks := ks) (n := n) (q := q) (s := s) bl.v' (by have := dbt_lt ec bl (.inr rfl); omega)
        have l3 := adv_len (ks := ks) (n := n) (q := q) (s := s) br.v' (by have := dbt_lt ec br (.inl rfl); omega)
        rw [adv_one] at i2
        have ea : adv ks (n + 1) (.ev lo hi q) s = adv ks n (.ev lo r q) s ++ (.one r (run1 ks r.1 r.2 (evR r q) s) :: adv ks n (.ev r hi q) s) := by
          rw [adv, ec]
        rw [ea]
        generalize adv ks n (.ev lo r q) s = A at i1 l1 ⊢
        generalize adv ks n (.ev r hi q) s = B at i3 l3 ⊢
        refine .inr (eq_of_wp fun S => ?_)
        have hT : T[28]? = some d28 := rfl
        rw [gm_open hT]
        simp only [runDf, d28, startE, List.length_cons, List.length_nil, Nat.zero_add, if_true, reduceIte, Nat.reduceAdd, List.map_cons, List.map_nil, List.cons_append, List.nil_append, Nat.reduceSub, List.replicate_succ, List.replicate_zero, wp_bnd]
        rw [wps_cons]
        simp -implicitDefEqProofs [wps_nil, seqF_nx, seqF_ret, seqF_brk, seqF_cont, wp_bnd, wp_ret, evS, evX, evRs, ev, evs, evV, evB, evC, evO, evI_seq, evI_zip, evI_rng1, evI_rng2, evI_rng3, evI_fns, endV, bnd_ret, getV, getF, getL, frz, thaw, isR, lft, noEx_ret, RV.toD, RV.toV, isTy, toB, toI, toS, cop, bop, gOrd, gAdd, gSub, itemsOf, wipeE, bindT, tst, Function.comp_apply, gIx0, gIx1, gIx2, puts, putRV, isL, chg_eq, sE_tt, sE_tw, sE_tf, sE_tr, sE_wt, sE_ww, sE_wf, sE_wr, sE_ft, sE_fw, sE_ff, sE_fr, sE_rt, sE_rw, sE_rf, sE_rr, pcD0, pcD1]
        simp -implicitDefEqProofs [wps_nil, seqF_nx, seqF_ret, seqF_brk, seqF_cont, wp_bnd, wp_ret, evS, evX, evRs, ev, evs, evV, evB, evC, evO, evI_seq, evI_zip, evI_rng1, evI_rng2, evI_rng3, evI_fns, endV, bnd_ret, getV, getF, getL, frz, thaw, isR, lft, noEx_ret, RV.toD, RV.toV, isTy, toB, toI, toS, cop, bop, gOrd, gAdd, gSub, itemsOf, wipeE, bindT, tst, Function.comp_apply, gIx0, gIx1, gIx2, puts, putRV, isL, chg_eq, sE_tt, sE_tw, sE_tf, sE_tr, sE_wt, sE_ww, sE_wf, sE_wr, sE_ft, sE_fw, sE_ff, sE_fr, sE_rt, sE_rw, sE_rf, sE_rr, wps_nil, e]
        rw [wps_cons]
        simp -implicitDefEqProofs [wps_nil, seqF_nx, seqF_ret, seqF_brk, seqF_cont, wp_bnd, wp_ret, evS, evX, evRs, ev, evs, evV, evB, evC, evO, evI_seq, evI_zip, evI_rng1, evI_rng2, evI_rng3, evI_fns, endV, bnd_ret, getV, getF, getL, frz, thaw, isR, lft, noEx_ret, RV.toD, RV.toV, isTy, toB, toI, toS, cop, bop, gOrd, gAdd, gSub, itemsOf, wipeE, bindT, tst, Function.comp_apply, gIx0, gIx1, gIx2, puts, putRV, isL, chg_eq, sE_tt, sE_tw, sE_tf, sE_tr, sE_wt, sE_ww, sE_wf, sE_wr, sE_ft, sE_fw, sE_ff, sE_fr, sE_rt, sE_rw, sE_rf, sE_rr, hc, optD]
        rw [wps_cons]
        simp -implicitDefEqProofs [wps_nil, seqF_nx, seqF_ret, seqF_brk, seqF_cont, wp_bnd, wp_ret, evS, evX, evRs, ev, evs, evV, evB, evC, evO, evI_seq, evI_zip, evI_rng1, evI_rng2, evI_rng3, evI_fns, endV, bnd_ret, getV, getF, getL, frz, thaw, isR, lft, noEx_ret, RV.toD, RV.toV, isTy, toB, toI, toS, cop, bop, gOrd, gAdd, gSub, itemsOf, wipeE, bindT, tst, Function.comp_apply, gIx0, gIx1, gIx2, puts, putRV, isL, chg_eq, sE_tt, sE_tw, sE_tf, sE_tr, sE_wt, sE_ww, sE_wf, sE_wr, sE_ft, sE_fw, sE_ff, sE_fr, sE_rt, sE_rw, sE_rf, sE_rr, isNon]
        rw [wps_cons]
        simp -implicitDefEqProofs [wps_nil, seqF_nx, seqF_ret, seqF_brk, seqF_cont, wp_bnd, wp_ret, evS, evX, evRs, ev, evs, evV, evB, evC, evO, evI_seq, evI_zip, evI_rng1, evI_rng2, evI_rng3, evI_fns, endV, bnd_ret, getV, getF, getL, frz, thaw, isR, lft, noEx_ret, RV.toD, RV.toV, isTy, toB, toI, toS, cop, bop, gOrd, gAdd, gSub, itemsOf, wipeE, bindT, tst, Function.comp_apply, gIx0, gIx1, gIx2, puts, putRV, isL, chg_eq, sE_tt, sE_tw, sE_tf, sE_tr, sE_wt, sE_ww, sE_wf, sE_wr, sE_ft, sE_fw, sE_ff, sE_fr, sE_rt, sE_rw, sE_rf, sE_rr]
        rw [wps_cons]
        simp -implicitDefEqProofs [wps_nil, seqF_nx, seqF_ret, seqF_brk, seqF_cont, wp_bnd, wp_ret, evS, evX, evRs, ev, evs, evV, evB, evC, evO, evI_seq, evI_zip, evI_rng1, evI_rng2, evI_rng3, evI_fns, endV, bnd_ret, getV, getF, getL, frz, thaw, isR, lft, noEx_ret, RV.toD, RV.toV, isTy, toB, toI, toS, cop, bop, gOrd, gAdd, gSub, itemsOf, wipeE, bindT, tst, Function.comp_apply, gIx0, gIx1, gIx2, puts, putRV, isL, chg_eq, sE_tt, sE_tw, sE_tf, sE_tr, sE_wt, sE_ww, sE_wf, sE_wr, sE_ft, sE_fw, sE_ff, sE_fr, sE_rt, sE_rw, sE_rf, sE_rr, hct]
        have z1 : A.length ≤ 16777216 := by omega
        have z2 : A.length + 1 ≤ 16777216 := by omega
        have z3 : A.length + 1 + B.length ≤ 16777216 := by omega
        have z4 : A.length + (B.length + 1) ≤ 16777216 := by omega
        rcases i1 with i1 | i1 <;> rcases i2 with i2 | i2 <;> rcases i3 with i3 | i3 <;> simp -implicitDefEqProofs [wps_cons, wps_nil, seqF_nx, seqF_ret, seqF_brk, seqF_cont, wp_bnd, wp_ret, evS, evX, evRs, ev, evs, evV, evB, evC, evO, evI_seq, evI_zip, evI_rng1, evI_rng2, evI_rng3, evI_fns, endV, bnd_ret, getV, getF, getL, frz, thaw, isR, lft, noEx_ret, RV.toD, RV.toV, isTy, toB, toI, toS, cop, bop, gOrd, gAdd, gSub, itemsOf, wipeE, bindT, tst, Function.comp_apply, gIx0, gIx1, gIx2, puts, putRV, isL, chg_eq, sE_tt, sE_tw, sE_tf, sE_tr, sE_wt, sE_ww, sE_wf, sE_wr, sE_ft, sE_fw, sE_ff, sE_fr, sE_rt, sE_rw, sE_rf, sE_rr, forV, i1, i2, i3, nextF, sizeLine, z1, z2, z3, z4]
theorem t_advanceAll (d : Nat) (ks : List Bool) (s : St) (ps : List Pc) (m : Nat) (h1 : 1 ≤ ks.length) (h3 : ks.length ≤ 3) (hs : s.ok ks.length) (hm : m ≤ 15) (hp : PsOk ks 1 m ps) :
    Gm T (d+10) 29 [.dat (kD ks), .dat (.list (ps.map pcD)), .dat s.d] = ret (.d (.list ((ps.flatMap fun P => adv ks 3 P s).map pcD))) := by
  refine eq_of_wp fun S => ?_
  have hT : T[29]? = some d29 := rfl
  rw [gm_open hT]
  simp only [runDf, d29, startE, List.length_cons, List.length_nil, Nat.zero_add, if_true, reduceIte, Nat.reduceAdd, List.map_cons, List.map_nil, List.cons_append, List.nil_append, Nat.reduceSub, List.replicate_succ, List.replicate_zero, wp_bnd]
  have hall := (PsOk.step (by omega) hp h3 hs).len
  have hpow : (2 : Nat) ^ (m + 1 + 1) ≤ 2 ^ 17 := Nat.pow_le_pow_right (by omega) (by omega)
  have hpow2 : (2 : Nat) ^ 17 = 131072 := by decide
  rw [wps_cons]
  simp -implicitDefEqProofs [wps_nil, seqF_nx, seqF_ret, seqF_brk, seqF_cont, wp_bnd, wp_ret, evS, evX, evRs, ev, evs, evV, evB, evC, evO, evI_seq, evI_zip, evI_rng1, evI_rng2, evI_rng3, evI_fns, endV, bnd_ret, getV, getF, getL, frz, thaw, isR, lft, noEx_ret, RV.toD, RV.toV, isTy, toB, toI, toS, cop, bop, gOrd, gAdd, gSub, itemsOf, wipeE, bindT, tst, Function.comp_apply, gIx0, gIx1, gIx2, puts, putRV, isL, chg_eq, sE_tt, sE_tw, sE_tf, sE_tr, sE_wt, sE_ww, sE_wf, sE_wr, sE_ft, sE_fw, sE_ff, sE_fr, sE_rt, sE_rw, sE_rf, sE_rr]
  rw [wps_cons]
  simp -implicitDefEqProofs [wps_nil, seqF_nx, seqF_ret, seqF_brk, seqF_cont, wp_bnd, wp_ret, evS, evX, evRs, ev, evs, evV, evB, evC, evO, evI_seq, evI_zip, evI_rng1, evI_rng2, evI_rng3, evI_fns, endV, bnd_ret, getV, getF, getL, frz, thaw, isR, lft, noEx_ret, RV.toD, RV.toV, isTy, toB, toI, toS, cop, bop, gOrd, gAdd, gSub, itemsOf, wipeE, bindT, tst, Function.comp_apply, gIx0, gIx1, gIx2, puts, putRV, isL, chg_eq, sE_tt, sE_tw, sE_tf, sE_tr, sE_wt, sE_ww, sE_wf, sE_wr, sE_ft, sE_fw, sE_ff, sE_fr, sE_rt, sE_rw, sE_rf, sE_rr]
  refine wp_mono (forV_wp (e := Vl.dat ∘ pcD) (P := fun pre env S' => S' = S ∧ ∃ s4, env = [.vl (.dat (kD ks)), .vl (.dat (.list (ps.map pcD))), .vl (.dat s.d), .vl (.dat (.list ((pre.flatMap fun P => adv ks 3 P s).map pcD))), s4]) ?_ ⟨rfl, .un, by simp⟩) ?_
  · rintro pre P post env S' hx ⟨rfl, s4, rfl⟩
    refine ⟨_, rfl, ?_⟩
    have hP := hp.all P (by rw [hx]; simp)
    have h := t_advance ks s (by omega) hs 3 d P m (by omega) hP (dbt_le3 h3 hP hs) (by omega)
    have hlen : ((pre.flatMap fun P => adv ks 3 P s)).length + (adv ks 3 P s).length ≤ 16777216 := by
      rw [hx, List.flatMap_append, List.flatMap_cons, List.length_append, List.length_append] at hall
      omega
    rw [List.flatMap_append, List.flatMap_cons, List.flatMap_nil, List.append_nil]
    generalize (pre.flatMap fun P => adv ks 3 P s) = A at hlen ⊢
    generalize adv ks 3 P s = B at hlen h ⊢
    rcases h with h | h <;> simp -implicitDefEqProofs [wps_cons, wps_nil, seqF_nx, seqF_ret, seqF_brk, seqF_cont, wp_bnd, wp_ret, evS, evX, evRs, ev, evs, evV, evB, evC, evO, evI_seq, evI_zip, evI_rng1, evI_rng2, evI_rng3, evI_fns, endV, bnd_ret, getV, getF, getL, frz, thaw, isR, lft, noEx_ret, RV.toD, RV.toV, isTy, toB, toI, toS, cop, bop, gOrd, gAdd, gSub, itemsOf, wipeE, bindT, tst, Function.comp_apply, gIx0, gIx1, gIx2, puts, putRV, isL, chg_eq, sE_tt, sE_tw, sE_tf, sE_tr, sE_wt, sE_ww, sE_wf, sE_wr, sE_ft, sE_fw, sE_ff, sE_fr, sE_rt, sE_rw, sE_rf, sE_rr, h, sizeLine, hlen]
  · rintro ⟨f, env⟩ S' ⟨hf, rfl, s4, rfl⟩
    cases hf
    rw [seqF_nx, wps_cons]
    simp -implicitDefEqProofs [wps_nil, seqF_nx, seqF_ret, seqF_brk, seqF_cont, wp_bnd, wp_ret, evS, evX, evRs, ev, evs, evV, evB, evC, evO, evI_seq, evI_zip, evI_rng1, evI_rng2, evI_rng3, evI_fns, endV, bnd_ret, getV, getF, getL, frz, thaw, isR, lft, noEx_ret, RV.toD, RV.toV, isTy, toB, toI, toS, cop, bop, gOrd, gAdd, gSub, itemsOf, wipeE, bindT, tst, Function.comp_apply, gIx0, gIx1, gIx2, puts, putRV, isL, chg_eq, sE_tt, sE_tw, sE_tf, sE_tr, sE_wt, sE_ww, sE_wf, sE_wr, sE_ft, sE_fw, sE_ff, sE_fr, sE_rt, sE_rw, sE_rf, sE_rr]
theorem t_course (d : Nat) (ks : List Bool) (ss : List St) (h1 : 1 ≤ ks.length) (h3 : ks.length ≤ 3) (hn : ss.length ≤ 12) (hs : ∀ s ∈ ss, s.ok ks.length) :
    Gm T (d+11) 30 [.dat (.tuple [kD ks, .tuple (ss.map St.d)])] = ret (.d (.list ((coursM ks ss).map pcD))) := by
  refine eq_of_wp fun S => ?_
  have hT : T[30]? = some d30 := rfl
  rw [gm_open hT]
  simp only [runDf, d30, startE, List.length_cons, List.length_nil, Nat.zero_add, if_true, reduceIte, Nat.reduceAdd, List.map_cons, List.map_nil, List.cons_append, List.nil_append, Nat.reduceSub, List.replicate_succ, List.replicate_zero, wp_bnd]
  have hb := t_begin (d+9) ks h1 (by omega)
  have g0 : (gcon 0).2 = fD lowF := rfl
  have g1 : (gcon 1).2 = fD highF := rfl
  rw [wps_cons]
  simp -implicitDefEqProofs [wps_nil, seqF_nx, seqF_ret, seqF_brk, seqF_cont, wp_bnd, wp_ret, evS, evX, evRs, ev, evs, evV, evB, evC, evO, evI_seq, evI_zip, evI_rng1, evI_rng2, evI_rng3, evI_fns, endV, bnd_ret, getV, getF, getL, frz, thaw, isR, lft, noEx_ret, RV.toD, RV.toV, isTy, toB, toI, toS, cop, bop, gOrd, gAdd, gSub, itemsOf, wipeE, bindT, tst, Function.comp_apply, gIx0, gIx1, gIx2, puts, putRV, isL, chg_eq, sE_tt, sE_tw, sE_tf, sE_tr, sE_wt, sE_ww, sE_wf, sE_wr, sE_ft, sE_fw, sE_ff, sE_fr, sE_rt, sE_rw, sE_rf, sE_rr, g0, g1, hb]
  rw [wps_cons]
  simp -implicitDefEqProofs [wps_nil, seqF_nx, seqF_ret, seqF_brk, seqF_cont, wp_bnd, wp_ret, evS, evX, evRs, ev, evs, evV, evB, evC, evO, evI_seq, evI_zip, evI_rng1, evI_rng2, evI_rng3, evI_fns, endV, bnd_ret, getV, getF, getL, frz, thaw, isR, lft, noEx_ret, RV.toD, RV.toV, isTy, toB, toI, toS, cop, bop, gOrd, gAdd, gSub, itemsOf, wipeE, bindT, tst, Function.comp_apply, gIx0, gIx1, gIx2, puts, putRV, isL, chg_eq, sE_tt, sE_tw, sE_tf, sE_tr, sE_wt, sE_ww, sE_wf, sE_wr, sE_ft, sE_fw, sE_ff, sE_fr, sE_rt, sE_rw, sE_rf, sE_rr]
  refine wp_mono (forV_wp (e := Vl.dat ∘ St.d) (P := fun pre env S' => S' = S ∧ ∃ s2, env = [.vl (.dat (.tuple [kD ks, .tuple (ss.map St.d)])), .vl (.dat (.list ((coursM ks pre).map pcD))), s2]) ?_ ⟨rfl, .un, by simp [coursM, coursG]⟩) ?_
  · rintro pre s post env S' hx ⟨rfl, s2, rfl⟩
    refine ⟨_, rfl, ?_⟩
    have hok := coursM_ok h3 (ss := pre) (fun t ht => hs t (by rw [hx]; simp [ht]))
    have hl : pre.length ≤ 12 := by rw [hx] at hn; simp at hn; omega
    have h := t_advanceAll d ks s (coursM ks pre) pre.length h1 h3 (hs s (by rw [hx]; simp)) (by omega) hok
    rw [coursM_snoc]
    generalize coursM ks pre = A at h ⊢
    simp -implicitDefEqProofs [wps_cons, wps_nil, seqF_nx, seqF_ret, seqF_brk, seqF_cont, wp_bnd, wp_ret, evS, evX, evRs, ev, evs, evV, evB, evC, evO, evI_seq, evI_zip, evI_rng1, evI_rng2, evI_rng3, evI_fns, endV, bnd_ret, getV, getF, getL, frz, thaw, isR, lft, noEx_ret, RV.toD, RV.toV, isTy, toB, toI, toS, cop, bop, gOrd, gAdd, gSub, itemsOf, wipeE, bindT, tst, Function.comp_apply, gIx0, gIx1, gIx2, puts, putRV, isL, chg_eq, sE_tt, sE_tw, sE_tf, sE_tr, sE_wt, sE_ww, sE_wf, sE_wr, sE_ft, sE_fw, sE_ff, sE_fr, sE_rt, sE_rw, sE_rf, sE_rr, h]
  · rintro ⟨f, env⟩ S' ⟨hf, rfl, s2, rfl⟩
    cases hf
    rw [seqF_nx, wps_cons]
    simp -implicitDefEqProofs [wps_nil, seqF_nx, seqF_ret, seqF_brk, seqF_cont, wp_bnd, wp_ret, evS, evX, evRs, ev, evs, evV, evB, evC, evO, evI_seq, evI_zip, evI_rng1, evI_rng2, evI_rng3, evI_fns, endV, bnd_ret, getV, getF, getL, frz, thaw, isR, lft, noEx_ret, RV.toD, RV.toV, isTy, toB, toI, toS, cop, bop, gOrd, gAdd, gSub, itemsOf, wipeE, bindT, tst, Function.comp_apply, gIx0, gIx1, gIx2, puts, putRV, isL, chg_eq, sE_tt, sE_tw, sE_tf, sE_tr, sE_wt, sE_ww, sE_wf, sE_wr, sE_ft, sE_fw, sE_ff, sE_fr, sE_rt, sE_rw, sE_rf, sE_rr]
end G05

-- MI
namespace G
/-! ### the law's goal -/
/-- a ratio between -/
theorem mid {lo hi : Fm} (v : Iv lo hi) : Wi lo hi (lo.1 + hi.1, lo.2 + hi.2) := by
  have hd := lss_iff.mp v.d
  have a := v.l
  have b := v.h
  refine ⟨⟨by have := a.a; have := b.a; simp only; omega, by have := a.b; have := b.b; simp only; omega, by have := a.c; have := b.c; simp only; omega⟩, ?_, ?_⟩
  · rw [lss_iff]
    simp only
    rw [Int.mul_add, Int.add_mul]
    omega
  · rw [lss_iff]
    simp only
    rw [Int.mul_add, Int.add_mul]
    omega
/-- the first one that none is less than -/
def goalF (lo hi : Fm) (xs : List Fm) : Option Fm := (xs.filter fun f => decide (f ≠ z2)).find? fun f => (xs.filter fun f => decide (f ≠ z2)).all fun g => decide (sgE (mns g f) lo hi ≠ some (-1))
theorem mns_zero {f g : Fm} (h : mns f g = (0, 0)) : f = g := by
  unfold mns at h
  have h1 := congrArg Prod.fst h
  have h2 := congrArg Prod.snd h
  simp at h1 h2
  exact Prod.ext (by omega) (by omega)
theorem goal_least {lo hi : Fm} {xs : List Fm} (v : Iv lo hi) (h : firstCut lo hi xs .first = none) : goalF lo hi xs = least lo xs := by
  have hn := firstCut_none h
  have hz : ∀ f ∈ xs, ∀ g ∈ xs, zeroWithin lo hi (mns f g) = none := fun f hf g hg => hn _ (ask_first hf hg)
  have w := mid v
  generalize (lo.1 + hi.1, lo.2 + hi.2) = r at w
  -- less is less at r
  have lt : ∀ f ∈ xs, ∀ g ∈ xs, sgE (mns g f) lo hi = some (-1) ↔ wrt g r < wrt f r := fun f hf g hg => by
    have e := hz g hg f hf
    rw [sgE_signOf v e]
    obtain ⟨s1, s2, s3⟩ := signOf_at v w e
    rw [wrt_mns] at s2
    have hs := sg_of v e
    constructor
    · intro h
      have h := Option.some.inj h
      have := s2.mp (by omega)
      omega
    · intro h
      have : signOf (mns g f) lo < 0 := s2.mpr (by omega)
      generalize signOf (mns g f) lo = y at hs this ⊢
      cases hs <;> first | rfl | omega
  have eqv : ∀ f ∈ xs, ∀ g ∈ xs, wrt f r = wrt g r → f = g := fun f hf g hg e => by
    obtain ⟨s1, s2, s3⟩ := signOf_at v w (hz f hf g hg)
    rw [wrt_mns] at s1 s2
    exact mns_zero (s3.mp (by omega))
  unfold goalF
  cases e : least lo xs with
  | none =>
    have : xs.filter (fun f => decide (f ≠ z2)) = [] := by
      rw [List.filter_eq_nil_iff]
      intro f hf
      simp [least_none e f hf]
    rw [this]
    rfl
  | some m =>
    obtain ⟨mm, mz⟩ := least_some e
    have le := (least_le v w hz xs none (fun _ h => h) (by simp) m e).1
    rw [List.find?_eq_some_iff_append]
    have mf : m ∈ xs.filter fun f => decide (f ≠ z2) := List.mem_filter.mpr ⟨mm, by simpa using mz⟩
    have sub : ∀ f ∈ xs.filter (fun f => decide (f ≠ z2)), f ∈ xs ∧ f ≠ z2 := fun f hf => by
      rw [List.mem_filter] at hf
      exact ⟨hf.1, by simpa using hf.2⟩
    refine ⟨?_, ?_⟩
    · rw [List.all_eq_true]
      intro g hg
      obtain ⟨gx, gz⟩ := sub g hg
      rw [decide_eq_true_iff]
      intro hc
      have := (lt m mm g gx).mp hc
      have := le g gx gz
      omega
    · have : ∀ ys : List Fm, (∀ f ∈ ys, f ∈ xs ∧ f ≠ z2) → m ∈ ys → ∃ as bs, ys = as ++ m :: bs ∧ ∀ a ∈ as, a ≠ m := by
        intro ys
        induction ys with
        | nil => intro _ h; cases h
        | cons y ys ih =>
          intro hy hm
          by_cases c : y = m
          · exact ⟨[], ys, by rw [c]; rfl, by simp⟩
          · rcases List.mem_cons.mp hm with h | h
            · exact absurd h.symm c
            · obtain ⟨as, bs, e1, e2⟩ := ih (fun f hf => hy f (List.mem_cons_of_mem _ hf)) h
              refine ⟨y :: as, bs, by rw [e1]; rfl, fun a ha => ?_⟩
              rcases List.mem_cons.mp ha with rfl | ha
              · exact c
              · exact e2 a ha
      obtain ⟨as, bs, e1, e2⟩ := this _ sub mf
      refine ⟨as, bs, e1, fun a ha => ?_⟩
      have hax := sub a (by rw [e1]; simp [ha])
      rw [Bool.not_eq_true', List.all_eq_false]
      refine ⟨m, mf, ?_⟩
      rw [decide_eq_true_iff]
      intro hc
      apply hc
      rw [lt a hax.1 m mm]
      have h1 := le a hax.1 hax.2
      rcases Int.lt_trichotomy (wrt m r) (wrt a r) with q | q | q
      · exact q
      · exact absurd (eqv a hax.1 m mm q.symm) (e2 a ha)
      · omega
/-- the law's doubt is the program's -/
def doubtF (lo hi : Fm) (f : Fm) : Option Fm := if sgE f lo hi = none then some (rootE f lo hi) else none
theorem doubt_cut {lo hi : Fm} {xs : List Fm} {s : St} (v : Iv lo hi) : (asked xs s).findSome? (doubtF lo hi) = firstCut lo hi xs s := by
  unfold firstCut
  congr 1
  funext f
  unfold doubtF
  rw [zeroWithin_eq v.l v.h v.d]
/-- the law's step, where there is no doubt -/
def lessF1 (lo hi goal : Fm) (xs : List Fm) : List Fm := xs.map fun g => if (match sgE (mns g goal) lo hi with | some x => decide (x < 1) | none => false) = true then z2 else mns g goal
theorem less_waited {lo hi f : Fm} {xs : List Fm} (v : Iv lo hi) (h : ∀ g ∈ xs, zeroWithin lo hi (mns g f) = none) : lessF1 lo hi f xs = waitedF lo f xs := by
  unfold lessF1 waitedF
  refine List.map_congr_left fun g hg => ?_
  rw [sgE_signOf v (h g hg)]
  have hs := sg_of v (h g hg)
  generalize signOf (mns g f) lo = y at hs
  cases hs <;> simp
end G

-- RA05
set_option maxRecDepth 100000
set_option maxHeartbeats 4000000
namespace G05
open PySem G
theorem t_lReduced (d : Nat) (a b : Int) (ha : 0 < a) (hb : 0 < b) (hb' : b < 2 ^ 64) : Gm T (d+1) 45 [.dat (.int a), .dat (.int b)] = ret (.d (fD (red a b))) := by
  refine eq_of_wp fun S => ?_
  have hT : T[45]? = some d45 := rfl
  rw [gm_open hT]
  simp only [runDf, d45, startE, List.length_cons, List.length_nil, Nat.zero_add, if_true, reduceIte, Nat.reduceAdd, List.map_cons, List.map_nil, List.cons_append, List.nil_append, Nat.reduceSub, List.replicate_succ, List.replicate_zero, wp_bnd]
  have hx : ∃ x y : Int, (if a < b then b else a) = x ∧ (if b < a then b else a) = y ∧ 0 < x ∧ 0 < y ∧ Int.gcd x y = Int.gcd a b := by
    by_cases c : a < b
    · exact ⟨b, a, by rw [if_pos c], by rw [if_neg (by omega)], hb, ha, Int.gcd_comm ..⟩
    · by_cases c' : b < a
      · exact ⟨a, b, by rw [if_neg c], by rw [if_pos c'], ha, hb, rfl⟩
      · have : a = b := by omega
        subst this
        exact ⟨a, a, by rw [if_neg c], by rw [if_neg c'], ha, ha, rfl⟩
  obtain ⟨x, y, ex, ey, x0, y0, hg⟩ := hx
  rw [wps_cons]
  simp -implicitDefEqProofs [wps_nil, seqF_nx, seqF_ret, seqF_brk, seqF_cont, wp_bnd, wp_ret, evS, evX, evRs, ev, evs, evV, evB, evC, evO, evI_seq, evI_zip, evI_rng1, evI_rng2, evI_rng3, evI_fns, endV, bnd_ret, getV, getF, getL, frz, thaw, isR, lft, noEx_ret, RV.toD, RV.toV, isTy, toB, toI, toS, cop, bop, gOrd, gAdd, gSub, itemsOf, wipeE, bindT, tst, Function.comp_apply, gIx0, gIx1, gIx2, puts, putRV, isL, chg_eq, sE_tt, sE_tw, sE_tf, sE_tr, sE_wt, sE_ww, sE_wf, sE_wr, sE_ft, sE_fw, sE_ff, sE_fr, sE_rt, sE_rw, sE_rf, sE_rr, gBf, ex, ey]
  rw [wps_cons]
  simp -implicitDefEqProofs [wps_nil, seqF_nx, seqF_ret, seqF_brk, seqF_cont, wp_bnd, wp_ret, evS, evX, evRs, ev, evs, evV, evB, evC, evO, evI_seq, evI_zip, evI_rng1, evI_rng2, evI_rng3, evI_fns, endV, bnd_ret, getV, getF, getL, frz, thaw, isR, lft, noEx_ret, RV.toD, RV.toV, isTy, toB, toI, toS, cop, bop, gOrd, gAdd, gSub, itemsOf, wipeE, bindT, tst, Function.comp_apply, gIx0, gIx1, gIx2, puts, putRV, isL, chg_eq, sE_tt, sE_tw, sE_tf, sE_tr, sE_wt, sE_ww, sE_wf, sE_wr, sE_ft, sE_fw, sE_ff, sE_fr, sE_rt, sE_rw, sE_rf, sE_rr]
  refine wp_mono (loop_wp (I := fun env S' => S' = S ∧ ∃ x y : Int, 0 ≤ x ∧ 0 ≤ y ∧ (0 < x ∨ 0 < y) ∧ Int.gcd x y = Int.gcd a b ∧ env = [.vl (.dat (.int a)), .vl (.dat (.int b)), .vl (.dat (.int x)), .vl (.dat (.int y))])
    (Q := fun env S' => S' = S ∧ env = [.vl (.dat (.int a)), .vl (.dat (.int b)), .vl (.dat (.int (Int.gcd a b))), .vl (.dat (.int 0))])
    (μ := fun env => (slI env 3).toNat) ?_ ⟨rfl, x, y, by omega, by omega, .inl x0, hg, rfl⟩) ?_
  · rintro env S' ⟨rfl, x, y, hx, hy, hxy, hg, rfl⟩
    simp -implicitDefEqProofs [wps_nil, seqF_nx, seqF_ret, seqF_brk, seqF_cont, wp_bnd, wp_ret, evS, evX, evRs, ev, evs, evV, evB, evC, evO, evI_seq, evI_zip, evI_rng1, evI_rng2, evI_rng3, evI_fns, endV, bnd_ret, getV, getF, getL, frz, thaw, isR, lft, noEx_ret, RV.toD, RV.toV, isTy, toB, toI, toS, cop, bop, gOrd, gAdd, gSub, itemsOf, wipeE, bindT, tst, Function.comp_apply, gIx0, gIx1, gIx2, puts, putRV, isL, chg_eq, sE_tt, sE_tw, sE_tf, sE_tr, sE_wt, sE_ww, sE_wf, sE_wr, sE_ft, sE_fw, sE_ff, sE_fr, sE_rt, sE_rw, sE_rf, sE_rr]
    refine ⟨fun h => ?_, fun h => ?_⟩
    · have y1 := Int.emod_nonneg x (show y ≠ 0 by omega)
      have y2 := Int.emod_lt_of_pos x h
      have e := gcd_step hx h
      simp -implicitDefEqProofs [wps_cons, wps_nil, seqF_nx, seqF_ret, seqF_brk, seqF_cont, wp_bnd, wp_ret, evS, evX, evRs, ev, evs, evV, evB, evC, evO, evI_seq, evI_zip, evI_rng1, evI_rng2, evI_rng3, evI_fns, endV, bnd_ret, getV, getF, getL, frz, thaw, isR, lft, noEx_ret, RV.toD, RV.toV, isTy, toB, toI, toS, cop, bop, gOrd, gAdd, gSub, itemsOf, wipeE, bindT, tst, Function.comp_apply, gIx0, gIx1, gIx2, puts, putRV, isL, chg_eq, sE_tt, sE_tw, sE_tf, sE_tr, sE_wt, sE_ww, sE_wf, sE_wr, sE_ft, sE_fw, sE_ff, sE_fr, sE_rt, sE_rw, sE_rf, sE_rr, gMod, h, slI, gBf]
      exact ⟨⟨y, by omega, x % y, y1, .inl h, by rw [e]; exact hg, rfl, rfl⟩, by omega⟩
    · have : y = 0 := by omega
      subst this
      have : Int.gcd x 0 = x.natAbs := by simp
      rw [this] at hg
      exact ⟨by omega, rfl⟩
  · rintro ⟨f, env⟩ S' ⟨hf, rfl, rfl⟩
    cases hf
    have g0 : 0 < Int.gcd a b := Nat.pos_of_ne_zero fun e => by have := (Int.gcd_eq_zero_iff.mp e).1; omega
    have gl : Int.gcd a b ≤ b.natAbs := Nat.le_of_dvd (by omega) (Int.gcd_dvd_natAbs_right ..)
    have g1 : (Int.gcd a b).log2 < 9000 := by
      have : (Int.gcd a b).log2 < 64 := (Nat.log2_lt (by omega)).mpr (by omega)
      omega
    rw [seqF_nx]
    simp -implicitDefEqProofs [wps_cons, wps_nil, seqF_nx, seqF_ret, seqF_brk, seqF_cont, wp_bnd, wp_ret, evS, evX, evRs, ev, evs, evV, evB, evC, evO, evI_seq, evI_zip, evI_rng1, evI_rng2, evI_rng3, evI_fns, endV, bnd_ret, getV, getF, getL, frz, thaw, isR, lft, noEx_ret, RV.toD, RV.toV, isTy, toB, toI, toS, cop, bop, gOrd, gAdd, gSub, itemsOf, wipeE, bindT, tst, Function.comp_apply, gIx0, gIx1, gIx2, puts, putRV, isL, chg_eq, sE_tt, sE_tw, sE_tf, sE_tr, sE_wt, sE_ww, sE_wf, sE_wr, sE_ft, sE_fw, sE_ff, sE_fr, sE_rt, sE_rw, sE_rf, sE_rr, gFdiv, g0, g1, red]
theorem t_lWorth (d : Nat) (f r : Fm) (hf : Sm 40 f) : Gm T (d+1) 46 [.dat (fD f), .dat (fD r)] = ret (.d (.int (wrt f r))) := by
  have hT : T[46]? = some d46 := rfl
  rw [gm_open hT]
  simp only [runDf, d46, startE]
  simp -implicitDefEqProofs [evSs, evS, evX, evRs, ev, evs, evV, evB, evC, evO, evI_seq, evI_zip, evI_rng1, evI_rng2, evI_rng3, evI_fns, endV, seqF, bnd_ret, getV, getF, getL, frz, thaw, isR, lft, noEx_ret, RV.toD, RV.toV, isTy, toB, toI, toS, cop, bop, gOrd, gAdd, gSub, itemsOf, wipeE, bindT, tst, Function.comp_apply, gIx0, gIx1, gIx2, puts, putRV, isL, chg_eq, sE_tt, sE_tw, sE_tf, sE_tr, sE_wt, sE_ww, sE_wf, sE_wr, sE_ft, sE_fw, sE_ff, sE_fr, sE_rt, sE_rw, sE_rf, sE_rr, hf.m1, hf.m2, wrt]
theorem t_lOff (d : Nat) (f g : Fm) : Gm T (d+1) 47 [.dat (fD f), .dat (fD g)] = ret (.d (fD (mns f g))) := by
  have hT : T[47]? = some d47 := rfl
  rw [gm_open hT]
  simp only [runDf, d47, startE]
  simp -implicitDefEqProofs [evSs, evS, evX, evRs, ev, evs, evV, evB, evC, evO, evI_seq, evI_zip, evI_rng1, evI_rng2, evI_rng3, evI_fns, endV, seqF, bnd_ret, getV, getF, getL, frz, thaw, isR, lft, noEx_ret, RV.toD, RV.toV, isTy, toB, toI, toS, cop, bop, gOrd, gAdd, gSub, itemsOf, wipeE, bindT, tst, Function.comp_apply, gIx0, gIx1, gIx2, puts, putRV, isL, chg_eq, sE_tt, sE_tw, sE_tf, sE_tr, sE_wt, sE_ww, sE_wf, sE_wr, sE_ft, sE_fw, sE_ff, sE_fr, sE_rt, sE_rw, sE_rf, sE_rr, mns]
/-- a sign, as data -/
theorem t_lSign (d : Nat) (f lo hi : Fm) (hf : Sm 40 f) : Gm T (d+2) 48 [.dat (fD f), .dat (fD lo), .dat (fD hi)] = ret (.d (match sgE f lo hi with | some x => .int x | none => .none)) := by
  refine eq_of_wp fun S => ?_
  have hT : T[48]? = some d48 := rfl
  rw [gm_open hT]
  simp only [runDf, d48, startE, List.length_cons, List.length_nil, Nat.zero_add, if_true, reduceIte, Nat.reduceAdd, List.map_cons, List.map_nil, List.cons_append, List.nil_append, Nat.reduceSub, List.replicate_succ, List.replicate_zero, wp_bnd]
  rw [wps_cons]
  simp -implicitDefEqProofs [wps_nil, seqF_nx, seqF_ret, seqF_brk, seqF_cont, wp_bnd, wp_ret, evS, evX, evRs, ev, evs, evV, evB, evC, evO, evI_seq, evI_zip, evI_rng1, evI_rng2, evI_rng3, evI_fns, endV, bnd_ret, getV, getF, getL, frz, thaw, isR, lft, noEx_ret, RV.toD, RV.toV, isTy, toB, toI, toS, cop, bop, gOrd, gAdd, gSub, itemsOf, wipeE, bindT, tst, Function.comp_apply, gIx0, gIx1, gIx2, puts, putRV, isL, chg_eq, sE_tt, sE_tw, sE_tf, sE_tr, sE_wt, sE_ww, sE_wf, sE_wr, sE_ft, sE_fw, sE_ff, sE_fr, sE_rt, sE_rw, sE_rf, sE_rr, t_lWorth d f lo hf, t_lWorth d f hi hf]
  unfold sgE
  generalize wrt f lo = a
  generalize wrt f hi = b
  by_cases c : 0 ≤ a
  · by_cases c2 : 0 ≤ b
    · by_cases c3 : 0 < a + b
      · simp -implicitDefEqProofs [wps_cons, wps_nil, seqF_nx, seqF_ret, seqF_brk, seqF_cont, wp_bnd, wp_ret, evS, evX, evRs, ev, evs, evV, evB, evC, evO, evI_seq, evI_zip, evI_rng1, evI_rng2, evI_rng3, evI_fns, endV, bnd_ret, getV, getF, getL, frz, thaw, isR, lft, noEx_ret, RV.toD, RV.toV, isTy, toB, toI, toS, cop, bop, gOrd, gAdd, gSub, itemsOf, wipeE, bindT, tst, Function.comp_apply, gIx0, gIx1, gIx2, puts, putRV, isL, chg_eq, sE_tt, sE_tw, sE_tf, sE_tr, sE_wt, sE_ww, sE_wf, sE_wr, sE_ft, sE_fw, sE_ff, sE_fr, sE_rt, sE_rw, sE_rf, sE_rr, c, c2, c3, gBf]
      · simp -implicitDefEqProofs [wps_cons, wps_nil, seqF_nx, seqF_ret, seqF_brk, seqF_cont, wp_bnd, wp_ret, evS, evX, evRs, ev, evs, evV, evB, evC, evO, evI_seq, evI_zip, evI_rng1, evI_rng2, evI_rng3, evI_fns, endV, bnd_ret, getV, getF, getL, frz, thaw, isR, lft, noEx_ret, RV.toD, RV.toV, isTy, toB, toI, toS, cop, bop, gOrd, gAdd, gSub, itemsOf, wipeE, bindT, tst, Function.comp_apply, gIx0, gIx1, gIx2, puts, putRV, isL, chg_eq, sE_tt, sE_tw, sE_tf, sE_tr, sE_wt, sE_ww, sE_wf, sE_wr, sE_ft, sE_fw, sE_ff, sE_fr, sE_rt, sE_rw, sE_rf, sE_rr, c, c2, c3, gBf]
    · by_cases c3 : a ≤ 0
      · simp -implicitDefEqProofs [wps_cons, wps_nil, seqF_nx, seqF_ret, seqF_brk, seqF_cont, wp_bnd, wp_ret, evS, evX, evRs, ev, evs, evV, evB, evC, evO, evI_seq, evI_zip, evI_rng1, evI_rng2, evI_rng3, evI_fns, endV, bnd_ret, getV, getF, getL, frz, thaw, isR, lft, noEx_ret, RV.toD, RV.toV, isTy, toB, toI, toS, cop, bop, gOrd, gAdd, gSub, itemsOf, wipeE, bindT, tst, Function.comp_apply, gIx0, gIx1, gIx2, puts, putRV, isL, chg_eq, sE_tt, sE_tw, sE_tf, sE_tr, sE_wt, sE_ww, sE_wf, sE_wr, sE_ft, sE_fw, sE_ff, sE_fr, sE_rt, sE_rw, sE_rf, sE_rr, c, c2, c3, gBf, show b ≤ 0 by omega]
      · simp -implicitDefEqProofs [wps_cons, wps_nil, seqF_nx, seqF_ret, seqF_brk, seqF_cont, wp_bnd, wp_ret, evS, evX, evRs, ev, evs, evV, evB, evC, evO, evI_seq, evI_zip, evI_rng1, evI_rng2, evI_rng3, evI_fns, endV, bnd_ret, getV, getF, getL, frz, thaw, isR, lft, noEx_ret, RV.toD, RV.toV, isTy, toB, toI, toS, cop, bop, gOrd, gAdd, gSub, itemsOf, wipeE, bindT, tst, Function.comp_apply, gIx0, gIx1, gIx2, puts, putRV, isL, chg_eq, sE_tt, sE_tw, sE_tf, sE_tr, sE_wt, sE_ww, sE_wf, sE_wr, sE_ft, sE_fw, sE_ff, sE_fr, sE_rt, sE_rw, sE_rf, sE_rr, c, c2, c3, gBf]
  · by_cases c2 : b ≤ 0
    · simp -implicitDefEqProofs [wps_cons, wps_nil, seqF_nx, seqF_ret, seqF_brk, seqF_cont, wp_bnd, wp_ret, evS, evX, evRs, ev, evs, evV, evB, evC, evO, evI_seq, evI_zip, evI_rng1, evI_rng2, evI_rng3, evI_fns, endV, bnd_ret, getV, getF, getL, frz, thaw, isR, lft, noEx_ret, RV.toD, RV.toV, isTy, toB, toI, toS, cop, bop, gOrd, gAdd, gSub, itemsOf, wipeE, bindT, tst, Function.comp_apply, gIx0, gIx1, gIx2, puts, putRV, isL, chg_eq, sE_tt, sE_tw, sE_tf, sE_tr, sE_wt, sE_ww, sE_wf, sE_wr, sE_ft, sE_fw, sE_ff, sE_fr, sE_rt, sE_rw, sE_rf, sE_rr, c, c2, gBf, show a ≤ 0 by omega]
    · simp -implicitDefEqProofs [wps_cons, wps_nil, seqF_nx, seqF_ret, seqF_brk, seqF_cont, wp_bnd, wp_ret, evS, evX, evRs, ev, evs, evV, evB, evC, evO, evI_seq, evI_zip, evI_rng1, evI_rng2, evI_rng3, evI_fns, endV, bnd_ret, getV, getF, getL, frz, thaw, isR, lft, noEx_ret, RV.toD, RV.toV, isTy, toB, toI, toS, cop, bop, gOrd, gAdd, gSub, itemsOf, wipeE, bindT, tst, Function.comp_apply, gIx0, gIx1, gIx2, puts, putRV, isL, chg_eq, sE_tt, sE_tw, sE_tf, sE_tr, sE_wt, sE_ww, sE_wf, sE_wr, sE_ft, sE_fw, sE_ff, sE_fr, sE_rt, sE_rw, sE_rf, sE_rr, c, c2, gBf, show a ≤ 0 by omega]
theorem t_lRoot (d : Nat) (f lo hi : Fm) (v : Iv lo hi) (hf : Sm 15 f) (hl : Sm 15 lo) (hh : Sm 15 hi) (hs : sgE f lo hi = none) : Gm T (d+2) 49 [.dat (fD f), .dat (fD lo), .dat (fD hi)] = ret (.d (fD (rootE f lo hi))) := by
  refine eq_of_wp fun S => ?_
  have hT : T[49]? = some d49 := rfl
  rw [gm_open hT]
  simp only [runDf, d49, startE, List.length_cons, List.length_nil, Nat.zero_add, if_true, reduceIte, Nat.reduceAdd, List.map_cons, List.map_nil, List.cons_append, List.nil_append, Nat.reduceSub, List.replicate_succ, List.replicate_zero, wp_bnd]
  have hf40 : Sm 40 f := hf.mono (by omega)
  have hl40 : Sm 40 lo := hl.mono (by omega)
  have hh40 : Sm 40 hi := hh.mono (by omega)
  have abs : ∀ x : Int, (if x < 0 then -x else x) = (x.natAbs : Int) := fun x => by split <;> omega
  have hB : Bn 15 = 32768 := by decide +kernel
  have wb : ∀ r : Fm, Rt r → Sm 15 r → ((wrt f r).natAbs : Int) ≤ 2147483648 := fun r hr hr15 => by
    obtain ⟨a1, a2, a3, a4⟩ := hf
    obtain ⟨b1, b2, b3, b4⟩ := hr15
    have r1 := hr.a
    have r2 := hr.b
    rw [hB] at *
    unfold wrt
    have e1 : f.1 * r.1 ≤ 32768 * 32768 := Int.le_trans (Int.mul_le_mul_of_nonneg_right a2 r1) (Int.mul_le_mul_of_nonneg_left b2 (by omega))
    have e2 : f.2 * r.2 ≤ 32768 * 32768 := Int.le_trans (Int.mul_le_mul_of_nonneg_right a4 r2) (Int.mul_le_mul_of_nonneg_left b4 (by omega))
    have e3 : -32768 * r.1 ≤ f.1 * r.1 := Int.mul_le_mul_of_nonneg_right a1 r1
    have e4 : -32768 * r.2 ≤ f.2 * r.2 := Int.mul_le_mul_of_nonneg_right a3 r2
    omega
  have wl := wb lo v.l hl
  have wh := wb hi v.h hh
  have opp := sgE_none.mp hs
  have D := v.D
  have l1 := v.l.a
  have l2 := v.l.b
  have l3 := v.l.c
  have h1 := v.h.a
  have h2 := v.h.b
  have h3 := v.h.c
  have hd := lss_iff.mp v.d
  have nl : (0 : Int) < ((wrt f lo).natAbs : Int) := by omega
  have nh : (0 : Int) < ((wrt f hi).natAbs : Int) := by omega
  have pl2 : 0 < lo.2 := by
    rcases Int.lt_trichotomy lo.2 0 with c | c | c
    · omega
    · rw [c] at hd
      have := Int.mul_nonneg l1 h2
      omega
    · exact c
  have ph1 : 0 < hi.1 := by
    rcases Int.lt_trichotomy hi.1 0 with c | c | c
    · omega
    · rw [c] at hd
      have := Int.mul_nonneg l1 h2
      omega
    · exact c
  have top0 : 0 < lo.1 * ((wrt f hi).natAbs : Int) + hi.1 * ((wrt f lo).natAbs : Int) := by
    have a := Int.mul_nonneg l1 (Int.le_of_lt nh)
    have b := Int.mul_pos ph1 nl
    omega
  have bot0 : 0 < lo.2 * ((wrt f hi).natAbs : Int) + hi.2 * ((wrt f lo).natAbs : Int) := by
    have a := Int.mul_pos pl2 nh
    have b := Int.mul_nonneg h2 (Int.le_of_lt nl)
    omega
  have bot1 : lo.2 * ((wrt f hi).natAbs : Int) + hi.2 * ((wrt f lo).natAbs : Int) < 2 ^ 64 := by
    have b4 := hl.b2
    have c4 := hh.b2
    rw [hB] at b4 c4
    have e1 : lo.2 * ((wrt f hi).natAbs : Int) ≤ 32768 * 2147483648 := Int.le_trans (Int.mul_le_mul_of_nonneg_right b4 (by omega)) (Int.mul_le_mul_of_nonneg_left wh (by omega))
    have e2 : hi.2 * ((wrt f lo).natAbs : Int) ≤ 32768 * 2147483648 := Int.le_trans (Int.mul_le_mul_of_nonneg_right c4 (by omega)) (Int.mul_le_mul_of_nonneg_left wl (by omega))
    omega
  have hr := t_lReduced d _ _ top0 bot0 bot1
  rw [wps_cons]
  simp -implicitDefEqProofs [wps_nil, seqF_nx, seqF_ret, seqF_brk, seqF_cont, wp_bnd, wp_ret, evS, evX, evRs, ev, evs, evV, evB, evC, evO, evI_seq, evI_zip, evI_rng1, evI_rng2, evI_rng3, evI_fns, endV, bnd_ret, getV, getF, getL, frz, thaw, isR, lft, noEx_ret, RV.toD, RV.toV, isTy, toB, toI, toS, cop, bop, gOrd, gAdd, gSub, itemsOf, wipeE, bindT, tst, Function.comp_apply, gIx0, gIx1, gIx2, puts, putRV, isL, chg_eq, sE_tt, sE_tw, sE_tf, sE_tr, sE_wt, sE_ww, sE_wf, sE_wr, sE_ft, sE_fw, sE_ff, sE_fr, sE_rt, sE_rw, sE_rf, sE_rr, t_lWorth d f lo hf40, t_lWorth d f hi hf40, gBf, abs]
  unfold rootE
  generalize ((wrt f lo).natAbs : Int) = A at hr ⊢
  generalize ((wrt f hi).natAbs : Int) = B at hr ⊢
  rw [wps_cons]
  simp -implicitDefEqProofs [wps_nil, seqF_nx, seqF_ret, seqF_brk, seqF_cont, wp_bnd, wp_ret, evS, evX, evRs, ev, evs, evV, evB, evC, evO, evI_seq, evI_zip, evI_rng1, evI_rng2, evI_rng3, evI_fns, endV, bnd_ret, getV, getF, getL, frz, thaw, isR, lft, noEx_ret, RV.toD, RV.toV, isTy, toB, toI, toS, cop, bop, gOrd, gAdd, gSub, itemsOf, wipeE, bindT, tst, Function.comp_apply, gIx0, gIx1, gIx2, puts, putRV, isL, chg_eq, sE_tt, sE_tw, sE_tf, sE_tr, sE_wt, sE_ww, sE_wf, sE_wr, sE_ft, sE_fw, sE_ff, sE_fr, sE_rt, sE_rw, sE_rf, sE_rr, hl40.m1, hh40.m1]
  simp -implicitDefEqProofs [wps_cons, wps_nil, seqF_nx, seqF_ret, seqF_brk, seqF_cont, wp_bnd, wp_ret, evS, evX, evRs, ev, evs, evV, evB, evC, evO, evI_seq, evI_zip, evI_rng1, evI_rng2, evI_rng3, evI_fns, endV, bnd_ret, getV, getF, getL, frz, thaw, isR, lft, noEx_ret, RV.toD, RV.toV, isTy, toB, toI, toS, cop, bop, gOrd, gAdd, gSub, itemsOf, wipeE, bindT, tst, Function.comp_apply, gIx0, gIx1, gIx2, puts, putRV, isL, chg_eq, sE_tt, sE_tw, sE_tf, sE_tr, sE_wt, sE_ww, sE_wf, sE_wr, sE_ft, sE_fw, sE_ff, sE_fr, sE_rt, sE_rw, sE_rf, sE_rr, hl40.m2, hh40.m2, hr]
end G05

-- RB05
set_option maxRecDepth 100000
set_option maxHeartbeats 4000000
namespace G05
open PySem G
theorem gIxFl {xs : List Fm} {i : Nat} (h : i < xs.length) : gIx (.list (xs.map fD)) (.int i) = some (fD (xs.getD i z2)) := by
  rw [gIx, atI_map, atI_get h]
  simp [h]
theorem w_doubt (d : Nat) (xs os : List Fm) (lo hi : Fm) (v : Iv lo hi) (hl : Sm 15 lo) (hh : Sm 15 hi) (hx : ∀ f ∈ xs, ∀ o ∈ os, Sm 15 (mns f o)) (e1 e5 e6 : Sl) (S : Sto) :
    Wp (evS (Gm T (d+3)) ((.fors [] (.seq (.var 0)) (.nm 5) (.cons (.fors [] (.seq (.var 4)) (.nm 6) (.cons (.ifs [] (.isN (.call 48 (.cons (.call 47 (.cons (.var 5) (.cons (.var 6) .nil))) (.cons (.var 2) (.cons (.var 3) .nil))))) (.cons (.ret [] (.call 49 (.cons (.call 47 (.cons (.var 5) (.cons (.var 6) .nil))) (.cons (.var 2) (.cons (.var 3) .nil))))) .nil) .nil) .nil)) .nil))) [.vl (.dat (.list (xs.map fD))), e1, .vl (.dat (fD lo)), .vl (.dat (fD hi)), .vl (.dat (.list (os.map fD))), e5, e6]) S
      (fun r S' => S' = S ∧ (match (xs.findSome? fun f => (os.findSome? fun o => doubtF lo hi (mns f o))) with
        | none => r.1 = .nx
        | some q => r.1 = .ret (.d (fD q)))) := by
  simp -implicitDefEqProofs [wps_nil, seqF_nx, seqF_ret, seqF_brk, seqF_cont, wp_bnd, wp_ret, evS, evX, evRs, ev, evs, evV, evB, evC, evO, evI_seq, evI_zip, evI_rng1, evI_rng2, evI_rng3, evI_fns, endV, bnd_ret, getV, getF, getL, frz, thaw, isR, lft, noEx_ret, RV.toD, RV.toV, isTy, toB, toI, toS, cop, bop, gOrd, gAdd, gSub, itemsOf, wipeE, bindT, tst, Function.comp_apply, gIx0, gIx1, gIx2, puts, putRV, isL, chg_eq, sE_tt, sE_tw, sE_tf, sE_tr, sE_wt, sE_ww, sE_wf, sE_wr, sE_ft, sE_fw, sE_ff, sE_fr, sE_rt, sE_rw, sE_rf, sE_rr]
  refine wp_mono (forV_find (e := Vl.dat ∘ fD) (g := fun f => (os.findSome? fun o => doubtF lo hi (mns f o)).map fun q => RV.d (fD q)) (I := fun env => ∃ s5 s6, env = [.vl (.dat (.list (xs.map fD))), e1, .vl (.dat (fD lo)), .vl (.dat (fD hi)), .vl (.dat (.list (os.map fD))), s5, s6]) ?_ ⟨_, _, rfl⟩) ?_
  · rintro f hf env S' ⟨s5, s6, rfl⟩
    refine ⟨_, rfl, ?_⟩
    rw [wps_cons]
    simp -implicitDefEqProofs [wps_nil, seqF_nx, seqF_ret, seqF_brk, seqF_cont, wp_bnd, wp_ret, evS, evX, evRs, ev, evs, evV, evB, evC, evO, evI_seq, evI_zip, evI_rng1, evI_rng2, evI_rng3, evI_fns, endV, bnd_ret, getV, getF, getL, frz, thaw, isR, lft, noEx_ret, RV.toD, RV.toV, isTy, toB, toI, toS, cop, bop, gOrd, gAdd, gSub, itemsOf, wipeE, bindT, tst, Function.comp_apply, gIx0, gIx1, gIx2, puts, putRV, isL, chg_eq, sE_tt, sE_tw, sE_tf, sE_tr, sE_wt, sE_ww, sE_wf, sE_wr, sE_ft, sE_fw, sE_ff, sE_fr, sE_rt, sE_rw, sE_rf, sE_rr]
    refine wp_mono (forV_find (e := Vl.dat ∘ fD) (g := fun o => (doubtF lo hi (mns f o)).map fun q => RV.d (fD q)) (I := fun env => ∃ s6, env = [.vl (.dat (.list (xs.map fD))), e1, .vl (.dat (fD lo)), .vl (.dat (fD hi)), .vl (.dat (.list (os.map fD))), .vl (.dat (fD f)), s6]) ?_ ⟨_, rfl⟩) ?_
    · rintro o ho env S'' ⟨s6, rfl⟩
      refine ⟨_, rfl, ?_⟩
      have hm := hx f hf o ho
      have hs := t_lSign (d+1) (mns f o) lo hi (hm.mono (by omega))
      cases e : sgE (mns f o) lo hi with
      | some x =>
        rw [e] at hs
        have ed : doubtF lo hi (mns f o) = none := by unfold doubtF; rw [e]; simp
        rw [ed]
        simp -implicitDefEqProofs [wps_cons, wps_nil, seqF_nx, seqF_ret, seqF_brk, seqF_cont, wp_bnd, wp_ret, evS, evX, evRs, ev, evs, evV, evB, evC, evO, evI_seq, evI_zip, evI_rng1, evI_rng2, evI_rng3, evI_fns, endV, bnd_ret, getV, getF, getL, frz, thaw, isR, lft, noEx_ret, RV.toD, RV.toV, isTy, toB, toI, toS, cop, bop, gOrd, gAdd, gSub, itemsOf, wipeE, bindT, tst, Function.comp_apply, gIx0, gIx1, gIx2, puts, putRV, isL, chg_eq, sE_tt, sE_tw, sE_tf, sE_tr, sE_wt, sE_ww, sE_wf, sE_wr, sE_ft, sE_fw, sE_ff, sE_fr, sE_rt, sE_rw, sE_rf, sE_rr, t_lOff, hs, isNon]
      | none =>
        rw [e] at hs
        have hr := t_lRoot (d+1) (mns f o) lo hi v hm hl hh e
        have ed : doubtF lo hi (mns f o) = some (rootE (mns f o) lo hi) := by unfold doubtF; rw [e]; simp
        rw [ed]
        simp -implicitDefEqProofs [wps_cons, wps_nil, seqF_nx, seqF_ret, seqF_brk, seqF_cont, wp_bnd, wp_ret, evS, evX, evRs, ev, evs, evV, evB, evC, evO, evI_seq, evI_zip, evI_rng1, evI_rng2, evI_rng3, evI_fns, endV, bnd_ret, getV, getF, getL, frz, thaw, isR, lft, noEx_ret, RV.toD, RV.toV, isTy, toB, toI, toS, cop, bop, gOrd, gAdd, gSub, itemsOf, wipeE, bindT, tst, Function.comp_apply, gIx0, gIx1, gIx2, puts, putRV, isL, chg_eq, sE_tt, sE_tw, sE_tf, sE_tr, sE_wt, sE_ww, sE_wf, sE_wr, sE_ft, sE_fw, sE_ff, sE_fr, sE_rt, sE_rw, sE_rf, sE_rr, t_lOff, hs, hr, isNon]
    · rintro ⟨r, env⟩ S'' ⟨rfl, h⟩
      have e : (os.findSome? fun o => (doubtF lo hi (mns f o)).map fun q => RV.d (fD q)) = (os.findSome? fun o => doubtF lo hi (mns f o)).map fun q => RV.d (fD q) := by
        rw [List.map_findSome?]
        rfl
      rw [e] at h
      rw [← List.map_findSome?]
      generalize (os.findSome? fun o => doubtF lo hi (mns f o)) = z at h ⊢
      cases z with
      | none =>
        obtain ⟨hr, s6, rfl⟩ := h
        cases hr
        simp -implicitDefEqProofs [wps_cons, wps_nil, seqF_nx, seqF_ret, seqF_brk, seqF_cont, wp_bnd, wp_ret, evS, evX, evRs, ev, evs, evV, evB, evC, evO, evI_seq, evI_zip, evI_rng1, evI_rng2, evI_rng3, evI_fns, endV, bnd_ret, getV, getF, getL, frz, thaw, isR, lft, noEx_ret, RV.toD, RV.toV, isTy, toB, toI, toS, cop, bop, gOrd, gAdd, gSub, itemsOf, wipeE, bindT, tst, Function.comp_apply, gIx0, gIx1, gIx2, puts, putRV, isL, chg_eq, sE_tt, sE_tw, sE_tf, sE_tr, sE_wt, sE_ww, sE_wf, sE_wr, sE_ft, sE_fw, sE_ff, sE_fr, sE_rt, sE_rw, sE_rf, sE_rr]
      | some q =>
        cases h
        simp -implicitDefEqProofs [wps_cons, wps_nil, seqF_nx, seqF_ret, seqF_brk, seqF_cont, wp_bnd, wp_ret, evS, evX, evRs, ev, evs, evV, evB, evC, evO, evI_seq, evI_zip, evI_rng1, evI_rng2, evI_rng3, evI_fns, endV, bnd_ret, getV, getF, getL, frz, thaw, isR, lft, noEx_ret, RV.toD, RV.toV, isTy, toB, toI, toS, cop, bop, gOrd, gAdd, gSub, itemsOf, wipeE, bindT, tst, Function.comp_apply, gIx0, gIx1, gIx2, puts, putRV, isL, chg_eq, sE_tt, sE_tw, sE_tf, sE_tr, sE_wt, sE_ww, sE_wf, sE_wr, sE_ft, sE_fw, sE_ff, sE_fr, sE_rt, sE_rw, sE_rf, sE_rr]
  · rintro ⟨r, env⟩ S' ⟨rfl, h⟩
    have e : (xs.findSome? fun f => (os.findSome? fun o => doubtF lo hi (mns f o)).map fun q => RV.d (fD q)) = (xs.findSome? fun f => os.findSome? fun o => doubtF lo hi (mns f o)).map fun q => RV.d (fD q) := by
      rw [List.map_findSome?]
      rfl
    rw [e] at h
    refine ⟨rfl, ?_⟩
    cases ec : xs.findSome? fun f => os.findSome? fun o => doubtF lo hi (mns f o) with
    | none =>
      rw [ec] at h
      exact h.1
    | some q =>
      rw [ec] at h
      exact h
theorem t_lDoubt (d : Nat) (xs : List Fm) (s : St) (lo hi : Fm) (v : Iv lo hi) (hl : Sm 15 lo) (hh : Sm 15 hi) (hx : ∀ f ∈ xs, Sm 14 f) (hs : s.ok xs.length) :
    Gm T (d+4) 53 [.dat (.list (xs.map fD)), .dat s.d, .dat (fD lo), .dat (fD hi)] = ret (.d (optD (firstCut lo hi xs s))) := by
  refine eq_of_wp fun S => ?_
  rw [← doubt_cut v]
  have hT : T[53]? = some d53 := rfl
  rw [gm_open hT]
  simp only [runDf, d53, startE, List.length_cons, List.length_nil, Nat.zero_add, if_true, reduceIte, Nat.reduceAdd, List.map_cons, List.map_nil, List.cons_append, List.nil_append, Nat.reduceSub, List.replicate_succ, List.replicate_zero, wp_bnd]
  have g1 : gIn (.str "turn") (.tuple [.str "turn", .str "ring"]) = some true := by decide +kernel
  have g2 : gIn (.str "ring") (.tuple [.str "turn", .str "ring"]) = some true := by decide +kernel
  have g3 : gIn (.str "wait") (.tuple [.str "turn", .str "ring"]) = some false := by decide +kernel
  have g4 : gIn (.str "first") (.tuple [.str "turn", .str "ring"]) = some false := by decide +kernel
  rw [wps_cons]
  cases s with
  | turn i => simp -implicitDefEqProofs [wps_cons, wps_nil, seqF_nx, seqF_ret, seqF_brk, seqF_cont, wp_bnd, wp_ret, evS, evX, evRs, ev, evs, evV, evB, evC, evO, evI_seq, evI_zip, evI_rng1, evI_rng2, evI_rng3, evI_fns, endV, bnd_ret, getV, getF, getL, frz, thaw, isR, lft, noEx_ret, RV.toD, RV.toV, isTy, toB, toI, toS, cop, bop, gOrd, gAdd, gSub, itemsOf, wipeE, bindT, tst, Function.comp_apply, gIx0, gIx1, gIx2, puts, putRV, isL, chg_eq, sE_tt, sE_tw, sE_tf, sE_tr, sE_wt, sE_ww, sE_wf, sE_wr, sE_ft, sE_fw, sE_ff, sE_fr, sE_rt, sE_rw, sE_rf, sE_rr, g1, asked, optD]
  | ring => simp -implicitDefEqProofs [wps_cons, wps_nil, seqF_nx, seqF_ret, seqF_brk, seqF_cont, wp_bnd, wp_ret, evS, evX, evRs, ev, evs, evV, evB, evC, evO, evI_seq, evI_zip, evI_rng1, evI_rng2, evI_rng3, evI_fns, endV, bnd_ret, getV, getF, getL, frz, thaw, isR, lft, noEx_ret, RV.toD, RV.toV, isTy, toB, toI, toS, cop, bop, gOrd, gAdd, gSub, itemsOf, wipeE, bindT, tst, Function.comp_apply, gIx0, gIx1, gIx2, puts, putRV, isL, chg_eq, sE_tt, sE_tw, sE_tf, sE_tr, sE_wt, sE_ww, sE_wf, sE_wr, sE_ft, sE_fw, sE_ff, sE_fr, sE_rt, sE_rw, sE_rf, sE_rr, g2, asked, optD]
  | wait i =>
    have hi' : i < xs.length := hs
    have e2 := gIxFl hi'
    simp -implicitDefEqProofs [wps_nil, seqF_nx, seqF_ret, seqF_brk, seqF_cont, wp_bnd, wp_ret, evS, evX, evRs, ev, evs, evV, evB, evC, evO, evI_seq, evI_zip, evI_rng1, evI_rng2, evI_rng3, evI_fns, endV, bnd_ret, getV, getF, getL, frz, thaw, isR, lft, noEx_ret, RV.toD, RV.toV, isTy, toB, toI, toS, cop, bop, gOrd, gAdd, gSub, itemsOf, wipeE, bindT, tst, Function.comp_apply, gIx0, gIx1, gIx2, puts, putRV, isL, chg_eq, sE_tt, sE_tw, sE_tf, sE_tr, sE_wt, sE_ww, sE_wf, sE_wr, sE_ft, sE_fw, sE_ff, sE_fr, sE_rt, sE_rw, sE_rf, sE_rr, e2, -List.getD_eq_getElem?_getD]
    rw [wps_cons]
    simp -implicitDefEqProofs [wps_nil, seqF_nx, seqF_ret, seqF_brk, seqF_cont, wp_bnd, wp_ret, evS, evX, evRs, ev, evs, evV, evB, evC, evO, evI_seq, evI_zip, evI_rng1, evI_rng2, evI_rng3, evI_fns, endV, bnd_ret, getV, getF, getL, frz, thaw, isR, lft, noEx_ret, RV.toD, RV.toV, isTy, toB, toI, toS, cop, bop, gOrd, gAdd, gSub, itemsOf, wipeE, bindT, tst, Function.comp_apply, gIx0, gIx1, gIx2, puts, putRV, isL, chg_eq, sE_tt, sE_tw, sE_tf, sE_tr, sE_wt, sE_ww, sE_wf, sE_wr, sE_ft, sE_fw, sE_ff, sE_fr, sE_rt, sE_rw, sE_rf, sE_rr, wps_nil, g3]
    rw [wps_cons]
    refine wp_mono (w_doubt d xs [xs.getD i z2] lo hi v hl hh (fun f hf o ho => by rw [List.mem_singleton.mp ho]; exact (hx f hf).mns (sm_getD hx)) _ _ _ S) ?_
    rintro ⟨r, env⟩ S' ⟨rfl, h⟩
    have e : (xs.findSome? fun f => [xs.getD i z2].findSome? fun o => doubtF lo hi (mns f o)) = (asked xs (.wait i)).findSome? (doubtF lo hi) := by
      unfold asked
      rw [List.findSome?_map]
      congr 1
      funext f
      simp only [List.findSome?_cons, List.findSome?_nil, Function.comp]
      cases doubtF lo hi (mns f (xs.getD i z2)) <;> rfl
    rw [e] at h
    cases ec : (asked xs (.wait i)).findSome? (doubtF lo hi) with
    | none =>
      rw [ec] at h
      cases h
      simp -implicitDefEqProofs [wps_cons, wps_nil, seqF_nx, seqF_ret, seqF_brk, seqF_cont, wp_bnd, wp_ret, evS, evX, evRs, ev, evs, evV, evB, evC, evO, evI_seq, evI_zip, evI_rng1, evI_rng2, evI_rng3, evI_fns, endV, bnd_ret, getV, getF, getL, frz, thaw, isR, lft, noEx_ret, RV.toD, RV.toV, isTy, toB, toI, toS, cop, bop, gOrd, gAdd, gSub, itemsOf, wipeE, bindT, tst, Function.comp_apply, gIx0, gIx1, gIx2, puts, putRV, isL, chg_eq, sE_tt, sE_tw, sE_tf, sE_tr, sE_wt, sE_ww, sE_wf, sE_wr, sE_ft, sE_fw, sE_ff, sE_fr, sE_rt, sE_rw, sE_rf, sE_rr, optD]
    | some q =>
      rw [ec] at h
      cases h
      simp -implicitDefEqProofs [wps_cons, wps_nil, seqF_nx, seqF_ret, seqF_brk, seqF_cont, wp_bnd, wp_ret, evS, evX, evRs, ev, evs, evV, evB, evC, evO, evI_seq, evI_zip, evI_rng1, evI_rng2, evI_rng3, evI_fns, endV, bnd_ret, getV, getF, getL, frz, thaw, isR, lft, noEx_ret, RV.toD, RV.toV, isTy, toB, toI, toS, cop, bop, gOrd, gAdd, gSub, itemsOf, wipeE, bindT, tst, Function.comp_apply, gIx0, gIx1, gIx2, puts, putRV, isL, chg_eq, sE_tt, sE_tw, sE_tf, sE_tr, sE_wt, sE_ww, sE_wf, sE_wr, sE_ft, sE_fw, sE_ff, sE_fr, sE_rt, sE_rw, sE_rf, sE_rr, optD]
  | first =>
    simp -implicitDefEqProofs [wps_nil, seqF_nx, seqF_ret, seqF_brk, seqF_cont, wp_bnd, wp_ret, evS, evX, evRs, ev, evs, evV, evB, evC, evO, evI_seq, evI_zip, evI_rng1, evI_rng2, evI_rng3, evI_fns, endV, bnd_ret, getV, getF, getL, frz, thaw, isR, lft, noEx_ret, RV.toD, RV.toV, isTy, toB, toI, toS, cop, bop, gOrd, gAdd, gSub, itemsOf, wipeE, bindT, tst, Function.comp_apply, gIx0, gIx1, gIx2, puts, putRV, isL, chg_eq, sE_tt, sE_tw, sE_tf, sE_tr, sE_wt, sE_ww, sE_wf, sE_wr, sE_ft, sE_fw, sE_ff, sE_fr, sE_rt, sE_rw, sE_rf, sE_rr]
    rw [wps_cons]
    simp -implicitDefEqProofs [wps_nil, seqF_nx, seqF_ret, seqF_brk, seqF_cont, wp_bnd, wp_ret, evS, evX, evRs, ev, evs, evV, evB, evC, evO, evI_seq, evI_zip, evI_rng1, evI_rng2, evI_rng3, evI_fns, endV, bnd_ret, getV, getF, getL, frz, thaw, isR, lft, noEx_ret, RV.toD, RV.toV, isTy, toB, toI, toS, cop, bop, gOrd, gAdd, gSub, itemsOf, wipeE, bindT, tst, Function.comp_apply, gIx0, gIx1, gIx2, puts, putRV, isL, chg_eq, sE_tt, sE_tw, sE_tf, sE_tr, sE_wt, sE_ww, sE_wf, sE_wr, sE_ft, sE_fw, sE_ff, sE_fr, sE_rt, sE_rw, sE_rf, sE_rr, wps_nil, g4]
    rw [wps_cons]
    refine wp_mono (w_doubt d xs xs lo hi v hl hh (fun f hf o ho => (hx f hf).mns (hx o ho)) _ _ _ S) ?_
    rintro ⟨r, env⟩ S' ⟨rfl, h⟩
    have e : (xs.findSome? fun f => xs.findSome? fun o => doubtF lo hi (mns f o)) = (asked xs .first).findSome? (doubtF lo hi) := by
      unfold asked
      simp only
      rw [findSome_flatMap]
      congr 1
      funext f
      rw [List.findSome?_map]
      rfl
    rw [e] at h
    cases ec : (asked xs .first).findSome? (doubtF lo hi) with
    | none =>
      rw [ec] at h
      cases h
      simp -implicitDefEqProofs [wps_cons, wps_nil, seqF_nx, seqF_ret, seqF_brk, seqF_cont, wp_bnd, wp_ret, evS, evX, evRs, ev, evs, evV, evB, evC, evO, evI_seq, evI_zip, evI_rng1, evI_rng2, evI_rng3, evI_fns, endV, bnd_ret, getV, getF, getL, frz, thaw, isR, lft, noEx_ret, RV.toD, RV.toV, isTy, toB, toI, toS, cop, bop, gOrd, gAdd, gSub, itemsOf, wipeE, bindT, tst, Function.comp_apply, gIx0, gIx1, gIx2, puts, putRV, isL, chg_eq, sE_tt, sE_tw, sE_tf, sE_tr, sE_wt, sE_ww, sE_wf, sE_wr, sE_ft, sE_fw, sE_ff, sE_fr, sE_rt, sE_rw, sE_rf, sE_rr, optD]
    | some q =>
      rw [ec] at h
      cases h
      simp -implicitDefEqProofs [wps_cons, wps_nil, seqF_nx, seqF_ret, seqF_brk, seqF_cont, wp_bnd, wp_ret, evS, evX, evRs, ev, evs, evV, evB, evC, evO, evI_seq, evI_zip, evI_rng1, evI_rng2, evI_rng3, evI_fns, endV, bnd_ret, getV, getF, getL, frz, thaw, isR, lft, noEx_ret, RV.toD, RV.toV, isTy, toB, toI, toS, cop, bop, gOrd, gAdd, gSub, itemsOf, wipeE, bindT, tst, Function.comp_apply, gIx0, gIx1, gIx2, puts, putRV, isL, chg_eq, sE_tt, sE_tw, sE_tf, sE_tr, sE_wt, sE_ww, sE_wf, sE_wr, sE_ft, sE_fw, sE_ff, sE_fr, sE_rt, sE_rw, sE_rf, sE_rr, optD]
theorem t_lGoal (d : Nat) (xs : List Fm) (s : St) (lo hi : Fm) (v : Iv lo hi) (hl : xs.length ≤ 4) (hx : ∀ f ∈ xs, Sm 39 f) (hs : s.ok xs.length) (hw : ∀ i, s ≠ .turn i) (hr : s ≠ .ring) (hn : firstCut lo hi xs s = none) :
    Gm T (d+3) 54 [.dat (.list (xs.map fD)), .dat s.d, .dat (fD lo), .dat (fD hi)] = ret (.d (fD (tkF lo xs s))) := by
  refine eq_of_wp fun S => ?_
  have hT : T[54]? = some d54 := rfl
  rw [gm_open hT]
  simp only [runDf, d54, startE, List.length_cons, List.length_nil, Nat.zero_add, if_true, reduceIte, Nat.reduceAdd, List.map_cons, List.map_nil, List.cons_append, List.nil_append, Nat.reduceSub, List.replicate_succ, List.replicate_zero, wp_bnd]
  rw [wps_cons]
  cases s with
  | turn i => exact absurd rfl (hw i)
  | ring => exact absurd rfl hr
  | wait i =>
    have e2 := gIxFl (show i < xs.length from hs)
    simp -implicitDefEqProofs [wps_cons, wps_nil, seqF_nx, seqF_ret, seqF_brk, seqF_cont, wp_bnd, wp_ret, evS, evX, evRs, ev, evs, evV, evB, evC, evO, evI_seq, evI_zip, evI_rng1, evI_rng2, evI_rng3, evI_fns, endV, bnd_ret, getV, getF, getL, frz, thaw, isR, lft, noEx_ret, RV.toD, RV.toV, isTy, toB, toI, toS, cop, bop, gOrd, gAdd, gSub, itemsOf, wipeE, bindT, tst, Function.comp_apply, gIx0, gIx1, gIx2, puts, putRV, isL, chg_eq, sE_tt, sE_tw, sE_tf, sE_tr, sE_wt, sE_ww, sE_wf, sE_wr, sE_ft, sE_fw, sE_ff, sE_fr, sE_rt, sE_rw, sE_rf, sE_rr, e2, tkF]
  | first =>
    have hg := goal_least v hn
    simp -implicitDefEqProofs [wps_nil, seqF_nx, seqF_ret, seqF_brk, seqF_cont, wp_bnd, wp_ret, evS, evX, evRs, ev, evs, evV, evB, evC, evO, evI_seq, evI_zip, evI_rng1, evI_rng2, evI_rng3, evI_fns, endV, bnd_ret, getV, getF, getL, frz, thaw, isR, lft, noEx_ret, RV.toD, RV.toV, isTy, toB, toI, toS, cop, bop, gOrd, gAdd, gSub, itemsOf, wipeE, bindT, tst, Function.comp_apply, gIx0, gIx1, gIx2, puts, putRV, isL, chg_eq, sE_tt, sE_tw, sE_tf, sE_tr, sE_wt, sE_ww, sE_wf, sE_wr, sE_ft, sE_fw, sE_ff, sE_fr, sE_rt, sE_rw, sE_rf, sE_rr]
    rw [wps_cons]
    simp -implicitDefEqProofs [wps_nil, seqF_nx, seqF_ret, seqF_brk, seqF_cont, wp_bnd, wp_ret, evS, evX, evRs, ev, evs, evV, evB, evC, evO, evI_seq, evI_zip, evI_rng1, evI_rng2, evI_rng3, evI_fns, endV, bnd_ret, getV, getF, getL, frz, thaw, isR, lft, noEx_ret, RV.toD, RV.toV, isTy, toB, toI, toS, cop, bop, gOrd, gAdd, gSub, itemsOf, wipeE, bindT, tst, Function.comp_apply, gIx0, gIx1, gIx2, puts, putRV, isL, chg_eq, sE_tt, sE_tw, sE_tf, sE_tr, sE_wt, sE_ww, sE_wf, sE_wr, sE_ft, sE_fw, sE_ff, sE_fr, sE_rt, sE_rw, sE_rf, sE_rr]
    generalize hY : xs.filter (fun f => decide (f ≠ z2)) = ys at hg
    have hyl : ys.length ≤ 16777216 := by
      have : ys.length ≤ xs.length := by rw [← hY]; exact List.length_filter_le ..
      omega
    have hy : ∀ f ∈ ys, Sm 39 f := fun f hf => hx f (by rw [← hY, List.mem_filter] at hf; exact hf.1)
    rw [mapV_pure (e := Vl.dat ∘ fD) (g := fun f => if decide (f ≠ z2) = true then some (fD f) else none)]
    · rw [fm_filter, hY]
      simp -implicitDefEqProofs [wps_nil, seqF_nx, seqF_ret, seqF_brk, seqF_cont, wp_bnd, wp_ret, evS, evX, evRs, ev, evs, evV, evB, evC, evO, evI_seq, evI_zip, evI_rng1, evI_rng2, evI_rng3, evI_fns, endV, bnd_ret, getV, getF, getL, frz, thaw, isR, lft, noEx_ret, RV.toD, RV.toV, isTy, toB, toI, toS, cop, bop, gOrd, gAdd, gSub, itemsOf, wipeE, bindT, tst, Function.comp_apply, gIx0, gIx1, gIx2, puts, putRV, isL, chg_eq, sE_tt, sE_tw, sE_tf, sE_tr, sE_wt, sE_ww, sE_wf, sE_wr, sE_ft, sE_fw, sE_ff, sE_fr, sE_rt, sE_rw, sE_rf, sE_rr, sizeLine, hyl]
      rw [wps_cons]
      simp -implicitDefEqProofs [wps_nil, seqF_nx, seqF_ret, seqF_brk, seqF_cont, wp_bnd, wp_ret, evS, evX, evRs, ev, evs, evV, evB, evC, evO, evI_seq, evI_zip, evI_rng1, evI_rng2, evI_rng3, evI_fns, endV, bnd_ret, getV, getF, getL, frz, thaw, isR, lft, noEx_ret, RV.toD, RV.toV, isTy, toB, toI, toS, cop, bop, gOrd, gAdd, gSub, itemsOf, wipeE, bindT, tst, Function.comp_apply, gIx0, gIx1, gIx2, puts, putRV, isL, chg_eq, sE_tt, sE_tw, sE_tf, sE_tr, sE_wt, sE_ww, sE_wf, sE_wr, sE_ft, sE_fw, sE_ff, sE_fr, sE_rt, sE_rw, sE_rf, sE_rr]
      refine wp_mono (forV_find (e := Vl.dat ∘ fD) (g := fun f => if (ys.all fun g => decide (sgE (mns g f) lo hi ≠ some (-1))) = true then some (RV.d (fD f)) else none)
        (I := fun env => ∃ s5 s6 s7, env = [.vl (.dat (.list (xs.map fD))), .vl (.dat St.first.d), .vl (.dat (fD lo)), .vl (.dat (fD hi)), .vl (.dat (.list (ys.map fD))), s5, s6, s7]) ?_ ⟨_, _, _, rfl⟩) ?_
      · rintro f hf env S' ⟨s5, s6, s7, rfl⟩
        refine ⟨_, rfl, ?_⟩
        rw [wps_cons]
        simp -implicitDefEqProofs [wps_nil, seqF_nx, seqF_ret, seqF_brk, seqF_cont, wp_bnd, wp_ret, evS, evX, evRs, ev, evs, evV, evB, evC, evO, evI_seq, evI_zip, evI_rng1, evI_rng2, evI_rng3, evI_fns, endV, bnd_ret, getV, getF, getL, frz, thaw, isR, lft, noEx_ret, RV.toD, RV.toV, isTy, toB, toI, toS, cop, bop, gOrd, gAdd, gSub, itemsOf, wipeE, bindT, tst, Function.comp_apply, gIx0, gIx1, gIx2, puts, putRV, isL, chg_eq, sE_tt, sE_tw, sE_tf, sE_tr, sE_wt, sE_ww, sE_wf, sE_wr, sE_ft, sE_fw, sE_ff, sE_fr, sE_rt, sE_rw, sE_rf, sE_rr]
        rw [mapV_pure (e := Vl.dat ∘ fD) (g := fun g => some (sgD (sgE (mns g f) lo hi)))]
        · have es : ys.filterMap (fun g => some (sgD (sgE (mns g f) lo hi))) = (ys.map fun g => sgE (mns g f) lo hi).map sgD := by simp
          rw [es]
          have hgi := gIn_signs (ys.map fun g => sgE (mns g f) lo hi)
          rw [List.any_map] at hgi
          have hz : ((ys.map fun g => sgE (mns g f) lo hi).map sgD).length ≤ 16777216 := by simpa using hyl
          generalize (ys.map fun g => sgE (mns g f) lo hi).map sgD = Z at hgi hz
          have eb : (ys.all fun g => decide (sgE (mns g f) lo hi ≠ some (-1))) = !(ys.any ((fun x => decide (x = some (-1))) ∘ fun g => sgE (mns g f) lo hi)) := by
            rw [List.all_eq_not_any_not]
            congr 2
            funext g
            simp
          rw [eb]
          generalize (ys.any ((fun x => decide (x = some (-1))) ∘ fun g => sgE (mns g f) lo hi)) = b at hgi
          simp -implicitDefEqProofs [wps_nil, seqF_nx, seqF_ret, seqF_brk, seqF_cont, wp_bnd, wp_ret, evS, evX, evRs, ev, evs, evV, evB, evC, evO, evI_seq, evI_zip, evI_rng1, evI_rng2, evI_rng3, evI_fns, endV, bnd_ret, getV, getF, getL, frz, thaw, isR, lft, noEx_ret, RV.toD, RV.toV, isTy, toB, toI, toS, cop, bop, gOrd, gAdd, gSub, itemsOf, wipeE, bindT, tst, Function.comp_apply, gIx0, gIx1, gIx2, puts, putRV, isL, chg_eq, sE_tt, sE_tw, sE_tf, sE_tr, sE_wt, sE_ww, sE_wf, sE_wr, sE_ft, sE_fw, sE_ff, sE_fr, sE_rt, sE_rw, sE_rf, sE_rr, sizeLine, hz]
          rw [wps_cons]
          cases b <;> simp -implicitDefEqProofs [wps_cons, wps_nil, seqF_nx, seqF_ret, seqF_brk, seqF_cont, wp_bnd, wp_ret, evS, evX, evRs, ev, evs, evV, evB, evC, evO, evI_seq, evI_zip, evI_rng1, evI_rng2, evI_rng3, evI_fns, endV, bnd_ret, getV, getF, getL, frz, thaw, isR, lft, noEx_ret, RV.toD, RV.toV, isTy, toB, toI, toS, cop, bop, gOrd, gAdd, gSub, itemsOf, wipeE, bindT, tst, Function.comp_apply, gIx0, gIx1, gIx2, puts, putRV, isL, chg_eq, sE_tt, sE_tw, sE_tf, sE_tr, sE_wt, sE_ww, sE_wf, sE_wr, sE_ft, sE_fw, sE_ff, sE_fr, sE_rt, sE_rw, sE_rf, sE_rr, hgi]
        · intro g hg'
          have hsg := t_lSign d (mns g f) lo hi ((hy g hg').mns (hy f hf))
          cases e : sgE (mns g f) lo hi with
          | none => rw [e] at hsg; simp -implicitDefEqProofs [evSs, evS, evX, evRs, ev, evs, evV, evB, evC, evO, evI_seq, evI_zip, evI_rng1, evI_rng2, evI_rng3, evI_fns, endV, seqF, bnd_ret, getV, getF, getL, frz, thaw, isR, lft, noEx_ret, RV.toD, RV.toV, isTy, toB, toI, toS, cop, bop, gOrd, gAdd, gSub, itemsOf, wipeE, bindT, tst, Function.comp_apply, gIx0, gIx1, gIx2, puts, putRV, isL, chg_eq, sE_tt, sE_tw, sE_tf, sE_tr, sE_wt, sE_ww, sE_wf, sE_wr, sE_ft, sE_fw, sE_ff, sE_fr, sE_rt, sE_rw, sE_rf, sE_rr, t_lOff, hsg, sgD]
          | some x => rw [e] at hsg; simp -implicitDefEqProofs [evSs, evS, evX, evRs, ev, evs, evV, evB, evC, evO, evI_seq, evI_zip, evI_rng1, evI_rng2, evI_rng3, evI_fns, endV, seqF, bnd_ret, getV, getF, getL, frz, thaw, isR, lft, noEx_ret, RV.toD, RV.toV, isTy, toB, toI, toS, cop, bop, gOrd, gAdd, gSub, itemsOf, wipeE, bindT, tst, Function.comp_apply, gIx0, gIx1, gIx2, puts, putRV, isL, chg_eq, sE_tt, sE_tw, sE_tf, sE_tr, sE_wt, sE_ww, sE_wf, sE_wr, sE_ft, sE_fw, sE_ff, sE_fr, sE_rt, sE_rw, sE_rf, sE_rr, t_lOff, hsg, sgD]
      · rintro ⟨r, env⟩ S' ⟨rfl, h⟩
        have ef : (ys.findSome? fun f => if (ys.all fun g => decide (sgE (mns g f) lo hi ≠ some (-1))) = true then some (RV.d (fD f)) else none) = (goalF lo hi xs).map fun f => RV.d (fD f) := by
          unfold goalF
          rw [hY]
          have : ∀ (p : Fm → Bool) (zs : List Fm), (zs.findSome? fun f => if p f = true then some (RV.d (fD f)) else none) = (zs.find? p).map fun f => RV.d (fD f) := by
            intro p zs
            induction zs with
            | nil => rfl
            | cons z zs ih =>
              rw [List.findSome?_cons, List.find?_cons]
              cases p z <;> simp [ih]
          exact this _ ys
        have hg' : goalF lo hi xs = least lo xs := goal_least v hn
        rw [ef, hg'] at h
        unfold tkF
        simp only
        cases ec : least lo xs with
        | none =>
          rw [ec] at h
          obtain ⟨h, s5, s6, s7, rfl⟩ := h
          cases h
          simp -implicitDefEqProofs [wps_cons, wps_nil, seqF_nx, seqF_ret, seqF_brk, seqF_cont, wp_bnd, wp_ret, evS, evX, evRs, ev, evs, evV, evB, evC, evO, evI_seq, evI_zip, evI_rng1, evI_rng2, evI_rng3, evI_fns, endV, bnd_ret, getV, getF, getL, frz, thaw, isR, lft, noEx_ret, RV.toD, RV.toV, isTy, toB, toI, toS, cop, bop, gOrd, gAdd, gSub, itemsOf, wipeE, bindT, tst, Function.comp_apply, gIx0, gIx1, gIx2, puts, putRV, isL, chg_eq, sE_tt, sE_tw, sE_tf, sE_tr, sE_wt, sE_ww, sE_wf, sE_wr, sE_ft, sE_fw, sE_ff, sE_fr, sE_rt, sE_rw, sE_rf, sE_rr, z2]
        | some q =>
          rw [ec] at h
          cases h
          simp -implicitDefEqProofs [wps_cons, wps_nil, seqF_nx, seqF_ret, seqF_brk, seqF_cont, wp_bnd, wp_ret, evS, evX, evRs, ev, evs, evV, evB, evC, evO, evI_seq, evI_zip, evI_rng1, evI_rng2, evI_rng3, evI_fns, endV, bnd_ret, getV, getF, getL, frz, thaw, isR, lft, noEx_ret, RV.toD, RV.toV, isTy, toB, toI, toS, cop, bop, gOrd, gAdd, gSub, itemsOf, wipeE, bindT, tst, Function.comp_apply, gIx0, gIx1, gIx2, puts, putRV, isL, chg_eq, sE_tt, sE_tw, sE_tf, sE_tr, sE_wt, sE_ww, sE_wf, sE_wr, sE_ft, sE_fw, sE_ff, sE_fr, sE_rt, sE_rw, sE_rf, sE_rr]
    · intro f _
      by_cases c : f = z2
      · simp -implicitDefEqProofs [evSs, evS, evX, evRs, ev, evs, evV, evB, evC, evO, evI_seq, evI_zip, evI_rng1, evI_rng2, evI_rng3, evI_fns, endV, seqF, bnd_ret, getV, getF, getL, frz, thaw, isR, lft, noEx_ret, RV.toD, RV.toV, isTy, toB, toI, toS, cop, bop, gOrd, gAdd, gSub, itemsOf, wipeE, bindT, tst, Function.comp_apply, gIx0, gIx1, gIx2, puts, putRV, isL, chg_eq, sE_tt, sE_tw, sE_tf, sE_tr, sE_wt, sE_ww, sE_wf, sE_wr, sE_ft, sE_fw, sE_ff, sE_fr, sE_rt, sE_rw, sE_rf, sE_rr, gEqFz, c]
      · simp -implicitDefEqProofs [evSs, evS, evX, evRs, ev, evs, evV, evB, evC, evO, evI_seq, evI_zip, evI_rng1, evI_rng2, evI_rng3, evI_fns, endV, seqF, bnd_ret, getV, getF, getL, frz, thaw, isR, lft, noEx_ret, RV.toD, RV.toV, isTy, toB, toI, toS, cop, bop, gOrd, gAdd, gSub, itemsOf, wipeE, bindT, tst, Function.comp_apply, gIx0, gIx1, gIx2, puts, putRV, isL, chg_eq, sE_tt, sE_tw, sE_tf, sE_tr, sE_wt, sE_ww, sE_wf, sE_wr, sE_ft, sE_fw, sE_ff, sE_fr, sE_rt, sE_rw, sE_rf, sE_rr, gEqFz, c]
end G05

-- MJ
namespace G
theorem z2_mns : mns z2 z2 = z2 := by simp [mns, z2]
theorem goal_asked {lo hi : Fm} {xs : List Fm} {s : St} (v : Iv lo hi) (hs : s.ok xs.length) (hw : ∀ i, s ≠ .turn i) (hr : s ≠ .ring) (hn : firstCut lo hi xs s = none) : ∀ g ∈ xs, zeroWithin lo hi (mns g (tkF lo xs s)) = none := fun g hg => by
  have h := firstCut_none hn
  cases s with
  | turn i => exact absurd rfl (hw i)
  | ring => exact absurd rfl hr
  | wait i => exact h _ (ask_wait hg)
  | first =>
    unfold tkF
    simp only
    cases e : least lo xs with
    | none =>
      rw [least_none e g hg]
      simp only [Option.getD_none]
      rw [z2_mns]
      exact nn_zero v (by rw [wrt_z2]; omega) (by rw [wrt_z2]; omega)
    | some f => exact h _ (ask_first hg (least_some e).1)
theorem even_step {ks : List Bool} {lo hi : Fm} {xs : List Fm} {s : St} (v : Iv lo hi) (hs : s.ok xs.length) (hw : ∀ i, s ≠ .turn i) (hr : s ≠ .ring) (hn : firstCut lo hi xs s = none) : lessF1 lo hi (tkF lo xs s) xs = aftF ks lo xs s := by
  have ha := goal_asked v hs hw hr hn
  rw [less_waited v ha]
  cases s with
  | turn i => exact absurd rfl (hw i)
  | ring => exact absurd rfl hr
  | wait i => rfl
  | first =>
    unfold tkF aftF
    simp only
    cases e : least lo xs with
    | none =>
      have hz := least_none e
      simp only [Option.getD_none]
      unfold waitedF
      conv => rhs; rw [← List.map_id xs]
      refine List.map_congr_left fun g hg => ?_
      rw [hz g hg, z2_mns]
      split <;> rfl
    | some f => rfl
theorem evenRun_sm {ks : List Bool} {lo hi : Fm} : ∀ {pre : List St} {n : Nat} {q q' : RunF}, SmR n q → evenRun ks lo hi q pre = .inr q' → SmR (n + pre.length) q' ∧ q'.hd.length ≤ q.hd.length + pre.length
  | [], n, q, q', h, e => by cases e; exact ⟨h, by simp⟩
  | s :: pre, n, q, q', h, e => by
    rw [evenRun] at e
    cases c : firstCut lo hi q.xs s with
    | some r => rw [c] at e; cases e
    | none =>
      rw [c] at e
      obtain ⟨a, b⟩ := evenRun_sm (h.step (ks := ks) (lo := lo) (s := s)) e
      have := run1F_hd (ks := ks) (lo := lo) (q := q) (s := s)
      rw [List.length_cons]
      exact ⟨by rw [show n + (pre.length + 1) = n + 1 + pre.length by omega]; exact a, by omega⟩
theorem range_split {n : Nat} {pre post : List Nat} {x : Nat} (h : List.range n = pre ++ x :: post) : x = pre.length ∧ x < n := by
  have hl : pre.length < n := by
    have := congrArg List.length h
    simp at this
    omega
  have : (List.range n)[pre.length]? = some x := by rw [h]; simp
  rw [List.getElem?_range hl] at this
  have := Option.some.inj this
  omega
/-- some done, the others not yet -/
def mixF (p : Fm → Fm) (ys : List Fm) (k : Nat) : List Fm := (ys.take k).map p ++ ys.drop k
theorem mix_len {p : Fm → Fm} {ys : List Fm} {k : Nat} : (mixF p ys k).length = ys.length := by
  unfold mixF
  simp
  omega
theorem mix_get {p : Fm → Fm} {ys : List Fm} {k : Nat} (h : k < ys.length) : (mixF p ys k).getD k z2 = ys.getD k z2 := by
  unfold mixF
  rw [List.getD_eq_getElem?_getD, List.getD_eq_getElem?_getD, List.getElem?_append_right (by simp; omega)]
  simp
  rw [show min k ys.length = k by omega]
  simp
theorem mix_set {p : Fm → Fm} {ys : List Fm} {k : Nat} (h : k < ys.length) : (mixF p ys k).set k (p (ys.getD k z2)) = mixF p ys (k + 1) := by
  unfold mixF
  have e : ys.take (k + 1) = ys.take k ++ [ys.getD k z2] := by
    rw [List.take_succ]
    congr 1
    rw [List.getD_eq_getElem?_getD, List.getElem?_eq_getElem h]
    rfl
  have e2 : ys.drop k = ys.getD k z2 :: ys.drop (k + 1) := by
    rw [List.drop_eq_getElem_cons h]
    congr 1
    rw [List.getD_eq_getElem?_getD, List.getElem?_eq_getElem h]
    rfl
  rw [List.set_append_right _ _ (by simp; omega), e, List.map_append, List.append_assoc]
  congr 1
  have : (ys.take k).length = k := by simp; omega
  rw [List.length_map, this, Nat.sub_self, e2]
  rfl
theorem mix_zero {p : Fm → Fm} {ys : List Fm} : mixF p ys 0 = ys := by simp [mixF]
theorem mix_all {p : Fm → Fm} {ys : List Fm} : mixF p ys ys.length = ys.map p := by simp [mixF]
theorem evenRun_cut {ks : List Bool} {lo hi r : Fm} : ∀ {pre : List St} {n : Nat} {q : RunF}, SmR n q → evenRun ks lo hi q pre = .inl r → Wi lo hi r ∧ 0 < r.1 ∧ 0 < r.2 ∧ Sm (n + pre.length) r
  | [], n, q, h, e => by cases e
  | s :: pre, n, q, h, e => by
    rw [evenRun] at e
    rw [List.length_cons]
    cases c : firstCut lo hi q.xs s with
    | some r' =>
      rw [c] at e
      cases e
      obtain ⟨f, _, ez⟩ := firstCut_some c
      obtain ⟨z, _, _⟩ := zeroWithin_some.mp ez
      obtain ⟨_, p1, p2⟩ := zeroOf_Rt z
      exact ⟨zeroWithin_Wi ez, p1, p2, (Sm.cut h.xs c).mono (by omega)⟩
    | none =>
      rw [c] at e
      obtain ⟨a, b1, b2, b⟩ := evenRun_cut (h.step (ks := ks) (lo := lo) (s := s)) e
      exact ⟨a, b1, b2, b.mono (by omega)⟩
theorem Deep.parts {ks : List Bool} {ss : List St} {m : Nat} {lo hi : Fm} (h : Deep ks ss m lo hi) : ∀ {k : Nat}, m ≤ k → G.parts ks ss k lo hi = G.parts ks ss m lo hi := by
  induction h with
  | flat e =>
    intro k hk
    cases k with
    | zero => omega
    | succ k => rw [G.parts, G.parts, e]
  | cut e h1 h2 i1 i2 =>
    intro k hk
    cases k with
    | zero => omega
    | succ k =>
      rw [G.parts, G.parts, e]
      simp only
      rw [i1 (by omega), i2 (by omega)]
theorem Deep.len {ks : List Bool} {ss : List St} {m : Nat} {lo hi : Fm} (h : Deep ks ss m lo hi) (h3 : ks.length ≤ 3) (hs : ∀ s ∈ ss, s.ok ks.length) (hn : ss.length ≤ 12) (v : Iv lo hi) (hl : Sm 15 lo) (hh : Sm 15 hi) : (G.parts ks ss m lo hi).length ≤ 8192 := by
  rw [← h.parts (k := m + 3 * ss.length + 1) (by omega), parts_coursG h3 hs v (by omega)]
  have := (coursG_ok (c := 15) (by omega) h3 v hl hh hs).len
  have h2 : (2 : Nat) ^ (ss.length + 1) ≤ 2 ^ 13 := Nat.pow_le_pow_right (by omega) (by omega)
  have h3 : (2 : Nat) ^ 13 = 8192 := by decide
  omega
end G

-- RC05
set_option maxRecDepth 100000
set_option maxHeartbeats 4000000
namespace G05
open PySem G
def evenD : Fm ⊕ RunF → D
  | .inl r => .tuple [fD r, .list [], .tuple [], fD z2]
  | .inr q => .tuple [.none, .list (q.hd.map rgF), .tuple (q.xs.map fD), fD q.t]
/-- the inner walk: what is not above nothing is nothing -/
theorem w_fix (d : Nat) (lo hi : Fm) (ys : List Fm) (e0 e3 e5 e6 e7 e8 e9 e10 e11 : Sl) (S : Sto) (hl : ys.length ≤ 4) (hy : ∀ g ∈ ys, Sm 40 g ∧ ∃ x, sgE g lo hi = some x) :
    Wp (evS (Gm T (d+3)) ((.fors [4] (.rng1 (.bf .len (.cons (.var 4) .nil))) (.nm 10) (.cons (.ifs [4] (.cmp .lt (.call 48 (.cons (.ix (.var 4) (.var 10)) (.cons (.var 1) (.cons (.var 2) .nil)))) (.int 1)) (.cons (.set [] 4 (.var 10) (.tup (.cons (.int 0) (.cons (.int 0) .nil)))) .nil) .nil) .nil))) [e0, .vl (.dat (fD lo)), .vl (.dat (fD hi)), e3, .own (.lst (ys.map fD)), e5, e6, e7, e8, e9, e10, e11]) S
      (fun r S' => r.1 = .nx ∧ (S' = S ∧ ∃ e10, r.2 = [e0, .vl (.dat (fD lo)), .vl (.dat (fD hi)), e3, .own (.lst ((ys.map fun g => if (match sgE g lo hi with | some x => decide (x < 1) | none => false) = true then z2 else g).map fD)), e5, e6, e7, e8, e9, e10, e11])) := by
  generalize hp : (fun g => if (match sgE g lo hi with | some x => decide (x < 1) | none => false) = true then z2 else g) = p
  simp -implicitDefEqProofs [wps_nil, seqF_nx, seqF_ret, seqF_brk, seqF_cont, wp_bnd, wp_ret, evS, evX, evRs, ev, evs, evV, evB, evC, evO, evI_seq, evI_zip, evI_rng1, evI_rng2, evI_rng3, evI_fns, endV, bnd_ret, getV, getF, getL, frz, thaw, isR, lft, noEx_ret, RV.toD, RV.toV, isTy, toB, toI, toS, cop, bop, gOrd, gAdd, gSub, itemsOf, wipeE, bindT, tst, Function.comp_apply, gIx0, gIx1, gIx2, puts, putRV, isL, chg_eq, sE_tt, sE_tw, sE_tf, sE_tr, sE_wt, sE_ww, sE_wf, sE_wr, sE_ft, sE_fw, sE_ff, sE_fr, sE_rt, sE_rw, sE_rf, sE_rr, gBf, rngM_nat (n := ys.length) (by omega)]
  refine wp_mono (forV_wp (e := natV) (P := fun pre env S' => S' = S ∧ ∃ e10, env = [e0, .vl (.dat (fD lo)), .vl (.dat (fD hi)), e3, .own (.lst ((mixF p ys pre.length).map fD)), e5, e6, e7, e8, e9, e10, e11]) ?_ ⟨rfl, _, by rw [List.length_nil, mix_zero]⟩) ?_
  · rintro pre k post env S' hx ⟨rfl, e10, rfl⟩
    refine ⟨_, rfl, ?_⟩
    have hr := range_split hx
    obtain ⟨rfl, hk⟩ := hr
    obtain ⟨hs, x, ex⟩ := hy _ (G.getD_mem (d := z2) hk)
    have e2 : gIx (.list ((mixF p ys pre.length).map fD)) (.int (pre.length : Int)) = some (fD (ys.getD pre.length z2)) := by
      rw [gIxFl (by rw [mix_len]; exact hk), mix_get hk]
    have hsg := t_lSign (d+1) (ys.getD pre.length z2) lo hi hs
    rw [ex] at hsg
    have hset := mix_set (p := p) hk
    have hpv : p (ys.getD pre.length z2) = if x < 1 then z2 else ys.getD pre.length z2 := by
      rw [← hp]
      simp only
      rw [ex]
      simp
    have hsame : (mixF p ys pre.length).set pre.length (ys.getD pre.length z2) = mixF p ys pre.length := by
      have e : (mixF p ys pre.length)[pre.length]'(by rw [mix_len]; exact hk) = ys.getD pre.length z2 := by
        have := mix_get (p := p) hk
        rw [List.getD_eq_getElem?_getD, List.getElem?_eq_getElem (by rw [mix_len]; exact hk)] at this
        exact this
      rw [← e, List.set_getElem_self]
    have hlen : pre.length < (mixF p ys pre.length).length := by rw [mix_len]; exact hk
    rw [hpv] at hset
    rw [List.length_append, List.length_singleton, ← hset]
    generalize mixF p ys pre.length = A at e2 hlen hsame ⊢
    generalize ys.getD pre.length z2 = y at e2 hsg hsame ⊢
    by_cases c : x < 1
    · simp -implicitDefEqProofs [wps_cons, wps_nil, seqF_nx, seqF_ret, seqF_brk, seqF_cont, wp_bnd, wp_ret, evS, evX, evRs, ev, evs, evV, evB, evC, evO, evI_seq, evI_zip, evI_rng1, evI_rng2, evI_rng3, evI_fns, endV, bnd_ret, getV, getF, getL, frz, thaw, isR, lft, noEx_ret, RV.toD, RV.toV, isTy, toB, toI, toS, cop, bop, gOrd, gAdd, gSub, itemsOf, wipeE, bindT, tst, Function.comp_apply, gIx0, gIx1, gIx2, puts, putRV, isL, chg_eq, sE_tt, sE_tw, sE_tf, sE_tr, sE_wt, sE_ww, sE_wf, sE_wr, sE_ft, sE_fw, sE_ff, sE_fr, sE_rt, sE_rw, sE_rf, sE_rr, e2, hsg, c, noR, noL, noLs, L2.ixN, hlen, z2, List.map_set]
    · rw [if_neg c, hsame]
      simp -implicitDefEqProofs [wps_cons, wps_nil, seqF_nx, seqF_ret, seqF_brk, seqF_cont, wp_bnd, wp_ret, evS, evX, evRs, ev, evs, evV, evB, evC, evO, evI_seq, evI_zip, evI_rng1, evI_rng2, evI_rng3, evI_fns, endV, bnd_ret, getV, getF, getL, frz, thaw, isR, lft, noEx_ret, RV.toD, RV.toV, isTy, toB, toI, toS, cop, bop, gOrd, gAdd, gSub, itemsOf, wipeE, bindT, tst, Function.comp_apply, gIx0, gIx1, gIx2, puts, putRV, isL, chg_eq, sE_tt, sE_tw, sE_tf, sE_tr, sE_wt, sE_ww, sE_wf, sE_wr, sE_ft, sE_fw, sE_ff, sE_fr, sE_rt, sE_rw, sE_rf, sE_rr, e2, hsg, c]
  · rintro ⟨f, env⟩ S' ⟨hf, rfl, e10, rfl⟩
    cases hf
    refine ⟨rfl, rfl, e10, ?_⟩
    simp only [List.length_range, mix_len, mix_all, List.map_map]
theorem t_lEven (d : Nat) (ks : List Bool) (ss : List St) (lo hi : Fm) (v : Iv lo hi) (hlo : Sm 15 lo) (hhi : Sm 15 hi) (h1 : 1 ≤ ks.length) (h4 : ks.length ≤ 4) (hn : ss.length ≤ 12) (hs : ∀ s ∈ ss, s.ok ks.length) :
    Gm T (d+5) 55 [.dat (.tuple [kD ks, .tuple (ss.map St.d)]), .dat (fD lo), .dat (fD hi)] = ret (.d (evenD (evenRun ks lo hi (q0 ks) ss))) := by
  refine eq_of_wp fun S => ?_
  have hT : T[55]? = some d55 := rfl
  rw [gm_open hT]
  simp only [runDf, d55, startE, List.length_cons, List.length_nil, Nat.zero_add, if_true, reduceIte, Nat.reduceAdd, List.map_cons, List.map_nil, List.cons_append, List.nil_append, Nat.reduceSub, List.replicate_succ, List.replicate_zero, wp_bnd]
  rw [wps_cons]
  simp -implicitDefEqProofs [wps_nil, seqF_nx, seqF_ret, seqF_brk, seqF_cont, wp_bnd, wp_ret, evS, evX, evRs, ev, evs, evV, evB, evC, evO, evI_seq, evI_zip, evI_rng1, evI_rng2, evI_rng3, evI_fns, endV, bnd_ret, getV, getF, getL, frz, thaw, isR, lft, noEx_ret, RV.toD, RV.toV, isTy, toB, toI, toS, cop, bop, gOrd, gAdd, gSub, itemsOf, wipeE, bindT, tst, Function.comp_apply, gIx0, gIx1, gIx2, puts, putRV, isL, chg_eq, sE_tt, sE_tw, sE_tf, sE_tr, sE_wt, sE_ww, sE_wf, sE_wr, sE_ft, sE_fw, sE_ff, sE_fr, sE_rt, sE_rw, sE_rf, sE_rr, gLenK h4, show (ks.length : Int) ≤ 1000 by omega, show (-1000 : Int) ≤ (ks.length : Int) by omega, repZ]
  rw [wps_cons]
  simp -implicitDefEqProofs [wps_nil, seqF_nx, seqF_ret, seqF_brk, seqF_cont, wp_bnd, wp_ret, evS, evX, evRs, ev, evs, evV, evB, evC, evO, evI_seq, evI_zip, evI_rng1, evI_rng2, evI_rng3, evI_fns, endV, bnd_ret, getV, getF, getL, frz, thaw, isR, lft, noEx_ret, RV.toD, RV.toV, isTy, toB, toI, toS, cop, bop, gOrd, gAdd, gSub, itemsOf, wipeE, bindT, tst, Function.comp_apply, gIx0, gIx1, gIx2, puts, putRV, isL, chg_eq, sE_tt, sE_tw, sE_tf, sE_tr, sE_wt, sE_ww, sE_wf, sE_wr, sE_ft, sE_fw, sE_ff, sE_fr, sE_rt, sE_rw, sE_rf, sE_rr]
  refine wp_mono (forV_until (e := Vl.dat ∘ St.d) (P := fun pre env => ∃ q, evenRun ks lo hi (q0 ks) pre = .inr q ∧ ∃ s3 s7 s8 s9 s10 s11, env = [.vl (.dat (.tuple [kD ks, .tuple (ss.map St.d)])), .vl (.dat (fD lo)), .vl (.dat (fD hi)), s3, .own (.lst (q.xs.map fD)), .vl (.dat (fD q.t)), .own (.lst (q.hd.map rgF)), s7, s8, s9, s10, s11])
    (R := fun w => ∃ r, evenRun ks lo hi (q0 ks) ss = .inl r ∧ w = .d (evenD (.inl r))) ?_ ⟨q0 ks, rfl, .un, .un, .un, .un, .un, .un, by simp [q0, z2]⟩) ?_
  · rintro pre s post env hx ⟨q, hq, s3, s7, s8, s9, s10, s11, rfl⟩
    refine ⟨_, rfl, ?_⟩
    have okp : ∀ t ∈ pre, t.ok ks.length := fun t ht => hs t (by rw [hx]; simp [ht])
    have hok : s.ok ks.length := hs s (by rw [hx]; simp)
    have hpl : pre.length ≤ 12 := by rw [hx] at hn; simp at hn; omega
    have iv := evenRun_in v okp (InF.zero v ks) hq
    obtain ⟨sm, hh⟩ := evenRun_sm (n := 0) SmR.q0 hq
    have hh : q.hd.length ≤ 12 := by simp [q0] at hh; omega
    have sx : ∀ f ∈ q.xs, Sm 12 f := fun f hf => (sm.xs f hf).mono (by omega)
    have hxl : q.xs.length ≤ 4 := by rw [iv.len]; exact h4
    have hoq : s.ok q.xs.length := by rw [iv.len]; exact hok
    have hd := t_lDoubt d q.xs s lo hi v hlo hhi (fun f hf => (sx f hf).mono (by omega)) hoq
    have hnl := noLsF q.xs
    cases ec : firstCut lo hi q.xs s with
    | some r =>
      rw [ec] at hd
      have er : evenRun ks lo hi (q0 ks) ss = .inl r := by rw [hx, evenRun_app hq, evenRun, ec]
      rw [wps_cons]
      simp -implicitDefEqProofs [wps_nil, seqF_nx, seqF_ret, seqF_brk, seqF_cont, wp_bnd, wp_ret, evS, evX, evRs, ev, evs, evV, evB, evC, evO, evI_seq, evI_zip, evI_rng1, evI_rng2, evI_rng3, evI_fns, endV, bnd_ret, getV, getF, getL, frz, thaw, isR, lft, noEx_ret, RV.toD, RV.toV, isTy, toB, toI, toS, cop, bop, gOrd, gAdd, gSub, itemsOf, wipeE, bindT, tst, Function.comp_apply, gIx0, gIx1, gIx2, puts, putRV, isL, chg_eq, sE_tt, sE_tw, sE_tf, sE_tr, sE_wt, sE_ww, sE_wf, sE_wr, sE_ft, sE_fw, sE_ff, sE_fr, sE_rt, sE_rw, sE_rf, sE_rr, hd, noR, noL, noLs, optD]
      rw [wps_cons]
      simp -implicitDefEqProofs [wps_cons, wps_nil, seqF_nx, seqF_ret, seqF_brk, seqF_cont, wp_bnd, wp_ret, evS, evX, evRs, ev, evs, evV, evB, evC, evO, evI_seq, evI_zip, evI_rng1, evI_rng2, evI_rng3, evI_fns, endV, bnd_ret, getV, getF, getL, frz, thaw, isR, lft, noEx_ret, RV.toD, RV.toV, isTy, toB, toI, toS, cop, bop, gOrd, gAdd, gSub, itemsOf, wipeE, bindT, tst, Function.comp_apply, gIx0, gIx1, gIx2, puts, putRV, isL, chg_eq, sE_tt, sE_tw, sE_tf, sE_tr, sE_wt, sE_ww, sE_wf, sE_wr, sE_ft, sE_fw, sE_ff, sE_fr, sE_rt, sE_rw, sE_rf, sE_rr, isNon, er, evenD, z2]
    | none =>
      rw [ec] at hd
      have er : evenRun ks lo hi (q0 ks) (pre ++ [s]) = .inr (run1F ks lo q s) := by rw [evenRun_app hq, evenRun, ec]; rfl
      have hge : ∀ g, g ∈ q.xs.map (fun g => mns g (tkF lo q.xs s)) → (∀ i, s ≠ .turn i) → s ≠ .ring → Sm 40 g ∧ ∃ x, sgE g lo hi = some x := fun g hg hw hr => by
        obtain ⟨g', hg', rfl⟩ := List.mem_map.mp hg
        have hz := goal_asked v hoq hw hr ec g' hg'
        refine ⟨((sx g' hg').mns ?_).mono (by omega), _, sgE_signOf v hz⟩
        unfold tkF
        cases s with
        | turn i => exact .z
        | ring => exact .z
        | wait i => exact sm_getD sx
        | first => exact sm_least sx
      rw [wps_cons]
      simp -implicitDefEqProofs [wps_nil, seqF_nx, seqF_ret, seqF_brk, seqF_cont, wp_bnd, wp_ret, evS, evX, evRs, ev, evs, evV, evB, evC, evO, evI_seq, evI_zip, evI_rng1, evI_rng2, evI_rng3, evI_fns, endV, bnd_ret, getV, getF, getL, frz, thaw, isR, lft, noEx_ret, RV.toD, RV.toV, isTy, toB, toI, toS, cop, bop, gOrd, gAdd, gSub, itemsOf, wipeE, bindT, tst, Function.comp_apply, gIx0, gIx1, gIx2, puts, putRV, isL, chg_eq, sE_tt, sE_tw, sE_tf, sE_tr, sE_wt, sE_ww, sE_wf, sE_wr, sE_ft, sE_fw, sE_ff, sE_fr, sE_rt, sE_rw, sE_rf, sE_rr, hd, noR, noL, noLs, optD]
      rw [wps_cons]
      simp -implicitDefEqProofs [wps_nil, seqF_nx, seqF_ret, seqF_brk, seqF_cont, wp_bnd, wp_ret, evS, evX, evRs, ev, evs, evV, evB, evC, evO, evI_seq, evI_zip, evI_rng1, evI_rng2, evI_rng3, evI_fns, endV, bnd_ret, getV, getF, getL, frz, thaw, isR, lft, noEx_ret, RV.toD, RV.toV, isTy, toB, toI, toS, cop, bop, gOrd, gAdd, gSub, itemsOf, wipeE, bindT, tst, Function.comp_apply, gIx0, gIx1, gIx2, puts, putRV, isL, chg_eq, sE_tt, sE_tw, sE_tf, sE_tr, sE_wt, sE_ww, sE_wf, sE_wr, sE_ft, sE_fw, sE_ff, sE_fr, sE_rt, sE_rw, sE_rf, sE_rr, isNon, wps_nil]
      rw [wps_cons]
      have t1 := nm_turn (s := s)
      have t2 := nm_ring (s := s)
      simp -implicitDefEqProofs [wps_nil, seqF_nx, seqF_ret, seqF_brk, seqF_cont, wp_bnd, wp_ret, evS, evX, evRs, ev, evs, evV, evB, evC, evO, evI_seq, evI_zip, evI_rng1, evI_rng2, evI_rng3, evI_fns, endV, bnd_ret, getV, getF, getL, frz, thaw, isR, lft, noEx_ret, RV.toD, RV.toV, isTy, toB, toI, toS, cop, bop, gOrd, gAdd, gSub, itemsOf, wipeE, bindT, tst, Function.comp_apply, gIx0, gIx1, gIx2, puts, putRV, isL, chg_eq, sE_tt, sE_tw, sE_tf, sE_tr, sE_wt, sE_ww, sE_wf, sE_wr, sE_ft, sE_fw, sE_ff, sE_fr, sE_rt, sE_rw, sE_rf, sE_rr, gIxS, t1]
      rw [er]
      -- the steps by kind
      have rest : (∀ i, s ≠ .turn i) → s ≠ .ring → Wp (evSs (Gm T (d+4)) (.cons ((.asg [4] 9 (.call 54 (.cons (.var 4) (.cons (.var 3) (.cons (.var 1) (.cons (.var 2) .nil))))))) (.cons ((.own [4] 4 (.comp (.seq (.var 4)) (.nm 11) [11] .no (.call 47 (.cons (.var 11) (.cons (.var 9) .nil)))))) (.cons ((.fors [4] (.rng1 (.bf .len (.cons (.var 4) .nil))) (.nm 10) (.cons (.ifs [4] (.cmp .lt (.call 48 (.cons (.ix (.var 4) (.var 10)) (.cons (.var 1) (.cons (.var 2) .nil)))) (.int 1)) (.cons (.set [] 4 (.var 10) (.tup (.cons (.int 0) (.cons (.int 0) .nil)))) .nil) .nil) .nil))) (.cons ((.asg [] 5 (.tup (.cons (.bin .add (.ix (.var 5) (.int 0)) (.ix (.var 9) (.int 0))) (.cons (.bin .add (.ix (.var 5) (.int 1)) (.ix (.var 9) (.int 1))) .nil))))) .nil))))
          [.vl (.dat (.tuple [kD ks, .tuple (ss.map St.d)])), .vl (.dat (fD lo)), .vl (.dat (fD hi)), .vl (.dat s.d), .own (.lst (q.xs.map fD)), .vl (.dat (fD q.t)), .own (.lst (q.hd.map rgF)), .vl (.dat .none), s8, s9, s10, s11]) S
          (fun r S' => r.1 = .nx ∧ S' = S ∧ ∃ s7 s8 s9 s10 s11, r.2 = [.vl (.dat (.tuple [kD ks, .tuple (ss.map St.d)])), .vl (.dat (fD lo)), .vl (.dat (fD hi)), .vl (.dat s.d), .own (.lst ((run1F ks lo q s).xs.map fD)), .vl (.dat (fD (run1F ks lo q s).t)), .own (.lst ((run1F ks lo q s).hd.map rgF)), s7, s8, s9, s10, s11]) := by
        intro hw hr
        have hg := t_lGoal (d+1) q.xs s lo hi v hxl (fun f hf => (sx f hf).mono (by omega)) hoq hw hr ec
        have hge' := fun g hg => hge g hg hw hr
        have he := even_step (ks := ks) v hoq hw hr ec
        rw [wps_cons]
        simp -implicitDefEqProofs [wps_nil, seqF_nx, seqF_ret, seqF_brk, seqF_cont, wp_bnd, wp_ret, evS, evX, evRs, ev, evs, evV, evB, evC, evO, evI_seq, evI_zip, evI_rng1, evI_rng2, evI_rng3, evI_fns, endV, bnd_ret, getV, getF, getL, frz, thaw, isR, lft, noEx_ret, RV.toD, RV.toV, isTy, toB, toI, toS, cop, bop, gOrd, gAdd, gSub, itemsOf, wipeE, bindT, tst, Function.comp_apply, gIx0, gIx1, gIx2, puts, putRV, isL, chg_eq, sE_tt, sE_tw, sE_tf, sE_tr, sE_wt, sE_ww, sE_wf, sE_wr, sE_ft, sE_fw, sE_ff, sE_fr, sE_rt, sE_rw, sE_rf, sE_rr, hg, noR, noL, noLs]
        rw [wps_cons]
        simp -implicitDefEqProofs [wps_nil, seqF_nx, seqF_ret, seqF_brk, seqF_cont, wp_bnd, wp_ret, evS, evX, evRs, ev, evs, evV, evB, evC, evO, evI_seq, evI_zip, evI_rng1, evI_rng2, evI_rng3, evI_fns, endV, bnd_ret, getV, getF, getL, frz, thaw, isR, lft, noEx_ret, RV.toD, RV.toV, isTy, toB, toI, toS, cop, bop, gOrd, gAdd, gSub, itemsOf, wipeE, bindT, tst, Function.comp_apply, gIx0, gIx1, gIx2, puts, putRV, isL, chg_eq, sE_tt, sE_tw, sE_tf, sE_tr, sE_wt, sE_ww, sE_wf, sE_wr, sE_ft, sE_fw, sE_ff, sE_fr, sE_rt, sE_rw, sE_rf, sE_rr]
        rw [mapV_pure (e := Vl.dat ∘ fD) (g := fun g => some (fD (mns g (tkF lo q.xs s))))]
        · have hnl2 : noLs (q.xs.map fun g => fD (mns g (tkF lo q.xs s))) = true := by
            have := noLsF (q.xs.map fun g => mns g (tkF lo q.xs s))
            rw [List.map_map] at this
            exact this
          have em : (q.xs.map fun g => fD (mns g (tkF lo q.xs s))) = (q.xs.map fun g => mns g (tkF lo q.xs s)).map fD := by rw [List.map_map]; rfl
          simp -implicitDefEqProofs [wps_nil, seqF_nx, seqF_ret, seqF_brk, seqF_cont, wp_bnd, wp_ret, evS, evX, evRs, ev, evs, evV, evB, evC, evO, evI_seq, evI_zip, evI_rng1, evI_rng2, evI_rng3, evI_fns, endV, bnd_ret, getV, getF, getL, frz, thaw, isR, lft, noEx_ret, RV.toD, RV.toV, isTy, toB, toI, toS, cop, bop, gOrd, gAdd, gSub, itemsOf, wipeE, bindT, tst, Function.comp_apply, gIx0, gIx1, gIx2, puts, putRV, isL, chg_eq, sE_tt, sE_tw, sE_tf, sE_tr, sE_wt, sE_ww, sE_wf, sE_wr, sE_ft, sE_fw, sE_ff, sE_fr, sE_rt, sE_rw, sE_rf, sE_rr, sizeLine, show q.xs.length ≤ 16777216 by omega, noR, hnl2]
          rw [em]
          rw [wps_cons]
          refine wp_mono (w_fix (d+1) lo hi (q.xs.map fun g => mns g (tkF lo q.xs s)) _ _ _ _ _ _ _ _ _ S (by simpa using hxl) hge') ?_
          rintro ⟨f, env⟩ S' ⟨hf, rfl, e10, rfl⟩
          cases hf
          have el : ((q.xs.map fun g => mns g (tkF lo q.xs s)).map fun g => if (match sgE g lo hi with | some x => decide (x < 1) | none => false) = true then z2 else g) = (run1F ks lo q s).xs := by
            rw [List.map_map]
            show _ = aftF ks lo q.xs s
            rw [← he]
            rfl
          rw [el]
          have et : (run1F ks lo q s).t = pls q.t (tkF lo q.xs s) := rfl
          have eh : (run1F ks lo q s).hd = q.hd := by unfold run1F; rw [if_neg hr]
          rw [et, eh]
          generalize tkF lo q.xs s = g
          generalize (run1F ks lo q s).xs = X
          simp -implicitDefEqProofs [wps_cons, wps_nil, seqF_nx, seqF_ret, seqF_brk, seqF_cont, wp_bnd, wp_ret, evS, evX, evRs, ev, evs, evV, evB, evC, evO, evI_seq, evI_zip, evI_rng1, evI_rng2, evI_rng3, evI_fns, endV, bnd_ret, getV, getF, getL, frz, thaw, isR, lft, noEx_ret, RV.toD, RV.toV, isTy, toB, toI, toS, cop, bop, gOrd, gAdd, gSub, itemsOf, wipeE, bindT, tst, Function.comp_apply, gIx0, gIx1, gIx2, puts, putRV, isL, chg_eq, sE_tt, sE_tw, sE_tf, sE_tr, sE_wt, sE_ww, sE_wf, sE_wr, sE_ft, sE_fw, sE_ff, sE_fr, sE_rt, sE_rw, sE_rf, sE_rr, pls]
        · intro g _
          simp -implicitDefEqProofs [evSs, evS, evX, evRs, ev, evs, evV, evB, evC, evO, evI_seq, evI_zip, evI_rng1, evI_rng2, evI_rng3, evI_fns, endV, seqF, bnd_ret, getV, getF, getL, frz, thaw, isR, lft, noEx_ret, RV.toD, RV.toV, isTy, toB, toI, toS, cop, bop, gOrd, gAdd, gSub, itemsOf, wipeE, bindT, tst, Function.comp_apply, gIx0, gIx1, gIx2, puts, putRV, isL, chg_eq, sE_tt, sE_tw, sE_tf, sE_tr, sE_wt, sE_ww, sE_wf, sE_wr, sE_ft, sE_fw, sE_ff, sE_fr, sE_rt, sE_rw, sE_rf, sE_rr, t_lOff]
      cases s with
      | turn i =>
        have hi1 : i < ks.length := hok
        have hi2 : i < q.xs.length := by rw [iv.len]; exact hi1
        have e1 := gIxK hi1 h4
        have e2 := gIxFl hi2
        have ek : gEq (.str ⟨#[kCh ks[i]]⟩) (.str "p") = some (!ks[i]) := by cases ks[i] <;> decide +kernel
        have hm := t_lOff (d+3) (wholeF ks[i]) (q.xs.getD i z2)
        have hr : run1F ks lo q (.turn i) = ⟨q.xs.set i (mns (wholeF ks[i]) (q.xs.getD i z2)), q.t, q.hd⟩ := by
          simp [run1F, aftF, tkF, pls_z2, hi1]
        rw [hr]
        generalize mns (wholeF ks[i]) (q.xs.getD i z2) = y at hm ⊢
        generalize q.xs.getD i z2 = x at e2 hm
        rw [if_pos rfl, wps_cons]
        cases hk : ks[i] <;> rw [hk] at e1 ek hm <;> simp [wholeF] at hm
        · simp -implicitDefEqProofs [wps_nil, seqF_nx, seqF_ret, seqF_brk, seqF_cont, wp_bnd, wp_ret, evS, evX, evRs, ev, evs, evV, evB, evC, evO, evI_seq, evI_zip, evI_rng1, evI_rng2, evI_rng3, evI_fns, endV, bnd_ret, getV, getF, getL, frz, thaw, isR, lft, noEx_ret, RV.toD, RV.toV, isTy, toB, toI, toS, cop, bop, gOrd, gAdd, gSub, itemsOf, wipeE, bindT, tst, Function.comp_apply, gIx0, gIx1, gIx2, puts, putRV, isL, chg_eq, sE_tt, sE_tw, sE_tf, sE_tr, sE_wt, sE_ww, sE_wf, sE_wr, sE_ft, sE_fw, sE_ff, sE_fr, sE_rt, sE_rw, sE_rf, sE_rr, e1, ek]
          rw [wps_cons]
          simp -implicitDefEqProofs [wps_cons, wps_nil, seqF_nx, seqF_ret, seqF_brk, seqF_cont, wp_bnd, wp_ret, evS, evX, evRs, ev, evs, evV, evB, evC, evO, evI_seq, evI_zip, evI_rng1, evI_rng2, evI_rng3, evI_fns, endV, bnd_ret, getV, getF, getL, frz, thaw, isR, lft, noEx_ret, RV.toD, RV.toV, isTy, toB, toI, toS, cop, bop, gOrd, gAdd, gSub, itemsOf, wipeE, bindT, tst, Function.comp_apply, gIx0, gIx1, gIx2, puts, putRV, isL, chg_eq, sE_tt, sE_tw, sE_tf, sE_tr, sE_wt, sE_ww, sE_wf, sE_wr, sE_ft, sE_fw, sE_ff, sE_fr, sE_rt, sE_rw, sE_rf, sE_rr, e2, hm, noR, noL, noLs, L2.ixN, hi2, List.map_set]
        · simp -implicitDefEqProofs [wps_nil, seqF_nx, seqF_ret, seqF_brk, seqF_cont, wp_bnd, wp_ret, evS, evX, evRs, ev, evs, evV, evB, evC, evO, evI_seq, evI_zip, evI_rng1, evI_rng2, evI_rng3, evI_fns, endV, bnd_ret, getV, getF, getL, frz, thaw, isR, lft, noEx_ret, RV.toD, RV.toV, isTy, toB, toI, toS, cop, bop, gOrd, gAdd, gSub, itemsOf, wipeE, bindT, tst, Function.comp_apply, gIx0, gIx1, gIx2, puts, putRV, isL, chg_eq, sE_tt, sE_tw, sE_tf, sE_tr, sE_wt, sE_ww, sE_wf, sE_wr, sE_ft, sE_fw, sE_ff, sE_fr, sE_rt, sE_rw, sE_rf, sE_rr, e1, ek]
          rw [wps_cons]
          simp -implicitDefEqProofs [wps_cons, wps_nil, seqF_nx, seqF_ret, seqF_brk, seqF_cont, wp_bnd, wp_ret, evS, evX, evRs, ev, evs, evV, evB, evC, evO, evI_seq, evI_zip, evI_rng1, evI_rng2, evI_rng3, evI_fns, endV, bnd_ret, getV, getF, getL, frz, thaw, isR, lft, noEx_ret, RV.toD, RV.toV, isTy, toB, toI, toS, cop, bop, gOrd, gAdd, gSub, itemsOf, wipeE, bindT, tst, Function.comp_apply, gIx0, gIx1, gIx2, puts, putRV, isL, chg_eq, sE_tt, sE_tw, sE_tf, sE_tr, sE_wt, sE_ww, sE_wf, sE_wr, sE_ft, sE_fw, sE_ff, sE_fr, sE_rt, sE_rw, sE_rf, sE_rr, e2, hm, noR, noL, noLs, L2.ixN, hi2, List.map_set]
      | ring =>
        have hr : run1F ks lo q .ring = ⟨q.xs, q.t, q.hd ++ [(q.t, q.xs.map fun f => decide (f ≠ z2))]⟩ := by
          simp [run1F, aftF, tkF, pls_z2]
        rw [hr]
        have nlb : ∀ zs : List Fm, noLs (zs.map fun f => PyData.bool (!decide (f = z2))) = true := by
          intro zs
          induction zs with
          | nil => rfl
          | cons z zs ih => rw [List.map_cons, noLs, ih]; rfl
        rw [if_neg (by simp), wps_cons]
        simp -implicitDefEqProofs [wps_cons, wps_nil, seqF_nx, seqF_ret, seqF_brk, seqF_cont, wp_bnd, wp_ret, evS, evX, evRs, ev, evs, evV, evB, evC, evO, evI_seq, evI_zip, evI_rng1, evI_rng2, evI_rng3, evI_fns, endV, bnd_ret, getV, getF, getL, frz, thaw, isR, lft, noEx_ret, RV.toD, RV.toV, isTy, toB, toI, toS, cop, bop, gOrd, gAdd, gSub, itemsOf, wipeE, bindT, tst, Function.comp_apply, gIx0, gIx1, gIx2, puts, putRV, isL, chg_eq, sE_tt, sE_tw, sE_tf, sE_tr, sE_wt, sE_ww, sE_wf, sE_wr, sE_ft, sE_fw, sE_ff, sE_fr, sE_rt, sE_rw, sE_rf, sE_rr]
        rw [mapV_pure (e := Vl.dat ∘ fD) (g := fun f => some (.bool (!decide (f = z2))))]
        · simp -implicitDefEqProofs [wps_cons, wps_nil, seqF_nx, seqF_ret, seqF_brk, seqF_cont, wp_bnd, wp_ret, evS, evX, evRs, ev, evs, evV, evB, evC, evO, evI_seq, evI_zip, evI_rng1, evI_rng2, evI_rng3, evI_fns, endV, bnd_ret, getV, getF, getL, frz, thaw, isR, lft, noEx_ret, RV.toD, RV.toV, isTy, toB, toI, toS, cop, bop, gOrd, gAdd, gSub, itemsOf, wipeE, bindT, tst, Function.comp_apply, gIx0, gIx1, gIx2, puts, putRV, isL, chg_eq, sE_tt, sE_tw, sE_tf, sE_tr, sE_wt, sE_ww, sE_wf, sE_wr, sE_ft, sE_fw, sE_ff, sE_fr, sE_rt, sE_rw, sE_rf, sE_rr, gBf, sizeLine, show q.xs.length ≤ 16777216 by omega, show q.hd.length < 16777216 by omega, noR, noL, noLs, nlb, Function.comp_def]
        · intro f _
          simp -implicitDefEqProofs [evSs, evS, evX, evRs, ev, evs, evV, evB, evC, evO, evI_seq, evI_zip, evI_rng1, evI_rng2, evI_rng3, evI_fns, endV, seqF, bnd_ret, getV, getF, getL, frz, thaw, isR, lft, noEx_ret, RV.toD, RV.toV, isTy, toB, toI, toS, cop, bop, gOrd, gAdd, gSub, itemsOf, wipeE, bindT, tst, Function.comp_apply, gIx0, gIx1, gIx2, puts, putRV, isL, chg_eq, sE_tt, sE_tw, sE_tf, sE_tr, sE_wt, sE_ww, sE_wf, sE_wr, sE_ft, sE_fw, sE_ff, sE_fr, sE_rt, sE_rw, sE_rf, sE_rr, gEqFz]
      | wait i =>
        have h := rest (by simp) (by simp)
        rw [if_neg (by simp), wps_cons]
        simp -implicitDefEqProofs [wps_nil, seqF_nx, seqF_ret, seqF_brk, seqF_cont, wp_bnd, wp_ret, evS, evX, evRs, ev, evs, evV, evB, evC, evO, evI_seq, evI_zip, evI_rng1, evI_rng2, evI_rng3, evI_fns, endV, bnd_ret, getV, getF, getL, frz, thaw, isR, lft, noEx_ret, RV.toD, RV.toV, isTy, toB, toI, toS, cop, bop, gOrd, gAdd, gSub, itemsOf, wipeE, bindT, tst, Function.comp_apply, gIx0, gIx1, gIx2, puts, putRV, isL, chg_eq, sE_tt, sE_tw, sE_tf, sE_tr, sE_wt, sE_ww, sE_wf, sE_wr, sE_ft, sE_fw, sE_ff, sE_fr, sE_rt, sE_rw, sE_rf, sE_rr]
        refine wp_mono h ?_
        rintro ⟨f, env⟩ S' ⟨hf, rfl, a7, a8, a9, a10, a11, rfl⟩
        cases hf
        simp -implicitDefEqProofs [wps_cons, wps_nil, seqF_nx, seqF_ret, seqF_brk, seqF_cont, wp_bnd, wp_ret, evS, evX, evRs, ev, evs, evV, evB, evC, evO, evI_seq, evI_zip, evI_rng1, evI_rng2, evI_rng3, evI_fns, endV, bnd_ret, getV, getF, getL, frz, thaw, isR, lft, noEx_ret, RV.toD, RV.toV, isTy, toB, toI, toS, cop, bop, gOrd, gAdd, gSub, itemsOf, wipeE, bindT, tst, Function.comp_apply, gIx0, gIx1, gIx2, puts, putRV, isL, chg_eq, sE_tt, sE_tw, sE_tf, sE_tr, sE_wt, sE_ww, sE_wf, sE_wr, sE_ft, sE_fw, sE_ff, sE_fr, sE_rt, sE_rw, sE_rf, sE_rr]
      | first =>
        have h := rest (by simp) (by simp)
        rw [if_neg (by simp), wps_cons]
        simp -implicitDefEqProofs [wps_nil, seqF_nx, seqF_ret, seqF_brk, seqF_cont, wp_bnd, wp_ret, evS, evX, evRs, ev, evs, evV, evB, evC, evO, evI_seq, evI_zip, evI_rng1, evI_rng2, evI_rng3, evI_fns, endV, bnd_ret, getV, getF, getL, frz, thaw, isR, lft, noEx_ret, RV.toD, RV.toV, isTy, toB, toI, toS, cop, bop, gOrd, gAdd, gSub, itemsOf, wipeE, bindT, tst, Function.comp_apply, gIx0, gIx1, gIx2, puts, putRV, isL, chg_eq, sE_tt, sE_tw, sE_tf, sE_tr, sE_wt, sE_ww, sE_wf, sE_wr, sE_ft, sE_fw, sE_ff, sE_fr, sE_rt, sE_rw, sE_rf, sE_rr]
        refine wp_mono h ?_
        rintro ⟨f, env⟩ S' ⟨hf, rfl, a7, a8, a9, a10, a11, rfl⟩
        cases hf
        simp -implicitDefEqProofs [wps_cons, wps_nil, seqF_nx, seqF_ret, seqF_brk, seqF_cont, wp_bnd, wp_ret, evS, evX, evRs, ev, evs, evV, evB, evC, evO, evI_seq, evI_zip, evI_rng1, evI_rng2, evI_rng3, evI_fns, endV, bnd_ret, getV, getF, getL, frz, thaw, isR, lft, noEx_ret, RV.toD, RV.toV, isTy, toB, toI, toS, cop, bop, gOrd, gAdd, gSub, itemsOf, wipeE, bindT, tst, Function.comp_apply, gIx0, gIx1, gIx2, puts, putRV, isL, chg_eq, sE_tt, sE_tw, sE_tf, sE_tr, sE_wt, sE_ww, sE_wf, sE_wr, sE_ft, sE_fw, sE_ff, sE_fr, sE_rt, sE_rw, sE_rf, sE_rr]
  · rintro ⟨f, env⟩ S' ⟨rfl, h⟩
    rcases h with ⟨hf, q, hq, s3, s7, s8, s9, s10, s11, rfl⟩ | ⟨w, hf, r, er, rfl⟩
    · cases hf
      rw [hq]
      simp -implicitDefEqProofs [wps_cons, wps_nil, seqF_nx, seqF_ret, seqF_brk, seqF_cont, wp_bnd, wp_ret, evS, evX, evRs, ev, evs, evV, evB, evC, evO, evI_seq, evI_zip, evI_rng1, evI_rng2, evI_rng3, evI_fns, endV, bnd_ret, getV, getF, getL, frz, thaw, isR, lft, noEx_ret, RV.toD, RV.toV, isTy, toB, toI, toS, cop, bop, gOrd, gAdd, gSub, itemsOf, wipeE, bindT, tst, Function.comp_apply, gIx0, gIx1, gIx2, puts, putRV, isL, chg_eq, sE_tt, sE_tw, sE_tf, sE_tr, sE_wt, sE_ww, sE_wf, sE_wr, sE_ft, sE_fw, sE_ff, sE_fr, sE_rt, sE_rw, sE_rf, sE_rr, gBf, evenD]
    · cases hf
      rw [er]
      simp -implicitDefEqProofs [wps_cons, wps_nil, seqF_nx, seqF_ret, seqF_brk, seqF_cont, wp_bnd, wp_ret, evS, evX, evRs, ev, evs, evV, evB, evC, evO, evI_seq, evI_zip, evI_rng1, evI_rng2, evI_rng3, evI_fns, endV, bnd_ret, getV, getF, getL, frz, thaw, isR, lft, noEx_ret, RV.toD, RV.toV, isTy, toB, toI, toS, cop, bop, gOrd, gAdd, gSub, itemsOf, wipeE, bindT, tst, Function.comp_apply, gIx0, gIx1, gIx2, puts, putRV, isL, chg_eq, sE_tt, sE_tw, sE_tf, sE_tr, sE_wt, sE_ww, sE_wf, sE_wr, sE_ft, sE_fw, sE_ff, sE_fr, sE_rt, sE_rw, sE_rf, sE_rr]
theorem t_lParts1 (d : Nat) (ks : List Bool) (ss : List St) (r : Fm) (h1 : 1 ≤ ks.length) (h4 : ks.length ≤ 4) (hn : ss.length ≤ 1000) (hs : ∀ s ∈ ss, s.ok ks.length) :
    Gm T (d+4) 56 [.dat (.tuple [kD ks, .tuple (ss.map St.d)]), .dat (fD r), .dat (fD r)] = ret (.new [ptD (.one r (runM ks r.1 r.2 ss))]) := by
  refine eq_of_wp fun S => ?_
  have hT : T[56]? = some d56 := rfl
  rw [gm_open hT]
  simp only [runDf, d56, startE, List.length_cons, List.length_nil, Nat.zero_add, if_true, reduceIte, Nat.reduceAdd, List.map_cons, List.map_nil, List.cons_append, List.nil_append, Nat.reduceSub, List.replicate_succ, List.replicate_zero, wp_bnd]
  have e := gEqFg r r
  rw [decide_eq_true rfl] at e
  have hf := t_lFate d ks r.1 r.2 ss h1 h4 hn hs
  simp -implicitDefEqProofs [wps_cons, wps_nil, seqF_nx, seqF_ret, seqF_brk, seqF_cont, wp_bnd, wp_ret, evS, evX, evRs, ev, evs, evV, evB, evC, evO, evI_seq, evI_zip, evI_rng1, evI_rng2, evI_rng3, evI_fns, endV, bnd_ret, getV, getF, getL, frz, thaw, isR, lft, noEx_ret, RV.toD, RV.toV, isTy, toB, toI, toS, cop, bop, gOrd, gAdd, gSub, itemsOf, wipeE, bindT, tst, Function.comp_apply, gIx0, gIx1, gIx2, puts, putRV, isL, chg_eq, sE_tt, sE_tw, sE_tf, sE_tr, sE_wt, sE_ww, sE_wf, sE_wr, sE_ft, sE_fw, sE_ff, sE_fr, sE_rt, sE_rw, sE_rf, sE_rr, e, hf, sizeLine, ptD]
theorem t_lParts (ks : List Bool) (ss : List St) (h1 : 1 ≤ ks.length) (h3 : ks.length ≤ 3) (hn : ss.length ≤ 12) (hs : ∀ s ∈ ss, s.ok ks.length) (d : Nat) : ∀ (m : Nat) (lo hi : Fm), Deep ks ss m lo hi → Iv lo hi → Sm 15 lo → Sm 15 hi →
    Gm T (d+5+m) 56 [.dat (.tuple [kD ks, .tuple (ss.map St.d)]), .dat (fD lo), .dat (fD hi)] = ret (.new ((parts ks ss m lo hi).map ptD)) := by
  intro m lo hi hdeep
  induction hdeep with
  | @flat m lo hi q e =>
    intro v hl hh
    refine eq_of_wp fun S => ?_
    rw [show d + 5 + (m + 1) = (d + m + 5) + 1 by omega]
    have hT : T[56]? = some d56 := rfl
    rw [gm_open hT]
    simp only [runDf, d56, startE, List.length_cons, List.length_nil, Nat.zero_add, if_true, reduceIte, Nat.reduceAdd, List.map_cons, List.map_nil, List.cons_append, List.nil_append, Nat.reduceSub, List.replicate_succ, List.replicate_zero, wp_bnd]
    have ei := gEqIv v
    have he := t_lEven (d+m) ks ss lo hi v hl hh h1 (by omega) hn hs
    rw [e] at he
    rw [wps_cons]
    simp -implicitDefEqProofs [wps_nil, seqF_nx, seqF_ret, seqF_brk, seqF_cont, wp_bnd, wp_ret, evS, evX, evRs, ev, evs, evV, evB, evC, evO, evI_seq, evI_zip, evI_rng1, evI_rng2, evI_rng3, evI_fns, endV, bnd_ret, getV, getF, getL, frz, thaw, isR, lft, noEx_ret, RV.toD, RV.toV, isTy, toB, toI, toS, cop, bop, gOrd, gAdd, gSub, itemsOf, wipeE, bindT, tst, Function.comp_apply, gIx0, gIx1, gIx2, puts, putRV, isL, chg_eq, sE_tt, sE_tw, sE_tf, sE_tr, sE_wt, sE_ww, sE_wf, sE_wr, sE_ft, sE_fw, sE_ff, sE_fr, sE_rt, sE_rw, sE_rf, sE_rr, ei, wps_nil]
    rw [wps_cons]
    simp -implicitDefEqProofs [wps_nil, seqF_nx, seqF_ret, seqF_brk, seqF_cont, wp_bnd, wp_ret, evS, evX, evRs, ev, evs, evV, evB, evC, evO, evI_seq, evI_zip, evI_rng1, evI_rng2, evI_rng3, evI_fns, endV, bnd_ret, getV, getF, getL, frz, thaw, isR, lft, noEx_ret, RV.toD, RV.toV, isTy, toB, toI, toS, cop, bop, gOrd, gAdd, gSub, itemsOf, wipeE, bindT, tst, Function.comp_apply, gIx0, gIx1, gIx2, puts, putRV, isL, chg_eq, sE_tt, sE_tw, sE_tf, sE_tr, sE_wt, sE_ww, sE_wf, sE_wr, sE_ft, sE_fw, sE_ff, sE_fr, sE_rt, sE_rw, sE_rf, sE_rr, he, evenD]
    rw [wps_cons]
    simp -implicitDefEqProofs [wps_cons, wps_nil, seqF_nx, seqF_ret, seqF_brk, seqF_cont, wp_bnd, wp_ret, evS, evX, evRs, ev, evs, evV, evB, evC, evO, evI_seq, evI_zip, evI_rng1, evI_rng2, evI_rng3, evI_fns, endV, bnd_ret, getV, getF, getL, frz, thaw, isR, lft, noEx_ret, RV.toD, RV.toV, isTy, toB, toI, toS, cop, bop, gOrd, gAdd, gSub, itemsOf, wipeE, bindT, tst, Function.comp_apply, gIx0, gIx1, gIx2, puts, putRV, isL, chg_eq, sE_tt, sE_tw, sE_tf, sE_tr, sE_wt, sE_ww, sE_wf, sE_wr, sE_ft, sE_fw, sE_ff, sE_fr, sE_rt, sE_rw, sE_rf, sE_rr, isNon, parts, e, ptD]
  | @cut m lo hi r e h1' h2' i1 i2 =>
    intro v hl hh
    obtain ⟨w, p1, p2, hr⟩ := evenRun_cut (n := 0) SmR.q0 e
    have hr : Sm 15 r := hr.mono (by omega)
    have bl := Sb.left v w
    have br := Sb.right v w
    have j1 := i1 bl.v' hl hr
    have j2 := i2 br.v' hr hh
    have l1 := h1'.len h3 hs hn bl.v' hl hr
    have l2 := h2'.len h3 hs hn br.v' hr hh
    refine eq_of_wp fun S => ?_
    rw [show d + 5 + (m + 1) = (d + 5 + m) + 1 by omega]
    have hT : T[56]? = some d56 := rfl
    rw [gm_open hT]
    simp only [runDf, d56, startE, List.length_cons, List.length_nil, Nat.zero_add, if_true, reduceIte, Nat.reduceAdd, List.map_cons, List.map_nil, List.cons_append, List.nil_append, Nat.reduceSub, List.replicate_succ, List.replicate_zero, wp_bnd]
    have ei := gEqIv v
    have he := t_lEven (d+m) ks ss lo hi v hl hh h1 (by omega) hn hs
    rw [e, show d + m + 5 = d + 5 + m by omega] at he
    have hone := t_lParts1 (d+1+m) ks ss r h1 (by omega) (by omega) hs
    rw [show d + 1 + m + 4 = d + 5 + m by omega] at hone
    rw [parts, e]
    simp only
    generalize parts ks ss m lo r = A at j1 l1 ⊢
    generalize parts ks ss m r hi = B at j2 l2 ⊢
    generalize runM ks r.1 r.2 ss = R at hone ⊢
    rw [wps_cons]
    simp -implicitDefEqProofs [wps_nil, seqF_nx, seqF_ret, seqF_brk, seqF_cont, wp_bnd, wp_ret, evS, evX, evRs, ev, evs, evV, evB, evC, evO, evI_seq, evI_zip, evI_rng1, evI_rng2, evI_rng3, evI_fns, endV, bnd_ret, getV, getF, getL, frz, thaw, isR, lft, noEx_ret, RV.toD, RV.toV, isTy, toB, toI, toS, cop, bop, gOrd, gAdd, gSub, itemsOf, wipeE, bindT, tst, Function.comp_apply, gIx0, gIx1, gIx2, puts, putRV, isL, chg_eq, sE_tt, sE_tw, sE_tf, sE_tr, sE_wt, sE_ww, sE_wf, sE_wr, sE_ft, sE_fw, sE_ff, sE_fr, sE_rt, sE_rw, sE_rf, sE_rr, ei, wps_nil]
    rw [wps_cons]
    simp -implicitDefEqProofs [wps_nil, seqF_nx, seqF_ret, seqF_brk, seqF_cont, wp_bnd, wp_ret, evS, evX, evRs, ev, evs, evV, evB, evC, evO, evI_seq, evI_zip, evI_rng1, evI_rng2, evI_rng3, evI_fns, endV, bnd_ret, getV, getF, getL, frz, thaw, isR, lft, noEx_ret, RV.toD, RV.toV, isTy, toB, toI, toS, cop, bop, gOrd, gAdd, gSub, itemsOf, wipeE, bindT, tst, Function.comp_apply, gIx0, gIx1, gIx2, puts, putRV, isL, chg_eq, sE_tt, sE_tw, sE_tf, sE_tr, sE_wt, sE_ww, sE_wf, sE_wr, sE_ft, sE_fw, sE_ff, sE_fr, sE_rt, sE_rw, sE_rf, sE_rr, he, evenD]
    rw [wps_cons]
    simp -implicitDefEqProofs [wps_nil, seqF_nx, seqF_ret, seqF_brk, seqF_cont, wp_bnd, wp_ret, evS, evX, evRs, ev, evs, evV, evB, evC, evO, evI_seq, evI_zip, evI_rng1, evI_rng2, evI_rng3, evI_fns, endV, bnd_ret, getV, getF, getL, frz, thaw, isR, lft, noEx_ret, RV.toD, RV.toV, isTy, toB, toI, toS, cop, bop, gOrd, gAdd, gSub, itemsOf, wipeE, bindT, tst, Function.comp_apply, gIx0, gIx1, gIx2, puts, putRV, isL, chg_eq, sE_tt, sE_tw, sE_tf, sE_tr, sE_wt, sE_ww, sE_wf, sE_wr, sE_ft, sE_fw, sE_ff, sE_fr, sE_rt, sE_rw, sE_rf, sE_rr, isNon, wps_nil]
    rw [wps_cons]
    simp -implicitDefEqProofs [wps_nil, seqF_nx, seqF_ret, seqF_brk, seqF_cont, wp_bnd, wp_ret, evS, evX, evRs, ev, evs, evV, evB, evC, evO, evI_seq, evI_zip, evI_rng1, evI_rng2, evI_rng3, evI_fns, endV, bnd_ret, getV, getF, getL, frz, thaw, isR, lft, noEx_ret, RV.toD, RV.toV, isTy, toB, toI, toS, cop, bop, gOrd, gAdd, gSub, itemsOf, wipeE, bindT, tst, Function.comp_apply, gIx0, gIx1, gIx2, puts, putRV, isL, chg_eq, sE_tt, sE_tw, sE_tf, sE_tr, sE_wt, sE_ww, sE_wf, sE_wr, sE_ft, sE_fw, sE_ff, sE_fr, sE_rt, sE_rw, sE_rf, sE_rr, j1, hone, sizeLine, show A.length + 1 ≤ 16777216 by omega]
    rw [wps_cons]
    simp -implicitDefEqProofs [wps_nil, seqF_nx, seqF_ret, seqF_brk, seqF_cont, wp_bnd, wp_ret, evS, evX, evRs, ev, evs, evV, evB, evC, evO, evI_seq, evI_zip, evI_rng1, evI_rng2, evI_rng3, evI_fns, endV, bnd_ret, getV, getF, getL, frz, thaw, isR, lft, noEx_ret, RV.toD, RV.toV, isTy, toB, toI, toS, cop, bop, gOrd, gAdd, gSub, itemsOf, wipeE, bindT, tst, Function.comp_apply, gIx0, gIx1, gIx2, puts, putRV, isL, chg_eq, sE_tt, sE_tw, sE_tf, sE_tr, sE_wt, sE_ww, sE_wf, sE_wr, sE_ft, sE_fw, sE_ff, sE_fr, sE_rt, sE_rw, sE_rf, sE_rr, j2, sizeLine, show A.length + 1 + B.length ≤ 16777216 by omega, show A.length + (B.length + 1) ≤ 16777216 by omega]
theorem t_lAll (d : Nat) (ks : List Bool) (ss : List St) (h1 : 1 ≤ ks.length) (h3 : ks.length ≤ 3) (hn : ss.length ≤ 12) (hs : ∀ s ∈ ss, s.ok ks.length) :
    Gm T (d+43) 57 [.dat (.tuple [kD ks, .tuple (ss.map St.d)])] = ret (.new ((coursM ks ss).map ptD)) := by
  refine eq_of_wp fun S => ?_
  have hT : T[57]? = some d57 := rfl
  rw [gm_open hT]
  simp only [runDf, d57, startE, List.length_cons, List.length_nil, Nat.zero_add, if_true, reduceIte, Nat.reduceAdd, List.map_cons, List.map_nil, List.cons_append, List.nil_append, Nat.reduceSub, List.replicate_succ, List.replicate_zero, wp_bnd]
  have hd := deep_of (ask2_le3 h3) ss [] lowF highF (q0 ks) 37 (by simpa using hs) Iv.all rfl (by omega)
  rw [List.nil_append] at hd
  have h := t_lParts ks ss h1 h3 hn hs d 37 lowF highF hd Iv.all (Sm.low.mono (by omega)) (Sm.high.mono (by omega))
  rw [parts_coursG h3 hs Iv.all (by omega)] at h
  have ec : coursG ks lowF highF ss = coursM ks ss := rfl
  rw [ec] at h
  simp [lowF, highF] at h
  simp -implicitDefEqProofs [wps_cons, wps_nil, seqF_nx, seqF_ret, seqF_brk, seqF_cont, wp_bnd, wp_ret, evS, evX, evRs, ev, evs, evV, evB, evC, evO, evI_seq, evI_zip, evI_rng1, evI_rng2, evI_rng3, evI_fns, endV, bnd_ret, getV, getF, getL, frz, thaw, isR, lft, noEx_ret, RV.toD, RV.toV, isTy, toB, toI, toS, cop, bop, gOrd, gAdd, gSub, itemsOf, wipeE, bindT, tst, Function.comp_apply, gIx0, gIx1, gIx2, puts, putRV, isL, chg_eq, sE_tt, sE_tw, sE_tf, sE_tr, sE_wt, sE_ww, sE_wf, sE_wr, sE_ft, sE_fw, sE_ff, sE_fr, sE_rt, sE_rw, sE_rf, sE_rr, h]
end G05

-- MK
namespace G
/-! ### one amount, piece by piece -/
inductive Am where
  | ev (lo hi f : Fm)
  | one (r : Fm) (v : Int)
/-- a stretch with its form; what stands behind it: the ratio with its number, the next stretch -/
abbrev Ev := Fm × Fm × Fm
abbrev Rst := List ((Fm × Int) × Ev)
def toAm (E : Ev) (rs : Rst) : List Am := .ev E.1 E.2.1 E.2.2 :: rs.flatMap fun p => [.one p.1.1 p.1.2, .ev p.2.1 p.2.2.1 p.2.2.2]
/-- the ends meet -/
def Chn : Ev → Rst → Prop
  | _, [] => True
  | E, p :: rs => p.1.1 = E.2.1 ∧ p.1.1 = p.2.1 ∧ Chn p.2 rs
def lastE : Ev → Rst → Ev
  | E, [] => E
  | _, p :: rs => lastE p.2 rs
theorem toAm_app {E : Ev} {rs : Rst} {s : Fm × Int} {E' : Ev} {rs' : Rst} : toAm E rs ++ .one s.1 s.2 :: toAm E' rs' = toAm E (rs ++ (s, E') :: rs') := by
  unfold toAm
  rw [List.flatMap_append, List.flatMap_cons]
  simp
theorem chn_app {rs : Rst} {s : Fm × Int} {E' : Ev} {rs' : Rst} : ∀ {E : Ev}, Chn E rs → (lastE E rs).2.1 = s.1 → s.1 = E'.1 → Chn E' rs' → Chn E (rs ++ (s, E') :: rs') := by
  induction rs with
  | nil => intro E _ h1 h2 h3; exact ⟨h1.symm, h2, h3⟩
  | cons p rs ih => intro E h h1 h2 h3; exact ⟨h.1, h.2.1, ih h.2.2 h1 h2 h3⟩
theorem last_app {rs : Rst} {s : Fm × Int} {E' : Ev} {rs' : Rst} : ∀ {E : Ev}, lastE E (rs ++ (s, E') :: rs') = lastE E' rs' := by
  induction rs with
  | nil => intro E; rfl
  | cons p rs ih => intro E; exact ih
/-- pieces with an amount each -/
theorem alt_parts {ks : List Bool} {ss : List St} {m : Nat} {lo hi : Fm} (h : Deep ks ss m lo hi) (am : Pc → Am) (h1 : ∀ lo hi q, ∃ f, am (.ev lo hi q) = .ev lo hi f) (h2 : ∀ r q, ∃ v, am (.one r q) = .one r v) :
    ∃ E rs, (parts ks ss m lo hi).map am = toAm E rs ∧ Chn E rs ∧ E.1 = lo ∧ (lastE E rs).2.1 = hi := by
  induction h with
  | @flat m lo hi q e =>
    rw [parts, e]
    obtain ⟨f, hf⟩ := h1 lo hi q
    exact ⟨(lo, hi, f), [], by simp [toAm, hf], trivial, rfl, rfl⟩
  | @cut m lo hi r e a b ia ib =>
    rw [parts, e]
    simp only
    obtain ⟨E, rs, e1, c1, l1, l2⟩ := ia
    obtain ⟨E', rs', e2, c2, l3, l4⟩ := ib
    obtain ⟨v, hv⟩ := h2 r (runM ks r.1 r.2 ss)
    refine ⟨E, rs ++ ((r, v), E') :: rs', ?_, chn_app c1 l2 l3.symm c2, l1, by rw [last_app]; exact l4⟩
    rw [List.map_append, List.map_cons, e1, e2, hv]
    exact toAm_app (s := (r, v))
theorem alt_cours {ks : List Bool} {ss : List St} (h3 : ks.length ≤ 3) (hs : ∀ s ∈ ss, s.ok ks.length) (am : Pc → Am) (h1 : ∀ lo hi q, ∃ f, am (.ev lo hi q) = .ev lo hi f) (h2 : ∀ r q, ∃ v, am (.one r q) = .one r v) :
    ∃ E rs, (coursM ks ss).map am = toAm E rs ∧ Chn E rs := by
  have hd := deep_of (ask2_le3 h3) ss [] lowF highF (q0 ks) (3 * ss.length + 1) (by simpa using hs) Iv.all rfl (by omega)
  rw [List.nil_append] at hd
  obtain ⟨E, rs, e, c, _⟩ := alt_parts hd am h1 h2
  rw [parts_coursG h3 hs Iv.all (by omega)] at e
  exact ⟨E, rs, e, c⟩
/-! ### stretches as long as can be -/
def grp : Ev → Rst → List ((Fm × Fm) × Fm)
  | E, [] => [((E.1, E.2.1), E.2.2)]
  | E, p :: rs => if E.2.2 = p.2.2.2 ∧ p.1.2 = wrt E.2.2 p.1.1 then grp (E.1, p.2.2.1, E.2.2) rs else ((E.1, E.2.1), E.2.2) :: grp p.2 rs
theorem toAm_len {E : Ev} {rs : Rst} : (toAm E rs).length = 2 * rs.length + 1 := by
  unfold toAm
  rw [List.length_cons]
  congr 1
  induction rs with
  | nil => rfl
  | cons p rs ih => rw [List.flatMap_cons, List.length_append, ih]; simp; omega
/-- the stretch at a place -/
def evAt (E : Ev) (rs : Rst) : Nat → Ev
  | 0 => E
  | j + 1 => match rs[j]? with
    | some p => p.2
    | none => E
theorem evAt_succ {E : Ev} {rs : Rst} {j : Nat} {p : (Fm × Int) × Ev} (h : rs[j]? = some p) : evAt E rs (j + 1) = p.2 := by
  show (match rs[j]? with | some p => p.2 | none => E) = _
  rw [h]
theorem flat_get : ∀ {rs : Rst} {j : Nat} {p : (Fm × Int) × Ev}, rs[j]? = some p → (rs.flatMap fun p => [Am.one p.1.1 p.1.2, .ev p.2.1 p.2.2.1 p.2.2.2])[2 * j]? = some (.one p.1.1 p.1.2) ∧ (rs.flatMap fun p => [Am.one p.1.1 p.1.2, .ev p.2.1 p.2.2.1 p.2.2.2])[2 * j + 1]? = some (.ev p.2.1 p.2.2.1 p.2.2.2)
  | [], _, _, h => by cases h
  | q :: rs, 0, p, h => by
    cases h
    simp [List.flatMap_cons]
  | q :: rs, j + 1, p, h => by
    have h' : rs[j]? = some p := by simpa using h
    obtain ⟨a, b⟩ := flat_get h'
    rw [List.flatMap_cons, show 2 * (j + 1) = 2 * j + 2 by omega]
    simp only [List.cons_append, List.nil_append, List.getElem?_cons_succ]
    exact ⟨a, b⟩
theorem toAm_ev {E : Ev} {rs : Rst} {j : Nat} (h : j ≤ rs.length) : (toAm E rs)[2 * j]? = some (.ev (evAt E rs j).1 (evAt E rs j).2.1 (evAt E rs j).2.2) := by
  unfold toAm
  cases j with
  | zero => rfl
  | succ j =>
    obtain ⟨p, hp⟩ : ∃ p, rs[j]? = some p := ⟨rs[j]'(by omega), List.getElem?_eq_getElem (by omega)⟩
    rw [show 2 * (j + 1) = (2 * j + 1) + 1 by omega, List.getElem?_cons_succ, (flat_get hp).2, evAt_succ hp]
theorem toAm_one {E : Ev} {rs : Rst} {j : Nat} {p : (Fm × Int) × Ev} (h : rs[j]? = some p) : (toAm E rs)[2 * j + 1]? = some (.one p.1.1 p.1.2) := by
  unfold toAm
  rw [List.getElem?_cons_succ, (flat_get h).1]
theorem chn_at : ∀ {rs : Rst} {E : Ev} {j : Nat} {p : (Fm × Int) × Ev}, Chn E rs → rs[j]? = some p → p.1.1 = (evAt E rs j).2.1
  | [], _, _, _, _, h => by cases h
  | q :: rs, E, 0, p, c, h => by cases h; exact c.1
  | q :: rs, E, j + 1, p, c, h => by
    have h' : rs[j]? = some p := by simpa using h
    have := chn_at c.2.2 h'
    rw [this]
    cases j with
    | zero => rfl
    | succ j =>
      have hj : j < rs.length := by have := (List.getElem?_eq_some_iff.mp h').1; omega
      have e := List.getElem?_eq_getElem hj
      rw [evAt_succ e, evAt_succ (rs := q :: rs) (j := j + 1) (p := rs[j]) (by simpa using e)]
/-! ### how many rings -/
def isRg (s : St) : Bool := match s with | .ring => true | _ => false
def hdL : Pc → Nat
  | .ev _ _ q => q.hd.length
  | .one _ q => q.hd.length
theorem run1F_hdL {ks : List Bool} {lo : Fm} {q : RunF} {s : St} : (run1F ks lo q s).hd.length = q.hd.length + (if isRg s = true then 1 else 0) := by
  unfold run1F
  cases s <;> simp [isRg]
theorem run1_hdL {ks : List Bool} {a b : Int} {q : Run} {s : St} : (run1 ks a b q s).hd.length = q.hd.length + (if isRg s = true then 1 else 0) := by
  unfold run1
  cases s <;> simp [isRg]
theorem adv_hdL {ks : List Bool} {c n : Nat} {P : Pc} {s : St} (h3 : ks.length ≤ 3) (h : PcOk ks c n P) (hs : s.ok ks.length) : ∀ P' ∈ adv ks 3 P s, hdL P' = hdL P + (if isRg s = true then 1 else 0) := fun P' hP => by
  cases P with
  | one r q =>
    rw [adv_one] at hP
    rw [List.mem_singleton.mp hP]
    exact run1_hdL
  | ev lo hi q =>
    have A := adv_ok (ks := ks) (q := q) (s := s) 3 lo hi h.1 (dbt_le3 h3 h hs lo hi q rfl)
    cases P' with
    | ev lo' hi' q' =>
      obtain ⟨_, e, _⟩ := A.ev _ _ _ hP
      subst e
      exact run1F_hdL
    | one r q' =>
      obtain ⟨_, e, _⟩ := A.one _ _ hP
      subst e
      show (run1 _ _ _ _ _).hd.length = _
      rw [run1_hdL]
      simp [evR, hdL]
theorem cours_hdL {ks : List Bool} (h3 : ks.length ≤ 3) : ∀ {ss : List St}, (∀ s ∈ ss, s.ok ks.length) → ∀ P ∈ coursM ks ss, hdL P = ss.countP isRg := by
  intro ss hs
  have go : ∀ (n : Nat) (ss : List St), ss.length = n → (∀ s ∈ ss, s.ok ks.length) → ∀ P ∈ coursM ks ss, hdL P = ss.countP isRg := by
    intro n
    induction n with
    | zero =>
      intro ss hz _ P hP
      cases ss with
      | nil =>
        have := List.mem_singleton.mp hP
        rw [this]
        rfl
      | cons _ _ => simp at hz
    | succ n ih =>
      intro ss hz hs P hP
      obtain ⟨pre, s, rfl⟩ : ∃ pre s, ss = pre ++ [s] := ⟨ss.dropLast, ss.getLast (fun e => by rw [e] at hz; simp at hz), (List.dropLast_concat_getLast _).symm⟩
      have okp : ∀ t ∈ pre, t.ok ks.length := fun t ht => hs t (by simp [ht])
      rw [coursM_snoc] at hP
      obtain ⟨Q, hQ, hP⟩ := List.mem_flatMap.mp hP
      rw [adv_hdL h3 ((coursM_ok h3 okp).all Q hQ) (hs s (by simp)) P hP, ih pre (by simpa using hz) okp Q hQ, List.countP_append, List.countP_cons, List.countP_nil]
      simp
  exact go _ ss rfl hs
end G

-- GYb
set_option maxRecDepth 100000
set_option maxHeartbeats 2000000
/-! Amounts as data. -/
namespace G
open PySem
@[reducible] def amD : Am → D
  | .ev lo hi f => .tuple [fD lo, fD hi, fD f]
  | .one r v => .tuple [fD r, fD r, .int v]
def amR (n : Nat) : Pc → Am
  | .ev lo hi q => .ev lo hi (q.hd.getD n (z2, [])).1
  | .one r q => .one r (q.hd.getD n (0, [])).1
def amA (g : Nat) : Pc → Am
  | .ev lo hi q => .ev lo hi (q.xs.getD g z2)
  | .one r q => .one r (q.xs.getD g 0)
@[reducible] def gfD (p : (Fm × Fm) × Fm) : D := .tuple [.tuple [fD p.1.1, fD p.1.2], fD p.2]
theorem gIxM {α : Type} {f : α → D} {xs : List α} {i : Nat} {d : α} (h : i < xs.length) : gIx (.tuple (xs.map f)) (.int i) = some (f (xs.getD i d)) := by
  rw [gIx, atI_map, atI_get h]
  simp [h]
theorem gIxLM {α : Type} {f : α → D} {xs : List α} {i : Nat} {a : α} (h : xs[i]? = some a) : gIx (.list (xs.map f)) (.int i) = some (f a) := by
  have hi := (List.getElem?_eq_some_iff.mp h).1
  rw [gIx, atI_map, atI_get hi]
  rw [List.getElem?_eq_getElem hi] at h
  simp [Option.some.inj h]
theorem gIxLast {α : Type} {f : α → D} {xs : List α} {a : α} : gIx (.list ((xs ++ [a]).map f)) (.int (-1)) = some (f a) := by
  have e : (1 : Int) ≤ (xs.length : Int) + 1 := by omega
  have e2 : (-1 + ((xs.length : Int) + 1)).toNat = xs.length := by omega
  rw [gIx]
  unfold L2.atI L2.ixN
  simp [e, e2]
theorem ixLast {n : Nat} : L2.ixN (n + 1) (-1) = some n := by
  unfold L2.ixN
  simp
  omega
theorem setLast {α : Type} {f : α → D} {xs : List α} {a : α} {y : D} : ((xs ++ [a]).map f).set xs.length y = xs.map f ++ [y] := by
  simp
@[reducible] def natV2 : Nat → Vl := fun k => .dat (.int ((k : Int) * 2))
theorem rngM2_odd {n : Nat} (h : n ≤ 10000000) : rngM2 0 ((2 * n + 1 : Nat) : Int) = ret ((List.range (n + 1)).map natV2) := by
  unfold rngM2 rngV2
  rw [if_pos (by omega), show ((((2 * n + 1 : Nat) : Int) - 0 + 1) / 2).toNat = n + 1 by omega]
  congr 1
  refine List.map_congr_left fun k _ => ?_
  rw [Int.zero_add]
/-- what stands in the list, so many stretches on -/
def LgI (E : Ev) (rs : Rst) (n : Nat) (st : List ((Fm × Fm) × Fm)) : Prop := (n = 0 → st = []) ∧ ∀ j, n = j + 1 → ∃ acc, ∃ cur : Ev, st = acc ++ [((cur.1, cur.2.1), cur.2.2)] ∧ cur.2.2 = (evAt E rs j).2.2 ∧ acc ++ grp cur (rs.drop j) = grp E rs ∧ acc.length ≤ j
theorem LgI.start {E : Ev} {rs : Rst} : LgI E rs 0 [] := ⟨fun _ => rfl, fun j h => by omega⟩
theorem LgI.one {E : Ev} {rs : Rst} : LgI E rs 1 [((E.1, E.2.1), E.2.2)] := ⟨fun h => by omega, fun j h => by
  have : j = 0 := by omega
  subst this
  exact ⟨[], E, rfl, rfl, by simp, Nat.le_refl _⟩⟩
theorem LgI.same {E cur : Ev} {rs : Rst} {j : Nat} {p : (Fm × Int) × Ev} {acc : List ((Fm × Fm) × Fm)} (hp : rs[j]? = some p) (hd : rs.drop j = p :: rs.drop (j + 1)) (hc : cur.2.2 = (evAt E rs j).2.2) (hg : acc ++ grp cur (rs.drop j) = grp E rs) (hl : acc.length ≤ j)
    (h : (evAt E rs j).2.2 = p.2.2.2 ∧ p.1.2 = wrt (evAt E rs j).2.2 p.1.1) : LgI E rs (j + 2) (acc ++ [((cur.1, p.2.2.1), p.2.2.2)]) := ⟨fun h => by omega, fun i hi => by
  have : i = j + 1 := by omega
  subst this
  rw [hd, grp, hc, if_pos h] at hg
  refine ⟨acc, (cur.1, p.2.2.1, p.2.2.2), rfl, by rw [evAt_succ hp], ?_, by omega⟩
  rw [← h.1]
  exact hg⟩
theorem LgI.next {E cur : Ev} {rs : Rst} {j : Nat} {p : (Fm × Int) × Ev} {acc : List ((Fm × Fm) × Fm)} (hp : rs[j]? = some p) (hd : rs.drop j = p :: rs.drop (j + 1)) (hc : cur.2.2 = (evAt E rs j).2.2) (hg : acc ++ grp cur (rs.drop j) = grp E rs) (hl : acc.length ≤ j)
    (h : ¬ ((evAt E rs j).2.2 = p.2.2.2 ∧ p.1.2 = wrt (evAt E rs j).2.2 p.1.1)) : LgI E rs (j + 2) (acc ++ [((cur.1, cur.2.1), cur.2.2)] ++ [((p.2.1, p.2.2.1), p.2.2.2)]) := ⟨fun h => by omega, fun i hi => by
  have : i = j + 1 := by omega
  subst this
  rw [hd, grp] at hg
  rw [hc, if_neg h] at hg
  refine ⟨acc ++ [((cur.1, cur.2.1), cur.2.2)], p.2, rfl, by rw [evAt_succ hp], ?_, by simp; omega⟩
  rw [← hg, hc, List.append_assoc]
  rfl⟩
def LoI (E : Ev) (rs : Rst) (j : Nat) (acc : List ((Fm × Fm) × Fm)) : Prop := acc ++ (if j ≤ rs.length then grp (evAt E rs j) (rs.drop j) else []) = grp E rs ∧ j ≤ rs.length + 1 ∧ acc.length ≤ j
def LiI (E : Ev) (rs : Rst) (i : Nat) (cur : Ev) (acc : List ((Fm × Fm) × Fm)) : Prop := i ≤ rs.length ∧ cur.2.2 = (evAt E rs i).2.2 ∧ acc ++ grp cur (rs.drop i) = grp E rs ∧ acc.length ≤ i
theorem LoI.start {E : Ev} {rs : Rst} : LoI E rs 0 [] := ⟨by simp [evAt], by omega, Nat.le_refl _⟩
theorem LoI.inn {E : Ev} {rs : Rst} {j : Nat} {acc : List ((Fm × Fm) × Fm)} (h : LoI E rs j acc) (hj : j ≤ rs.length) : LiI E rs j (evAt E rs j) acc := by
  obtain ⟨h1, h2, h3⟩ := h
  rw [if_pos hj] at h1
  exact ⟨hj, rfl, h1, h3⟩
theorem LoI.fin {E : Ev} {rs : Rst} {j : Nat} {acc : List ((Fm × Fm) × Fm)} (h : LoI E rs j acc) (hj : ¬ j ≤ rs.length) : acc = grp E rs := by
  obtain ⟨h1, h2, h3⟩ := h
  rw [if_neg hj, List.append_nil] at h1
  exact h1
theorem LiI.go {E cur : Ev} {rs : Rst} {i : Nat} {p : (Fm × Int) × Ev} {acc : List ((Fm × Fm) × Fm)} (h : LiI E rs i cur acc) (hp : rs[i]? = some p) (c : (evAt E rs i).2.2 = p.2.2.2 ∧ p.1.2 = wrt (evAt E rs i).2.2 p.1.1) : LiI E rs (i + 1) (cur.1, p.2.2.1, cur.2.2) acc := by
  obtain ⟨h1, h2, h3, h4⟩ := h
  have hi := (List.getElem?_eq_some_iff.mp hp).1
  have hd : rs.drop i = p :: rs.drop (i + 1) := by
    rw [List.drop_eq_getElem_cons hi]
    rw [List.getElem?_eq_getElem hi] at hp
    rw [Option.some.inj hp]
  rw [hd, grp] at h3
  rw [if_pos (by rw [h2]; exact c)] at h3
  exact ⟨by omega, by rw [evAt_succ hp, ← c.1]; exact h2, h3, by omega⟩
theorem LiI.stop {E cur : Ev} {rs : Rst} {i : Nat} {acc : List ((Fm × Fm) × Fm)} (h : LiI E rs i cur acc) (c : ∀ p, rs[i]? = some p → ¬ ((evAt E rs i).2.2 = p.2.2.2 ∧ p.1.2 = wrt (evAt E rs i).2.2 p.1.1)) : LoI E rs (i + 1) (acc ++ [((cur.1, cur.2.1), cur.2.2)]) := by
  obtain ⟨h1, h2, h3, h4⟩ := h
  refine ⟨?_, by omega, by simp; omega⟩
  cases hp : rs[i]? with
  | none =>
    have hi := List.getElem?_eq_none_iff.mp hp
    rw [if_neg (by omega), List.append_nil]
    rw [List.drop_eq_nil_of_le hi, grp] at h3
    exact h3
  | some p =>
    have hi := (List.getElem?_eq_some_iff.mp hp).1
    have hd : rs.drop i = p :: rs.drop (i + 1) := by
      rw [List.drop_eq_getElem_cons hi]
      have := hp
      rw [List.getElem?_eq_getElem hi] at this
      rw [Option.some.inj this]
    rw [hd, grp, if_neg (by rw [h2]; exact c p hp)] at h3
    rw [if_pos (by omega), evAt_succ hp, List.append_assoc]
    exact h3
def unRs : List Am → Rst
  | .one r v :: .ev lo hi f :: l => ((r, v), (lo, hi, f)) :: unRs l
  | _ => []
def grpAm : List Am → List ((Fm × Fm) × Fm)
  | .ev lo hi f :: l => grp (lo, hi, f) (unRs l)
  | _ => []
theorem unRs_flat : ∀ rs : Rst, unRs (rs.flatMap fun p => [.one p.1.1 p.1.2, .ev p.2.1 p.2.2.1 p.2.2.2]) = rs
  | [] => rfl
  | p :: rs => by
    rw [List.flatMap_cons]
    simp only [List.cons_append, List.nil_append, unRs]
    rw [unRs_flat rs]
theorem grpAm_to {E : Ev} {rs : Rst} : grpAm (toAm E rs) = grp E rs := by
  unfold toAm grpAm
  simp only
  rw [unRs_flat]
/-- a ring's forms -/
def rfM (ks : List Bool) (ss : List St) (n : Nat) : List ((Fm × Fm) × Fm) := grpAm ((coursM ks ss).map (amR n))
/-- a glass's forms -/
def abM (ks : List Bool) (ss : List St) (g : Nat) : List ((Fm × Fm) × Fm) := grpAm ((coursM ks ss).map (amA g))
def xsL : Pc → Nat
  | .ev _ _ q => q.xs.length
  | .one _ q => q.xs.length
theorem noLsGf : ∀ xs : List ((Fm × Fm) × Fm), noLs (xs.map gfD) = true
  | [] => rfl
  | _ :: xs => by rw [List.map_cons, noLs, noLsGf xs]; rfl
theorem okdGf {n : Nat} (p : (Fm × Fm) × Fm) : Okd (n + 3) (gfD p) := Okd.tuple fun x hx => by
  simp only [List.mem_cons, List.not_mem_nil, or_false] at hx
  rcases hx with rfl | rfl
  · refine Okd.tuple fun x hx => ?_
    simp only [List.mem_cons, List.not_mem_nil, or_false] at hx
    rcases hx with rfl | rfl <;> exact okdF _
  · exact okdF _
theorem gEqGf (xs : List ((Fm × Fm) × Fm)) : gEq (.list (xs.map gfD)) (.list (xs.map gfD)) = some true := gEq_self (n := 4) (Okd.list fun x hx => by
  obtain ⟨p, _, rfl⟩ := List.mem_map.mp hx
  exact okdGf p) (by omega)
theorem grp_len : ∀ {rs : Rst} {E : Ev}, (grp E rs).length ≤ rs.length + 1
  | [], _ => Nat.le_refl _
  | p :: rs, E => by
    rw [grp]
    split
    · have := grp_len (rs := rs) (E := (E.1, p.2.2.1, E.2.2)); simp at this ⊢; omega
    · have := grp_len (rs := rs) (E := p.2); simp at this ⊢; omega
end G

-- SA05
set_option maxRecDepth 100000
set_option maxHeartbeats 4000000
namespace G05
open PySem G
theorem t_amountsR (d : Nat) (ps : List Pc) (n : Nat) (hl : ps.length ≤ 100000) (hh : ∀ P ∈ ps, n < hdL P) : Gm T (d+1) 31 [.dat (.list (ps.map pcD)), .dat (.int n), .dat (.int 0)] = ret (.new ((ps.map (amR n)).map amD)) := by
  refine eq_of_wp fun S => ?_
  have hT : T[31]? = some d31 := rfl
  rw [gm_open hT]
  simp only [runDf, d31, startE, List.length_cons, List.length_nil, Nat.zero_add, if_true, reduceIte, Nat.reduceAdd, List.map_cons, List.map_nil, List.cons_append, List.nil_append, Nat.reduceSub, List.replicate_succ, List.replicate_zero, wp_bnd]
  rw [wps_cons]
  simp -implicitDefEqProofs [wps_nil, seqF_nx, seqF_ret, seqF_brk, seqF_cont, wp_bnd, wp_ret, evS, evX, evRs, ev, evs, evV, evB, evC, evO, evI_seq, evI_zip, evI_rng1, evI_rng2, evI_rng3, evI_fns, endV, bnd_ret, getV, getF, getL, frz, thaw, isR, lft, noEx_ret, RV.toD, RV.toV, isTy, toB, toI, toS, cop, bop, gOrd, gAdd, gSub, itemsOf, wipeE, bindT, tst, Function.comp_apply, gIx0, gIx1, gIx2, puts, putRV, isL, chg_eq, sE_tt, sE_tw, sE_tf, sE_tr, sE_wt, sE_ww, sE_wf, sE_wr, sE_ft, sE_fw, sE_ff, sE_fr, sE_rt, sE_rw, sE_rf, sE_rr]
  rw [wps_cons]
  simp -implicitDefEqProofs [wps_nil, seqF_nx, seqF_ret, seqF_brk, seqF_cont, wp_bnd, wp_ret, evS, evX, evRs, ev, evs, evV, evB, evC, evO, evI_seq, evI_zip, evI_rng1, evI_rng2, evI_rng3, evI_fns, endV, bnd_ret, getV, getF, getL, frz, thaw, isR, lft, noEx_ret, RV.toD, RV.toV, isTy, toB, toI, toS, cop, bop, gOrd, gAdd, gSub, itemsOf, wipeE, bindT, tst, Function.comp_apply, gIx0, gIx1, gIx2, puts, putRV, isL, chg_eq, sE_tt, sE_tw, sE_tf, sE_tr, sE_wt, sE_ww, sE_wf, sE_wr, sE_ft, sE_fw, sE_ff, sE_fr, sE_rt, sE_rw, sE_rf, sE_rr]
  refine wp_mono (forV_wp (e := Vl.dat ∘ pcD) (P := fun pre env S' => S' = S ∧ ∃ s4 s5 s6 s7 s8, env = [.vl (.dat (.list (ps.map pcD))), .vl (.dat (.int n)), .vl (.dat (.int 0)), .own (.lst ((pre.map (amR n)).map amD)), s4, s5, s6, s7, s8]) ?_ ⟨rfl, .un, .un, .un, .un, .un, by simp⟩) ?_
  · rintro pre P post env S' hx ⟨rfl, s4, s5, s6, s7, s8, rfl⟩
    have hP := hh P (by rw [hx]; simp)
    have hpl : pre.length < 16777216 := by rw [hx] at hl; simp at hl; omega
    cases P with
    | ev lo hi q =>
      refine ⟨_, rfl, ?_⟩
      have e := gIxM (f := rgF) (d := (z2, [])) (show n < q.hd.length from hP)
      simp -implicitDefEqProofs [wps_cons, wps_nil, seqF_nx, seqF_ret, seqF_brk, seqF_cont, wp_bnd, wp_ret, evS, evX, evRs, ev, evs, evV, evB, evC, evO, evI_seq, evI_zip, evI_rng1, evI_rng2, evI_rng3, evI_fns, endV, bnd_ret, getV, getF, getL, frz, thaw, isR, lft, noEx_ret, RV.toD, RV.toV, isTy, toB, toI, toS, cop, bop, gOrd, gAdd, gSub, itemsOf, wipeE, bindT, tst, Function.comp_apply, gIx0, gIx1, gIx2, puts, putRV, isL, chg_eq, sE_tt, sE_tw, sE_tf, sE_tr, sE_wt, sE_ww, sE_wf, sE_wr, sE_ft, sE_fw, sE_ff, sE_fr, sE_rt, sE_rw, sE_rf, sE_rr, e, isNon, sizeLine, hpl, noL, noR, noLs, amR, amD, -List.getD_eq_getElem?_getD]
    | one r q =>
      refine ⟨_, rfl, ?_⟩
      have e := gIxM (f := rgD) (d := (0, [])) (show n < q.hd.length from hP)
      simp -implicitDefEqProofs [wps_cons, wps_nil, seqF_nx, seqF_ret, seqF_brk, seqF_cont, wp_bnd, wp_ret, evS, evX, evRs, ev, evs, evV, evB, evC, evO, evI_seq, evI_zip, evI_rng1, evI_rng2, evI_rng3, evI_fns, endV, bnd_ret, getV, getF, getL, frz, thaw, isR, lft, noEx_ret, RV.toD, RV.toV, isTy, toB, toI, toS, cop, bop, gOrd, gAdd, gSub, itemsOf, wipeE, bindT, tst, Function.comp_apply, gIx0, gIx1, gIx2, puts, putRV, isL, chg_eq, sE_tt, sE_tw, sE_tf, sE_tr, sE_wt, sE_ww, sE_wf, sE_wr, sE_ft, sE_fw, sE_ff, sE_fr, sE_rt, sE_rw, sE_rf, sE_rr, e, isNon, sizeLine, hpl, noL, noR, noLs, amR, amD, -List.getD_eq_getElem?_getD]
  · rintro ⟨f, env⟩ S' ⟨hf, rfl, s4, s5, s6, s7, s8, rfl⟩
    cases hf
    rw [seqF_nx, wps_cons]
    simp -implicitDefEqProofs [wps_nil, seqF_nx, seqF_ret, seqF_brk, seqF_cont, wp_bnd, wp_ret, evS, evX, evRs, ev, evs, evV, evB, evC, evO, evI_seq, evI_zip, evI_rng1, evI_rng2, evI_rng3, evI_fns, endV, bnd_ret, getV, getF, getL, frz, thaw, isR, lft, noEx_ret, RV.toD, RV.toV, isTy, toB, toI, toS, cop, bop, gOrd, gAdd, gSub, itemsOf, wipeE, bindT, tst, Function.comp_apply, gIx0, gIx1, gIx2, puts, putRV, isL, chg_eq, sE_tt, sE_tw, sE_tf, sE_tr, sE_wt, sE_ww, sE_wf, sE_wr, sE_ft, sE_fw, sE_ff, sE_fr, sE_rt, sE_rw, sE_rf, sE_rr, getO]
end G05

-- SB05
set_option maxRecDepth 100000
set_option maxHeartbeats 4000000
namespace G05
open PySem G
theorem gEqRing {s : St} : gEq (.str s.nm) (.str "ring") = some (isRg s) := by
  cases s <;> simp only [St.nm, isRg] <;> decide +kernel
theorem t_ringsIn (d : Nat) (k : D) (ss : List St) (hn : ss.length ≤ 1000) : Gm T (d+1) 7 [.dat (.tuple [k, .tuple (ss.map St.d)])] = ret (.d (.int (ss.countP isRg : Nat))) := by
  refine eq_of_wp fun S => ?_
  have hT : T[7]? = some d7 := rfl
  rw [gm_open hT]
  simp only [runDf, d7, startE, List.length_cons, List.length_nil, Nat.zero_add, if_true, reduceIte, Nat.reduceAdd, List.map_cons, List.map_nil, List.cons_append, List.nil_append, Nat.reduceSub, List.replicate_succ, List.replicate_zero, wp_bnd]
  rw [wps_cons]
  have hl : (ss.filter isRg).length ≤ 16777216 := Nat.le_trans (List.length_filter_le ..) (by omega)
  simp -implicitDefEqProofs [wps_nil, seqF_nx, seqF_ret, seqF_brk, seqF_cont, wp_bnd, wp_ret, evS, evX, evRs, ev, evs, evV, evB, evC, evO, evI_seq, evI_zip, evI_rng1, evI_rng2, evI_rng3, evI_fns, endV, bnd_ret, getV, getF, getL, frz, thaw, isR, lft, noEx_ret, RV.toD, RV.toV, isTy, toB, toI, toS, cop, bop, gOrd, gAdd, gSub, itemsOf, wipeE, bindT, tst, Function.comp_apply, gIx0, gIx1, gIx2, puts, putRV, isL, chg_eq, sE_tt, sE_tw, sE_tf, sE_tr, sE_wt, sE_ww, sE_wf, sE_wr, sE_ft, sE_fw, sE_ff, sE_fr, sE_rt, sE_rw, sE_rf, sE_rr]
  rw [mapV_pure (e := Vl.dat ∘ St.d) (g := fun s => if isRg s = true then some s.d else none)]
  · rw [fm_filter]
    simp -implicitDefEqProofs [wps_nil, seqF_nx, seqF_ret, seqF_brk, seqF_cont, wp_bnd, wp_ret, evS, evX, evRs, ev, evs, evV, evB, evC, evO, evI_seq, evI_zip, evI_rng1, evI_rng2, evI_rng3, evI_fns, endV, bnd_ret, getV, getF, getL, frz, thaw, isR, lft, noEx_ret, RV.toD, RV.toV, isTy, toB, toI, toS, cop, bop, gOrd, gAdd, gSub, itemsOf, wipeE, bindT, tst, Function.comp_apply, gIx0, gIx1, gIx2, puts, putRV, isL, chg_eq, sE_tt, sE_tw, sE_tf, sE_tr, sE_wt, sE_ww, sE_wf, sE_wr, sE_ft, sE_fw, sE_ff, sE_fr, sE_rt, sE_rw, sE_rf, sE_rr, sizeLine, hl, gBf, List.countP_eq_length_filter]
  · intro s _
    have h := gEqRing (s := s)
    cases hb : isRg s <;> rw [hb] at h <;> simp -implicitDefEqProofs [evSs, evS, evX, evRs, ev, evs, evV, evB, evC, evO, evI_seq, evI_zip, evI_rng1, evI_rng2, evI_rng3, evI_fns, endV, seqF, bnd_ret, getV, getF, getL, frz, thaw, isR, lft, noEx_ret, RV.toD, RV.toV, isTy, toB, toI, toS, cop, bop, gOrd, gAdd, gSub, itemsOf, wipeE, bindT, tst, Function.comp_apply, gIx0, gIx1, gIx2, puts, putRV, isL, chg_eq, sE_tt, sE_tw, sE_tf, sE_tr, sE_wt, sE_ww, sE_wf, sE_wr, sE_ft, sE_fw, sE_ff, sE_fr, sE_rt, sE_rw, sE_rf, sE_rr, gIxS, h]
theorem t_lCount (d : Nat) (k : D) (ss : List St) (hn : ss.length ≤ 1000) : Gm T (d+1) 58 [.dat (.tuple [k, .tuple (ss.map St.d)])] = ret (.d (.int (ss.countP isRg : Nat))) := by
  refine eq_of_wp fun S => ?_
  have hT : T[58]? = some d58 := rfl
  rw [gm_open hT]
  simp only [runDf, d58, startE, List.length_cons, List.length_nil, Nat.zero_add, if_true, reduceIte, Nat.reduceAdd, List.map_cons, List.map_nil, List.cons_append, List.nil_append, Nat.reduceSub, List.replicate_succ, List.replicate_zero, wp_bnd]
  rw [wps_cons]
  have hl : (ss.filter isRg).length ≤ 16777216 := Nat.le_trans (List.length_filter_le ..) (by omega)
  simp -implicitDefEqProofs [wps_nil, seqF_nx, seqF_ret, seqF_brk, seqF_cont, wp_bnd, wp_ret, evS, evX, evRs, ev, evs, evV, evB, evC, evO, evI_seq, evI_zip, evI_rng1, evI_rng2, evI_rng3, evI_fns, endV, bnd_ret, getV, getF, getL, frz, thaw, isR, lft, noEx_ret, RV.toD, RV.toV, isTy, toB, toI, toS, cop, bop, gOrd, gAdd, gSub, itemsOf, wipeE, bindT, tst, Function.comp_apply, gIx0, gIx1, gIx2, puts, putRV, isL, chg_eq, sE_tt, sE_tw, sE_tf, sE_tr, sE_wt, sE_ww, sE_wf, sE_wr, sE_ft, sE_fw, sE_ff, sE_fr, sE_rt, sE_rw, sE_rf, sE_rr]
  rw [mapV_pure (e := Vl.dat ∘ St.d) (g := fun s => if isRg s = true then some s.d else none)]
  · rw [fm_filter]
    simp -implicitDefEqProofs [wps_nil, seqF_nx, seqF_ret, seqF_brk, seqF_cont, wp_bnd, wp_ret, evS, evX, evRs, ev, evs, evV, evB, evC, evO, evI_seq, evI_zip, evI_rng1, evI_rng2, evI_rng3, evI_fns, endV, bnd_ret, getV, getF, getL, frz, thaw, isR, lft, noEx_ret, RV.toD, RV.toV, isTy, toB, toI, toS, cop, bop, gOrd, gAdd, gSub, itemsOf, wipeE, bindT, tst, Function.comp_apply, gIx0, gIx1, gIx2, puts, putRV, isL, chg_eq, sE_tt, sE_tw, sE_tf, sE_tr, sE_wt, sE_ww, sE_wf, sE_wr, sE_ft, sE_fw, sE_ff, sE_fr, sE_rt, sE_rw, sE_rf, sE_rr, sizeLine, hl, gBf, List.countP_eq_length_filter]
  · intro s _
    have h := gEqRing (s := s)
    cases hb : isRg s <;> rw [hb] at h <;> simp -implicitDefEqProofs [evSs, evS, evX, evRs, ev, evs, evV, evB, evC, evO, evI_seq, evI_zip, evI_rng1, evI_rng2, evI_rng3, evI_fns, endV, seqF, bnd_ret, getV, getF, getL, frz, thaw, isR, lft, noEx_ret, RV.toD, RV.toV, isTy, toB, toI, toS, cop, bop, gOrd, gAdd, gSub, itemsOf, wipeE, bindT, tst, Function.comp_apply, gIx0, gIx1, gIx2, puts, putRV, isL, chg_eq, sE_tt, sE_tw, sE_tf, sE_tr, sE_wt, sE_ww, sE_wf, sE_wr, sE_ft, sE_fw, sE_ff, sE_fr, sE_rt, sE_rw, sE_rf, sE_rr, gIxS, h]
/-- what is known of a plan's pieces and their amounts -/
theorem rg_alt (ks : List Bool) (ss : List St) (n : Nat) (h3 : ks.length ≤ 3) (hn : ss.length ≤ 12) (hs : ∀ s ∈ ss, s.ok ks.length) (hnr : n < ss.countP isRg) :
    ∃ E rs, (coursM ks ss).map (amR n) = toAm E rs ∧ Chn E rs ∧ rs.length ≤ 10000 ∧ (coursM ks ss).length ≤ 10000 ∧ (∀ j, Sm 40 (evAt E rs j).2.2) ∧ ∀ P ∈ coursM ks ss, n < hdL P := by
  obtain ⟨E, rs, e, c⟩ := alt_cours h3 hs (amR n) (fun lo hi q => ⟨_, rfl⟩) (fun r q => ⟨_, rfl⟩)
  have hok := coursM_ok h3 hs
  have hpow : (2 : Nat) ^ (ss.length + 1) ≤ 2 ^ 13 := Nat.pow_le_pow_right (by omega) (by omega)
  have hpow2 : (2 : Nat) ^ 13 = 8192 := by decide
  have hl := hok.len
  have hlen := congrArg List.length e
  rw [List.length_map, toAm_len] at hlen
  refine ⟨E, rs, e, c, by omega, by omega, fun j => ?_, fun P hP => by rw [cours_hdL h3 hs P hP]; exact hnr⟩
  have key : ∀ j, j ≤ rs.length → Sm 40 (evAt E rs j).2.2 := fun j hj => by
    have h1 := toAm_ev (E := E) hj
    rw [← e, List.getElem?_map] at h1
    cases hq : (coursM ks ss)[2 * j]? with
    | none => rw [hq] at h1; cases h1
    | some P =>
      rw [hq] at h1
      have hP := hok.all P (List.mem_of_getElem? hq)
      cases P with
      | one r q => cases h1
      | ev lo hi q =>
        have h1 := Option.some.inj h1
        have h2 : (q.hd.getD n (z2, [])).1 = (evAt E rs j).2.2 := by
          unfold amR at h1
          injection h1
        rw [← h2]
        obtain ⟨_, _, sm, _⟩ := hP
        rw [List.getD_eq_getElem?_getD]
        cases hg : q.hd[n]? with
        | none => exact .z
        | some p => exact (sm.hd p (List.mem_of_getElem? hg)).mono (by omega)
  by_cases hj : j ≤ rs.length
  · exact key j hj
  · have : evAt E rs j = E := by
      cases j with
      | zero => rfl
      | succ j =>
        show (match rs[j]? with | some p => p.2 | none => E) = E
        rw [List.getElem?_eq_none (by omega)]
    rw [this]
    exact key 0 (Nat.zero_le _)
end G05

-- ML
namespace G
/-! ### the pieces with their ends -/
abbrev Ep := Fm × Fm × RunF
def toPc (ks : List Bool) (ss : List St) (E : Ep) (rs : List (Fm × Ep)) : List Pc := .ev E.1 E.2.1 E.2.2 :: rs.flatMap fun p => [.one p.1 (runM ks p.1.1 p.1.2 ss), .ev p.2.1 p.2.2.1 p.2.2.2]
def EpOk (ks : List Bool) (ss : List St) (E : Ep) : Prop := Iv E.1 E.2.1 ∧ evenRun ks E.1 E.2.1 (q0 ks) ss = .inr E.2.2
def Chp (ks : List Bool) (ss : List St) : Ep → List (Fm × Ep) → Prop
  | E, [] => EpOk ks ss E
  | E, p :: rs => EpOk ks ss E ∧ p.1 = E.2.1 ∧ p.1 = p.2.1 ∧ Chp ks ss p.2 rs
def lstE : Ep → List (Fm × Ep) → Ep
  | E, [] => E
  | _, p :: rs => lstE p.2 rs
section
variable {ks : List Bool} {ss : List St}
theorem toPc_app {E : Ep} {rs : List (Fm × Ep)} {r : Fm} {E' : Ep} {rs' : List (Fm × Ep)} : toPc ks ss E rs ++ .one r (runM ks r.1 r.2 ss) :: toPc ks ss E' rs' = toPc ks ss E (rs ++ (r, E') :: rs') := by
  unfold toPc
  rw [List.flatMap_append, List.flatMap_cons]
  simp
theorem chp_app {rs : List (Fm × Ep)} {r : Fm} {E' : Ep} {rs' : List (Fm × Ep)} : ∀ {E : Ep}, Chp ks ss E rs → (lstE E rs).2.1 = r → r = E'.1 → Chp ks ss E' rs' → Chp ks ss E (rs ++ (r, E') :: rs') := by
  induction rs with
  | nil => intro E h h1 h2 h3; exact ⟨h, h1.symm, h2, h3⟩
  | cons p rs ih => intro E h h1 h2 h3; exact ⟨h.1, h.2.1, h.2.2.1, ih h.2.2.2 h1 h2 h3⟩
theorem lst_app {rs : List (Fm × Ep)} {p : Fm × Ep} {rs' : List (Fm × Ep)} : ∀ {E : Ep}, lstE E (rs ++ p :: rs') = lstE p.2 rs' := by
  induction rs with
  | nil => intro E; rfl
  | cons p rs ih => intro E; exact ih
theorem pc_parts {m : Nat} {lo hi : Fm} (h : Deep ks ss m lo hi) (v : Iv lo hi) : ∃ E rs, parts ks ss m lo hi = toPc ks ss E rs ∧ Chp ks ss E rs ∧ E.1 = lo ∧ (lstE E rs).2.1 = hi := by
  induction h with
  | @flat m lo hi q e =>
    rw [parts, e]
    exact ⟨(lo, hi, q), [], rfl, ⟨v, e⟩, rfl, rfl⟩
  | @cut m lo hi r e a b ia ib =>
    have w := (evenRun_cut (n := 0) SmR.q0 e).1
    obtain ⟨E, rs, e1, c1, l1, l2⟩ := ia (Sb.left v w).v'
    obtain ⟨E', rs', e2, c2, l3, l4⟩ := ib (Sb.right v w).v'
    rw [parts, e]
    simp only
    refine ⟨E, rs ++ (r, E') :: rs', ?_, chp_app c1 l2 l3.symm c2, l1, by rw [lst_app]; exact l4⟩
    rw [e1, e2]
    exact toPc_app
theorem pc_cours (h3 : ks.length ≤ 3) (hs : ∀ s ∈ ss, s.ok ks.length) : ∃ E rs, coursM ks ss = toPc ks ss E rs ∧ Chp ks ss E rs := by
  have hd := deep_of (ask2_le3 h3) ss [] lowF highF (q0 ks) (3 * ss.length + 1) (by simpa using hs) Iv.all rfl (by omega)
  rw [List.nil_append] at hd
  obtain ⟨E, rs, e, c, _⟩ := pc_parts hd Iv.all
  rw [parts_coursG h3 hs Iv.all (by omega)] at e
  exact ⟨E, rs, e, c⟩
/-! ### by places -/
def epAt (E : Ep) (rs : List (Fm × Ep)) : Nat → Ep
  | 0 => E
  | j + 1 => match rs[j]? with
    | some p => p.2
    | none => E
def rtAt (rs : List (Fm × Ep)) (j : Nat) : Fm := match rs[j]? with
  | some p => p.1
  | none => z2
theorem epAt_succ {E : Ep} {rs : List (Fm × Ep)} {j : Nat} {p : Fm × Ep} (h : rs[j]? = some p) : epAt E rs (j + 1) = p.2 := by
  show (match rs[j]? with | some p => p.2 | none => E) = _
  rw [h]
theorem rtAt_of {rs : List (Fm × Ep)} {j : Nat} {p : Fm × Ep} (h : rs[j]? = some p) : rtAt rs j = p.1 := by
  unfold rtAt
  rw [h]
theorem toPc_len {E : Ep} {rs : List (Fm × Ep)} : (toPc ks ss E rs).length = 2 * rs.length + 1 := by
  unfold toPc
  rw [List.length_cons]
  congr 1
  induction rs with
  | nil => rfl
  | cons p rs ih => rw [List.flatMap_cons, List.length_append, ih]; simp; omega
theorem flatP_get : ∀ {rs : List (Fm × Ep)} {j : Nat} {p : Fm × Ep}, rs[j]? = some p → (rs.flatMap fun p => [Pc.one p.1 (runM ks p.1.1 p.1.2 ss), .ev p.2.1 p.2.2.1 p.2.2.2])[2 * j]? = some (.one p.1 (runM ks p.1.1 p.1.2 ss)) ∧ (rs.flatMap fun p => [Pc.one p.1 (runM ks p.1.1 p.1.2 ss), .ev p.2.1 p.2.2.1 p.2.2.2])[2 * j + 1]? = some (.ev p.2.1 p.2.2.1 p.2.2.2)
  | [], _, _, h => by cases h
  | q :: rs, 0, p, h => by
    cases h
    simp [List.flatMap_cons]
  | q :: rs, j + 1, p, h => by
    obtain ⟨a, b⟩ := flatP_get (rs := rs) (j := j) (p := p) (by simpa using h)
    rw [List.flatMap_cons]
    exact ⟨by rw [show 2 * (j + 1) = 2 * j + 2 by omega]; simpa using a, by rw [show 2 * (j + 1) + 1 = 2 * j + 1 + 2 by omega]; simpa using b⟩
theorem toPc_ev {E : Ep} {rs : List (Fm × Ep)} {j : Nat} (h : j ≤ rs.length) : (toPc ks ss E rs)[2 * j]? = some (.ev (epAt E rs j).1 (epAt E rs j).2.1 (epAt E rs j).2.2) := by
  cases j with
  | zero => rfl
  | succ j =>
    have hp : rs[j]? = some rs[j] := List.getElem?_eq_getElem (by omega)
    rw [epAt_succ hp, show 2 * (j + 1) = 2 * j + 1 + 1 by omega]
    unfold toPc
    rw [List.getElem?_cons_succ]
    exact (flatP_get hp).2
theorem toPc_one {E : Ep} {rs : List (Fm × Ep)} {j : Nat} (h : j < rs.length) : (toPc ks ss E rs)[2 * j + 1]? = some (.one (rtAt rs j) (runM ks (rtAt rs j).1 (rtAt rs j).2 ss)) := by
  have hp : rs[j]? = some rs[j] := List.getElem?_eq_getElem (by omega)
  rw [rtAt_of hp]
  unfold toPc
  rw [List.getElem?_cons_succ]
  exact (flatP_get hp).1
theorem epAt_cons {E : Ep} {p : Fm × Ep} {rs : List (Fm × Ep)} {j : Nat} (h : j ≤ rs.length) : epAt E (p :: rs) (j + 1) = epAt p.2 rs j := by
  cases j with
  | zero => rfl
  | succ j =>
    have hp : rs[j]? = some rs[j] := List.getElem?_eq_getElem (by omega)
    rw [epAt_succ hp, epAt_succ (p := rs[j]) (by rw [List.getElem?_cons_succ]; exact hp)]
theorem chp_ok : ∀ {rs : List (Fm × Ep)} {E : Ep}, Chp ks ss E rs → ∀ j, j ≤ rs.length → EpOk ks ss (epAt E rs j)
  | [], E, h, j, hj => by
    have : j = 0 := by simpa using hj
    subst this
    exact h
  | p :: rs, E, h, 0, hj => h.1
  | p :: rs, E, h, j + 1, hj => by
    have hl : j ≤ rs.length := by simpa using hj
    rw [epAt_cons hl]
    exact chp_ok h.2.2.2 j hl
theorem chp_at : ∀ {rs : List (Fm × Ep)} {E : Ep}, Chp ks ss E rs → ∀ j, j < rs.length → rtAt rs j = (epAt E rs j).2.1 ∧ rtAt rs j = (epAt E rs (j + 1)).1
  | [], E, h, j, hj => by simp at hj
  | p :: rs, E, h, 0, hj => ⟨h.2.1, h.2.2.1⟩
  | p :: rs, E, h, j + 1, hj => by
    have hl : j < rs.length := by simpa using hj
    rw [epAt_cons (by omega), epAt_cons (by omega)]
    exact chp_at h.2.2.2 j hl
/-- the ratios rise -/
theorem chp_lt {E : Ep} {rs : List (Fm × Ep)} (c : Chp ks ss E rs) : ∀ (k j : Nat), j + k + 1 < rs.length → lss (rtAt rs j) (rtAt rs (j + k + 1)) = true := by
  have one : ∀ j, j + 1 < rs.length → lss (rtAt rs j) (rtAt rs (j + 1)) = true := fun j hj => by
    rw [(chp_at c j (by omega)).2, (chp_at c (j + 1) hj).1]
    exact (chp_ok c (j + 1) (by omega)).1.d
  have R : ∀ j, j < rs.length → Rt (rtAt rs j) := fun j hj => by
    rw [(chp_at c j hj).2]
    exact (chp_ok c (j + 1) (by omega)).1.l
  intro k
  induction k with
  | zero => intro j hj; exact one j hj
  | succ k ih =>
    intro j hj
    exact lss_trans (R j (by omega)) (R (j + k + 1) (by omega)) (R (j + k + 1 + 1) (by omega)) (ih j (by omega)) (one (j + k + 1) (by omega))
theorem chp_inj {E : Ep} {rs : List (Fm × Ep)} (c : Chp ks ss E rs) {i j : Nat} (hi : i < rs.length) (hj : j < rs.length) (e : rtAt rs i = rtAt rs j) : i = j := by
  rcases Nat.lt_trichotomy i j with h | h | h
  · have := chp_lt c (j - i - 1) i (by omega)
    rw [show i + (j - i - 1) + 1 = j by omega, e, lss_irrefl] at this
    cases this
  · exact h
  · have := chp_lt c (i - j - 1) j (by omega)
    rw [show j + (i - j - 1) + 1 = i by omega, e, lss_irrefl] at this
    cases this
/-! ### kinks -/
def fAt (E : Ep) (rs : List (Fm × Ep)) (n j : Nat) : Fm := ((epAt E rs j).2.2.hd.getD n (z2, [])).1
def vAt (ks : List Bool) (ss : List St) (rs : List (Fm × Ep)) (n j : Nat) : Int := ((runM ks (rtAt rs j).1 (rtAt rs j).2 ss).hd.getD n (0, [])).1
def jB (ks : List Bool) (ss : List St) (E : Ep) (rs : List (Fm × Ep)) (n j : Nat) : Bool := !(decide (wrt (fAt E rs n j) (rtAt rs j) = vAt ks ss rs n j) && decide (wrt (fAt E rs n (j + 1)) (rtAt rs j) = vAt ks ss rs n j))
def bB (ks : List Bool) (ss : List St) (E : Ep) (rs : List (Fm × Ep)) (n j : Nat) : Bool := decide (fAt E rs n j ≠ fAt E rs n (j + 1)) && !jB ks ss E rs n j
/-- the ratios at which it is so -/
def atR (rs : List (Fm × Ep)) (b : Nat → Bool) (k : Nat) : List Fm := ((List.range k).filter b).map (rtAt rs)
theorem atR_succ {rs : List (Fm × Ep)} {b : Nat → Bool} {k : Nat} : atR rs b (k + 1) = atR rs b k ++ if b k = true then [rtAt rs k] else [] := by
  unfold atR
  rw [List.range_succ, List.filter_append, List.map_append]
  congr 1
  cases h : b k <;> simp [h]
theorem atR_mem {E : Ep} {rs : List (Fm × Ep)} (c : Chp ks ss E rs) {b : Nat → Bool} {j : Nat} (hj : j < rs.length) : (rtAt rs j ∈ atR rs b rs.length) ↔ b j = true := by
  unfold atR
  rw [List.mem_map]
  constructor
  · rintro ⟨i, hi, e⟩
    rw [List.mem_filter, List.mem_range] at hi
    rw [← chp_inj c hi.1 hj e]
    exact hi.2
  · intro h
    exact ⟨j, by rw [List.mem_filter, List.mem_range]; exact ⟨hj, h⟩, rfl⟩
theorem atR_len {rs : List (Fm × Ep)} {b : Nat → Bool} {k : Nat} : (atR rs b k).length ≤ k := by
  unfold atR
  rw [List.length_map]
  exact Nat.le_trans (List.length_filter_le ..) (by simp)
/-! ### no jumps without "first" -/
structure Te (r : Fm) (q : RunF) (Q : Run) : Prop where
  xs : Q.xs = q.xs.map (wrt · r)
  t : Q.t = wrt q.t r
  hd : Q.hd.map Prod.fst = q.hd.map fun p => wrt p.1 r
theorem ends_sgn {lo hi r f : Fm} (v : Iv lo hi) (he : r = lo ∨ r = hi) (h : zeroWithin lo hi f = none) : (0 < signOf f lo → 0 ≤ wrt f r) ∧ (¬ 0 < signOf f lo → wrt f r ≤ 0) := by
  have hs := sg_of v h
  generalize signOf f lo = x at hs
  cases hs with
  | pos a b c => rcases he with rfl | rfl <;> exact ⟨fun _ => by assumption, fun z => absurd (by decide) z⟩
  | neg a b c => rcases he with rfl | rfl <;> exact ⟨fun z => absurd z (by decide), fun _ => by assumption⟩
  | zero e => subst e; rw [wrt_zz]; exact ⟨fun _ => Int.le_refl _, fun _ => Int.le_refl _⟩
theorem Te.step {lo hi r : Fm} {q : RunF} {Q : Run} {s : St} (v : Iv lo hi) (he : r = lo ∨ r = hi) (iv : InF lo hi ks q.xs) (h : firstCut lo hi q.xs s = none) (hf : s ≠ .first) (te : Te r q Q) : Te r (run1F ks lo q s) (run1 ks r.1 r.2 Q s) := by
  have hn := firstCut_none h
  have ge : ∀ x ∈ q.xs.map (wrt · r), 0 ≤ x := fun x hx => by
    obtain ⟨f, hf, rfl⟩ := List.mem_map.mp hx
    have := iv.mem hf
    rcases he with rfl | rfl
    · exact this.1
    · exact this.2
  obtain ⟨t1, t2, t3⟩ := te
  have ht : tk Q.xs s = wrt (tkF lo q.xs s) r := by
    rw [t1]
    cases s with
    | turn i => simp [tk, tkF, wrt_z2]
    | ring => simp [tk, tkF, wrt_z2]
    | wait i =>
      show (q.xs.map (wrt · r)).getD i 0 = wrt (q.xs.getD i z2) r
      rw [← getD_map (f := (wrt · r)), wrt_z2]
    | first => exact absurd rfl hf
  refine ⟨?_, ?_, ?_⟩
  · show aft ks r.1 r.2 Q.xs s = (aftF ks lo q.xs s).map (wrt · r)
    cases s with
    | turn i =>
      rw [t1]
      show (q.xs.map (wrt · r)).set i _ = (q.xs.set i _).map (wrt · r)
      rw [List.map_set, wrt_mns, whole_wrt, ← getD_map (f := (wrt · r)), wrt_z2]
    | ring =>
      show Q.xs.map _ = q.xs.map (wrt · r)
      rw [ht, t1]
      show (q.xs.map (wrt · r)).map (fun x => max 0 (x - wrt z2 r)) = _
      rw [wrt_z2, map_id_of ge]
    | wait i =>
      show Q.xs.map _ = (waitedF lo (q.xs.getD i z2) q.xs).map (wrt · r)
      rw [ht, t1]
      unfold waitedF
      rw [List.map_map, List.map_map]
      refine List.map_congr_left fun g hg => ?_
      obtain ⟨s1, s2⟩ := ends_sgn v he (hn _ (ask_wait (i := i) hg))
      rw [wrt_mns] at s1 s2
      show max 0 (wrt g r - wrt (q.xs.getD i z2) r) = wrt (if _ then _ else _) r
      by_cases c : 0 < signOf (mns g (q.xs.getD i z2)) lo
      · rw [if_pos c, wrt_mns]
        have := s1 c
        omega
      · rw [if_neg c, wrt_z2]
        have := s2 c
        omega
    | first => exact absurd rfl hf
  · show Q.t + tk Q.xs s = wrt (pls q.t (tkF lo q.xs s)) r
    rw [wrt_pls, t2, ht]
  · show (if s = .ring then Q.hd ++ [(Q.t + tk Q.xs s, _)] else Q.hd).map Prod.fst = (if s = .ring then q.hd ++ [(q.t, _)] else q.hd).map _
    by_cases c : s = .ring
    · subst c
      rw [if_pos rfl, if_pos rfl, List.map_append, List.map_append, t3]
      simp [tk, t2]
    · rw [if_neg c, if_neg c, t3]
theorem Te.run {lo hi r : Fm} (v : Iv lo hi) (he : r = lo ∨ r = hi) : ∀ {pre : List St} {q q' : RunF} {Q : Run}, (∀ s ∈ pre, s.ok ks.length) → (∀ s ∈ pre, s ≠ .first) → InF lo hi ks q.xs → evenRun ks lo hi q pre = .inr q' → Te r q Q → Te r q' (pre.foldl (run1 ks r.1 r.2) Q)
  | [], q, q', Q, _, _, iv, h, te => by cases h; exact te
  | s :: pre, q, q', Q, ok, nf, iv, h, te => by
    rw [evenRun] at h
    cases e : firstCut lo hi q.xs s with
    | some r => rw [e] at h; cases h
    | none =>
      rw [e] at h
      rw [List.foldl_cons]
      exact Te.run v he (fun s hs => ok s (List.mem_cons_of_mem _ hs)) (fun s hs => nf s (List.mem_cons_of_mem _ hs)) (iv.step v (ok s (List.mem_cons_self ..)) e) h
        (te.step v he iv e (nf s (List.mem_cons_self ..)))
theorem te_at {r : Fm} {E : Ep} (ok : ∀ s ∈ ss, s.ok ks.length) (nf : ∀ s ∈ ss, s ≠ .first) (h : EpOk ks ss E) (he : r = E.1 ∨ r = E.2.1) (n : Nat) : wrt (E.2.2.hd.getD n (z2, [])).1 r = ((runM ks r.1 r.2 ss).hd.getD n (0, [])).1 := by
  have te := Te.run (r := r) (Q := ⟨List.replicate ks.length 0, 0, []⟩) h.1 he ok nf (InF.zero h.1 ks) h.2 ⟨by simp [q0, wrt_z2], by simp [q0, wrt_z2], rfl⟩
  have e := congrArg (fun l => l[n]?) te.hd
  simp only [List.getElem?_map] at e
  rw [List.getD_eq_getElem?_getD, List.getD_eq_getElem?_getD]
  unfold runM
  cases a : E.2.2.hd[n]? with
  | none =>
    rw [a] at e
    cases b : (List.foldl (run1 ks r.1 r.2) ⟨List.replicate ks.length 0, 0, []⟩ ss).hd[n]? with
    | none => simp [wrt_z2]
    | some y => rw [b] at e; cases e
  | some x =>
    rw [a] at e
    cases b : (List.foldl (run1 ks r.1 r.2) ⟨List.replicate ks.length 0, 0, []⟩ ss).hd[n]? with
    | none => rw [b] at e; cases e
    | some y =>
      rw [b] at e
      exact (Option.some.inj e).symm
theorem no_jump {E : Ep} {rs : List (Fm × Ep)} (c : Chp ks ss E rs) (ok : ∀ s ∈ ss, s.ok ks.length) (nf : ∀ s ∈ ss, s ≠ .first) {n j : Nat} (hj : j < rs.length) : jB ks ss E rs n j = false := by
  obtain ⟨a, b⟩ := chp_at c j hj
  have h1 := te_at ok nf (chp_ok c j (by omega)) (.inr a) n
  have h2 := te_at ok nf (chp_ok c (j + 1) (by omega)) (.inl b) n
  unfold jB fAt vAt
  rw [h1, h2]
  simp
end
end G

-- GYc
set_option maxRecDepth 100000
set_option maxHeartbeats 2000000
/-! Kinks as data. -/
namespace G
open PySem
@[reducible] def natV3 : Nat → Vl := fun k => .dat (.int (1 + (k : Int) * 2))
theorem rngM2_one {n : Nat} (h : n ≤ 10000000) : rngM2 1 ((2 * n + 1 : Nat) : Int) = ret ((List.range n).map natV3) := by
  unfold rngM2 rngV2
  rw [if_pos (by omega), show ((((2 * n + 1 : Nat) : Int) - 1 + 1) / 2).toNat = n by omega]
theorem okdFs (l : List Fm) : Okd 3 (.list (l.map fD)) := Okd.list fun x hx => by
  obtain ⟨p, _, rfl⟩ := List.mem_map.mp hx
  exact okdF p
theorem gInF (r : Fm) (l : List Fm) : gIn (fD r) (.list (l.map fD)) = some (decide (r ∈ l)) := by
  rw [gIn, if_neg (by rintro ⟨h, _⟩; cases h), if_pos ⟨(okdF (n := 1) r).shaped (by omega), (okdFs l).shaped (by omega)⟩, List.any_map]
  congr 1
  rw [List.any_eq]
  refine decide_eq_decide.mpr ⟨?_, ?_⟩
  · rintro ⟨x, hx, e⟩
    simp only [Function.comp, eqvF, decide_eq_true_eq] at e
    rw [← e]
    exact hx
  · intro h
    exact ⟨r, h, by simp [eqvF]⟩
theorem gInFg (r : Fm) (l : List Fm) : gIn (.tuple [.int r.1, .int r.2]) (.list (l.map fD)) = some (decide (r ∈ l)) := gInF r l
theorem gEqFs (l : List Fm) : gEq (.list (l.map fD)) (.list (l.map fD)) = some true := gEq_self (n := 3) (okdFs l) (by omega)
/-- some of these words stand in the list -/
theorem gInW (x : Str) (l : List Str) : gIn (.str x) (.list (l.map PyData.str)) = some (l.any fun y => PyData.eqv (.str y) (.str x)) := by
  have h1 : (l.map PyData.str).all flatD = true := by
    rw [List.all_map, List.all_eq_true]
    intro x _
    rfl
  rw [gIn, if_pos ⟨rfl, h1⟩, List.any_map]
  rfl
theorem jB_false {ks : List Bool} {ss : List St} {E : Ep} {rs : List (Fm × Ep)} {n j : Nat} : jB ks ss E rs n j = false ↔ wrt (fAt E rs n j) (rtAt rs j) = vAt ks ss rs n j ∧ wrt (fAt E rs n (j + 1)) (rtAt rs j) = vAt ks ss rs n j := by
  unfold jB
  simp
end G
namespace G
open PySem
def wD (b : Bool) : D := if b = true then .str "jump" else .str "bend"
theorem wD_flat (l : List Bool) : (l.map wD).all flatD = true := by
  rw [List.all_map, List.all_eq_true]
  intro x _
  cases x <;> rfl
theorem gInBend (l : List Bool) : gIn (.str "bend") (.list (l.map wD)) = some (l.any fun b => !b) := by
  rw [gIn, if_pos ⟨rfl, wD_flat l⟩, List.any_map]
  congr 2
  funext b
  cases b <;> decide +kernel
theorem gInJump (l : List Bool) : gIn (.str "jump") (.list (l.map wD)) = some (l.any fun b => b) := by
  rw [gIn, if_pos ⟨rfl, wD_flat l⟩, List.any_map]
  congr 2
  funext b
  cases b <;> decide +kernel
theorem gEqL2 (a b v : Int) : gEq (.list [.int a, .int b]) (.list [.int v, .int v]) = some (decide (a = v) && decide (b = v)) := by
  have ok : ∀ x y : Int, Okd 2 (.list [.int x, .int y]) := fun x y => Okd.list fun z hz => by
    simp only [List.mem_cons, List.not_mem_nil, or_false] at hz
    rcases hz with rfl | rfl <;> exact .int _
  rw [gEq, if_pos ⟨(ok a b).shaped (by omega), (ok v v).shaped (by omega)⟩, PyData.eqv, PyData.eqvAll, PyData.eqvAll, PyData.eqvAll, PyData.eqv, PyData.eqv]
  by_cases h : a = v <;> by_cases h' : b = v <;> simp [h, h']
/-- the kinds of kinks of the first rings -/
def wds (jb bb : Nat → Bool) (k : Nat) : List Bool := (List.range k).filterMap fun n => if jb n = true then some true else if bb n = true then some false else none
theorem wds_succ {jb bb : Nat → Bool} {k : Nat} : wds jb bb (k + 1) = wds jb bb k ++ (if jb k = true then [true] else if bb k = true then [false] else []) := by
  unfold wds
  rw [List.range_succ, List.filterMap_append]
  congr 1
  by_cases h : jb k = true
  · simp [h]
  · by_cases h' : bb k = true <;> simp [h, h']
theorem wds_len {jb bb : Nat → Bool} {k : Nat} : (wds jb bb k).length ≤ k := by
  unfold wds
  exact Nat.le_trans (List.length_filterMap_le ..) (by simp)
theorem wds_jump {jb bb : Nat → Bool} {k : Nat} : ((wds jb bb k).any fun b => b) = (List.range k).any jb := by
  induction k with
  | zero => rfl
  | succ k ih =>
    rw [wds_succ, List.any_append, ih, List.range_succ, List.any_append]
    congr 1
    cases hj : jb k <;> cases hb : bb k <;> simp [hj]
theorem wds_bend {jb bb : Nat → Bool} {k : Nat} (h : ∀ n, bb n = true → jb n = false) : ((wds jb bb k).any fun b => !b) = (List.range k).any bb := by
  induction k with
  | zero => rfl
  | succ k ih =>
    rw [wds_succ, List.any_append, ih, List.range_succ, List.any_append]
    congr 1
    have := h k
    cases hj : jb k <;> cases hb : bb k <;> simp [hj, hb] at this ⊢
end G

-- TA05
set_option maxRecDepth 100000
set_option maxHeartbeats 4000000
namespace G05
open PySem G
theorem am_len {ks : List Bool} {ss : List St} {E : Ep} {rs : List (Fm × Ep)} {n : Nat} : (((toPc ks ss E rs).map (amR n)).map amD).length = 2 * rs.length + 1 := by rw [List.length_map, List.length_map, toPc_len]
theorem am_ev {ks : List Bool} {ss : List St} {E : Ep} {rs : List (Fm × Ep)} {n j : Nat} (h : j ≤ rs.length) : gIx (.list (((toPc ks ss E rs).map (amR n)).map amD)) (.int ((2 * j : Nat) : Int)) = some (amD (.ev (epAt E rs j).1 (epAt E rs j).2.1 (fAt E rs n j))) :=
  gIxLM (by rw [List.getElem?_map, toPc_ev h]; rfl)
theorem am_one {ks : List Bool} {ss : List St} {E : Ep} {rs : List (Fm × Ep)} {n j : Nat} (h : j < rs.length) : gIx (.list (((toPc ks ss E rs).map (amR n)).map amD)) (.int ((2 * j + 1 : Nat) : Int)) = some (amD (.one (rtAt rs j) (vAt ks ss rs n j))) :=
  gIxLM (by rw [List.getElem?_map, toPc_one h]; rfl)
theorem t_jumpsIn (d : Nat) (ks : List Bool) (ss : List St) (E : Ep) (rs : List (Fm × Ep)) (n : Nat) (hl : rs.length ≤ 100000) (hs : ∀ j, j ≤ rs.length → Sm 40 (fAt E rs n j)) : Gm T (d+2) 32 [.dat (.list (((toPc ks ss E rs).map (amR n)).map amD))] = ret (.new ((atR rs (jB ks ss E rs n) rs.length).map fD)) := by
  refine eq_of_wp fun S => ?_
  have hT : T[32]? = some d32 := rfl
  rw [gm_open hT]
  simp only [runDf, d32, startE, List.length_cons, List.length_nil, Nat.zero_add, if_true, reduceIte, Nat.reduceAdd, List.map_cons, List.map_nil, List.cons_append, List.nil_append, Nat.reduceSub, List.replicate_succ, List.replicate_zero, wp_bnd]
  have hlen := am_len (ks := ks) (ss := ss) (E := E) (rs := rs) (n := n)
  have ge := fun j => am_ev (ks := ks) (ss := ss) (E := E) (rs := rs) (n := n) (j := j)
  have go := fun j => am_one (ks := ks) (ss := ss) (E := E) (rs := rs) (n := n) (j := j)
  generalize ((toPc ks ss E rs).map (amR n)).map amD = L at hlen ge go ⊢
  rw [wps_cons]
  simp -implicitDefEqProofs [wps_nil, seqF_nx, seqF_ret, seqF_brk, seqF_cont, wp_bnd, wp_ret, evS, evX, evRs, ev, evs, evV, evB, evC, evO, evI_seq, evI_zip, evI_rng1, evI_rng2, evI_rng3, evI_fns, endV, bnd_ret, getV, getF, getL, frz, thaw, isR, lft, noEx_ret, RV.toD, RV.toV, isTy, toB, toI, toS, cop, bop, gOrd, gAdd, gSub, itemsOf, wipeE, bindT, tst, Function.comp_apply, gIx0, gIx1, gIx2, puts, putRV, isL, chg_eq, sE_tt, sE_tw, sE_tf, sE_tr, sE_wt, sE_ww, sE_wf, sE_wr, sE_ft, sE_fw, sE_ff, sE_fr, sE_rt, sE_rw, sE_rf, sE_rr]
  rw [wps_cons]
  have hr := rngM2_one (n := rs.length) (by omega)
  simp -implicitDefEqProofs [wps_nil, seqF_nx, seqF_ret, seqF_brk, seqF_cont, wp_bnd, wp_ret, evS, evX, evRs, ev, evs, evV, evB, evC, evO, evI_seq, evI_zip, evI_rng1, evI_rng2, evI_rng3, evI_fns, endV, bnd_ret, getV, getF, getL, frz, thaw, isR, lft, noEx_ret, RV.toD, RV.toV, isTy, toB, toI, toS, cop, bop, gOrd, gAdd, gSub, itemsOf, wipeE, bindT, tst, Function.comp_apply, gIx0, gIx1, gIx2, puts, putRV, isL, chg_eq, sE_tt, sE_tw, sE_tf, sE_tr, sE_wt, sE_ww, sE_wf, sE_wr, sE_ft, sE_fw, sE_ff, sE_fr, sE_rt, sE_rw, sE_rf, sE_rr, gBf]
  rw [hlen, hr]
  simp -implicitDefEqProofs [wps_nil, seqF_nx, seqF_ret, seqF_brk, seqF_cont, wp_bnd, wp_ret, evS, evX, evRs, ev, evs, evV, evB, evC, evO, evI_seq, evI_zip, evI_rng1, evI_rng2, evI_rng3, evI_fns, endV, bnd_ret, getV, getF, getL, frz, thaw, isR, lft, noEx_ret, RV.toD, RV.toV, isTy, toB, toI, toS, cop, bop, gOrd, gAdd, gSub, itemsOf, wipeE, bindT, tst, Function.comp_apply, gIx0, gIx1, gIx2, puts, putRV, isL, chg_eq, sE_tt, sE_tw, sE_tf, sE_tr, sE_wt, sE_ww, sE_wf, sE_wr, sE_ft, sE_fw, sE_ff, sE_fr, sE_rt, sE_rw, sE_rf, sE_rr]
  refine wp_mono (forV_wp (e := natV3) (P := fun pre env S' => S' = S ∧ ∃ s2 s3 s4, env = [.vl (.dat (.list L)), .own (.lst ((atR rs (jB ks ss E rs n) pre.length).map fD)), s2, s3, s4]) ?_ ⟨rfl, .un, .un, .un, by simp [atR]⟩) ?_
  · rintro pre k post env S' hx ⟨rfl, s2, s3, s4, rfl⟩
    obtain ⟨rfl, hk⟩ := range_split hx
    refine ⟨_, rfl, ?_⟩
    rw [List.length_append, List.length_singleton]
    generalize pre.length = k at hk ⊢
    have g1 := go k hk
    have g0 := ge k (by omega)
    have g2 := ge (k + 1) (by omega)
    have v0 := t_valueAt d (fAt E rs n k) (rtAt rs k) (hs k (by omega))
    have v2 := t_valueAt d (fAt E rs n (k + 1)) (rtAt rs k) (hs (k + 1) (by omega))
    have hb := atR_succ (rs := rs) (b := jB ks ss E rs n) (k := k)
    have hal : ((atR rs (jB ks ss E rs n) k).map fD).length < 16777216 := by
      have := atR_len (rs := rs) (b := jB ks ss E rs n) (k := k)
      rw [List.length_map]
      omega
    rw [hb]
    generalize atR rs (jB ks ss E rs n) k = A at hal ⊢
    have hj : jB ks ss E rs n k = !(decide (wrt (fAt E rs n k) (rtAt rs k) = vAt ks ss rs n k) && decide (wrt (fAt E rs n (k + 1)) (rtAt rs k) = vAt ks ss rs n k)) := rfl
    rw [hj]
    clear hj hb
    have e1 : ((2 * k + 1 : Nat) : Int) = 1 + (k : Int) * 2 := by omega
    have e0 : ((2 * k : Nat) : Int) = 1 + (k : Int) * 2 - 1 := by omega
    have e2 : ((2 * (k + 1) : Nat) : Int) = 1 + (k : Int) * 2 + 1 := by omega
    rw [e1] at g1
    rw [e0] at g0
    rw [e2] at g2
    show Wp (evSs _ _ ([_, _, _, _, _].set 2 (.vl (.dat (.int (1 + (k : Int) * 2)))))) _ _
    generalize 1 + (k : Int) * 2 = a at g0 g1 g2 ⊢
    generalize fAt E rs n k = f0 at g0 v0 ⊢
    generalize fAt E rs n (k + 1) = f2 at g2 v2 ⊢
    generalize rtAt rs k = r at g1 v0 v2 ⊢
    generalize vAt ks ss rs n k = v at g1 ⊢
    rw [List.length_map] at hal
    rw [wps_cons]
    simp -implicitDefEqProofs [wps_nil, seqF_nx, seqF_ret, seqF_brk, seqF_cont, wp_bnd, wp_ret, evS, evX, evRs, ev, evs, evV, evB, evC, evO, evI_seq, evI_zip, evI_rng1, evI_rng2, evI_rng3, evI_fns, endV, bnd_ret, getV, getF, getL, frz, thaw, isR, lft, noEx_ret, RV.toD, RV.toV, isTy, toB, toI, toS, cop, bop, gOrd, gAdd, gSub, itemsOf, wipeE, bindT, tst, Function.comp_apply, gIx0, gIx1, gIx2, puts, putRV, isL, chg_eq, sE_tt, sE_tw, sE_tf, sE_tr, sE_wt, sE_ww, sE_wf, sE_wr, sE_ft, sE_fw, sE_ff, sE_fr, sE_rt, sE_rw, sE_rf, sE_rr, g1]
    rw [wps_cons]
    by_cases c0 : wrt f0 r = v
    · by_cases c2 : wrt f2 r = v
      · simp -implicitDefEqProofs [wps_cons, wps_nil, seqF_nx, seqF_ret, seqF_brk, seqF_cont, wp_bnd, wp_ret, evS, evX, evRs, ev, evs, evV, evB, evC, evO, evI_seq, evI_zip, evI_rng1, evI_rng2, evI_rng3, evI_fns, endV, bnd_ret, getV, getF, getL, frz, thaw, isR, lft, noEx_ret, RV.toD, RV.toV, isTy, toB, toI, toS, cop, bop, gOrd, gAdd, gSub, itemsOf, wipeE, bindT, tst, Function.comp_apply, gIx0, gIx1, gIx2, puts, putRV, isL, chg_eq, sE_tt, sE_tw, sE_tf, sE_tr, sE_wt, sE_ww, sE_wf, sE_wr, sE_ft, sE_fw, sE_ff, sE_fr, sE_rt, sE_rw, sE_rf, sE_rr, g0, g2, v0, v2, gEqInt, c0, c2]
      · simp -implicitDefEqProofs [wps_cons, wps_nil, seqF_nx, seqF_ret, seqF_brk, seqF_cont, wp_bnd, wp_ret, evS, evX, evRs, ev, evs, evV, evB, evC, evO, evI_seq, evI_zip, evI_rng1, evI_rng2, evI_rng3, evI_fns, endV, bnd_ret, getV, getF, getL, frz, thaw, isR, lft, noEx_ret, RV.toD, RV.toV, isTy, toB, toI, toS, cop, bop, gOrd, gAdd, gSub, itemsOf, wipeE, bindT, tst, Function.comp_apply, gIx0, gIx1, gIx2, puts, putRV, isL, chg_eq, sE_tt, sE_tw, sE_tf, sE_tr, sE_wt, sE_ww, sE_wf, sE_wr, sE_ft, sE_fw, sE_ff, sE_fr, sE_rt, sE_rw, sE_rf, sE_rr, g0, g2, v0, v2, gEqInt, c0, c2, noL, noR, noLs, sizeLine, hal]
    · simp -implicitDefEqProofs [wps_cons, wps_nil, seqF_nx, seqF_ret, seqF_brk, seqF_cont, wp_bnd, wp_ret, evS, evX, evRs, ev, evs, evV, evB, evC, evO, evI_seq, evI_zip, evI_rng1, evI_rng2, evI_rng3, evI_fns, endV, bnd_ret, getV, getF, getL, frz, thaw, isR, lft, noEx_ret, RV.toD, RV.toV, isTy, toB, toI, toS, cop, bop, gOrd, gAdd, gSub, itemsOf, wipeE, bindT, tst, Function.comp_apply, gIx0, gIx1, gIx2, puts, putRV, isL, chg_eq, sE_tt, sE_tw, sE_tf, sE_tr, sE_wt, sE_ww, sE_wf, sE_wr, sE_ft, sE_fw, sE_ff, sE_fr, sE_rt, sE_rw, sE_rf, sE_rr, g0, v0, gEqInt, c0, noL, noR, noLs, sizeLine, hal]
  · rintro ⟨f, env⟩ S' ⟨hf, rfl, s2, s3, s4, rfl⟩
    cases hf
    rw [seqF_nx, wps_cons]
    simp -implicitDefEqProofs [wps_nil, seqF_nx, seqF_ret, seqF_brk, seqF_cont, wp_bnd, wp_ret, evS, evX, evRs, ev, evs, evV, evB, evC, evO, evI_seq, evI_zip, evI_rng1, evI_rng2, evI_rng3, evI_fns, endV, bnd_ret, getV, getF, getL, frz, thaw, isR, lft, noEx_ret, RV.toD, RV.toV, isTy, toB, toI, toS, cop, bop, gOrd, gAdd, gSub, itemsOf, wipeE, bindT, tst, Function.comp_apply, gIx0, gIx1, gIx2, puts, putRV, isL, chg_eq, sE_tt, sE_tw, sE_tf, sE_tr, sE_wt, sE_ww, sE_wf, sE_wr, sE_ft, sE_fw, sE_ff, sE_fr, sE_rt, sE_rw, sE_rf, sE_rr, getO]
end G05

-- MM
namespace G
def unRp : List Pc → List (Fm × Ep)
  | .one r _ :: .ev lo hi q :: ps => (r, (lo, hi, q)) :: unRp ps
  | _ => []
def unPp : List Pc → Ep × List (Fm × Ep)
  | .ev lo hi q :: ps => ((lo, hi, q), unRp ps)
  | _ => ((z2, z2, ⟨[], z2, []⟩), [])
theorem unRp_to {ks : List Bool} {ss : List St} : ∀ {rs : List (Fm × Ep)}, unRp (rs.flatMap fun p => [Pc.one p.1 (runM ks p.1.1 p.1.2 ss), .ev p.2.1 p.2.2.1 p.2.2.2]) = rs
  | [] => rfl
  | p :: rs => by
    rw [List.flatMap_cons]
    exact congrArg (fun x => (p.1, (p.2.1, p.2.2.1, p.2.2.2)) :: x) (unRp_to (rs := rs))
theorem unPp_to {ks : List Bool} {ss : List St} {E : Ep} {rs : List (Fm × Ep)} : unPp (toPc ks ss E rs) = (E, rs) := by
  show ((E.1, E.2.1, E.2.2), unRp _) = _
  rw [unRp_to]
def kE (ks : List Bool) (ss : List St) : Ep := (unPp (coursM ks ss)).1
def kR (ks : List Bool) (ss : List St) : List (Fm × Ep) := (unPp (coursM ks ss)).2
def anyR (ss : List St) (b : Nat → Nat → Bool) (j : Nat) : Bool := (List.range (ss.countP isRg)).any fun n => b n j
def bendM (ks : List Bool) (ss : List St) : List Fm := atR (kR ks ss) (anyR ss (bB ks ss (kE ks ss) (kR ks ss))) (kR ks ss).length
def jumpM (ks : List Bool) (ss : List St) : List Fm := atR (kR ks ss) (anyR ss (jB ks ss (kE ks ss) (kR ks ss))) (kR ks ss).length
structure Kk (ks : List Bool) (ss : List St) (E : Ep) (rs : List (Fm × Ep)) : Prop where
  e : coursM ks ss = toPc ks ss E rs
  c : Chp ks ss E rs
  l : rs.length ≤ 10000
  lc : (coursM ks ss).length ≤ 100000
  sm : ∀ n j, j ≤ rs.length → Sm 40 (fAt E rs n j)
  kE : kE ks ss = E
  kR : kR ks ss = rs
theorem kk_of {ks : List Bool} {ss : List St} (h3 : ks.length ≤ 3) (hn : ss.length ≤ 12) (hs : ∀ s ∈ ss, s.ok ks.length) : ∃ E rs, Kk ks ss E rs := by
  obtain ⟨E, rs, e, c⟩ := pc_cours h3 hs
  have hok := coursM_ok h3 hs
  have hpow : (2 : Nat) ^ (ss.length + 1) ≤ 2 ^ 13 := Nat.pow_le_pow_right (by omega) (by omega)
  have hpow2 : (2 : Nat) ^ 13 = 8192 := by decide
  have hl := hok.len
  have hlen := congrArg List.length e
  rw [toPc_len] at hlen
  refine ⟨E, rs, e, c, by omega, by omega, fun n j hj => ?_, by unfold G.kE; rw [e, unPp_to], by unfold G.kR; rw [e, unPp_to]⟩
  have h1 := toPc_ev (ks := ks) (ss := ss) (E := E) hj
  rw [← e] at h1
  obtain ⟨_, _, sm, _⟩ := hok.all _ (List.mem_of_getElem? h1)
  unfold fAt
  rw [List.getD_eq_getElem?_getD]
  cases hg : (epAt E rs j).2.2.hd[n]? with
  | none => exact .z
  | some p => exact (sm.hd p (List.mem_of_getElem? hg)).mono (by omega)
/-- the ratios of the pieces, those that stand in a list -/
theorem fm_at {rs : List (Fm × Ep)} {K : List Fm} {b : Nat → Bool} (h : ∀ j, j < rs.length → (rtAt rs j ∈ K ↔ b j = true)) : ∀ k, k ≤ rs.length → (rs.take k).filterMap (fun p => if p.1 ∈ K then some p.1 else none) = atR rs b k
  | 0, _ => rfl
  | k + 1, hk => by
    have hp : rs[k]? = some rs[k] := List.getElem?_eq_getElem hk
    rw [List.take_succ, List.filterMap_append, fm_at h k (by omega), atR_succ, hp]
    congr 1
    have e := rtAt_of hp
    have hh := h k hk
    rw [e] at hh ⊢
    by_cases c : rs[k].1 ∈ K
    · rw [if_pos (hh.mp c)]
      simp [c]
    · rw [if_neg (fun z => c (hh.mpr z))]
      simp [c]
def okP (K : List Fm) : Pc → Option Fm
  | .ev _ _ _ => none
  | .one r _ => if r ∈ K then some r else none
theorem fm_pc {ks : List Bool} {ss : List St} {E : Ep} {rs : List (Fm × Ep)} {K : List Fm} : (toPc ks ss E rs).filterMap (okP K) = rs.filterMap (fun p => if p.1 ∈ K then some p.1 else none) := by
  unfold toPc
  rw [List.filterMap_cons]
  show (rs.flatMap _).filterMap _ = _
  induction rs with
  | nil => rfl
  | cons p rs ih =>
    rw [List.flatMap_cons, List.filterMap_append, ih, List.filterMap_cons]
    by_cases c : p.1 ∈ K <;> simp [okP, c]
theorem known_mem {ks : List Bool} {ss : List St} {E : Ep} {rs : List (Fm × Ep)} (c : Chp ks ss E rs) {b : Nat → Nat → Bool} {N j : Nat} (hj : j < rs.length) : rtAt rs j ∈ ((List.range N).flatMap fun n => atR rs (b n) rs.length) ↔ ((List.range N).any fun n => b n j) = true := by
  rw [List.mem_flatMap, List.any_eq_true]
  constructor
  · rintro ⟨n, hn, h⟩
    exact ⟨n, hn, (atR_mem c hj).mp h⟩
  · rintro ⟨n, hn, h⟩
    exact ⟨n, hn, (atR_mem c hj).mpr h⟩
theorem toPc_ne {ks : List Bool} {ss : List St} {E : Ep} {rs : List (Fm × Ep)} (c : Chp ks ss E rs) {lo hi : Fm} {q : RunF} (h : Pc.ev lo hi q ∈ toPc ks ss E rs) : lo ≠ hi := by
  have key : ∀ {rs : List (Fm × Ep)} {E : Ep}, Chp ks ss E rs → ∀ P ∈ toPc ks ss E rs, ∀ lo hi q, P = .ev lo hi q → Iv lo hi := by
    intro rs
    induction rs with
    | nil =>
      intro E c P hP lo hi q e
      subst e
      simp [toPc] at hP
      obtain ⟨rfl, rfl, _⟩ := hP
      exact c.1
    | cons p rs ih =>
      intro E c P hP lo hi q e
      subst e
      simp only [toPc, List.flatMap_cons, List.mem_cons, List.mem_append, List.not_mem_nil, or_false] at hP
      rcases hP with hP | (hP | hP) | hP
      · cases hP; exact c.1.1
      · cases hP
      · exact ih c.2.2.2 (.ev lo hi q) (by rw [hP]; exact List.mem_cons_self ..) lo hi q rfl
      · exact ih c.2.2.2 (.ev lo hi q) (List.mem_cons_of_mem _ hP) lo hi q rfl
  intro e
  have := (key c _ h lo hi q rfl).d
  rw [e, lss_irrefl] at this
  cases this
theorem jumpM_calm {ks : List Bool} {ss : List St} (h3 : ks.length ≤ 3) (hn : ss.length ≤ 12) (hs : ∀ s ∈ ss, s.ok ks.length) (nf : ∀ s ∈ ss, s ≠ .first) : jumpM ks ss = [] := by
  obtain ⟨E, rs, k⟩ := kk_of h3 hn hs
  unfold jumpM
  rw [k.kE, k.kR]
  unfold atR
  rw [List.map_eq_nil_iff, List.filter_eq_nil_iff]
  intro j hj
  rw [List.mem_range] at hj
  unfold anyR
  rw [Bool.not_eq_true, List.any_eq_false]
  intro n _
  rw [no_jump k.c hs nf hj]
  decide
end G

-- TB05
set_option maxRecDepth 100000
set_option maxHeartbeats 4000000
namespace G05
open PySem G
theorem t_bendsIn (d : Nat) (ks : List Bool) (ss : List St) (E : Ep) (rs : List (Fm × Ep)) (n : Nat) (c : Chp ks ss E rs) (hl : rs.length ≤ 100000) (hs : ∀ j, j ≤ rs.length → Sm 40 (fAt E rs n j)) : Gm T (d+3) 33 [.dat (.list (((toPc ks ss E rs).map (amR n)).map amD))] = ret (.new ((atR rs (bB ks ss E rs n) rs.length).map fD)) := by
  refine eq_of_wp fun S => ?_
  have hT : T[33]? = some d33 := rfl
  rw [gm_open hT]
  simp only [runDf, d33, startE, List.length_cons, List.length_nil, Nat.zero_add, if_true, reduceIte, Nat.reduceAdd, List.map_cons, List.map_nil, List.cons_append, List.nil_append, Nat.reduceSub, List.replicate_succ, List.replicate_zero, wp_bnd]
  have hji := t_jumpsIn d ks ss E rs n hl hs
  have hlen := am_len (ks := ks) (ss := ss) (E := E) (rs := rs) (n := n)
  have ge := fun j => am_ev (ks := ks) (ss := ss) (E := E) (rs := rs) (n := n) (j := j)
  have go := fun j => am_one (ks := ks) (ss := ss) (E := E) (rs := rs) (n := n) (j := j)
  have hm := fun j => atR_mem c (b := jB ks ss E rs n) (j := j)
  generalize ((toPc ks ss E rs).map (amR n)).map amD = L at hlen ge go hji ⊢
  generalize atR rs (jB ks ss E rs n) rs.length = J at hji hm
  rw [wps_cons]
  simp -implicitDefEqProofs [wps_nil, seqF_nx, seqF_ret, seqF_brk, seqF_cont, wp_bnd, wp_ret, evS, evX, evRs, ev, evs, evV, evB, evC, evO, evI_seq, evI_zip, evI_rng1, evI_rng2, evI_rng3, evI_fns, endV, bnd_ret, getV, getF, getL, frz, thaw, isR, lft, noEx_ret, RV.toD, RV.toV, isTy, toB, toI, toS, cop, bop, gOrd, gAdd, gSub, itemsOf, wipeE, bindT, tst, Function.comp_apply, gIx0, gIx1, gIx2, puts, putRV, isL, chg_eq, sE_tt, sE_tw, sE_tf, sE_tr, sE_wt, sE_ww, sE_wf, sE_wr, sE_ft, sE_fw, sE_ff, sE_fr, sE_rt, sE_rw, sE_rf, sE_rr, hji]
  rw [wps_cons]
  have hr := rngM2_one (n := rs.length) (by omega)
  simp -implicitDefEqProofs [wps_nil, seqF_nx, seqF_ret, seqF_brk, seqF_cont, wp_bnd, wp_ret, evS, evX, evRs, ev, evs, evV, evB, evC, evO, evI_seq, evI_zip, evI_rng1, evI_rng2, evI_rng3, evI_fns, endV, bnd_ret, getV, getF, getL, frz, thaw, isR, lft, noEx_ret, RV.toD, RV.toV, isTy, toB, toI, toS, cop, bop, gOrd, gAdd, gSub, itemsOf, wipeE, bindT, tst, Function.comp_apply, gIx0, gIx1, gIx2, puts, putRV, isL, chg_eq, sE_tt, sE_tw, sE_tf, sE_tr, sE_wt, sE_ww, sE_wf, sE_wr, sE_ft, sE_fw, sE_ff, sE_fr, sE_rt, sE_rw, sE_rf, sE_rr, gBf]
  rw [hlen, hr]
  simp -implicitDefEqProofs [wps_nil, seqF_nx, seqF_ret, seqF_brk, seqF_cont, wp_bnd, wp_ret, evS, evX, evRs, ev, evs, evV, evB, evC, evO, evI_seq, evI_zip, evI_rng1, evI_rng2, evI_rng3, evI_fns, endV, bnd_ret, getV, getF, getL, frz, thaw, isR, lft, noEx_ret, RV.toD, RV.toV, isTy, toB, toI, toS, cop, bop, gOrd, gAdd, gSub, itemsOf, wipeE, bindT, tst, Function.comp_apply, gIx0, gIx1, gIx2, puts, putRV, isL, chg_eq, sE_tt, sE_tw, sE_tf, sE_tr, sE_wt, sE_ww, sE_wf, sE_wr, sE_ft, sE_fw, sE_ff, sE_fr, sE_rt, sE_rw, sE_rf, sE_rr]
  refine wp_mono (forV_wp (e := natV3) (P := fun pre env S' => S' = S ∧ ∃ s1, env = [.vl (.dat (.list L)), s1, .vl (.dat (.list (J.map fD))), .own (.lst ((atR rs (bB ks ss E rs n) pre.length).map fD))]) ?_ ⟨rfl, .un, by simp [atR]⟩) ?_
  · rintro pre k post env S' hx ⟨rfl, s1, rfl⟩
    obtain ⟨rfl, hk⟩ := range_split hx
    refine ⟨_, rfl, ?_⟩
    rw [List.length_append, List.length_singleton]
    generalize pre.length = k at hk ⊢
    have g1 := go k hk
    have g0 := ge k (by omega)
    have g2 := ge (k + 1) (by omega)
    have hmk := hm k hk
    have hb := atR_succ (rs := rs) (b := bB ks ss E rs n) (k := k)
    have hal : ((atR rs (bB ks ss E rs n) k).map fD).length < 16777216 := by
      have := atR_len (rs := rs) (b := bB ks ss E rs n) (k := k)
      rw [List.length_map]
      omega
    rw [hb]
    generalize atR rs (bB ks ss E rs n) k = A at hal ⊢
    have hj : bB ks ss E rs n k = (decide (fAt E rs n k ≠ fAt E rs n (k + 1)) && !jB ks ss E rs n k) := rfl
    rw [hj]
    clear hj hb
    have e1 : ((2 * k + 1 : Nat) : Int) = 1 + (k : Int) * 2 := by omega
    have e0 : ((2 * k : Nat) : Int) = 1 + (k : Int) * 2 - 1 := by omega
    have e2 : ((2 * (k + 1) : Nat) : Int) = 1 + (k : Int) * 2 + 1 := by omega
    rw [e1] at g1
    rw [e0] at g0
    rw [e2] at g2
    show Wp (evSs _ _ ([_, _, _, _].set 1 (.vl (.dat (.int (1 + (k : Int) * 2)))))) _ _
    generalize 1 + (k : Int) * 2 = a at g0 g1 g2 ⊢
    generalize fAt E rs n k = f0 at g0 ⊢
    generalize fAt E rs n (k + 1) = f2 at g2 ⊢
    generalize rtAt rs k = r at g1 hmk ⊢
    generalize jB ks ss E rs n k = bb at hmk ⊢
    rw [List.length_map] at hal
    have gi := gInFg r J
    rw [wps_cons]
    by_cases c0 : f0 = f2
    · simp -implicitDefEqProofs [wps_cons, wps_nil, seqF_nx, seqF_ret, seqF_brk, seqF_cont, wp_bnd, wp_ret, evS, evX, evRs, ev, evs, evV, evB, evC, evO, evI_seq, evI_zip, evI_rng1, evI_rng2, evI_rng3, evI_fns, endV, bnd_ret, getV, getF, getL, frz, thaw, isR, lft, noEx_ret, RV.toD, RV.toV, isTy, toB, toI, toS, cop, bop, gOrd, gAdd, gSub, itemsOf, wipeE, bindT, tst, Function.comp_apply, gIx0, gIx1, gIx2, puts, putRV, isL, chg_eq, sE_tt, sE_tw, sE_tf, sE_tr, sE_wt, sE_ww, sE_wf, sE_wr, sE_ft, sE_fw, sE_ff, sE_fr, sE_rt, sE_rw, sE_rf, sE_rr, g0, g2, gEqFg, c0]
    · cases bb with
      | true =>
        have hmem : r ∈ J := hmk.mpr rfl
        simp -implicitDefEqProofs [wps_cons, wps_nil, seqF_nx, seqF_ret, seqF_brk, seqF_cont, wp_bnd, wp_ret, evS, evX, evRs, ev, evs, evV, evB, evC, evO, evI_seq, evI_zip, evI_rng1, evI_rng2, evI_rng3, evI_fns, endV, bnd_ret, getV, getF, getL, frz, thaw, isR, lft, noEx_ret, RV.toD, RV.toV, isTy, toB, toI, toS, cop, bop, gOrd, gAdd, gSub, itemsOf, wipeE, bindT, tst, Function.comp_apply, gIx0, gIx1, gIx2, puts, putRV, isL, chg_eq, sE_tt, sE_tw, sE_tf, sE_tr, sE_wt, sE_ww, sE_wf, sE_wr, sE_ft, sE_fw, sE_ff, sE_fr, sE_rt, sE_rw, sE_rf, sE_rr, g0, g1, g2, gEqFg, c0, gi, hmem]
      | false =>
        have hmem : ¬ r ∈ J := fun z => by have := hmk.mp z; cases this
        simp -implicitDefEqProofs [wps_cons, wps_nil, seqF_nx, seqF_ret, seqF_brk, seqF_cont, wp_bnd, wp_ret, evS, evX, evRs, ev, evs, evV, evB, evC, evO, evI_seq, evI_zip, evI_rng1, evI_rng2, evI_rng3, evI_fns, endV, bnd_ret, getV, getF, getL, frz, thaw, isR, lft, noEx_ret, RV.toD, RV.toV, isTy, toB, toI, toS, cop, bop, gOrd, gAdd, gSub, itemsOf, wipeE, bindT, tst, Function.comp_apply, gIx0, gIx1, gIx2, puts, putRV, isL, chg_eq, sE_tt, sE_tw, sE_tf, sE_tr, sE_wt, sE_ww, sE_wf, sE_wr, sE_ft, sE_fw, sE_ff, sE_fr, sE_rt, sE_rw, sE_rf, sE_rr, g0, g1, g2, gEqFg, c0, gi, hmem, noL, noR, noLs, sizeLine, hal]
  · rintro ⟨f, env⟩ S' ⟨hf, rfl, s1, rfl⟩
    cases hf
    rw [seqF_nx, wps_cons]
    simp -implicitDefEqProofs [wps_nil, seqF_nx, seqF_ret, seqF_brk, seqF_cont, wp_bnd, wp_ret, evS, evX, evRs, ev, evs, evV, evB, evC, evO, evI_seq, evI_zip, evI_rng1, evI_rng2, evI_rng3, evI_fns, endV, bnd_ret, getV, getF, getL, frz, thaw, isR, lft, noEx_ret, RV.toD, RV.toV, isTy, toB, toI, toS, cop, bop, gOrd, gAdd, gSub, itemsOf, wipeE, bindT, tst, Function.comp_apply, gIx0, gIx1, gIx2, puts, putRV, isL, chg_eq, sE_tt, sE_tw, sE_tf, sE_tr, sE_wt, sE_ww, sE_wf, sE_wr, sE_ft, sE_fw, sE_ff, sE_fr, sE_rt, sE_rw, sE_rf, sE_rr, getO]
theorem t_ofSome (d : Nat) (g : Nat) (ks : List Bool) (ss : List St) (h3 : ks.length ≤ 3) (h1 : 1 ≤ ks.length) (hn : ss.length ≤ 12) (hs : ∀ s ∈ ss, s.ok ks.length) (E : Ep) (rs : List (Fm × Ep)) (k : Kk ks ss E rs) (b : Nat → Nat → Bool)
    (hg : ∀ n, Gm T (d+12) g [.dat (.list (((toPc ks ss E rs).map (amR n)).map amD))] = ret (.new ((atR rs (b n) rs.length).map fD))) :
    Gm T (d+13) 34 [.dat (.tuple [kD ks, .tuple (ss.map St.d)]), .fn g] = ret (.new ((atR rs (anyR ss b) rs.length).map fD)) := by
  refine eq_of_wp fun S => ?_
  have hT : T[34]? = some d34 := rfl
  rw [gm_open hT]
  simp only [runDf, d34, startE, List.length_cons, List.length_nil, Nat.zero_add, if_true, reduceIte, Nat.reduceAdd, List.map_cons, List.map_nil, List.cons_append, List.nil_append, Nat.reduceSub, List.replicate_succ, List.replicate_zero, wp_bnd]
  have hr := t_ringsIn (d+11) (kD ks) ss (by omega)
  have hc := t_course (d+1) ks ss h1 h3 hn hs
  have hh := cours_hdL h3 hs
  have ha : ∀ n, n < ss.countP isRg → Gm T (d+12) 31 [.dat (.list ((toPc ks ss E rs).map pcD)), .dat (.int n), .dat (.int 0)] = ret (.new (((toPc ks ss E rs).map (amR n)).map amD)) := fun n hnr =>
    t_amountsR (d+11) _ n (by rw [← k.e]; exact k.lc) (fun P hP => by rw [← k.e] at hP; rw [hh P hP]; exact hnr)
  have hcl : ss.countP isRg ≤ 12 := Nat.le_trans List.countP_le_length hn
  have hkm := fun j => known_mem k.c (b := b) (N := ss.countP isRg) (j := j)
  have hne := fun lo hi q => toPc_ne k.c (lo := lo) (hi := hi) (q := q)
  have hlc := k.lc
  rw [k.e] at hc hlc
  have hrl := k.l
  rw [wps_cons]
  simp -implicitDefEqProofs [wps_nil, seqF_nx, seqF_ret, seqF_brk, seqF_cont, wp_bnd, wp_ret, evS, evX, evRs, ev, evs, evV, evB, evC, evO, evI_seq, evI_zip, evI_rng1, evI_rng2, evI_rng3, evI_fns, endV, bnd_ret, getV, getF, getL, frz, thaw, isR, lft, noEx_ret, RV.toD, RV.toV, isTy, toB, toI, toS, cop, bop, gOrd, gAdd, gSub, itemsOf, wipeE, bindT, tst, Function.comp_apply, gIx0, gIx1, gIx2, puts, putRV, isL, chg_eq, sE_tt, sE_tw, sE_tf, sE_tr, sE_wt, sE_ww, sE_wf, sE_wr, sE_ft, sE_fw, sE_ff, sE_fr, sE_rt, sE_rw, sE_rf, sE_rr, hc]
  rw [wps_cons]
  simp -implicitDefEqProofs [wps_nil, seqF_nx, seqF_ret, seqF_brk, seqF_cont, wp_bnd, wp_ret, evS, evX, evRs, ev, evs, evV, evB, evC, evO, evI_seq, evI_zip, evI_rng1, evI_rng2, evI_rng3, evI_fns, endV, bnd_ret, getV, getF, getL, frz, thaw, isR, lft, noEx_ret, RV.toD, RV.toV, isTy, toB, toI, toS, cop, bop, gOrd, gAdd, gSub, itemsOf, wipeE, bindT, tst, Function.comp_apply, gIx0, gIx1, gIx2, puts, putRV, isL, chg_eq, sE_tt, sE_tw, sE_tf, sE_tr, sE_wt, sE_ww, sE_wf, sE_wr, sE_ft, sE_fw, sE_ff, sE_fr, sE_rt, sE_rw, sE_rf, sE_rr]
  rw [wps_cons]
  simp -implicitDefEqProofs [wps_nil, seqF_nx, seqF_ret, seqF_brk, seqF_cont, wp_bnd, wp_ret, evS, evX, evRs, ev, evs, evV, evB, evC, evO, evI_seq, evI_zip, evI_rng1, evI_rng2, evI_rng3, evI_fns, endV, bnd_ret, getV, getF, getL, frz, thaw, isR, lft, noEx_ret, RV.toD, RV.toV, isTy, toB, toI, toS, cop, bop, gOrd, gAdd, gSub, itemsOf, wipeE, bindT, tst, Function.comp_apply, gIx0, gIx1, gIx2, puts, putRV, isL, chg_eq, sE_tt, sE_tw, sE_tf, sE_tr, sE_wt, sE_ww, sE_wf, sE_wr, sE_ft, sE_fw, sE_ff, sE_fr, sE_rt, sE_rw, sE_rf, sE_rr, hr, rngM_nat (n := ss.countP isRg) (by omega)]
  refine wp_mono (forV_wp (e := natV) (P := fun pre env S' => S' = S ∧ ∃ s4, env = [.vl (.dat (.tuple [kD ks, .tuple (ss.map St.d)])), .vl (.fn g), .vl (.dat (.list ((toPc ks ss E rs).map pcD))), .own (.lst (((List.range pre.length).flatMap fun n => atR rs (b n) rs.length).map fD)), s4, .un]) ?_ ⟨rfl, .un, by simp⟩) ?_
  · rintro pre j post env S' hx ⟨rfl, s4, rfl⟩
    obtain ⟨rfl, hj⟩ := range_split hx
    refine ⟨_, rfl, ?_⟩
    have hbd : ∀ m, ((List.range m).flatMap fun n => atR rs (b n) rs.length).length ≤ m * 10000 := by
      intro m
      induction m with
      | zero => simp
      | succ m ih =>
        rw [List.range_succ, List.flatMap_append, List.length_append]
        have := atR_len (rs := rs) (b := b m) (k := rs.length)
        simp at this ih ⊢
        omega
    have hb1 := hbd pre.length
    have hal := atR_len (rs := rs) (b := b pre.length) (k := rs.length)
    rw [List.length_append, List.length_singleton, List.range_succ, List.flatMap_append, List.flatMap_singleton]
    have ha := ha pre.length hj
    have hg := hg pre.length
    generalize pre.length = j at hj ha hg hal hb1 ⊢
    generalize ((List.range j).flatMap fun n => atR rs (b n) rs.length) = K at hb1 ⊢
    generalize atR rs (b j) rs.length = A at hal hg ⊢
    have hsz : K.length + A.length ≤ 16777216 := by omega
    generalize ((toPc ks ss E rs).map (amR j)).map amD = L at ha hg
    rw [wps_cons]
    simp -implicitDefEqProofs [wps_cons, wps_nil, seqF_nx, seqF_ret, seqF_brk, seqF_cont, wp_bnd, wp_ret, evS, evX, evRs, ev, evs, evV, evB, evC, evO, evI_seq, evI_zip, evI_rng1, evI_rng2, evI_rng3, evI_fns, endV, bnd_ret, getV, getF, getL, frz, thaw, isR, lft, noEx_ret, RV.toD, RV.toV, isTy, toB, toI, toS, cop, bop, gOrd, gAdd, gSub, itemsOf, wipeE, bindT, tst, Function.comp_apply, gIx0, gIx1, gIx2, puts, putRV, isL, chg_eq, sE_tt, sE_tw, sE_tf, sE_tr, sE_wt, sE_ww, sE_wf, sE_wr, sE_ft, sE_fw, sE_ff, sE_fr, sE_rt, sE_rw, sE_rf, sE_rr, ha, hg, sizeLine, hsz, noL, noR, noLs]
  · rintro ⟨f, env⟩ S' ⟨hf, rfl, s4, rfl⟩
    cases hf
    rw [seqF_nx, wps_cons]
    rw [List.length_range]
    generalize ((List.range (ss.countP isRg)).flatMap fun n => atR rs (b n) rs.length) = K at hkm ⊢
    have hfm : (toPc ks ss E rs).filterMap (fun P => (okP K P).map fD) = (atR rs (anyR ss b) rs.length).map fD := by
      have e := fm_at (b := anyR ss b) hkm _ (Nat.le_refl _)
      rw [List.take_length] at e
      rw [← List.map_filterMap, fm_pc, e]
    simp -implicitDefEqProofs [wps_nil, seqF_nx, seqF_ret, seqF_brk, seqF_cont, wp_bnd, wp_ret, evS, evX, evRs, ev, evs, evV, evB, evC, evO, evI_seq, evI_zip, evI_rng1, evI_rng2, evI_rng3, evI_fns, endV, bnd_ret, getV, getF, getL, frz, thaw, isR, lft, noEx_ret, RV.toD, RV.toV, isTy, toB, toI, toS, cop, bop, gOrd, gAdd, gSub, itemsOf, wipeE, bindT, tst, Function.comp_apply, gIx0, gIx1, gIx2, puts, putRV, isL, chg_eq, sE_tt, sE_tw, sE_tf, sE_tr, sE_wt, sE_ww, sE_wf, sE_wr, sE_ft, sE_fw, sE_ff, sE_fr, sE_rt, sE_rw, sE_rf, sE_rr]
    rw [mapV_pure (e := Vl.dat ∘ pcD) (g := fun P => (okP K P).map fD)]
    · rw [hfm]
      have hal := atR_len (rs := rs) (b := anyR ss b) (k := rs.length)
      simp -implicitDefEqProofs [wps_nil, seqF_nx, seqF_ret, seqF_brk, seqF_cont, wp_bnd, wp_ret, evS, evX, evRs, ev, evs, evV, evB, evC, evO, evI_seq, evI_zip, evI_rng1, evI_rng2, evI_rng3, evI_fns, endV, bnd_ret, getV, getF, getL, frz, thaw, isR, lft, noEx_ret, RV.toD, RV.toV, isTy, toB, toI, toS, cop, bop, gOrd, gAdd, gSub, itemsOf, wipeE, bindT, tst, Function.comp_apply, gIx0, gIx1, gIx2, puts, putRV, isL, chg_eq, sE_tt, sE_tw, sE_tf, sE_tr, sE_wt, sE_ww, sE_wf, sE_wr, sE_ft, sE_fw, sE_ff, sE_fr, sE_rt, sE_rw, sE_rf, sE_rr, sizeLine, show (atR rs (anyR ss b) rs.length).length ≤ 16777216 by omega]
    · intro P hP
      cases P with
      | ev lo hi q =>
        have := hne lo hi q hP
        simp -implicitDefEqProofs [evSs, evS, evX, evRs, ev, evs, evV, evB, evC, evO, evI_seq, evI_zip, evI_rng1, evI_rng2, evI_rng3, evI_fns, endV, seqF, bnd_ret, getV, getF, getL, frz, thaw, isR, lft, noEx_ret, RV.toD, RV.toV, isTy, toB, toI, toS, cop, bop, gOrd, gAdd, gSub, itemsOf, wipeE, bindT, tst, Function.comp_apply, gIx0, gIx1, gIx2, puts, putRV, isL, chg_eq, sE_tt, sE_tw, sE_tf, sE_tr, sE_wt, sE_ww, sE_wf, sE_wr, sE_ft, sE_fw, sE_ff, sE_fr, sE_rt, sE_rw, sE_rf, sE_rr, pcD, gEqFg, this, okP]
      | one r q =>
        have gi := gInFg r K
        by_cases cc : r ∈ K <;> simp -implicitDefEqProofs [evSs, evS, evX, evRs, ev, evs, evV, evB, evC, evO, evI_seq, evI_zip, evI_rng1, evI_rng2, evI_rng3, evI_fns, endV, seqF, bnd_ret, getV, getF, getL, frz, thaw, isR, lft, noEx_ret, RV.toD, RV.toV, isTy, toB, toI, toS, cop, bop, gOrd, gAdd, gSub, itemsOf, wipeE, bindT, tst, Function.comp_apply, gIx0, gIx1, gIx2, puts, putRV, isL, chg_eq, sE_tt, sE_tw, sE_tf, sE_tr, sE_wt, sE_ww, sE_wf, sE_wr, sE_ft, sE_fw, sE_ff, sE_fr, sE_rt, sE_rw, sE_rf, sE_rr, pcD, gEqFg, gi, cc, okP]
theorem t_bends (d : Nat) (ks : List Bool) (ss : List St) (h1 : 1 ≤ ks.length) (h3 : ks.length ≤ 3) (hn : ss.length ≤ 12) (hs : ∀ s ∈ ss, s.ok ks.length) : Gm T (d+14) 35 [.dat (.tuple [kD ks, .tuple (ss.map St.d)])] = ret (.new ((bendM ks ss).map fD)) := by
  obtain ⟨E, rs, k⟩ := kk_of h3 hn hs
  have hl := k.l
  have ho := t_ofSome d 33 ks ss h3 h1 hn hs E rs k (bB ks ss E rs) (fun n => t_bendsIn (d+9) ks ss E rs n k.c (by omega) (k.sm n))
  have hp := t_needPlan (d+9) ks ss h1 (by omega) hn hs
  unfold bendM
  rw [k.kE, k.kR]
  refine eq_of_wp fun S => ?_
  have hT : T[35]? = some d35 := rfl
  rw [gm_open hT]
  simp only [runDf, d35, startE, List.length_cons, List.length_nil, Nat.zero_add, if_true, reduceIte, Nat.reduceAdd, List.map_cons, List.map_nil, List.cons_append, List.nil_append, Nat.reduceSub, List.replicate_succ, List.replicate_zero, wp_bnd]
  rw [wps_cons]
  simp -implicitDefEqProofs [wps_nil, seqF_nx, seqF_ret, seqF_brk, seqF_cont, wp_bnd, wp_ret, evS, evX, evRs, ev, evs, evV, evB, evC, evO, evI_seq, evI_zip, evI_rng1, evI_rng2, evI_rng3, evI_fns, endV, bnd_ret, getV, getF, getL, frz, thaw, isR, lft, noEx_ret, RV.toD, RV.toV, isTy, toB, toI, toS, cop, bop, gOrd, gAdd, gSub, itemsOf, wipeE, bindT, tst, Function.comp_apply, gIx0, gIx1, gIx2, puts, putRV, isL, chg_eq, sE_tt, sE_tw, sE_tf, sE_tr, sE_wt, sE_ww, sE_wf, sE_wr, sE_ft, sE_fw, sE_ff, sE_fr, sE_rt, sE_rw, sE_rf, sE_rr, hp]
  rw [wps_cons]
  simp -implicitDefEqProofs [wps_nil, seqF_nx, seqF_ret, seqF_brk, seqF_cont, wp_bnd, wp_ret, evS, evX, evRs, ev, evs, evV, evB, evC, evO, evI_seq, evI_zip, evI_rng1, evI_rng2, evI_rng3, evI_fns, endV, bnd_ret, getV, getF, getL, frz, thaw, isR, lft, noEx_ret, RV.toD, RV.toV, isTy, toB, toI, toS, cop, bop, gOrd, gAdd, gSub, itemsOf, wipeE, bindT, tst, Function.comp_apply, gIx0, gIx1, gIx2, puts, putRV, isL, chg_eq, sE_tt, sE_tw, sE_tf, sE_tr, sE_wt, sE_ww, sE_wf, sE_wr, sE_ft, sE_fw, sE_ff, sE_fr, sE_rt, sE_rw, sE_rf, sE_rr, ho]
theorem t_jumps (d : Nat) (ks : List Bool) (ss : List St) (h1 : 1 ≤ ks.length) (h3 : ks.length ≤ 3) (hn : ss.length ≤ 12) (hs : ∀ s ∈ ss, s.ok ks.length) : Gm T (d+14) 36 [.dat (.tuple [kD ks, .tuple (ss.map St.d)])] = ret (.new ((jumpM ks ss).map fD)) := by
  obtain ⟨E, rs, k⟩ := kk_of h3 hn hs
  have hl := k.l
  have ho := t_ofSome d 32 ks ss h3 h1 hn hs E rs k (jB ks ss E rs) (fun n => t_jumpsIn (d+10) ks ss E rs n (by omega) (k.sm n))
  have hp := t_needPlan (d+9) ks ss h1 (by omega) hn hs
  unfold jumpM
  rw [k.kE, k.kR]
  refine eq_of_wp fun S => ?_
  have hT : T[36]? = some d36 := rfl
  rw [gm_open hT]
  simp only [runDf, d36, startE, List.length_cons, List.length_nil, Nat.zero_add, if_true, reduceIte, Nat.reduceAdd, List.map_cons, List.map_nil, List.cons_append, List.nil_append, Nat.reduceSub, List.replicate_succ, List.replicate_zero, wp_bnd]
  rw [wps_cons]
  simp -implicitDefEqProofs [wps_nil, seqF_nx, seqF_ret, seqF_brk, seqF_cont, wp_bnd, wp_ret, evS, evX, evRs, ev, evs, evV, evB, evC, evO, evI_seq, evI_zip, evI_rng1, evI_rng2, evI_rng3, evI_fns, endV, bnd_ret, getV, getF, getL, frz, thaw, isR, lft, noEx_ret, RV.toD, RV.toV, isTy, toB, toI, toS, cop, bop, gOrd, gAdd, gSub, itemsOf, wipeE, bindT, tst, Function.comp_apply, gIx0, gIx1, gIx2, puts, putRV, isL, chg_eq, sE_tt, sE_tw, sE_tf, sE_tr, sE_wt, sE_ww, sE_wf, sE_wr, sE_ft, sE_fw, sE_ff, sE_fr, sE_rt, sE_rw, sE_rf, sE_rr, hp]
  rw [wps_cons]
  simp -implicitDefEqProofs [wps_nil, seqF_nx, seqF_ret, seqF_brk, seqF_cont, wp_bnd, wp_ret, evS, evX, evRs, ev, evs, evV, evB, evC, evO, evI_seq, evI_zip, evI_rng1, evI_rng2, evI_rng3, evI_fns, endV, bnd_ret, getV, getF, getL, frz, thaw, isR, lft, noEx_ret, RV.toD, RV.toV, isTy, toB, toI, toS, cop, bop, gOrd, gAdd, gSub, itemsOf, wipeE, bindT, tst, Function.comp_apply, gIx0, gIx1, gIx2, puts, putRV, isL, chg_eq, sE_tt, sE_tw, sE_tf, sE_tr, sE_wt, sE_ww, sE_wf, sE_wr, sE_ft, sE_fw, sE_ff, sE_fr, sE_rt, sE_rw, sE_rf, sE_rr, ho]
end G05

-- TC05
set_option maxRecDepth 100000
set_option maxHeartbeats 4000000
namespace G05
open PySem G
theorem pt_ev {ks : List Bool} {ss : List St} {E : Ep} {rs : List (Fm × Ep)} {j : Nat} (h : j ≤ rs.length) : gIx (.list ((toPc ks ss E rs).map ptD)) (.int ((2 * j : Nat) : Int)) = some (ptD (.ev (epAt E rs j).1 (epAt E rs j).2.1 (epAt E rs j).2.2)) :=
  gIxLM (toPc_ev h)
theorem pt_one {ks : List Bool} {ss : List St} {E : Ep} {rs : List (Fm × Ep)} {j : Nat} (h : j < rs.length) : gIx (.list ((toPc ks ss E rs).map ptD)) (.int ((2 * j + 1 : Nat) : Int)) = some (ptD (.one (rtAt rs j) (runM ks (rtAt rs j).1 (rtAt rs j).2 ss))) :=
  gIxLM (toPc_one h)
theorem t_lKinks (d : Nat) (ks : List Bool) (ss : List St) (h1 : 1 ≤ ks.length) (h3 : ks.length ≤ 3) (hn : ss.length ≤ 12) (hs : ∀ s ∈ ss, s.ok ks.length) :
    Gm T (d+44) 59 [.dat (.tuple [kD ks, .tuple (ss.map St.d)])] = ret (.d (.tuple [.list ((bendM ks ss).map fD), .list ((jumpM ks ss).map fD)])) := by
  obtain ⟨E, rs, K⟩ := kk_of h3 hn hs
  unfold bendM jumpM
  rw [K.kE, K.kR]
  refine eq_of_wp fun S => ?_
  have hT : T[59]? = some d59 := rfl
  rw [gm_open hT]
  simp only [runDf, d59, startE, List.length_cons, List.length_nil, Nat.zero_add, if_true, reduceIte, Nat.reduceAdd, List.map_cons, List.map_nil, List.cons_append, List.nil_append, Nat.reduceSub, List.replicate_succ, List.replicate_zero, wp_bnd]
  have hall := t_lAll d ks ss h1 h3 hn hs
  have hcn := t_lCount (d+42) (kD ks) ss (by omega)
  have hcl : ss.countP isRg ≤ 12 := Nat.le_trans List.countP_le_length hn
  have hh := cours_hdL h3 hs
  have hle : ∀ j, j ≤ rs.length → (epAt E rs j).2.2.hd.length = ss.countP isRg := fun j hj => by
    have := hh (.ev (epAt E rs j).1 (epAt E rs j).2.1 (epAt E rs j).2.2) (by rw [K.e]; exact List.mem_of_getElem? (toPc_ev hj))
    exact this
  have hlo : ∀ j, j < rs.length → (runM ks (rtAt rs j).1 (rtAt rs j).2 ss).hd.length = ss.countP isRg := fun j hj => by
    have := hh (.one (rtAt rs j) (runM ks (rtAt rs j).1 (rtAt rs j).2 ss)) (by rw [K.e]; exact List.mem_of_getElem? (toPc_one hj))
    exact this
  have hlen : ((toPc ks ss E rs).map ptD).length = 2 * rs.length + 1 := by rw [List.length_map, toPc_len]
  have ge := fun j => pt_ev (ks := ks) (ss := ss) (E := E) (rs := rs) (j := j)
  have go := fun j => pt_one (ks := ks) (ss := ss) (E := E) (rs := rs) (j := j)
  have hrl := K.l
  have hsm := K.sm
  rw [K.e] at hall
  generalize (toPc ks ss E rs).map ptD = L at hlen ge go hall ⊢
  generalize PyData.tuple [kD ks, .tuple (ss.map St.d)] = pl at hall hcn ⊢
  rw [wps_cons]
  simp -implicitDefEqProofs [wps_nil, seqF_nx, seqF_ret, seqF_brk, seqF_cont, wp_bnd, wp_ret, evS, evX, evRs, ev, evs, evV, evB, evC, evO, evI_seq, evI_zip, evI_rng1, evI_rng2, evI_rng3, evI_fns, endV, bnd_ret, getV, getF, getL, frz, thaw, isR, lft, noEx_ret, RV.toD, RV.toV, isTy, toB, toI, toS, cop, bop, gOrd, gAdd, gSub, itemsOf, wipeE, bindT, tst, Function.comp_apply, gIx0, gIx1, gIx2, puts, putRV, isL, chg_eq, sE_tt, sE_tw, sE_tf, sE_tr, sE_wt, sE_ww, sE_wf, sE_wr, sE_ft, sE_fw, sE_ff, sE_fr, sE_rt, sE_rw, sE_rf, sE_rr, hall]
  rw [wps_cons]
  have hr := rngM2_one (n := rs.length) (by omega)
  simp -implicitDefEqProofs [wps_nil, seqF_nx, seqF_ret, seqF_brk, seqF_cont, wp_bnd, wp_ret, evS, evX, evRs, ev, evs, evV, evB, evC, evO, evI_seq, evI_zip, evI_rng1, evI_rng2, evI_rng3, evI_fns, endV, bnd_ret, getV, getF, getL, frz, thaw, isR, lft, noEx_ret, RV.toD, RV.toV, isTy, toB, toI, toS, cop, bop, gOrd, gAdd, gSub, itemsOf, wipeE, bindT, tst, Function.comp_apply, gIx0, gIx1, gIx2, puts, putRV, isL, chg_eq, sE_tt, sE_tw, sE_tf, sE_tr, sE_wt, sE_ww, sE_wf, sE_wr, sE_ft, sE_fw, sE_ff, sE_fr, sE_rt, sE_rw, sE_rf, sE_rr, gBf]
  rw [hlen, hr]
  simp -implicitDefEqProofs [wps_nil, seqF_nx, seqF_ret, seqF_brk, seqF_cont, wp_bnd, wp_ret, evS, evX, evRs, ev, evs, evV, evB, evC, evO, evI_seq, evI_zip, evI_rng1, evI_rng2, evI_rng3, evI_fns, endV, bnd_ret, getV, getF, getL, frz, thaw, isR, lft, noEx_ret, RV.toD, RV.toV, isTy, toB, toI, toS, cop, bop, gOrd, gAdd, gSub, itemsOf, wipeE, bindT, tst, Function.comp_apply, gIx0, gIx1, gIx2, puts, putRV, isL, chg_eq, sE_tt, sE_tw, sE_tf, sE_tr, sE_wt, sE_ww, sE_wf, sE_wr, sE_ft, sE_fw, sE_ff, sE_fr, sE_rt, sE_rw, sE_rf, sE_rr]
  refine wp_mono (forV_wp (e := natV3) (P := fun pre env S' => S' = S ∧ ∃ s1 s5 s6 s7 s8 s9 s10 s11, env = [.vl (.dat pl), s1, .vl (.dat (.list L)), .vl (.dat (.list ((atR rs (anyR ss (bB ks ss E rs)) pre.length).map fD))), .vl (.dat (.list ((atR rs (anyR ss (jB ks ss E rs)) pre.length).map fD))), s5, s6, s7, s8, s9, s10, s11]) ?_ ⟨rfl, .un, .un, .un, .un, .un, .un, .un, .un, by simp [atR]⟩) ?_
  · rintro pre k post env S' hx ⟨rfl, s1, s5, s6, s7, s8, s9, s10, s11, rfl⟩
    obtain ⟨rfl, hk⟩ := range_split hx
    refine ⟨_, rfl, ?_⟩
    rw [List.length_append, List.length_singleton]
    generalize pre.length = k at hk ⊢
    have g1 := go k hk
    have g0 := ge k (by omega)
    have g2 := ge (k + 1) (by omega)
    have l0 := hle k (by omega)
    have l2 := hle (k + 1) (by omega)
    have l1 := hlo k hk
    have hbl := atR_len (rs := rs) (b := anyR ss (bB ks ss E rs)) (k := k)
    have hjl := atR_len (rs := rs) (b := anyR ss (jB ks ss E rs)) (k := k)
    rw [atR_succ, atR_succ]
    generalize atR rs (anyR ss (bB ks ss E rs)) k = A at hbl ⊢
    generalize atR rs (anyR ss (jB ks ss E rs)) k = B at hjl ⊢
    have w1 : anyR ss (jB ks ss E rs) k = _ := (wds_jump (jb := fun n => jB ks ss E rs n k) (bb := fun n => bB ks ss E rs n k) (k := ss.countP isRg)).symm
    have w2 : anyR ss (bB ks ss E rs) k = _ := (wds_bend (jb := fun n => jB ks ss E rs n k) (bb := fun n => bB ks ss E rs n k) (k := ss.countP isRg) (fun n h => by
      unfold bB at h
      cases hj : jB ks ss E rs n k with
      | false => rfl
      | true => rw [hj] at h; simp at h)).symm
    generalize anyR ss (jB ks ss E rs) k = x2 at w1 ⊢
    generalize anyR ss (bB ks ss E rs) k = x1 at w2 ⊢
    have v0 := fun n => t_lWorth (d+42) (fAt E rs n k) (rtAt rs k) (hsm n k (by omega))
    have v2 := fun n => t_lWorth (d+42) (fAt E rs n (k + 1)) (rtAt rs k) (hsm n (k + 1) (by omega))
    have hjd : ∀ n, jB ks ss E rs n k = !(decide (wrt (fAt E rs n k) (rtAt rs k) = vAt ks ss rs n k) && decide (wrt (fAt E rs n (k + 1)) (rtAt rs k) = vAt ks ss rs n k)) := fun n => rfl
    have hbd : ∀ n, bB ks ss E rs n k = (decide (fAt E rs n k ≠ fAt E rs n (k + 1)) && !jB ks ss E rs n k) := fun n => rfl
    have f0 : ∀ n, ((epAt E rs k).2.2.hd.getD n (z2, [])).1 = fAt E rs n k := fun n => rfl
    have f2 : ∀ n, ((epAt E rs (k + 1)).2.2.hd.getD n (z2, [])).1 = fAt E rs n (k + 1) := fun n => rfl
    have f1 : ∀ n, ((runM ks (rtAt rs k).1 (rtAt rs k).2 ss).hd.getD n (0, [])).1 = vAt ks ss rs n k := fun n => rfl
    have e1 : ((2 * k + 1 : Nat) : Int) = 1 + (k : Int) * 2 := by omega
    have e0 : ((2 * k : Nat) : Int) = 1 + (k : Int) * 2 - 1 := by omega
    have e2 : ((2 * (k + 1) : Nat) : Int) = 1 + (k : Int) * 2 + 1 := by omega
    rw [e1] at g1
    rw [e0] at g0
    rw [e2] at g2
    have hAs : A.length + 1 ≤ 16777216 := by omega
    have hBs : B.length + 1 ≤ 16777216 := by omega
    show Wp (evSs _ _ ([_, _, _, _, _, _, _, _, _, _, _, _].set 1 (.vl (.dat (.int (1 + (k : Int) * 2)))))) _ _
    generalize 1 + (k : Int) * 2 = a at g0 g1 g2 ⊢
    generalize (epAt E rs k).2.2 = q0 at g0 l0 f0
    generalize (epAt E rs (k + 1)).2.2 = q2 at g2 l2 f2
    generalize runM ks (rtAt rs k).1 (rtAt rs k).2 ss = q1 at g1 l1 f1
    generalize hF0 : (fun n => fAt E rs n k) = F0
    generalize hF2 : (fun n => fAt E rs n (k + 1)) = F2
    generalize hV : (fun n => vAt ks ss rs n k) = V
    generalize hJ : (fun n => jB ks ss E rs n k) = JB
    generalize hB : (fun n => bB ks ss E rs n k) = BB
    replace f0 : ∀ n, (q0.hd.getD n (z2, [])).1 = F0 n := fun n => by rw [← hF0]; exact f0 n
    replace f2 : ∀ n, (q2.hd.getD n (z2, [])).1 = F2 n := fun n => by rw [← hF2]; exact f2 n
    replace f1 : ∀ n, (q1.hd.getD n (0, [])).1 = V n := fun n => by rw [← hV]; exact f1 n
    replace v0 : ∀ n, Gm T (d+43) 46 [.dat (fD (F0 n)), .dat (fD (rtAt rs k))] = ret (.d (.int (wrt (F0 n) (rtAt rs k)))) := fun n => by rw [← hF0]; exact v0 n
    replace v2 : ∀ n, Gm T (d+43) 46 [.dat (fD (F2 n)), .dat (fD (rtAt rs k))] = ret (.d (.int (wrt (F2 n) (rtAt rs k)))) := fun n => by rw [← hF2]; exact v2 n
    replace hjd : ∀ n, JB n = !(decide (wrt (F0 n) (rtAt rs k) = V n) && decide (wrt (F2 n) (rtAt rs k) = V n)) := fun n => by rw [← hJ, ← hF0, ← hF2, ← hV]; exact hjd n
    replace hbd : ∀ n, BB n = (decide (F0 n ≠ F2 n) && !JB n) := fun n => by rw [← hB, ← hJ, ← hF0, ← hF2]; exact hbd n
    rw [hJ, hB] at w1 w2
    clear hF0 hF2 hV hJ hB
    generalize rtAt rs k = r at g1 v0 v2 hjd ⊢
    rw [wps_cons]
    simp -implicitDefEqProofs [wps_nil, seqF_nx, seqF_ret, seqF_brk, seqF_cont, wp_bnd, wp_ret, evS, evX, evRs, ev, evs, evV, evB, evC, evO, evI_seq, evI_zip, evI_rng1, evI_rng2, evI_rng3, evI_fns, endV, bnd_ret, getV, getF, getL, frz, thaw, isR, lft, noEx_ret, RV.toD, RV.toV, isTy, toB, toI, toS, cop, bop, gOrd, gAdd, gSub, itemsOf, wipeE, bindT, tst, Function.comp_apply, gIx0, gIx1, gIx2, puts, putRV, isL, chg_eq, sE_tt, sE_tw, sE_tf, sE_tr, sE_wt, sE_ww, sE_wf, sE_wr, sE_ft, sE_fw, sE_ff, sE_fr, sE_rt, sE_rw, sE_rf, sE_rr, g1, ptD]
    rw [wps_cons]
    simp -implicitDefEqProofs [wps_nil, seqF_nx, seqF_ret, seqF_brk, seqF_cont, wp_bnd, wp_ret, evS, evX, evRs, ev, evs, evV, evB, evC, evO, evI_seq, evI_zip, evI_rng1, evI_rng2, evI_rng3, evI_fns, endV, bnd_ret, getV, getF, getL, frz, thaw, isR, lft, noEx_ret, RV.toD, RV.toV, isTy, toB, toI, toS, cop, bop, gOrd, gAdd, gSub, itemsOf, wipeE, bindT, tst, Function.comp_apply, gIx0, gIx1, gIx2, puts, putRV, isL, chg_eq, sE_tt, sE_tw, sE_tf, sE_tr, sE_wt, sE_ww, sE_wf, sE_wr, sE_ft, sE_fw, sE_ff, sE_fr, sE_rt, sE_rw, sE_rf, sE_rr, hcn, rngM_nat (n := ss.countP isRg) (by omega)]
    refine wp_mono (forV_wp (e := natV) (P := fun pre env S'' => S'' = S' ∧ ∃ s5 s8 s9 s10 s11, env = [.vl (.dat pl), .vl (.dat (.int a)), .vl (.dat (.list L)), .vl (.dat (.list (A.map fD))), .vl (.dat (.list (B.map fD))), s5, .vl (.dat (fD r)), .own (.lst ((wds JB BB pre.length).map wD)), s8, s9, s10, s11]) ?_ ⟨rfl, s5, s8, s9, s10, s11, rfl⟩) ?_
    · rintro pre n post env S'' hx ⟨rfl, s5, s8, s9, s10, s11, rfl⟩
      obtain ⟨rfl, hnn⟩ := range_split hx
      refine ⟨_, rfl, ?_⟩
      rw [List.length_append, List.length_singleton]
      generalize pre.length = n at hnn ⊢
      have i0 : gIx (.list (q0.hd.map rgF)) (.int n) = some (rgF (q0.hd.getD n (z2, []))) := gIxLM (by rw [List.getElem?_eq_getElem (by omega)]; simp [show n < q0.hd.length by omega])
      have i2 : gIx (.list (q2.hd.map rgF)) (.int n) = some (rgF (q2.hd.getD n (z2, []))) := gIxLM (by rw [List.getElem?_eq_getElem (by omega)]; simp [show n < q2.hd.length by omega])
      have i1 : gIx (.list (q1.hd.map rgD)) (.int n) = some (rgD (q1.hd.getD n (0, []))) := gIxLM (by rw [List.getElem?_eq_getElem (by omega)]; simp [show n < q1.hd.length by omega])
      have f0 := f0 n
      have f2 := f2 n
      have f1 := f1 n
      have v0 := v0 n
      have v2 := v2 n
      have hjd := hjd n
      have hbd := hbd n
      have hwl := wds_len (jb := JB) (bb := BB) (k := n)
      rw [wds_succ]
      generalize wds JB BB n = W at hwl ⊢
      generalize q0.hd.getD n (z2, []) = y0 at i0 f0
      generalize q2.hd.getD n (z2, []) = y2 at i2 f2
      generalize q1.hd.getD n (0, []) = y1 at i1 f1
      obtain ⟨y0, y0'⟩ := y0
      obtain ⟨y2, y2'⟩ := y2
      obtain ⟨y1, y1'⟩ := y1
      simp only at f0 f2 f1
      subst f0 f2 f1
      generalize F0 n = y0 at i0 v0 hjd hbd ⊢
      generalize F2 n = y2 at i2 v2 hjd hbd ⊢
      generalize V n = y1 at i1 hjd hbd ⊢
      rw [hbd, hjd]
      have hws : W.length < 16777216 := by omega
      rw [wps_cons]
      simp -implicitDefEqProofs [wps_nil, seqF_nx, seqF_ret, seqF_brk, seqF_cont, wp_bnd, wp_ret, evS, evX, evRs, ev, evs, evV, evB, evC, evO, evI_seq, evI_zip, evI_rng1, evI_rng2, evI_rng3, evI_fns, endV, bnd_ret, getV, getF, getL, frz, thaw, isR, lft, noEx_ret, RV.toD, RV.toV, isTy, toB, toI, toS, cop, bop, gOrd, gAdd, gSub, itemsOf, wipeE, bindT, tst, Function.comp_apply, gIx0, gIx1, gIx2, puts, putRV, isL, chg_eq, sE_tt, sE_tw, sE_tf, sE_tr, sE_wt, sE_ww, sE_wf, sE_wr, sE_ft, sE_fw, sE_ff, sE_fr, sE_rt, sE_rw, sE_rf, sE_rr, g0, ptD, i0]
      rw [wps_cons]
      simp -implicitDefEqProofs [wps_nil, seqF_nx, seqF_ret, seqF_brk, seqF_cont, wp_bnd, wp_ret, evS, evX, evRs, ev, evs, evV, evB, evC, evO, evI_seq, evI_zip, evI_rng1, evI_rng2, evI_rng3, evI_fns, endV, bnd_ret, getV, getF, getL, frz, thaw, isR, lft, noEx_ret, RV.toD, RV.toV, isTy, toB, toI, toS, cop, bop, gOrd, gAdd, gSub, itemsOf, wipeE, bindT, tst, Function.comp_apply, gIx0, gIx1, gIx2, puts, putRV, isL, chg_eq, sE_tt, sE_tw, sE_tf, sE_tr, sE_wt, sE_ww, sE_wf, sE_wr, sE_ft, sE_fw, sE_ff, sE_fr, sE_rt, sE_rw, sE_rf, sE_rr, g2, ptD, i2]
      rw [wps_cons]
      simp -implicitDefEqProofs [wps_nil, seqF_nx, seqF_ret, seqF_brk, seqF_cont, wp_bnd, wp_ret, evS, evX, evRs, ev, evs, evV, evB, evC, evO, evI_seq, evI_zip, evI_rng1, evI_rng2, evI_rng3, evI_fns, endV, bnd_ret, getV, getF, getL, frz, thaw, isR, lft, noEx_ret, RV.toD, RV.toV, isTy, toB, toI, toS, cop, bop, gOrd, gAdd, gSub, itemsOf, wipeE, bindT, tst, Function.comp_apply, gIx0, gIx1, gIx2, puts, putRV, isL, chg_eq, sE_tt, sE_tw, sE_tf, sE_tr, sE_wt, sE_ww, sE_wf, sE_wr, sE_ft, sE_fw, sE_ff, sE_fr, sE_rt, sE_rw, sE_rf, sE_rr, g1, ptD, i1]
      rw [wps_cons]
      simp -implicitDefEqProofs [wps_nil, seqF_nx, seqF_ret, seqF_brk, seqF_cont, wp_bnd, wp_ret, evS, evX, evRs, ev, evs, evV, evB, evC, evO, evI_seq, evI_zip, evI_rng1, evI_rng2, evI_rng3, evI_fns, endV, bnd_ret, getV, getF, getL, frz, thaw, isR, lft, noEx_ret, RV.toD, RV.toV, isTy, toB, toI, toS, cop, bop, gOrd, gAdd, gSub, itemsOf, wipeE, bindT, tst, Function.comp_apply, gIx0, gIx1, gIx2, puts, putRV, isL, chg_eq, sE_tt, sE_tw, sE_tf, sE_tr, sE_wt, sE_ww, sE_wf, sE_wr, sE_ft, sE_fw, sE_ff, sE_fr, sE_rt, sE_rw, sE_rf, sE_rr, v0, v2]
      rw [wps_cons]
      by_cases c0 : wrt y0 r = y1
      · by_cases c2 : wrt y2 r = y1
        · by_cases c3 : y0 = y2
          · simp -implicitDefEqProofs [wps_cons, wps_nil, seqF_nx, seqF_ret, seqF_brk, seqF_cont, wp_bnd, wp_ret, evS, evX, evRs, ev, evs, evV, evB, evC, evO, evI_seq, evI_zip, evI_rng1, evI_rng2, evI_rng3, evI_fns, endV, bnd_ret, getV, getF, getL, frz, thaw, isR, lft, noEx_ret, RV.toD, RV.toV, isTy, toB, toI, toS, cop, bop, gOrd, gAdd, gSub, itemsOf, wipeE, bindT, tst, Function.comp_apply, gIx0, gIx1, gIx2, puts, putRV, isL, chg_eq, sE_tt, sE_tw, sE_tf, sE_tr, sE_wt, sE_ww, sE_wf, sE_wr, sE_ft, sE_fw, sE_ff, sE_fr, sE_rt, sE_rw, sE_rf, sE_rr, gEqL2, c0, c2, gEqFg, c3]
          · simp -implicitDefEqProofs [wps_cons, wps_nil, seqF_nx, seqF_ret, seqF_brk, seqF_cont, wp_bnd, wp_ret, evS, evX, evRs, ev, evs, evV, evB, evC, evO, evI_seq, evI_zip, evI_rng1, evI_rng2, evI_rng3, evI_fns, endV, bnd_ret, getV, getF, getL, frz, thaw, isR, lft, noEx_ret, RV.toD, RV.toV, isTy, toB, toI, toS, cop, bop, gOrd, gAdd, gSub, itemsOf, wipeE, bindT, tst, Function.comp_apply, gIx0, gIx1, gIx2, puts, putRV, isL, chg_eq, sE_tt, sE_tw, sE_tf, sE_tr, sE_wt, sE_ww, sE_wf, sE_wr, sE_ft, sE_fw, sE_ff, sE_fr, sE_rt, sE_rw, sE_rf, sE_rr, gEqL2, c0, c2, gEqFg, c3, noL, noR, noLs, sizeLine, hws, wD]
        · simp -implicitDefEqProofs [wps_cons, wps_nil, seqF_nx, seqF_ret, seqF_brk, seqF_cont, wp_bnd, wp_ret, evS, evX, evRs, ev, evs, evV, evB, evC, evO, evI_seq, evI_zip, evI_rng1, evI_rng2, evI_rng3, evI_fns, endV, bnd_ret, getV, getF, getL, frz, thaw, isR, lft, noEx_ret, RV.toD, RV.toV, isTy, toB, toI, toS, cop, bop, gOrd, gAdd, gSub, itemsOf, wipeE, bindT, tst, Function.comp_apply, gIx0, gIx1, gIx2, puts, putRV, isL, chg_eq, sE_tt, sE_tw, sE_tf, sE_tr, sE_wt, sE_ww, sE_wf, sE_wr, sE_ft, sE_fw, sE_ff, sE_fr, sE_rt, sE_rw, sE_rf, sE_rr, gEqL2, c0, c2, noL, noR, noLs, sizeLine, hws, wD]
      · simp -implicitDefEqProofs [wps_cons, wps_nil, seqF_nx, seqF_ret, seqF_brk, seqF_cont, wp_bnd, wp_ret, evS, evX, evRs, ev, evs, evV, evB, evC, evO, evI_seq, evI_zip, evI_rng1, evI_rng2, evI_rng3, evI_fns, endV, bnd_ret, getV, getF, getL, frz, thaw, isR, lft, noEx_ret, RV.toD, RV.toV, isTy, toB, toI, toS, cop, bop, gOrd, gAdd, gSub, itemsOf, wipeE, bindT, tst, Function.comp_apply, gIx0, gIx1, gIx2, puts, putRV, isL, chg_eq, sE_tt, sE_tw, sE_tf, sE_tr, sE_wt, sE_ww, sE_wf, sE_wr, sE_ft, sE_fw, sE_ff, sE_fr, sE_rt, sE_rw, sE_rf, sE_rr, gEqL2, c0, noL, noR, noLs, sizeLine, hws, wD]
    · rintro ⟨f, env⟩ S'' ⟨hf, rfl, s5, s8, s9, s10, s11, rfl⟩
      cases hf
      rw [seqF_nx, List.length_range]
      have b1 := gInBend (wds JB BB (ss.countP isRg))
      have b2 := gInJump (wds JB BB (ss.countP isRg))
      rw [← w2] at b1
      rw [← w1] at b2
      clear w1 w2
      generalize (wds JB BB (ss.countP isRg)).map wD = WD at b1 b2 ⊢
      have nA := noLsF A
      have nB := noLsF B
      have nA1 : noLs (A.map fD ++ [fD r]) = true := by
        have := noLsF (A ++ [r])
        simpa using this
      have nB1 : noLs (B.map fD ++ [fD r]) = true := by
        have := noLsF (B ++ [r])
        simpa using this
      have hA0 : A.length ≤ 16777216 := by omega
      have hB0 : B.length ≤ 16777216 := by omega
      rw [wps_cons]
      cases x1
      · simp -implicitDefEqProofs [wps_nil, seqF_nx, seqF_ret, seqF_brk, seqF_cont, wp_bnd, wp_ret, evS, evX, evRs, ev, evs, evV, evB, evC, evO, evI_seq, evI_zip, evI_rng1, evI_rng2, evI_rng3, evI_fns, endV, bnd_ret, getV, getF, getL, frz, thaw, isR, lft, noEx_ret, RV.toD, RV.toV, isTy, toB, toI, toS, cop, bop, gOrd, gAdd, gSub, itemsOf, wipeE, bindT, tst, Function.comp_apply, gIx0, gIx1, gIx2, puts, putRV, isL, chg_eq, sE_tt, sE_tw, sE_tf, sE_tr, sE_wt, sE_ww, sE_wf, sE_wr, sE_ft, sE_fw, sE_ff, sE_fr, sE_rt, sE_rw, sE_rf, sE_rr, b1, gBf, sizeLine, hA0, noR, noL, nA]
        rw [wps_cons]
        cases x2
        · simp -implicitDefEqProofs [wps_cons, wps_nil, seqF_nx, seqF_ret, seqF_brk, seqF_cont, wp_bnd, wp_ret, evS, evX, evRs, ev, evs, evV, evB, evC, evO, evI_seq, evI_zip, evI_rng1, evI_rng2, evI_rng3, evI_fns, endV, bnd_ret, getV, getF, getL, frz, thaw, isR, lft, noEx_ret, RV.toD, RV.toV, isTy, toB, toI, toS, cop, bop, gOrd, gAdd, gSub, itemsOf, wipeE, bindT, tst, Function.comp_apply, gIx0, gIx1, gIx2, puts, putRV, isL, chg_eq, sE_tt, sE_tw, sE_tf, sE_tr, sE_wt, sE_ww, sE_wf, sE_wr, sE_ft, sE_fw, sE_ff, sE_fr, sE_rt, sE_rw, sE_rf, sE_rr, b2, gBf, sizeLine, hB0, noR, noL, nB]
        · simp -implicitDefEqProofs [wps_cons, wps_nil, seqF_nx, seqF_ret, seqF_brk, seqF_cont, wp_bnd, wp_ret, evS, evX, evRs, ev, evs, evV, evB, evC, evO, evI_seq, evI_zip, evI_rng1, evI_rng2, evI_rng3, evI_fns, endV, bnd_ret, getV, getF, getL, frz, thaw, isR, lft, noEx_ret, RV.toD, RV.toV, isTy, toB, toI, toS, cop, bop, gOrd, gAdd, gSub, itemsOf, wipeE, bindT, tst, Function.comp_apply, gIx0, gIx1, gIx2, puts, putRV, isL, chg_eq, sE_tt, sE_tw, sE_tf, sE_tr, sE_wt, sE_ww, sE_wf, sE_wr, sE_ft, sE_fw, sE_ff, sE_fr, sE_rt, sE_rw, sE_rf, sE_rr, b2, gBf, sizeLine, hBs, noR, noL, nB1]
      · simp -implicitDefEqProofs [wps_nil, seqF_nx, seqF_ret, seqF_brk, seqF_cont, wp_bnd, wp_ret, evS, evX, evRs, ev, evs, evV, evB, evC, evO, evI_seq, evI_zip, evI_rng1, evI_rng2, evI_rng3, evI_fns, endV, bnd_ret, getV, getF, getL, frz, thaw, isR, lft, noEx_ret, RV.toD, RV.toV, isTy, toB, toI, toS, cop, bop, gOrd, gAdd, gSub, itemsOf, wipeE, bindT, tst, Function.comp_apply, gIx0, gIx1, gIx2, puts, putRV, isL, chg_eq, sE_tt, sE_tw, sE_tf, sE_tr, sE_wt, sE_ww, sE_wf, sE_wr, sE_ft, sE_fw, sE_ff, sE_fr, sE_rt, sE_rw, sE_rf, sE_rr, b1, gBf, sizeLine, hAs, noR, noL, nA1]
        rw [wps_cons]
        cases x2
        · simp -implicitDefEqProofs [wps_cons, wps_nil, seqF_nx, seqF_ret, seqF_brk, seqF_cont, wp_bnd, wp_ret, evS, evX, evRs, ev, evs, evV, evB, evC, evO, evI_seq, evI_zip, evI_rng1, evI_rng2, evI_rng3, evI_fns, endV, bnd_ret, getV, getF, getL, frz, thaw, isR, lft, noEx_ret, RV.toD, RV.toV, isTy, toB, toI, toS, cop, bop, gOrd, gAdd, gSub, itemsOf, wipeE, bindT, tst, Function.comp_apply, gIx0, gIx1, gIx2, puts, putRV, isL, chg_eq, sE_tt, sE_tw, sE_tf, sE_tr, sE_wt, sE_ww, sE_wf, sE_wr, sE_ft, sE_fw, sE_ff, sE_fr, sE_rt, sE_rw, sE_rf, sE_rr, b2, gBf, sizeLine, hB0, noR, noL, nB]
        · simp -implicitDefEqProofs [wps_cons, wps_nil, seqF_nx, seqF_ret, seqF_brk, seqF_cont, wp_bnd, wp_ret, evS, evX, evRs, ev, evs, evV, evB, evC, evO, evI_seq, evI_zip, evI_rng1, evI_rng2, evI_rng3, evI_fns, endV, bnd_ret, getV, getF, getL, frz, thaw, isR, lft, noEx_ret, RV.toD, RV.toV, isTy, toB, toI, toS, cop, bop, gOrd, gAdd, gSub, itemsOf, wipeE, bindT, tst, Function.comp_apply, gIx0, gIx1, gIx2, puts, putRV, isL, chg_eq, sE_tt, sE_tw, sE_tf, sE_tr, sE_wt, sE_ww, sE_wf, sE_wr, sE_ft, sE_fw, sE_ff, sE_fr, sE_rt, sE_rw, sE_rf, sE_rr, b2, gBf, sizeLine, hBs, noR, noL, nB1]
  · rintro ⟨f, env⟩ S' ⟨hf, rfl, s1, s5, s6, s7, s8, s9, s10, s11, rfl⟩
    cases hf
    rw [seqF_nx, wps_cons, List.length_range]
    simp -implicitDefEqProofs [wps_nil, seqF_nx, seqF_ret, seqF_brk, seqF_cont, wp_bnd, wp_ret, evS, evX, evRs, ev, evs, evV, evB, evC, evO, evI_seq, evI_zip, evI_rng1, evI_rng2, evI_rng3, evI_fns, endV, bnd_ret, getV, getF, getL, frz, thaw, isR, lft, noEx_ret, RV.toD, RV.toV, isTy, toB, toI, toS, cop, bop, gOrd, gAdd, gSub, itemsOf, wipeE, bindT, tst, Function.comp_apply, gIx0, gIx1, gIx2, puts, putRV, isL, chg_eq, sE_tt, sE_tw, sE_tf, sE_tr, sE_wt, sE_ww, sE_wf, sE_wr, sE_ft, sE_fw, sE_ff, sE_fr, sE_rt, sE_rw, sE_rf, sE_rr, getO]
end G05

-- TD05
set_option maxRecDepth 100000
set_option maxHeartbeats 4000000
namespace G05
open PySem G
theorem x_setStep (d : Nat) (s : St) : Gm T (d+1) 1 [.dat s.d] = ret (.d (.bool false)) := by
  have hT : T[1]? = some d1 := rfl
  rw [gm_open hT]
  simp only [runDf, d1, startE]
  cases s <;> simp -implicitDefEqProofs [evSs, evS, evX, evRs, ev, evs, evV, evB, evC, evO, evI_seq, evI_zip, evI_rng1, evI_rng2, evI_rng3, evI_fns, endV, seqF, bnd_ret, getV, getF, getL, frz, thaw, isR, lft, noEx_ret, RV.toD, RV.toV, isTy, toB, toI, toS, cop, bop, gOrd, gAdd, gSub, itemsOf, wipeE, bindT, tst, Function.comp_apply, gIx0, gIx1, gIx2, puts, putRV, isL, chg_eq, sE_tt, sE_tw, sE_tf, sE_tr, sE_wt, sE_ww, sE_wf, sE_wr, sE_ft, sE_fw, sE_ff, sE_fr, sE_rt, sE_rw, sE_rf, sE_rr, St.d]
theorem x_planSteps (d : Nat) (ss : List St) (hn : ss.length ≤ 12) : Gm T (d+2) 5 [.dat (.tuple (ss.map St.d))] = ret (.d (.bool false)) := by
  have h2 : ∀ a b : St, ss = [a, b] → Gm T (d+2) 5 [.dat (.tuple (ss.map St.d))] = ret (.d (.bool false)) := fun a b e => by
    subst e
    have hs := x_setStep d a
    have hT : T[5]? = some d5 := rfl
    rw [gm_open hT]
    simp only [runDf, d5, startE]
    simp -implicitDefEqProofs [evSs, evS, evX, evRs, ev, evs, evV, evB, evC, evO, evI_seq, evI_zip, evI_rng1, evI_rng2, evI_rng3, evI_fns, endV, seqF, bnd_ret, getV, getF, getL, frz, thaw, isR, lft, noEx_ret, RV.toD, RV.toV, isTy, toB, toI, toS, cop, bop, gOrd, gAdd, gSub, itemsOf, wipeE, bindT, tst, Function.comp_apply, gIx0, gIx1, gIx2, puts, putRV, isL, chg_eq, sE_tt, sE_tw, sE_tf, sE_tr, sE_wt, sE_ww, sE_wf, sE_wr, sE_ft, sE_fw, sE_ff, sE_fr, sE_rt, sE_rw, sE_rf, sE_rr, hs, gBf, gEqInt]
  by_cases hl : ss.length = 2
  · match ss, hl with
    | [a, b], _ => exact h2 a b rfl
  · have e : ¬ (ss.length : Int) = 2 := by omega
    have hT : T[5]? = some d5 := rfl
    rw [gm_open hT]
    simp only [runDf, d5, startE]
    simp -implicitDefEqProofs [evSs, evS, evX, evRs, ev, evs, evV, evB, evC, evO, evI_seq, evI_zip, evI_rng1, evI_rng2, evI_rng3, evI_fns, endV, seqF, bnd_ret, getV, getF, getL, frz, thaw, isR, lft, noEx_ret, RV.toD, RV.toV, isTy, toB, toI, toS, cop, bop, gOrd, gAdd, gSub, itemsOf, wipeE, bindT, tst, Function.comp_apply, gIx0, gIx1, gIx2, puts, putRV, isL, chg_eq, sE_tt, sE_tw, sE_tf, sE_tr, sE_wt, sE_ww, sE_wf, sE_wr, sE_ft, sE_fw, sE_ff, sE_fr, sE_rt, sE_rw, sE_rf, sE_rr, gBf, gEqInt, e]
theorem x_plan0 (d : Nat) : Gm T (d+2) 5 [.dat (.int 0)] = ret (.d (.bool false)) := by
  have hT : T[5]? = some d5 := rfl
  rw [gm_open hT]
  simp only [runDf, d5, startE]
  simp -implicitDefEqProofs [evSs, evS, evX, evRs, ev, evs, evV, evB, evC, evO, evI_seq, evI_zip, evI_rng1, evI_rng2, evI_rng3, evI_fns, endV, seqF, bnd_ret, getV, getF, getL, frz, thaw, isR, lft, noEx_ret, RV.toD, RV.toV, isTy, toB, toI, toS, cop, bop, gOrd, gAdd, gSub, itemsOf, wipeE, bindT, tst, Function.comp_apply, gIx0, gIx1, gIx2, puts, putRV, isL, chg_eq, sE_tt, sE_tw, sE_tf, sE_tr, sE_wt, sE_ww, sE_wf, sE_wr, sE_ft, sE_fw, sE_ff, sE_fr, sE_rt, sE_rw, sE_rf, sE_rr]
theorem x_bends (d : Nat) (ss : List St) (hn : ss.length ≤ 12) : Gm T (d+4) 35 [.dat (.tuple (ss.map St.d))] = raise 1 none := by
  have hp : Gm T (d+3) 6 [.dat (.tuple (ss.map St.d))] = raise 1 none := by
    have hq := x_planSteps d ss hn
    have hT : T[6]? = some d6 := rfl
    rw [gm_open hT]
    simp only [runDf, d6, startE]
    simp -implicitDefEqProofs [evSs, evS, evX, evRs, ev, evs, evV, evB, evC, evO, evI_seq, evI_zip, evI_rng1, evI_rng2, evI_rng3, evI_fns, endV, seqF, bnd_ret, getV, getF, getL, frz, thaw, isR, lft, noEx_ret, RV.toD, RV.toV, isTy, toB, toI, toS, cop, bop, gOrd, gAdd, gSub, itemsOf, wipeE, bindT, tst, Function.comp_apply, gIx0, gIx1, gIx2, puts, putRV, isL, chg_eq, sE_tt, sE_tw, sE_tf, sE_tr, sE_wt, sE_ww, sE_wf, sE_wr, sE_ft, sE_fw, sE_ff, sE_fr, sE_rt, sE_rw, sE_rf, sE_rr, hq, bnd_ex]
  have hT : T[35]? = some d35 := rfl
  rw [gm_open hT]
  simp only [runDf, d35, startE]
  simp -implicitDefEqProofs [evSs, evS, evX, evRs, ev, evs, evV, evB, evC, evO, evI_seq, evI_zip, evI_rng1, evI_rng2, evI_rng3, evI_fns, endV, seqF, bnd_ret, getV, getF, getL, frz, thaw, isR, lft, noEx_ret, RV.toD, RV.toV, isTy, toB, toI, toS, cop, bop, gOrd, gAdd, gSub, itemsOf, wipeE, bindT, tst, Function.comp_apply, gIx0, gIx1, gIx2, puts, putRV, isL, chg_eq, sE_tt, sE_tw, sE_tf, sE_tr, sE_wt, sE_ww, sE_wf, sE_wr, sE_ft, sE_fw, sE_ff, sE_fr, sE_rt, sE_rw, sE_rf, sE_rr, hp, bnd_ex]
theorem x_jumps0 (d : Nat) : Gm T (d+4) 36 [.dat (.int 0)] = raise 1 none := by
  have hp : Gm T (d+3) 6 [.dat (.int 0)] = raise 1 none := by
    have hq := x_plan0 d
    have hT : T[6]? = some d6 := rfl
    rw [gm_open hT]
    simp only [runDf, d6, startE]
    simp -implicitDefEqProofs [evSs, evS, evX, evRs, ev, evs, evV, evB, evC, evO, evI_seq, evI_zip, evI_rng1, evI_rng2, evI_rng3, evI_fns, endV, seqF, bnd_ret, getV, getF, getL, frz, thaw, isR, lft, noEx_ret, RV.toD, RV.toV, isTy, toB, toI, toS, cop, bop, gOrd, gAdd, gSub, itemsOf, wipeE, bindT, tst, Function.comp_apply, gIx0, gIx1, gIx2, puts, putRV, isL, chg_eq, sE_tt, sE_tw, sE_tf, sE_tr, sE_wt, sE_ww, sE_wf, sE_wr, sE_ft, sE_fw, sE_ff, sE_fr, sE_rt, sE_rw, sE_rf, sE_rr, hq, bnd_ex]
  have hT : T[36]? = some d36 := rfl
  rw [gm_open hT]
  simp only [runDf, d36, startE]
  simp -implicitDefEqProofs [evSs, evS, evX, evRs, ev, evs, evV, evB, evC, evO, evI_seq, evI_zip, evI_rng1, evI_rng2, evI_rng3, evI_fns, endV, seqF, bnd_ret, getV, getF, getL, frz, thaw, isR, lft, noEx_ret, RV.toD, RV.toV, isTy, toB, toI, toS, cop, bop, gOrd, gAdd, gSub, itemsOf, wipeE, bindT, tst, Function.comp_apply, gIx0, gIx1, gIx2, puts, putRV, isL, chg_eq, sE_tt, sE_tw, sE_tf, sE_tr, sE_wt, sE_ww, sE_wf, sE_wr, sE_ft, sE_fw, sE_ff, sE_fr, sE_rt, sE_rw, sE_rf, sE_rr, hp, bnd_ex]
theorem gEqFirst (s : St) : gEq s.d (.tuple [.str "first"]) = some (decide (s = .first)) := by
  have ok : ∀ z : St, Okd 2 z.d := fun z => by
    cases z <;> exact Okd.tuple fun x hx => by
      simp only [List.mem_cons, List.not_mem_nil, or_false] at hx
      rcases hx with rfl | rfl <;> first | exact .int _ | exact .str (by decide +kernel)
  have e : (PyData.tuple [.str "first"]) = (St.first).d := rfl
  rw [e, gEq, if_pos ⟨(ok s).shaped (by omega), (ok .first).shaped (by omega)⟩]
  cases s with
  | turn i => simp [St.d, PyData.eqv, PyData.eqvAll]
  | wait i => simp [St.d, PyData.eqv, PyData.eqvAll]
  | first => simp [St.d, PyData.eqv, PyData.eqvAll]
  | ring =>
    have : PyData.eqv (St.ring).d (St.first).d = false := by decide +kernel
    rw [this]
    simp
theorem w_law (d : Nat) (ns : List Int) (hl : ns.length ≤ 63) (S : Sto) : Wp (Gm T (d+45) 60 [.dat (.list (iL ns))]) S (fun v _ => v = .d (.bool true)) := by
  have hT : T[60]? = some d60 := rfl
  rw [gm_open hT]
  simp only [runDf, d60, startE, List.length_cons, List.length_nil, Nat.zero_add, if_true, reduceIte, Nat.reduceAdd, List.map_cons, List.map_nil, List.cons_append, List.nil_append, Nat.reduceSub, List.replicate_succ, List.replicate_zero, wp_bnd]
  have hm : ∃ m : Nat, m ≤ 10 ∧ (if 5 < (if (ns.length : Int) < 9 then (ns.length : Int) else 9) then (if (ns.length : Int) < 9 then (ns.length : Int) else 9) else 5) = (m : Int) := by
    refine ⟨(if 5 < (if (ns.length : Int) < 9 then (ns.length : Int) else 9) then (if (ns.length : Int) < 9 then (ns.length : Int) else 9) else 5).toNat, ?_, ?_⟩ <;> (split <;> split <;> omega)
  obtain ⟨m, hm10, hm⟩ := hm
  rw [wps_cons]
  simp -implicitDefEqProofs [wps_nil, seqF_nx, seqF_ret, seqF_brk, seqF_cont, wp_bnd, wp_ret, evS, evX, evRs, ev, evs, evV, evB, evC, evO, evI_seq, evI_zip, evI_rng1, evI_rng2, evI_rng3, evI_fns, endV, bnd_ret, getV, getF, getL, frz, thaw, isR, lft, noEx_ret, RV.toD, RV.toV, isTy, toB, toI, toS, cop, bop, gOrd, gAdd, gSub, itemsOf, wipeE, bindT, tst, Function.comp_apply, gIx0, gIx1, gIx2, puts, putRV, isL, chg_eq, sE_tt, sE_tw, sE_tf, sE_tr, sE_wt, sE_ww, sE_wf, sE_wr, sE_ft, sE_fw, sE_ff, sE_fr, sE_rt, sE_rw, sE_rf, sE_rr, gBf, hm, rngM_nat (n := m) (by omega)]
  refine wp_mono (forV_wp (P := fun pre env S' => ∃ s1 s2 s3 s4 s5 s6 s7 s8, env = [.vl (.dat (.list (iL ns))), s1, s2, s3, s4, s5, s6, s7, s8]) ?_ ⟨_, _, _, _, _, _, _, _, rfl⟩) ?_
  · rintro pre k post env S1 hpre ⟨s1, s2, s3, s4, s5, s6, s7, s8, rfl⟩
    refine ⟨_, rfl, ?_⟩
    have hk : k < m := by
      have : k ∈ List.range m := by rw [hpre]; simp
      simpa using this
    rw [wps_cons]
    simp -implicitDefEqProofs [wps_nil, seqF_nx, seqF_ret, seqF_brk, seqF_cont, wp_bnd, wp_ret, evS, evX, evRs, ev, evs, evV, evB, evC, evO, evI_seq, evI_zip, evI_rng1, evI_rng2, evI_rng3, evI_fns, endV, bnd_ret, getV, getF, getL, frz, thaw, isR, lft, noEx_ret, RV.toD, RV.toV, isTy, toB, toI, toS, cop, bop, gOrd, gAdd, gSub, itemsOf, wipeE, bindT, tst, Function.comp_apply, gIx0, gIx1, gIx2, puts, putRV, isL, chg_eq, sE_tt, sE_tw, sE_tf, sE_tr, sE_wt, sE_ww, sE_wf, sE_wr, sE_ft, sE_fw, sE_ff, sE_fr, sE_rt, sE_rw, sE_rf, sE_rr]
    refine wp_mono (w_vat (d+43) ns k S1 (by omega)) ?_
    rintro v S1' ⟨rfl, a, b, rfl, ha, hb, hb'⟩
    simp -implicitDefEqProofs [wps_nil, seqF_nx, seqF_ret, seqF_brk, seqF_cont, wp_bnd, wp_ret, evS, evX, evRs, ev, evs, evV, evB, evC, evO, evI_seq, evI_zip, evI_rng1, evI_rng2, evI_rng3, evI_fns, endV, bnd_ret, getV, getF, getL, frz, thaw, isR, lft, noEx_ret, RV.toD, RV.toV, isTy, toB, toI, toS, cop, bop, gOrd, gAdd, gSub, itemsOf, wipeE, bindT, tst, Function.comp_apply, gIx0, gIx1, gIx2, puts, putRV, isL, chg_eq, sE_tt, sE_tw, sE_tf, sE_tr, sE_wt, sE_ww, sE_wf, sE_wr, sE_ft, sE_fw, sE_ff, sE_fr, sE_rt, sE_rw, sE_rf, sE_rr, noLs, noL, noR, wp_fun]
    have hv : Vat S1'.length (S1' ++ [Ob.lst [.int a, .int b]]) := ⟨a, b, by simp, ha, hb, hb'⟩
    generalize S1' ++ [Ob.lst [.int a, .int b]] = S2 at hv ⊢
    generalize S1'.length = n at hv ⊢
    rw [wps_cons]
    simp -implicitDefEqProofs [wps_nil, seqF_nx, seqF_ret, seqF_brk, seqF_cont, wp_bnd, wp_ret, evS, evX, evRs, ev, evs, evV, evB, evC, evO, evI_seq, evI_zip, evI_rng1, evI_rng2, evI_rng3, evI_fns, endV, bnd_ret, getV, getF, getL, frz, thaw, isR, lft, noEx_ret, RV.toD, RV.toV, isTy, toB, toI, toS, cop, bop, gOrd, gAdd, gSub, itemsOf, wipeE, bindT, tst, Function.comp_apply, gIx0, gIx1, gIx2, puts, putRV, isL, chg_eq, sE_tt, sE_tw, sE_tf, sE_tr, sE_wt, sE_ww, sE_wf, sE_wr, sE_ft, sE_fw, sE_ff, sE_fr, sE_rt, sE_rw, sE_rf, sE_rr]
    refine wp_mono (w_plan (d+39) n 12 3 S2 (by omega) (by omega) (by omega) hv) ?_
    rintro v S3 ⟨hv3, ks, ss, h1, h3, hn, hok, rfl⟩
    simp -implicitDefEqProofs [wps_nil, seqF_nx, seqF_ret, seqF_brk, seqF_cont, wp_bnd, wp_ret, evS, evX, evRs, ev, evs, evV, evB, evC, evO, evI_seq, evI_zip, evI_rng1, evI_rng2, evI_rng3, evI_fns, endV, bnd_ret, getV, getF, getL, frz, thaw, isR, lft, noEx_ret, RV.toD, RV.toV, isTy, toB, toI, toS, cop, bop, gOrd, gAdd, gSub, itemsOf, wipeE, bindT, tst, Function.comp_apply, gIx0, gIx1, gIx2, puts, putRV, isL, chg_eq, sE_tt, sE_tw, sE_tf, sE_tr, sE_wt, sE_ww, sE_wf, sE_wr, sE_ft, sE_fw, sE_ff, sE_fr, sE_rt, sE_rw, sE_rf, sE_rr]
    rw [wps_cons]
    generalize hcs : ss.filter (fun s => decide (s ≠ .first)) = cs
    have hcl : cs.length ≤ 12 := by rw [← hcs]; exact Nat.le_trans (List.length_filter_le ..) hn
    have hcok : ∀ s ∈ cs, s.ok ks.length := fun s hs => hok s (by rw [← hcs] at hs; exact (List.mem_filter.mp hs).1)
    have hcf : ∀ s ∈ cs, s ≠ .first := fun s hs => by rw [← hcs] at hs; simpa using (List.mem_filter.mp hs).2
    simp -implicitDefEqProofs [wps_nil, seqF_nx, seqF_ret, seqF_brk, seqF_cont, wp_bnd, wp_ret, evS, evX, evRs, ev, evs, evV, evB, evC, evO, evI_seq, evI_zip, evI_rng1, evI_rng2, evI_rng3, evI_fns, endV, bnd_ret, getV, getF, getL, frz, thaw, isR, lft, noEx_ret, RV.toD, RV.toV, isTy, toB, toI, toS, cop, bop, gOrd, gAdd, gSub, itemsOf, wipeE, bindT, tst, Function.comp_apply, gIx0, gIx1, gIx2, puts, putRV, isL, chg_eq, sE_tt, sE_tw, sE_tf, sE_tr, sE_wt, sE_ww, sE_wf, sE_wr, sE_ft, sE_fw, sE_ff, sE_fr, sE_rt, sE_rw, sE_rf, sE_rr]
    rw [mapV_pure (e := Vl.dat ∘ St.d) (g := fun s => if decide (s ≠ .first) = true then some s.d else none)]
    · rw [fm_filter, hcs]
      simp -implicitDefEqProofs [wps_nil, seqF_nx, seqF_ret, seqF_brk, seqF_cont, wp_bnd, wp_ret, evS, evX, evRs, ev, evs, evV, evB, evC, evO, evI_seq, evI_zip, evI_rng1, evI_rng2, evI_rng3, evI_fns, endV, bnd_ret, getV, getF, getL, frz, thaw, isR, lft, noEx_ret, RV.toD, RV.toV, isTy, toB, toI, toS, cop, bop, gOrd, gAdd, gSub, itemsOf, wipeE, bindT, tst, Function.comp_apply, gIx0, gIx1, gIx2, puts, putRV, isL, chg_eq, sE_tt, sE_tw, sE_tf, sE_tr, sE_wt, sE_ww, sE_wf, sE_wr, sE_ft, sE_fw, sE_ff, sE_fr, sE_rt, sE_rw, sE_rf, sE_rr, sizeLine, show cs.length ≤ 16777216 by omega, gBf]
      rw [wps_cons]
      simp -implicitDefEqProofs [wps_nil, seqF_nx, seqF_ret, seqF_brk, seqF_cont, wp_bnd, wp_ret, evS, evX, evRs, ev, evs, evV, evB, evC, evO, evI_seq, evI_zip, evI_rng1, evI_rng2, evI_rng3, evI_fns, endV, bnd_ret, getV, getF, getL, frz, thaw, isR, lft, noEx_ret, RV.toD, RV.toV, isTy, toB, toI, toS, cop, bop, gOrd, gAdd, gSub, itemsOf, wipeE, bindT, tst, Function.comp_apply, gIx0, gIx1, gIx2, puts, putRV, isL, chg_eq, sE_tt, sE_tw, sE_tf, sE_tr, sE_wt, sE_ww, sE_wf, sE_wr, sE_ft, sE_fw, sE_ff, sE_fr, sE_rt, sE_rw, sE_rf, sE_rr]
      refine wp_mono (forV_wp (e := fun ss : List St => Vl.dat (.tuple [kD ks, .tuple (ss.map St.d)])) (xs := [ss, cs]) (P := fun pre env S' => ∃ s6 s7 s8, env = [.vl (.dat (.list (iL ns))), .vl (natV k), s2, .vl (.dat (.tuple [kD ks, .tuple (ss.map St.d)])), .vl (.loc n), .vl (.dat (.tuple [kD ks, .tuple (cs.map St.d)])), s6, s7, s8]) ?_ ⟨_, _, _, rfl⟩) ?_
      · rintro pre ps post env S4 hx ⟨s6, s7, s8, rfl⟩
        refine ⟨_, rfl, ?_⟩
        have hps : ps = ss ∨ ps = cs := by
          have : ps ∈ [ss, cs] := by rw [hx]; simp
          simpa using this
        have hpl : ps.length ≤ 12 := by rcases hps with rfl | rfl <;> assumption
        have hpo : ∀ s ∈ ps, s.ok ks.length := by rcases hps with rfl | rfl <;> assumption
        have q1 := t_lKinks d ks ps h1 h3 hpl hpo
        have q2 := t_bends (d+30) ks ps h1 h3 hpl hpo
        have q3 := t_jumps (d+30) ks ps h1 h3 hpl hpo
        have g1 := gEqFs (bendM ks ps)
        have g2 := gEqFs (jumpM ks ps)
        generalize (bendM ks ps).map fD = z1 at q1 q2 g1
        generalize (jumpM ks ps).map fD = z2 at q1 q3 g2
        rw [wps_cons]
        simp -implicitDefEqProofs [wps_nil, seqF_nx, seqF_ret, seqF_brk, seqF_cont, wp_bnd, wp_ret, evS, evX, evRs, ev, evs, evV, evB, evC, evO, evI_seq, evI_zip, evI_rng1, evI_rng2, evI_rng3, evI_fns, endV, bnd_ret, getV, getF, getL, frz, thaw, isR, lft, noEx_ret, RV.toD, RV.toV, isTy, toB, toI, toS, cop, bop, gOrd, gAdd, gSub, itemsOf, wipeE, bindT, tst, Function.comp_apply, gIx0, gIx1, gIx2, puts, putRV, isL, chg_eq, sE_tt, sE_tw, sE_tf, sE_tr, sE_wt, sE_ww, sE_wf, sE_wr, sE_ft, sE_fw, sE_ff, sE_fr, sE_rt, sE_rw, sE_rf, sE_rr, q1]
        rw [wps_cons]
        simp -implicitDefEqProofs [wps_cons, wps_nil, seqF_nx, seqF_ret, seqF_brk, seqF_cont, wp_bnd, wp_ret, evS, evX, evRs, ev, evs, evV, evB, evC, evO, evI_seq, evI_zip, evI_rng1, evI_rng2, evI_rng3, evI_fns, endV, bnd_ret, getV, getF, getL, frz, thaw, isR, lft, noEx_ret, RV.toD, RV.toV, isTy, toB, toI, toS, cop, bop, gOrd, gAdd, gSub, itemsOf, wipeE, bindT, tst, Function.comp_apply, gIx0, gIx1, gIx2, puts, putRV, isL, chg_eq, sE_tt, sE_tw, sE_tf, sE_tr, sE_wt, sE_ww, sE_wf, sE_wr, sE_ft, sE_fw, sE_ff, sE_fr, sE_rt, sE_rw, sE_rf, sE_rr, q2, q3, g1, g2]
      · rintro ⟨f, env⟩ S4 ⟨hf, s6, s7, s8, rfl⟩
        cases hf
        have q4 := t_jumps (d+30) ks cs h1 h3 hcl hcok
        rw [jumpM_calm h3 hcl hcok hcf] at q4
        have g0 : gEq (.list []) (.list []) = some true := gEqFs []
        have x1 := x_bends (d+40) ss hn
        have x2 := x_jumps0 (d+40)
        generalize PyData.tuple (ss.map St.d) = pt at x1 ⊢
        rw [seqF_nx, wps_cons]
        simp -implicitDefEqProofs [wps_nil, seqF_nx, seqF_ret, seqF_brk, seqF_cont, wp_bnd, wp_ret, evS, evX, evRs, ev, evs, evV, evB, evC, evO, evI_seq, evI_zip, evI_rng1, evI_rng2, evI_rng3, evI_fns, endV, bnd_ret, getV, getF, getL, frz, thaw, isR, lft, noEx_ret, RV.toD, RV.toV, isTy, toB, toI, toS, cop, bop, gOrd, gAdd, gSub, itemsOf, wipeE, bindT, tst, Function.comp_apply, gIx0, gIx1, gIx2, puts, putRV, isL, chg_eq, sE_tt, sE_tw, sE_tf, sE_tr, sE_wt, sE_ww, sE_wf, sE_wr, sE_ft, sE_fw, sE_ff, sE_fr, sE_rt, sE_rw, sE_rf, sE_rr, q4, g0]
        rw [wps_cons]
        simp -implicitDefEqProofs [wps_nil, seqF_nx, seqF_ret, seqF_brk, seqF_cont, wp_bnd, wp_ret, evS, evX, evRs, ev, evs, evV, evB, evC, evO, evI_seq, evI_zip, evI_rng1, evI_rng2, evI_rng3, evI_fns, endV, bnd_ret, getV, getF, getL, frz, thaw, isR, lft, noEx_ret, RV.toD, RV.toV, isTy, toB, toI, toS, cop, bop, gOrd, gAdd, gSub, itemsOf, wipeE, bindT, tst, Function.comp_apply, gIx0, gIx1, gIx2, puts, putRV, isL, chg_eq, sE_tt, sE_tw, sE_tf, sE_tr, sE_wt, sE_ww, sE_wf, sE_wr, sE_ft, sE_fw, sE_ff, sE_fr, sE_rt, sE_rw, sE_rf, sE_rr, x1, told_1, sV_1]
        rw [wps_cons]
        simp -implicitDefEqProofs [wps_cons, wps_nil, seqF_nx, seqF_ret, seqF_brk, seqF_cont, wp_bnd, wp_ret, evS, evX, evRs, ev, evs, evV, evB, evC, evO, evI_seq, evI_zip, evI_rng1, evI_rng2, evI_rng3, evI_fns, endV, bnd_ret, getV, getF, getL, frz, thaw, isR, lft, noEx_ret, RV.toD, RV.toV, isTy, toB, toI, toS, cop, bop, gOrd, gAdd, gSub, itemsOf, wipeE, bindT, tst, Function.comp_apply, gIx0, gIx1, gIx2, puts, putRV, isL, chg_eq, sE_tt, sE_tw, sE_tf, sE_tr, sE_wt, sE_ww, sE_wf, sE_wr, sE_ft, sE_fw, sE_ff, sE_fr, sE_rt, sE_rw, sE_rf, sE_rr, x2, told_1, sV_1]
    · intro s _
      have h := gEqFirst s
      by_cases c : s = .first
      · subst c
        simp -implicitDefEqProofs [evSs, evS, evX, evRs, ev, evs, evV, evB, evC, evO, evI_seq, evI_zip, evI_rng1, evI_rng2, evI_rng3, evI_fns, endV, seqF, bnd_ret, getV, getF, getL, frz, thaw, isR, lft, noEx_ret, RV.toD, RV.toV, isTy, toB, toI, toS, cop, bop, gOrd, gAdd, gSub, itemsOf, wipeE, bindT, tst, Function.comp_apply, gIx0, gIx1, gIx2, puts, putRV, isL, chg_eq, sE_tt, sE_tw, sE_tf, sE_tr, sE_wt, sE_ww, sE_wf, sE_wr, sE_ft, sE_fw, sE_ff, sE_fr, sE_rt, sE_rw, sE_rf, sE_rr, h]
      · simp -implicitDefEqProofs [evSs, evS, evX, evRs, ev, evs, evV, evB, evC, evO, evI_seq, evI_zip, evI_rng1, evI_rng2, evI_rng3, evI_fns, endV, seqF, bnd_ret, getV, getF, getL, frz, thaw, isR, lft, noEx_ret, RV.toD, RV.toV, isTy, toB, toI, toS, cop, bop, gOrd, gAdd, gSub, itemsOf, wipeE, bindT, tst, Function.comp_apply, gIx0, gIx1, gIx2, puts, putRV, isL, chg_eq, sE_tt, sE_tw, sE_tf, sE_tr, sE_wt, sE_ww, sE_wf, sE_wr, sE_ft, sE_fw, sE_ff, sE_fr, sE_rt, sE_rw, sE_rf, sE_rr, h, c]
  · rintro ⟨f, env⟩ S4 ⟨hf, s1, s2, s3, s4, s5, s6, s7, s8, rfl⟩
    cases hf
    rw [seqF_nx, wps_cons]
    simp -implicitDefEqProofs [wps_nil, seqF_nx, seqF_ret, seqF_brk, seqF_cont, wp_bnd, wp_ret, evS, evX, evRs, ev, evs, evV, evB, evC, evO, evI_seq, evI_zip, evI_rng1, evI_rng2, evI_rng3, evI_fns, endV, bnd_ret, getV, getF, getL, frz, thaw, isR, lft, noEx_ret, RV.toD, RV.toV, isTy, toB, toI, toS, cop, bop, gOrd, gAdd, gSub, itemsOf, wipeE, bindT, tst, Function.comp_apply, gIx0, gIx1, gIx2, puts, putRV, isL, chg_eq, sE_tt, sE_tw, sE_tf, sE_tr, sE_wt, sE_ww, sE_wf, sE_wr, sE_ft, sE_fw, sE_ff, sE_fr, sE_rt, sE_rw, sE_rf, sE_rr]
    rw [wps_cons]
    have e : PyData.str (Str.ofString "pq") = kD [false, true] := congrArg PyData.str (by decide +kernel)
    have q1 := t_bends (d+30) [false, true] [.turn 0, .turn 1, .wait 0, .turn 0, .first, .ring] (by simp) (by simp) (by simp) (by simp [St.ok])
    have q2 := t_jumps (d+30) [false, true] [.turn 0, .turn 1, .wait 0, .turn 0, .first, .ring, .wait 1, .ring] (by simp) (by simp) (by simp) (by simp [St.ok])
    have r1 : bendM [false, true] [.turn 0, .turn 1, .wait 0, .turn 0, .first, .ring] = [(1, 2)] := by decide +kernel
    have r2 : jumpM [false, true] [.turn 0, .turn 1, .wait 0, .turn 0, .first, .ring, .wait 1, .ring] = [(1, 1)] := by decide +kernel
    rw [r1] at q1
    rw [r2] at q2
    have g1 := gEqFs [(1, 2)]
    have g2 := gEqFs [(1, 1)]
    simp [St.d] at q1 q2
    simp at g1 g2
    simp -implicitDefEqProofs [wps_nil, seqF_nx, seqF_ret, seqF_brk, seqF_cont, wp_bnd, wp_ret, evS, evX, evRs, ev, evs, evV, evB, evC, evO, evI_seq, evI_zip, evI_rng1, evI_rng2, evI_rng3, evI_fns, endV, bnd_ret, getV, getF, getL, frz, thaw, isR, lft, noEx_ret, RV.toD, RV.toV, isTy, toB, toI, toS, cop, bop, gOrd, gAdd, gSub, itemsOf, wipeE, bindT, tst, Function.comp_apply, gIx0, gIx1, gIx2, puts, putRV, isL, chg_eq, sE_tt, sE_tw, sE_tf, sE_tr, sE_wt, sE_ww, sE_wf, sE_wr, sE_ft, sE_fw, sE_ff, sE_fr, sE_rt, sE_rw, sE_rf, sE_rr, sizeLine]
    rw [e, wps_cons]
    simp -implicitDefEqProofs [wps_cons, wps_nil, seqF_nx, seqF_ret, seqF_brk, seqF_cont, wp_bnd, wp_ret, evS, evX, evRs, ev, evs, evV, evB, evC, evO, evI_seq, evI_zip, evI_rng1, evI_rng2, evI_rng3, evI_fns, endV, bnd_ret, getV, getF, getL, frz, thaw, isR, lft, noEx_ret, RV.toD, RV.toV, isTy, toB, toI, toS, cop, bop, gOrd, gAdd, gSub, itemsOf, wipeE, bindT, tst, Function.comp_apply, gIx0, gIx1, gIx2, puts, putRV, isL, chg_eq, sE_tt, sE_tw, sE_tf, sE_tr, sE_wt, sE_ww, sE_wf, sE_wr, sE_ft, sE_fw, sE_ff, sE_fr, sE_rt, sE_rw, sE_rf, sE_rr, gSl, cutD, HT.sIx, sizeLine, q1, g1, q2, g2]
theorem pure : ∀ ns : List Int, ns.length ≤ 63 → ∃ S', Gm T 60 lawI [.dat (.list (ns.map .int))] [] = some (.ok (.d (.bool true)) S') := fun ns hl => by
  obtain ⟨v, S', e, rfl⟩ := w_law 15 ns hl []
  exact ⟨S', e⟩
end G05

-- F05
set_option maxRecDepth 100000
set_option maxHeartbeats 0
open PySem PySem.W PySem.Calls PyProof.Rows
theorem PySem.Challenge.cw_glassrings_k05_whole_bends_and_jumps_holds : PySem.Challenge.rw_glassrings_k05_whole_bends_and_jumps.Holds := by
  w_on; o_law
  refine HandSHeadRun.head_any (r := OpenLaw.row PySem.Challenge.rw_glassrings_k05_whole_bends_and_jumps) (q := view (OpenLaw.row PySem.Challenge.rw_glassrings_k05_whole_bends_and_jumps).prog [G05.lawTop]) (H := G05.hk) (ob := G05.ob) (M := 20000) (loose := G05.loose) (d := HandSHeadRun.topDef (OpenLaw.row PySem.Challenge.rw_glassrings_k05_whole_bends_and_jumps).prog G05.lawTop) (kwd := []) G05.ob_eq
    (by kernel_rfl) (fun s => by kernel_rfl) G05.run (by kernel_rfl) (by kernel_rfl) (by kernel_rfl) (by rfl) (by first | assumption | decide +kernel) (by decide +kernel) ⟨rfl, rfl, rfl, rfl, rfl, by decide +kernel⟩ ?hw ?hc
  case hw => w_witness2
  case hc =>
    refine LamX.walk_ofTsE (l := PySem.Challenge.rw_glassrings_k05_whole_bends_and_jumps) (n := 63) (k := 3 * 60) (x := "script") (CX := fun w => L2N.CX (PySem.Challenge.rw_glassrings_k05_whole_bends_and_jumps).prog w) rfl (by decide) (by kernel_rfl) ⟨rfl, by decide, by decide⟩ ?F (fun w H s e s' z => by obtain ⟨_, _, _, _, _, _, _, _, _, _, _, _, z⟩ := z; exact z)
    intro w mg fa h Y GG hmg0
    obtain ⟨K, KX, c⟩ := Y
    have hmg : mg ("law" : PySem.Str) = some (.ref fa) := by
      have e : (HandSHeadRun.topDef (OpenLaw.row PySem.Challenge.rw_glassrings_k05_whole_bends_and_jumps).prog G05.lawTop).name = ("law" : PySem.Str) := by kernel_rfl
      rw [← e]
      exact hmg0
    exact ⟨K, KX, G.law_at (dep := 60) (lawg := G05.lawI) (f := G05.T.getD G05.lawI ⟨"", 0, [], .nil, false⟩) (d := G05.ds.getD G05.lawI G05.dn) KX GG c G05.chk (by kernel_rfl) (by kernel_rfl) (by kernel_rfl) (by kernel_rfl) hmg G05.pure⟩

