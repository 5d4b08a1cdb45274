import PyProof.Rows.All
import Wide.All
import OpenK.AllK
import Wide.FinOn
import PySem.Challenge.RW_shelfcredits_k11_whole_bounds_by_all_tru
import HandS.ForSpec
import HandS.Defaults
import HandS.Head2
import HandS.HeadEnd
import HandS.HeadHook4
import HandS.HeadWalk
import HandS.NestedK
import HandS.Lambda
import HandS.TupAny
import HandS.TupLe
import HandS.Wide
import HandS.Style
import HandS.IsInst
import HandS.Deep
import HandS.TupMul
import KE.DataMinMax
import HandS.Hot
import HandS.HotCalls
import HandS.Comp
import HandS.Walk
import HandS.CallSlots
import HandS.ExcCtx
import HandS.Iter
import KE.GoesEnum
import KE.GoesZip
import HandS.Set
import HandS.Strs
import HandS.TupSets
import HandS.Zip
import KE.KDictZip
import KE.KDictList
import HandS.ExcIs
import HandS.Text
set_option Elab.async false
set_option linter.all false
set_option maxRecDepth 100000
/-! Pv1: pure data, the small language and its evaluator. No program in sight. -/
namespace Pv
open PySem

/-- pure data: fn k the k-th def of the table, cls k the k-th class, ty a built-in type, cell k the k-th cell of the store, exc k an exception of class k -/
inductive D where
  | non | bl (b : Bool) | int (i : Int) | str (s : Str)
  | tup (l : List D) | lst (l : List D) | scr (l : List Int)
  | fn (k : Nat) | cls (k : Nat) | ty (n : String) | cell (k : Nat)

inductive Bop where | add | sub | mul | fdiv | mod | pow
  deriving DecidableEq
inductive Cop where | eq | ne | lt | le | gt | ge | isin | notin | is | isnt
  deriving DecidableEq
inductive Blt where
  | len | sum | all | any | isinst | max | min | list | tuple | int | bool | str | sorted | set
  deriving DecidableEq
inductive Mth where | index | join
  deriving DecidableEq

/-- targets -/
inductive G where
  | nil | cons (g gs : G)
  | nm (i : Nat)
  | tup (gs : G)

/-- expressions; nil, cons: lists of such; walk .. rng2: what a for walks; non, som: optional ones -/
inductive E where
  | nil | cons (e es : E)
  | non | som (e : E)
  | var (i : Nat) | bvar (i : Nat)
  | lit (d : D) | glb (x : Str) (d : D)
  | bin (op : Bop) (a b : E)
  | neg (a : E)
  | cmp (op : Cop) (a b : E)
  | chain (op op' : Cop) (a b c : E)
  | and (a b : E) | or (a b : E) | not (a : E)
  | ite (c a b : E)
  | tup (es : E) | lst (es : E)
  | call (k : Nat) (es : E) | callv (i : Nat) (es : E)
  | blt (b : Blt) (es : E)
  | mth (m : Mth) (o : E) (es : E)
  | ix (a i : E) | sl (a lo hi : E)
  | comp (own : List Nat) (g : G) (it cond elt : E)
  | walk (a : E) | zip (a b : E) | enum (a : E) | rng1 (a : E) | rng2 (a b : E)
  | lzip (a b : E)
  | sset (a : E)
  | refused (a : E)
  | newcell (es : E)
  | tst (a : E)

/-- statements -/
inductive T where
  | skip | seq (s t : T)
  | set (o : Bool) (i : Nat) (e : E) | setG (g : G) (e : E) | par (o o' : Bool) (i j : Nat) (a b : E) | par3 (o o' o'' : Bool) (i j k : Nat) (a b c : E)
  | frz (i : Nat)
  | setIx (i : Nat) (j e : E)
  | app (i : Nat) (e : E)
  | setCell (o j e : E)
  | drop (e : E)
  | ite (c : E) (s t : T)
  | forr (g : G) (it : E) (s : T)
  | whil (c : E) (s : T)
  | ret (e : E) | retN
  | brk | cont
  | rais (k : Nat) | raisT (k : Nat) (e : E)
  | tryW (i : Nat) (s : T) | tryN (ks : List Nat) (s : T) (d : D)

/-- a cell of the store -/
inductive Cell where
  | lst (l : List D)
abbrev Sto := List Cell
/-- a slot -/
inductive Sl where
  | un | v (d : D) | own (l : List D)
abbrev Env := List Sl

inductive Res (α : Type) where
  | ok (a : α) (S : Sto) | exc (k : Nat) (S : Sto) | bad
def Res.bind {α β : Type} (r : Res α) (f : α → Sto → Res β) : Res β := match r with
  | .ok a S => f a S
  | .exc k S => .exc k S
  | .bad => .bad
/-- a pure answer -/
def Res.lift {α : Type} (S : Sto) : Option α → Res α
  | some a => .ok a S
  | none => .bad

inductive Out where
  | nx (ρ : Env) (S : Sto) | rt (d : D) (S : Sto) | bk (ρ : Env) (S : Sto) | ct (ρ : Env) (S : Sto) | exc (k : Nat) (ρ : Env) (S : Sto) | bad

/-! ### data -/
def maxLen : Nat := 16777216
mutual
/-- == of data (None, bools, ints, texts, lists, tuples) -/
def deq : D → D → Bool
  | .non, .non => true
  | .bl a, .bl b => a == b
  | .bl a, .int j => (if a then 1 else 0) == j
  | .int i, .bl b => i == (if b then 1 else 0)
  | .int i, .int j => i == j
  | .str x, .str y => x == y
  | .lst xs, .lst ys => deqs xs ys
  | .tup xs, .tup ys => deqs xs ys
  | _, _ => false
def deqs : List D → List D → Bool
  | [], [] => true
  | x :: xs, y :: ys => deq x y && deqs xs ys
  | _, _ => false
end
mutual
/-- plain data, nested at most n deep -/
def plain : Nat → D → Bool
  | _, .non => true
  | _, .bl _ => true
  | _, .int _ => true
  | _, .str s => s.cps.all (· < 0x110000)
  | 0, .lst _ => false
  | 0, .tup _ => false
  | n + 1, .lst xs => plains n xs
  | n + 1, .tup xs => plains n xs
  | _, .fn _ => false
  | _, .cls _ => false
  | _, .ty _ => false
  | _, .cell _ => false
  | _, .scr _ => false
def plains : Nat → List D → Bool
  | _, [] => true
  | n, x :: xs => plain n x && plains n xs
end
def plainD (d : D) : Bool := plain 64 d

def lexLt : List Int → List Int → Bool
  | [], [] => false
  | [], _ :: _ => true
  | _ :: _, [] => false
  | x :: xs, y :: ys => if x = y then lexLt xs ys else decide (x < y)

def D.int? : D → Option Int
  | .int i => some i
  | _ => none
def D.bl? : D → Option Bool
  | .bl b => some b
  | _ => none
def D.tup? : D → Option (List D)
  | .tup l => some l
  | _ => none
def D.str? : D → Option Str
  | .str s => some s
  | _ => none
def allSome {α β : Type} (f : α → Option β) : List α → Option (List β)
  | [] => some []
  | x :: xs => (f x).bind fun y => (allSome f xs).map fun ys => y :: ys

/-- a list, as it stands -/
def seqL (S : Sto) : D → Option (List D)
  | .lst l => some l
  | .cell k => (match S[k]? with
    | some (.lst l) => some l
    | none => none)
  | _ => none
/-- a tuple, or a list as it stands -/
def seqI (S : Sto) : D → Option (List D)
  | .tup l => some l
  | d => seqL S d
/-- a list or a tuple -/
def seqOf (S : Sto) : D → Option (List D)
  | .scr l => some (l.map .int)
  | .lst l => some l
  | .tup l => some l
  | .cell k => (match S[k]? with
    | some (.lst l) => some l
    | none => none)
  | _ => none

/-- what may be walked: it stands still -/
def seqW : D → Option (List D)
  | .scr l => some (l.map .int)
  | .lst l => some l
  | .tup l => some l
  | _ => none

def mulOk (i j : Int) : Bool := decide (i.natAbs < 2 ^ 64) || decide (j.natAbs < 2 ^ 64) || (decide (i.natAbs < 2 ^ 2000) && decide (j.natAbs < 2 ^ 2000))
/-- a bound of a range, or of a repetition -/
def rngB (n : Int) : Bool := decide (n.natAbs < 1000000)
theorem rngB_ok {n : Int} (h : rngB n = true) : -(2 ^ 62) ≤ n ∧ n < 2 ^ 62 := by
  have : n.natAbs < 1000000 := of_decide_eq_true h
  omega
def lenOk (n : Nat) : Bool := decide (n ≤ maxLen)
def binD (op : Bop) : D → D → Option D
  | .int i, .int j => (match op with
    | .add => some (.int (i + j))
    | .sub => some (.int (i - j))
    | .mul => if mulOk i j then some (.int (i * j)) else none
    | .fdiv => if decide (0 < j) && decide (j.natAbs < 2 ^ 9000) then some (.int (i / j)) else none
    | .mod => if decide (0 < j) then some (.int (i % j)) else none
    | .pow => if decide (0 ≤ j) && decide (j ≤ 1000000) && decide (i.natAbs < 2 ^ 64) then some (.int (i ^ j.toNat)) else none)
  | .lst xs, .lst ys => (match op with
    | .add => if lenOk (xs.length + ys.length) then some (.lst (xs ++ ys)) else none
    | _ => none)
  | .tup xs, .tup ys => (match op with
    | .add => if lenOk (xs.length + ys.length) then some (.tup (xs ++ ys)) else none
    | _ => none)
  | .str x, .str y => (match op with
    | .add => if lenOk (x.length + y.length) then some (.str (x ++ y)) else none
    | _ => none)
  | .tup xs, .int k => (match op with
    | .mul => if !xs.isEmpty && decide (1 ≤ k) && decide (k ≤ 1000) && decide (xs.length ≤ 1000) then some (.tup (List.replicate k.toNat xs).flatten) else none
    | _ => none)
  | .lst xs, .int k => (match op with
    | .mul => if rngB k && lenOk (xs.length * k.toNat) then some (.lst (List.replicate k.toNat xs).flatten) else none
    | _ => none)
  | _, _ => none
def ints2 (f : Int → Int → Bool) : D → D → Option D
  | .int i, .int j => some (.bl (f i j))
  | _, _ => none
def ltD : D → D → Option D
  | .int i, .int j => some (.bl (decide (i < j)))
  | .tup xs, .tup ys => (match allSome D.int? xs, allSome D.int? ys with
    | some ns, some ms => some (.bl (lexLt ns ms))
    | _, _ => none)
  | _, _ => none
def isNon : D → Bool
  | .non => true
  | _ => false
def twoStr : D → D → Bool
  | .str _, .str _ => true
  | _, _ => false
def cmpD (op : Cop) (x y : D) : Option D := match op with
  | .eq => if twoStr x y || (plainD x && plainD y) then some (.bl (deq x y)) else none
  | .ne => if twoStr x y || (plainD x && plainD y) then some (.bl (!deq x y)) else none
  | .lt => ltD x y
  | .le => ints2 (fun i j => decide (i ≤ j)) x y
  | .gt => ints2 (fun i j => decide (j < i)) x y
  | .ge => ints2 (fun i j => decide (j ≤ i)) x y
  | .isin => (match y with
    | .lst ys => if plainD x && plainD y then some (.bl (ys.any fun z => deq z x)) else none
    | .tup ys => if plainD x && plainD y then some (.bl (ys.any fun z => deq z x)) else none
    | _ => none)
  | .notin => (match y with
    | .lst ys => if plainD x && plainD y then some (.bl (!ys.any fun z => deq z x)) else none
    | .tup ys => if plainD x && plainD y then some (.bl (!ys.any fun z => deq z x)) else none
    | _ => none)
  | .is => (match y with
    | .non => some (.bl (isNon x))
    | .bl b => (match x with
      | .bl c => some (.bl (c == b))
      | _ => none)
    | _ => none)
  | .isnt => (match y with
    | .non => some (.bl (!isNon x))
    | .bl b => (match x with
      | .bl c => some (.bl (!(c == b)))
      | _ => none)
    | _ => none)

/-- the name of a value's built-in type, none for what has none here -/
def tyOf (S : Sto) : D → Option String
  | .non => some "NoneType"
  | .bl _ => some "bool"
  | .int _ => some "int"
  | .str _ => some "str"
  | .tup _ => some "tuple"
  | .lst _ => some "list"
  | .scr _ => some "list"
  | .cell k => (match S[k]? with
    | some (.lst _) => some "list"
    | none => none)
  | _ => none
def isTy (a b : String) : Bool := a == b || (a == "bool" && b == "int")
/-- the classes that isinstance may be asked of -/
def tyKnown (b : String) : Bool := ["int", "bool", "str", "tuple", "list"].contains b

/-- an index of any sign -/
def ixN (n : Nat) (i : Int) : Option Nat := if 0 ≤ i then (if i < n then some i.toNat else none) else if -(n : Int) ≤ i then some (i + n).toNat else none
def ixD (S : Sto) (a i : D) : Option D := match i with
  | .int i => (match seqOf S a with
    | some xs => (ixN xs.length i).bind fun j => xs[j]?
    | none => none)
  | _ => none
def sIx (n d : Nat) : Option Int → Nat
  | none => d
  | some v => if v < 0 then (v + n).toNat else min v.toNat n
def cut {α : Type} (xs : List α) (lo hi : Option Int) : List α := (xs.drop (sIx xs.length 0 lo)).take (sIx xs.length xs.length hi - sIx xs.length 0 lo)
def slD (S : Sto) (a : D) (lo hi : Option Int) : Option D := match a with
  | .lst xs => some (.lst (cut xs lo hi))
  | .tup xs => some (.tup (cut xs lo hi))
  | .cell k => (match S[k]? with
    | some (.lst xs) => some (.lst (cut xs lo hi))
    | none => none)
  | _ => none
def maxI : Int → List Int → Int
  | m, [] => m
  | m, x :: xs => maxI (if m < x then x else m) xs
def minI : Int → List Int → Int
  | m, [] => m
  | m, x :: xs => minI (if x < m then x else m) xs
/-! the least of some ways: triples of a pair of ints, an int and a list of pairs -/
def isPairI : D → Bool
  | .tup [.int _, .int _] => true
  | _ => false
def pairsW : D → Bool
  | .lst l => l.all isPairI
  | _ => false
def keyW : D → Option (Int × Int × Int)
  | .tup [.tup [.int a, .int b], .int t, p] => if pairsW p then some (a, b, t) else none
  | _ => none
def ltK (x y : Int × Int × Int) : Bool := decide (x.1 < y.1) || (decide (x.1 = y.1) && (decide (x.2.1 < y.2.1) || (decide (x.2.1 = y.2.1) && decide (x.2.2 < y.2.2))))
def bestK (ks : List (Int × Int × Int)) : Nat → Nat
  | 0 => 0
  | k + 1 => if ltK (ks.getD (k + 1) (0, 0, 0)) (ks.getD (bestK ks k) (0, 0, 0)) then k + 1 else bestK ks k
def minW (l : List D) : Option D := match allSome keyW l with
  | some ks => if decide (ks.map (·.2.2)).Nodup && plains 10 l then l[bestK ks (l.length - 1)]? else none
  | none => none
def bltD (b : Blt) (S : Sto) (xs : List D) : Option D := match b, xs with
  | .len, [x] => (seqOf S x).map fun l => .int l.length
  | .sum, [x] => (match (seqI S x).bind (allSome D.int?) with
    | some ns => some (.int ns.sum)
    | none => none)
  | .all, [x] => (match (seqL S x).bind (allSome D.bl?) with
    | some bs => some (.bl (bs.all id))
    | none => none)
  | .any, [x] => (match (seqL S x).bind (allSome D.bl?) with
    | some bs => some (.bl (bs.any id))
    | none => none)
  | .isinst, [x, .ty n] => if tyKnown n then (tyOf S x).map fun t => .bl (isTy t n) else none
  | .max, [.int i, .int j] => some (.int (if i < j then j else i))
  | .min, [.int i, .int j] => some (.int (if j < i then j else i))
  | .max, [x] => (match (seqI S x).bind (allSome D.int?) with
    | some (n :: ns) => some (.int (maxI n ns))
    | _ => none)
  | .min, [x] => (match (seqI S x).bind (allSome D.int?) with
    | some (n :: ns) => some (.int (minI n ns))
    | some [] => none
    | none => (seqL S x).bind minW)
  | .list, [x] => (seqOf S x).map .lst
  | .tuple, [x] => (seqOf S x).map .tup
  | .int, [.int i] => some (.int i)
  | .int, [.bl b] => some (.int (if b then 1 else 0))
  | .bool, [.bl b] => some (.bl b)
  | _, _ => none

/-- the members, in order -/
def sins (x : Int) : List Int → List Int
  | [] => [x]
  | y :: ys => if x < y then x :: y :: ys else if x = y then y :: ys else y :: sins x ys
def ssort : List Int → List Int
  | [] => []
  | x :: xs => sins x (ssort xs)
theorem sins_mem {x k : Int} : ∀ {l : List Int}, k ∈ sins x l ↔ k = x ∨ k ∈ l
  | [] => by simp [sins]
  | y :: ys => by
    unfold sins
    split
    · simp
    · split
      · rename_i h; subst h; simp
      · rw [List.mem_cons, sins_mem, List.mem_cons]
        exact ⟨fun h => h.elim (fun h => .inr (.inl h)) fun h => h.elim .inl fun h => .inr (.inr h), fun h => h.elim (fun h => .inr (.inl h)) fun h => h.elim .inl fun h => .inr (.inr h)⟩
theorem sins_pw {x : Int} : ∀ {l : List Int}, l.Pairwise (· < ·) → (sins x l).Pairwise (· < ·)
  | [], _ => by simp [sins]
  | y :: ys, h => by
    obtain ⟨h1, h2⟩ := List.pairwise_cons.mp h
    unfold sins
    split
    · rename_i hx
      exact List.pairwise_cons.mpr ⟨fun z hz => by
        rcases List.mem_cons.mp hz with e | e
        · rw [e]; exact hx
        · exact Int.lt_trans hx (h1 z e), h⟩
    · split
      · exact h
      · rename_i a b
        exact List.pairwise_cons.mpr ⟨fun z hz => by
          rcases sins_mem.mp hz with e | e
          · rw [e]; omega
          · exact h1 z e, sins_pw h2⟩
theorem ssort_pw : ∀ l : List Int, (ssort l).Pairwise (· < ·)
  | [] => by simp [ssort]
  | x :: xs => sins_pw (ssort_pw xs)
theorem ssort_mem {k : Int} : ∀ {l : List Int}, k ∈ ssort l ↔ k ∈ l
  | [] => by simp [ssort]
  | x :: xs => by
    show k ∈ sins x (ssort xs) ↔ _
    rw [sins_mem, ssort_mem, List.mem_cons]
/-- in order, the same members: the same -/
theorem pw_ext : ∀ {l m : List Int}, l.Pairwise (· < ·) → m.Pairwise (· < ·) → (∀ k, k ∈ l ↔ k ∈ m) → l = m
  | [], [], _, _, _ => rfl
  | [], y :: ys, _, _, h => by have := (h y).mpr (by simp); simp at this
  | x :: xs, [], _, _, h => by have := (h x).mp (by simp); simp at this
  | x :: xs, y :: ys, hl, hm, h => by
    obtain ⟨a1, a2⟩ := List.pairwise_cons.mp hl
    obtain ⟨b1, b2⟩ := List.pairwise_cons.mp hm
    have e : x = y := by
      rcases List.mem_cons.mp ((h x).mp (by simp)) with e | e
      · exact e
      · rcases List.mem_cons.mp ((h y).mpr (by simp)) with e' | e'
        · exact e'.symm
        · have := a1 y e'; have := b1 x e; omega
    subst e
    rw [pw_ext a2 b2 fun k => ?_]
    constructor
    · intro hk
      rcases List.mem_cons.mp ((h k).mp (List.mem_cons_of_mem _ hk)) with e | e
      · have := a1 k hk; omega
      · exact e
    · intro hk
      rcases List.mem_cons.mp ((h k).mpr (List.mem_cons_of_mem _ hk)) with e | e
      · have := b1 k hk; omega
      · exact e
/-! ### expressions -/
def getS (ρ : Env) (i : Nat) : Option D := match ρ[i]? with
  | some (.v d) => some d
  | _ => none
def getO (ρ : Env) (i : Nat) : Option (List D) := match ρ[i]? with
  | some (.own l) => some l
  | _ => none
/-- a target takes a value -/
def asg : G → D → Env → Option Env
  | .nm i, d, ρ => if i < ρ.length then some (ρ.set i (.v d)) else none
  | .tup gs, d, ρ => (match d with
    | .tup l => asgs gs l ρ
    | .lst l => asgs gs l ρ
    | _ => none)
  | _, _, _ => none
where asgs : G → List D → Env → Option Env
  | .nil, [], ρ => some ρ
  | .cons g gs, x :: xs, ρ => (match asg g x ρ with
    | some ρ' => asgs gs xs ρ'
    | none => none)
  | _, _, _ => none
def wipes (ρ : Env) : List Nat → Env
  | [] => ρ
  | v :: vs => (wipes ρ vs).set v .un

/-- the turns of a comprehension -/
def comps (bind : D → Option Env) (cond elt : Env → Sto → Res D) : List D → List D → Sto → Res D
  | [], acc, S => .ok (.lst acc) S
  | x :: xs, acc, S => match bind x with
    | some ρ => (match cond ρ S with
      | .ok (.bl true) S1 => (match elt ρ S1 with
        | .ok d S2 => if lenOk (acc.length + 1) then comps bind cond elt xs (acc ++ [d]) S2 else .bad
        | _ => .bad)
      | .ok (.bl false) S1 => comps bind cond elt xs acc S1
      | _ => .bad)
    | none => .bad

/-- the turns of a for -/
def fors (bind : D → Env → Option Env) (body : Env → Sto → Out) : List D → Env → Sto → Out
  | [], ρ, S => .nx ρ S
  | x :: xs, ρ, S => match bind x ρ with
    | some ρ1 => (match body ρ1 S with
      | .nx ρ2 S2 => fors bind body xs ρ2 S2
      | .ct ρ2 S2 => fors bind body xs ρ2 S2
      | .bk ρ2 S2 => .nx ρ2 S2
      | r => r)
    | none => .bad
/-- a while of at most so many turns -/
def whN (c : Env → Sto → Res D) (b : Env → Sto → Out) : Nat → Env → Sto → Out
  | 0, _, _ => .bad
  | n + 1, ρ, S => match c ρ S with
    | .ok (.bl true) S1 => (match b ρ S1 with
      | .nx ρ2 S2 => whN c b n ρ2 S2
      | .ct ρ2 S2 => whN c b n ρ2 S2
      | .bk ρ2 S2 => .nx ρ2 S2
      | r => r)
    | .ok (.bl false) S1 => .nx ρ S1
    | .exc k S1 => .exc k ρ S1
    | _ => .bad
/-- a while, whatever its turns -/
noncomputable def whA (c : Env → Sto → Res D) (b : Env → Sto → Out) (ρ : Env) (S : Sto) : Out :=
  haveI := Classical.propDecidable (∃ n, whN c b n ρ S ≠ .bad)
  if h : ∃ n, whN c b n ρ S ≠ .bad then whN c b (Classical.choose h) ρ S else .bad
/-- none: whatever the turns -/
noncomputable def whR (w : Option Nat) (c : Env → Sto → Res D) (b : Env → Sto → Out) (ρ : Env) (S : Sto) : Out := match w with
  | some n => whN c b n ρ S
  | none => whA c b ρ S

section
variable (wrd : Nat → Option Str) (cal : Nat → List D → Sto → Res D)
mutual
/-- an expression -/
def ev : E → Env → Sto → Res D
  | .var i, ρ, S => .lift S (getS ρ i)
  | .bvar i, ρ, S => .lift S ((getO ρ i).map .lst)
  | .lit d, _, S => .ok d S
  | .glb _ d, _, S => .ok d S
  | .bin op a b, ρ, S => (ev a ρ S).bind fun x S1 => (ev b ρ S1).bind fun y S2 => .lift S2 (binD op x y)
  | .neg a, ρ, S => (ev a ρ S).bind fun x S1 => (match x with
    | .int i => .ok (.int (-i)) S1
    | _ => .bad)
  | .cmp op a b, ρ, S => (ev a ρ S).bind fun x S1 => (ev b ρ S1).bind fun y S2 => .lift S2 (cmpD op x y)
  | .chain op op' a b c, ρ, S => (ev a ρ S).bind fun x S1 => (ev b ρ S1).bind fun y S2 => (match cmpD op x y with
      | some (.bl true) => (ev c ρ S2).bind fun z S3 => .lift S3 (cmpD op' y z)
      | some (.bl false) => .ok (.bl false) S2
      | _ => .bad)
  | .and a b, ρ, S => (ev a ρ S).bind fun x S1 => (match x with
    | .bl true => ev b ρ S1
    | .bl false => .ok (.bl false) S1
    | _ => .bad)
  | .or a b, ρ, S => (ev a ρ S).bind fun x S1 => (match x with
    | .bl false => ev b ρ S1
    | .bl true => .ok (.bl true) S1
    | _ => .bad)
  | .not a, ρ, S => (ev a ρ S).bind fun x S1 => (match x with
    | .bl c => .ok (.bl (!c)) S1
    | _ => .bad)
  | .ite c a b, ρ, S => (ev c ρ S).bind fun x S1 => (match x with
    | .bl true => ev a ρ S1
    | .bl false => ev b ρ S1
    | _ => .bad)
  | .tup es, ρ, S => (evs es ρ S).bind fun xs S1 => if lenOk xs.length then .ok (.tup xs) S1 else .bad
  | .lst es, ρ, S => (evs es ρ S).bind fun xs S1 => if lenOk xs.length then .ok (.lst xs) S1 else .bad
  | .call k es, ρ, S => (evs es ρ S).bind fun xs S1 => cal k xs S1
  | .callv i es, ρ, S => (match getS ρ i with
    | some (.fn k) => (evs es ρ S).bind fun xs S1 => cal k xs S1
    | _ => .bad)
  | .blt b es, ρ, S => (evs es ρ S).bind fun xs S1 => .lift S1 (bltD b S1 xs)
  | .mth _ _ _, _, _ => .bad
  | .ix a i, ρ, S => (ev a ρ S).bind fun x S1 => (ev i ρ S1).bind fun y S2 => .lift S2 (ixD S2 x y)
  | .sl a lo hi, ρ, S => (ev a ρ S).bind fun x S1 => (evo lo ρ S1).bind fun l S2 => (evo hi ρ S2).bind fun h S3 => .lift S3 (slD S3 x l h)
  | .comp own g it cond elt, ρ, S => (evi it ρ S).bind fun its S1 => comps (fun x => asg g x (wipes ρ own)) (ev cond) (ev elt) its [] S1
  | .lzip a b, ρ, S => (ev a ρ S).bind fun x S1 => (ev b ρ S1).bind fun y S2 => (match x, y with
      | .lst xs, .lst ys => .ok (.lst (List.zipWith (fun a b => .tup [a, b]) xs ys)) S2
      | _, _ => .bad)
  | .sset a, ρ, S => (ev a ρ S).bind fun x S1 => (match (seqL S1 x).bind (allSome D.int?) with
      | some ns => if decide (ns.length < 60) then .ok (.lst ((ssort ns).map .int)) S1 else .bad
      | none => .bad)
  | .refused a, ρ, S => (match ev a ρ S with
    | .ok _ S1 => .ok (.str ⟨#[]⟩) S1
    | .exc k S1 => (match wrd k with
      | some w => .ok (.str w) S1
      | none => .bad)
    | .bad => .bad)
  | .tst a, ρ, S => (ev a ρ S).bind fun x S1 => (match x with
    | .bl b => .ok (.bl b) S1
    | _ => .bad)
  | .newcell es, ρ, S => (evs es ρ S).bind fun xs S1 => if lenOk xs.length then .ok (.cell S1.length) (S1 ++ [.lst xs]) else .bad
  | _, _, _ => .bad
/-- a list of expressions -/
def evs : E → Env → Sto → Res (List D)
  | .nil, _, S => .ok [] S
  | .cons e es, ρ, S => (ev e ρ S).bind fun d S1 => (evs es ρ S1).bind fun ds S2 => .ok (d :: ds) S2
  | _, _, _ => .bad
/-- an optional part of a slice -/
def evo : E → Env → Sto → Res (Option Int)
  | .non, _, S => .ok none S
  | .som e, ρ, S => (ev e ρ S).bind fun x S1 => (match x with
    | .int i => .ok (some i) S1
    | _ => .bad)
  | _, _, _ => .bad
/-- what is walked -/
def evi : E → Env → Sto → Res (List D)
  | .walk a, ρ, S => (ev a ρ S).bind fun x S1 => .lift S1 (seqW x)
  | .zip a b, ρ, S => (ev a ρ S).bind fun x S1 => (ev b ρ S1).bind fun y S2 => (match seqW x, seqW y with
      | some xs, some ys => .ok (List.zipWith (fun a b => .tup [a, b]) xs ys) S2
      | _, _ => .bad)
  | .enum a, ρ, S => (ev a ρ S).bind fun x S1 => (match seqW x with
      | some xs => .ok (xs.zipIdx.map fun p => .tup [.int p.2, p.1]) S1
      | _ => .bad)
  | .rng1 a, ρ, S => (ev a ρ S).bind fun x S1 => (match x with
    | .int n => if rngB n then .ok ((List.range n.toNat).map fun (i : Nat) => .int (i : Int)) S1 else .bad
    | _ => .bad)
  | .rng2 a b, ρ, S => (ev a ρ S).bind fun x S1 => (ev b ρ S1).bind fun y S2 => (match x, y with
    | .int m, .int n => if rngB m && rngB n then .ok ((List.range (n - m).toNat).map fun (i : Nat) => .int (m + (i : Int))) S2 else .bad
    | _, _ => .bad)
  | _, _, _ => .bad
end

/-- an expression's answer, what follows -/
def Res.out {α : Type} (r : Res α) (ρ : Env) (f : α → Sto → Out) : Out := match r with
  | .ok a S => f a S
  | .exc k S => .exc k ρ S
  | .bad => .bad
/-- what a slot gets; o: the list is the def's own from now on -/
def slV (o : Bool) (d : D) : Option Sl := match o with
  | false => some (.v d)
  | true => (match d with
    | .lst l => some (.own l)
    | _ => none)
variable (w : Option Nat)
/-- a statement -/
noncomputable def exec : T → Env → Sto → Out
  | .skip, ρ, S => .nx ρ S
  | .seq s t, ρ, S => (match exec s ρ S with
    | .nx ρ1 S1 => exec t ρ1 S1
    | r => r)
  | .set o i e, ρ, S => (ev wrd cal e ρ S).out ρ fun d S1 => (match slV o d with
    | some x => if i < ρ.length then .nx (ρ.set i x) S1 else .bad
    | none => .bad)
  | .setG g e, ρ, S => (ev wrd cal e ρ S).out ρ fun d S1 => (match asg g d ρ with
    | some ρ' => .nx ρ' S1
    | none => .bad)
  | .par o o' i j a b, ρ, S => (ev wrd cal a ρ S).out ρ fun x S1 => (match slV o x with
    | some x => (ev wrd cal b ρ S1).out ρ fun y S2 => (match slV o' y with
      | some y => if i < ρ.length ∧ j < ρ.length then .nx ((ρ.set i x).set j y) S2 else .bad
      | none => .bad)
    | none => .bad)
  | .par3 o o' o'' i j k a b c, ρ, S => (ev wrd cal a ρ S).out ρ fun x S1 => (match slV o x with
    | some x => (ev wrd cal b ρ S1).out ρ fun y S2 => (match slV o' y with
      | some y => (ev wrd cal c ρ S2).out ρ fun z S3 => (match slV o'' z with
        | some z => if i < ρ.length ∧ j < ρ.length ∧ k < ρ.length then .nx (((ρ.set i x).set j y).set k z) S3 else .bad
        | none => .bad)
      | none => .bad)
    | none => .bad)
  | .frz i, ρ, S => (match getO ρ i with
    | some l => .nx (ρ.set i (.v (.lst l))) S
    | none => .bad)
  | .setIx i j e, ρ, S => (ev wrd cal e ρ S).out ρ fun d S1 => (match getO ρ i with
    | some l => (ev wrd cal j ρ S1).out ρ fun y S2 => (match y with
      | .int y => (match ixN l.length y with
        | some k => .nx (ρ.set i (.own (l.set k d))) S2
        | none => .bad)
      | _ => .bad)
    | none => .bad)
  | .app i e, ρ, S => (match getO ρ i with
    | some l => (ev wrd cal e ρ S).out ρ fun d S1 => if lenOk (l.length + 1) then .nx (ρ.set i (.own (l ++ [d]))) S1 else .bad
    | none => .bad)
  | .setCell o j e, ρ, S => (ev wrd cal e ρ S).out ρ fun d S1 => (ev wrd cal o ρ S1).out ρ fun x S2 => (ev wrd cal j ρ S2).out ρ fun y S3 => (match x, y with
    | .cell c, .int y => (match S3[c]? with
      | some (.lst l) => (match ixN l.length y with
        | some k => .nx ρ (S3.set c (.lst (l.set k d)))
        | none => .bad)
      | none => .bad)
    | _, _ => .bad)
  | .drop e, ρ, S => (ev wrd cal e ρ S).out ρ fun _ S1 => .nx ρ S1
  | .ite c s t, ρ, S => (ev wrd cal c ρ S).out ρ fun d S1 => (match d with
    | .bl true => exec s ρ S1
    | .bl false => exec t ρ S1
    | _ => .bad)
  | .forr g it s, ρ, S => (evi wrd cal it ρ S).out ρ fun its S1 => fors (asg g) (exec s) its ρ S1
  | .whil c s, ρ, S => whR w (ev wrd cal c) (exec s) ρ S
  | .ret e, ρ, S => (ev wrd cal e ρ S).out ρ fun d S1 => .rt d S1
  | .retN, _, S => .rt .non S
  | .brk, ρ, S => .bk ρ S
  | .cont, ρ, S => .ct ρ S
  | .rais k, ρ, S => .exc k ρ S
  | .raisT k e, ρ, S => (ev wrd cal e ρ S).out ρ fun _ S1 => .exc k ρ S1
  | .tryW i s, ρ, S => (match exec s ρ S with
    | .exc k ρ1 S1 => (match wrd k with
      | some w => if i < ρ1.length then .rt (.str w) S1 else .bad
      | none => .bad)
    | r => r)
  | .tryN ks s d, ρ, S => (match exec s ρ S with
    | .exc j ρ1 S1 => if ks.contains j then .rt d S1 else .exc j ρ1 S1
    | r => r)
end

/-- a def: how many names it has, how many of them are parameters, its body -/
structure Fn where
  nl : Nat
  np : Nat
  body : T
/-- the k-th def called; n: the depth of calls -/
noncomputable def run (w : Option Nat) (wrd : Nat → Option Str) (tab : List Fn) : Nat → Nat → List D → Sto → Res D
  | 0, _, _, _ => .bad
  | n + 1, k, ds, S => match tab[k]? with
    | some f => if ds.length = f.np then (match exec wrd (run w wrd tab n) w f.body (ds.map .v ++ List.replicate (f.nl - f.np) .un) S with
      | .rt d S1 => .ok d S1
      | .nx _ S1 => .ok .non S1
      | .exc j _ S1 => .exc j S1
      | _ => .bad) else .bad
    | none => .bad
end Pv

/-! Pv0: a row's data, what its head says; ahead of all proofs, so that the head's run comes first. -/
namespace Pv
open PySem PySem.Spec PyProof.Rows L2
/-- what the class D1 says -/
def excCB (K : PySem.W.Frag) (a : Addr) : Bool :=
  decide (PySem.W.findIn K (.ref a) "__getattribute__" = some (some (.builtin "BaseException.__getattribute__"))) && decide (PySem.W.findIn K (.ref a) "__getattr__" = some none) && decide (PySem.W.subIn K (.ref a) (.type "BaseException") = some true) && PySem.W.hasDictIn K a &&
  decide (PySem.W.findIn K (.ref a) "__class__" = some (some (.builtin "object.__class__"))) && decide (PySem.W.specialIn K (.builtin "object.__class__") "__get__" = some (some (.builtin "getset_descriptor.__get__"))) && decide (PySem.W.takesIn K (.builtin "object.__class__") = some true) && decide (PySem.W.mroIn K a (.type "object") = some true)
/-- a row's names: defs of the table; classes; the words of the error's def; the classes that are raised; the class that is caught -/
structure Row where
  names : List Str
  cls : List Str
  words : List (Str × Str)
  rais : List Nat
  shelf : Str
namespace Row
variable (r : Row)
def cn (k : Nat) : Str := r.cls.getD k Str.empty
def fnm (k : Nat) : Str := r.names.getD k Str.empty
def wrd (k : Nat) : Option Str := if r.rais.contains k then (r.words.find? fun p => p.2 == r.cn k).map (·.1) else none
def bits (k : Nat) : List (Str × Bool) := r.words.map fun p => (p.1, p.2 == r.cn k)
def exB (K : PySem.W.Frag) : Bool := r.rais.all fun k => excCB K (He.ga K (r.cn k)) && (r.words.all fun p => decide (PySem.W.kitOne K (.ref (He.ga K (r.cn k))) (.ref (He.ga K p.2)) = some (p.2 == r.cn k))) && decide (PySem.W.exmOne K (.ref (He.ga K (r.cn k))) (.ref (He.ga K r.shelf)) = some true)
end Row
/-- texts, as they stand -/
def strsAre : List Value → List Str → Bool
  | [], [] => true
  | .str y _ :: vs, z :: zs => decide (y = z) && strsAre vs zs
  | _, _ => false
/-- a global that is a tuple of texts -/
def tupB (K : PySem.W.Frag) (x : Str) (zs : List Str) : Bool := match K.lookup (He.ga K x) with
  | some o => decide (o.cls = .type "tuple") && (match o.data with
    | .seq its _ => decide (its.size ≤ 1000) && strsAre its.toList zs
    | _ => false)
  | none => false
structure Data extends Row where
  tups : List (Str × List Str) := []
  /-- the defs that make lambdas -/
  lams : List Str := []
  tw : Option (Str × Str) := none
  more : List Str
  nums : List (Str × Int)
  tys : List Blt
  free : List Str
  refused : Str
namespace Data
variable (d : Data)
def fa : List He.Fa := (d.names ++ d.more).map .glo ++ (d.cls.map .glo ++ (d.free.map .free ++ (d.rais.map (fun k => .exc (d.cn k)) ++ (d.nums.map (fun p => .int p.1 p.2) ++ d.tups.map fun p => .glo p.1))))
def tf : List He.Defn := d.lams.map fun x => (x, none)
/-- the lambdas' tables are different ones -/
def lamB (K : PySem.W.Frag) : Bool := decide ((d.tf.map fun p => (He.cT K p).2).Nodup)
/-- what the row's head says besides -/
def exT (K : PySem.W.Frag) : Bool := d.exB K && (d.tups.all fun p => tupB K p.1 p.2) && d.lamB K
end Data
end Pv

set_option maxHeartbeats 0
namespace My
open PySem PySem.Spec PyProof.Rows L2 Pv
def pw : Program := PySem.Challenge.pw_shelfcredits_k11_whole_bounds_by_all_tru
def top (i : Nat) : Stmt := pw.main.body.getD i (.Pass ⟨0, 0, 0, 0⟩)

def dat : Pv.Data := { names := [Str.ofString "moves_of", Str.ofString "ways_from", Str.ofString "cheapest_flow", Str.ofString "shifted", Str.ofString "with_part", Str.ofString "cost_of", Str.ofString "is_int", Str.ofString "are_dated", Str.ofString "is_right_ledger", Str.ofString "credit_of", Str.ofString "stretches_of", Str.ofString "bought_in", Str.ofString "numbers_of", Str.ofString "has_truth", Str.ofString "need_ledger", Str.ofString "need_word", Str.ofString "day_in", Str.ofString "can_be_sold", Str.ofString "worth_in", Str.ofString "worths_of", Str.ofString "costs_for", Str.ofString "best_flow", Str.ofString "best_sum", Str.ofString "bound_of", Str.ofString "sales_of", Str.ofString "both_bounds", Str.ofString "spread_of", Str.ofString "bound", Str.ofString "truth_with", Str.ofString "spread", Str.ofString "_law_source", Str.ofString "_law_pick", Str.ofString "_law_chosen", Str.ofString "_law_whole", Str.ofString "_law_by_two", Str.ofString "_law_days", Str.ofString "_law_drawn", Str.ofString "_law_spans", Str.ofString "_law_numbers", Str.ofString "_law_gain", Str.ofString "_law_sum", Str.ofString "_law_is_truth", Str.ofString "_law_flows", Str.ofString "_law_sold", Str.ofString "_law_end", Str.ofString "_law_times", Str.ofString "_law_sales", Str.ofString "_law_all_ends", Str.ofString "_law_right", Str.ofString "_law_flow_ends", Str.ofString "_law_refusals", Str.ofString "_law_written", Str.ofString "law"], cls := [Str.ofString "ShelfError", Str.ofString "InvalidLedger", Str.ofString "InvalidWord", Str.ofString "InvalidIndex", Str.ofString "InvalidDay", Str.ofString "InvalidTruth", Str.ofString "InvalidPaper", Str.ofString "InvalidNumber", Str.ofString "InvalidNotes", Str.ofString "InvalidText", Str.ofString "NoTruth", Str.ofString "Unlike", Str.ofString "NothingToUndo", Str.ofString "TooMany"], words := [(Str.ofString "ledger", Str.ofString "InvalidLedger"), (Str.ofString "word", Str.ofString "InvalidWord"), (Str.ofString "index", Str.ofString "InvalidIndex"), (Str.ofString "day", Str.ofString "InvalidDay"), (Str.ofString "truth", Str.ofString "InvalidTruth"), (Str.ofString "paper", Str.ofString "InvalidPaper"), (Str.ofString "number", Str.ofString "InvalidNumber"), (Str.ofString "notes", Str.ofString "InvalidNotes"), (Str.ofString "text", Str.ofString "InvalidText"), (Str.ofString "none", Str.ofString "NoTruth"), (Str.ofString "unlike", Str.ofString "Unlike"), (Str.ofString "undo", Str.ofString "NothingToUndo"), (Str.ofString "many", Str.ofString "TooMany")], rais := [1, 2], shelf := "ShelfError", tups := [(Str.ofString "WORDS", [Str.ofString "least", Str.ofString "most"])], lams := [Str.ofString "_law_by_two", Str.ofString "_law_refusals"], tw := none, more := [Str.ofString "_law_error", Str.ofString "_law_refused"], nums := [(Str.ofString "LAST_DAY", 1000000000), (Str.ofString "MOST_AMOUNT", 1000000), (Str.ofString "MOST_COUNT", 10000000000000000000000000000000), (Str.ofString "MOST_COUNTS", 4), (Str.ofString "MOST_FALLS", 4), (Str.ofString "MOST_LOTS", 5), (Str.ofString "MOST_PIECES", 1000000000000000000000000000000)], tys := [.bool, .int, .str, .tuple], free := [Str.ofString "all", Str.ofString "bool", Str.ofString "enumerate", Str.ofString "int", Str.ofString "isinstance", Str.ofString "len", Str.ofString "list", Str.ofString "max", Str.ofString "min", Str.ofString "range", Str.ofString "set", Str.ofString "sorted", Str.ofString "str", Str.ofString "sum", Str.ofString "tuple", Str.ofString "zip"], refused := "_law_refused" }
def dd (n : Str) (i : Nat) : He.DefD := ⟨(n, none), n, n, defArgs (top i), defBody (top i), defScope (top i), [], []⟩
def fnl : List (Str × Nat) := [(Str.ofString "moves_of", 1), (Str.ofString "ways_from", 2), (Str.ofString "cheapest_flow", 3), (Str.ofString "shifted", 4), (Str.ofString "with_part", 5), (Str.ofString "cost_of", 6), (Str.ofString "is_int", 31), (Str.ofString "are_dated", 32), (Str.ofString "is_right_ledger", 33), (Str.ofString "credit_of", 34), (Str.ofString "stretches_of", 35), (Str.ofString "bought_in", 36), (Str.ofString "numbers_of", 37), (Str.ofString "has_truth", 38), (Str.ofString "need_ledger", 39), (Str.ofString "need_word", 40), (Str.ofString "day_in", 42), (Str.ofString "can_be_sold", 43), (Str.ofString "worth_in", 44), (Str.ofString "worths_of", 45), (Str.ofString "costs_for", 46), (Str.ofString "best_flow", 47), (Str.ofString "best_sum", 48), (Str.ofString "bound_of", 49), (Str.ofString "sales_of", 50), (Str.ofString "both_bounds", 51), (Str.ofString "spread_of", 52), (Str.ofString "bound", 53), (Str.ofString "truth_with", 54), (Str.ofString "spread", 55), (Str.ofString "_law_source", 57), (Str.ofString "_law_pick", 58), (Str.ofString "_law_chosen", 59), (Str.ofString "_law_whole", 60), (Str.ofString "_law_by_two", 61), (Str.ofString "_law_days", 64), (Str.ofString "_law_drawn", 65), (Str.ofString "_law_spans", 66), (Str.ofString "_law_numbers", 67), (Str.ofString "_law_gain", 68), (Str.ofString "_law_sum", 69), (Str.ofString "_law_is_truth", 70), (Str.ofString "_law_flows", 71), (Str.ofString "_law_sold", 72), (Str.ofString "_law_end", 73), (Str.ofString "_law_times", 74), (Str.ofString "_law_sales", 75), (Str.ofString "_law_all_ends", 76), (Str.ofString "_law_right", 77), (Str.ofString "_law_flow_ends", 78), (Str.ofString "_law_refusals", 79), (Str.ofString "_law_written", 80), (Str.ofString "law", 81)]
def fn : List He.DefD := fnl.map (fun p => dd p.1 p.2) ++ [dd "_law_error" 63, dd "_law_refused" 62]
def tf : List He.Defn := dat.tf
abbrev R : PySem.W.OpenRow := PySem.W.OpenLaw.row PySem.Challenge.rw_shelfcredits_k11_whole_bounds_by_all_tru
abbrev hk : PySem.W.Hook := He.hookX 5 dat.fa fn [] tf (fun K => dat.exT K)
def ob (s : PySem.W.SharedT) : He.AlX := He.obsX 5 dat.fa fn [] tf (fun K => dat.exT K) (HandSHeadRun.getT s)
theorem ob_eq (s : PySem.W.SharedT) : ob s = hk.obs s.abs := He.obsX_eq (HandSHeadRun.getT_eq s)
def loose0 : List PySem.Str := [PySem.Str.ofString "moves_of", PySem.Str.ofString "ways_from", PySem.Str.ofString "cheapest_flow", PySem.Str.ofString "shifted", PySem.Str.ofString "with_part", PySem.Str.ofString "cost_of", PySem.Str.ofString "ShelfError", PySem.Str.ofString "InvalidLedger", PySem.Str.ofString "InvalidWord", PySem.Str.ofString "InvalidIndex", PySem.Str.ofString "InvalidDay", PySem.Str.ofString "InvalidTruth", PySem.Str.ofString "InvalidPaper", PySem.Str.ofString "InvalidNumber", PySem.Str.ofString "InvalidNotes", PySem.Str.ofString "InvalidText", PySem.Str.ofString "NoTruth", PySem.Str.ofString "Unlike", PySem.Str.ofString "NothingToUndo", PySem.Str.ofString "TooMany", PySem.Str.ofString "LAST_DAY", PySem.Str.ofString "MOST_PIECES", PySem.Str.ofString "MOST_COUNT", PySem.Str.ofString "MOST_AMOUNT", PySem.Str.ofString "MOST_LOTS", PySem.Str.ofString "MOST_COUNTS", PySem.Str.ofString "MOST_FALLS", PySem.Str.ofString "WORDS", PySem.Str.ofString "is_int", PySem.Str.ofString "are_dated", PySem.Str.ofString "is_right_ledger", PySem.Str.ofString "credit_of", PySem.Str.ofString "stretches_of", PySem.Str.ofString "bought_in", PySem.Str.ofString "numbers_of"]
def loose1 : List PySem.Str := [PySem.Str.ofString "has_truth", PySem.Str.ofString "need_ledger", PySem.Str.ofString "need_word", PySem.Str.ofString "day_in", PySem.Str.ofString "can_be_sold", PySem.Str.ofString "worth_in", PySem.Str.ofString "worths_of", PySem.Str.ofString "costs_for", PySem.Str.ofString "best_flow", PySem.Str.ofString "best_sum", PySem.Str.ofString "bound_of", PySem.Str.ofString "sales_of", PySem.Str.ofString "both_bounds", PySem.Str.ofString "spread_of", PySem.Str.ofString "bound", PySem.Str.ofString "truth_with", PySem.Str.ofString "spread", PySem.Str.ofString "_law_source", PySem.Str.ofString "_law_pick", PySem.Str.ofString "_law_chosen", PySem.Str.ofString "_law_whole", PySem.Str.ofString "_law_by_two", PySem.Str.ofString "_law_refused", PySem.Str.ofString "_law_error", PySem.Str.ofString "_law_days", PySem.Str.ofString "_law_drawn", PySem.Str.ofString "_law_spans", PySem.Str.ofString "_law_numbers", PySem.Str.ofString "_law_gain", PySem.Str.ofString "_law_sum", PySem.Str.ofString "_law_is_truth", PySem.Str.ofString "_law_flows", PySem.Str.ofString "_law_sold", PySem.Str.ofString "_law_end", PySem.Str.ofString "_law_times"]
def loose2 : List PySem.Str := [PySem.Str.ofString "_law_sales", PySem.Str.ofString "_law_all_ends", PySem.Str.ofString "_law_right", PySem.Str.ofString "_law_flow_ends", PySem.Str.ofString "_law_refusals", PySem.Str.ofString "_law_written"]
def loose : List PySem.Str := loose0 ++ loose1 ++ loose2
theorem runs (w : World) : HandSHeadRun.RunEq R (PySem.W.view R.prog [81]) hk ob 6000 loose w := by
  intro os
  kernel_rfl
end My

/-! Pv2: how pure data stand in the abstract heap; what a step may change. -/
namespace Pv
open PySem PySem.Spec PyProof.Rows L2

/-- where the defs and classes of the tables stand; the tables of code objects -/
structure Gn where
  nf : Nat
  fa : Nat → Addr
  ca : Nat → Addr
  T : List (Addr × Str)

section
variable (K : PySem.W.Frag) (g : Gn) (γ : List Addr) (F : Hp)
mutual
inductive Rep : V → D → Prop where
  | non : Rep .non .non
  | bl (b : Bool) : Rep (.bl b) (.bl b)
  | int (i : Int) : Rep (.int i) (.int i)
  | str (s : Str) : Rep (.str s) (.str s)
  | tup {a : Addr} {xs : List V} {ds : List D} : SqT K F a xs → Reps xs ds → Rep (.ref a) (.tup ds)
  | lst {a : Addr} {xs : List V} {ds : List D} : F a = some (.lst xs) → Reps xs ds → Rep (.ref a) (.lst ds)
  | scr {a : Addr} {ns : List Int} : SqL K F a (ns.map V.int) → Rep (.ref a) (.scr ns)
  | fn (k : Nat) (h : k < g.nf) : Rep (.ref (g.fa k)) (.fn k)
  | cls (k : Nat) : Rep (.ref (g.ca k)) (.cls k)
  | ty (n : String) : Rep (.ty n) (.ty n)
  | cell {k : Nat} {a : Addr} : γ[k]? = some a → Rep (.ref a) (.cell k)
inductive Reps : List V → List D → Prop where
  | nil : Reps [] []
  | cons {v : V} {d : D} {vs : List V} {ds : List D} : Rep v d → Reps vs ds → Reps (v :: vs) (d :: ds)
end
end

section
variable {K : PySem.W.Frag} {g : Gn} {γ γ' : List Addr} {F F' H H' : Hp}
theorem sqT_mono {a : Addr} {xs : List V} (e : ∀ a o, F a = some o → F' a = some o) (h : SqT K F a xs) : SqT K F' a xs := by
  rcases h with (h | ⟨o, h⟩) | h
  · exact .inl (.inl (e _ _ h))
  · exact .inl (.inr ⟨o, e _ _ h⟩)
  · exact .inr h
theorem sqL_mono {a : Addr} {xs : List V} (e : ∀ a o, F a = some o → F' a = some o) (h : SqL K F a xs) : SqL K F' a xs := by
  rcases h with (h | ⟨o, h⟩) | h
  · exact .inl (.inl (e _ _ h))
  · exact .inl (.inr ⟨o, e _ _ h⟩)
  · exact .inr h
mutual
theorem Rep.mono (e : ∀ a o, F a = some o → F' a = some o) (eg : ∀ (k : Nat) (a : Addr), γ[k]? = some a → γ'[k]? = some a) : ∀ {v : V} {d : D}, Rep K g γ F v d → Rep K g γ' F' v d
  | _, _, .non => .non
  | _, _, .bl b => .bl b
  | _, _, .int i => .int i
  | _, _, .str s => .str s
  | _, _, .tup h r => .tup (sqT_mono e h) (Reps.mono e eg r)
  | _, _, .lst h r => .lst (e _ _ h) (Reps.mono e eg r)
  | _, _, .scr h => .scr (sqL_mono e h)
  | _, _, .fn k h => .fn k h
  | _, _, .cls k => .cls k
  | _, _, .ty n => .ty n
  | _, _, .cell h => .cell (eg _ _ h)
theorem Reps.mono (e : ∀ a o, F a = some o → F' a = some o) (eg : ∀ (k : Nat) (a : Addr), γ[k]? = some a → γ'[k]? = some a) : ∀ {vs : List V} {ds : List D}, Reps K g γ F vs ds → Reps K g γ' F' vs ds
  | _, _, .nil => .nil
  | _, _, .cons r t => .cons (Rep.mono e eg r) (Reps.mono e eg t)
end
theorem Reps.length : ∀ {vs : List V} {ds : List D}, Reps K g γ F vs ds → vs.length = ds.length
  | _, _, .nil => rfl
  | _, _, .cons _ t => by rw [List.length_cons, List.length_cons, Reps.length t]
theorem Reps.append : ∀ {vs ws : List V} {ds es : List D}, Reps K g γ F vs ds → Reps K g γ F ws es → Reps K g γ F (vs ++ ws) (ds ++ es)
  | _, _, _, _, .nil, t => t
  | _, _, _, _, .cons r s, t => .cons r (Reps.append s t)
theorem Reps.get : ∀ {vs : List V} {ds : List D} {i : Nat} {d : D}, Reps K g γ F vs ds → ds[i]? = some d → ∃ v, vs[i]? = some v ∧ Rep K g γ F v d
  | _, _, _, _, .nil, h => by simp at h
  | _, _, 0, _, .cons r _, h => by simp at h; subst h; exact ⟨_, by simp, r⟩
  | _, _, i + 1, d, .cons _ t, h => by
    obtain ⟨v, h1, h2⟩ := Reps.get (i := i) (d := d) t (by simpa using h)
    exact ⟨v, by simpa using h1, h2⟩
theorem Reps.take : ∀ {vs : List V} {ds : List D} (n : Nat), Reps K g γ F vs ds → Reps K g γ F (vs.take n) (ds.take n)
  | _, _, 0, _ => .nil
  | _, _, _ + 1, .nil => .nil
  | _, _, n + 1, .cons r t => .cons r (Reps.take n t)
theorem Reps.drop : ∀ {vs : List V} {ds : List D} (n : Nat), Reps K g γ F vs ds → Reps K g γ F (vs.drop n) (ds.drop n)
  | _, _, 0, r => r
  | _, _, _ + 1, .nil => .nil
  | _, _, n + 1, .cons _ t => Reps.drop n t
theorem Reps.set {v : V} {d : D} (r : Rep K g γ F v d) : ∀ {vs : List V} {ds : List D} (i : Nat), Reps K g γ F vs ds → Reps K g γ F (vs.set i v) (ds.set i d)
  | _, _, _, .nil => .nil
  | _, _, 0, .cons _ t => .cons r t
  | _, _, i + 1, .cons q t => .cons q (Reps.set r i t)
theorem Reps.rep {vs : List V} {ds : List D} (r : Reps K g γ F vs ds) : ∀ n : Nat, Reps K g γ F (List.replicate n vs).flatten (List.replicate n ds).flatten
  | 0 => .nil
  | n + 1 => by
    rw [List.replicate_succ, List.replicate_succ, List.flatten_cons, List.flatten_cons]
    exact r.append (Reps.rep r n)
theorem Reps.ints : ∀ (ns : List Int), Reps K g γ F (ns.map V.int) (ns.map D.int)
  | [] => .nil
  | n :: ns => .cons (.int n) (Reps.ints ns)
end

/-- nothing stands at a (or a table of code objects) -/
def Nw (H : Hp) (a : Addr) : Prop := ∀ o, H a = some o → ∃ ps, o = .tbl ps
theorem Nw.of {H : Hp} {a : Addr} (h : H a = none) : Nw H a := fun o e => by rw [h] at e; cases e
theorem Nw.no {H : Hp} {a : Addr} {o : HO} (h : Nw H a) (e : H a = some o) (n : ∀ ps, o ≠ .tbl ps) : False := by
  obtain ⟨ps, z⟩ := h o e
  exact n ps z
theorem Nw.lst {H : Hp} {a : Addr} {xs : List V} (h : Nw H a) (e : H a = some (.lst xs)) : False := h.no e fun ps z => by cases z
theorem Nw.ne {H : Hp} {a b : Addr} {o : HO} (e : H a = some o) (n : ∀ ps, o ≠ .tbl ps) (h : Nw H b) : a ≠ b := fun z => by
  subst z
  exact h.no e n
/-- the store, the frozen part, the tables as they stand in the heap -/
structure SS (K : PySem.W.Frag) (g : Gn) (F H : Hp) (γ : List Addr) (S : Sto) : Prop where
  sub : ∀ a o, F a = some o → H a = some o
  len : γ.length = S.length
  cell : ∀ (k : Nat) (l : List D), S[k]? = some (Cell.lst l) → ∃ a xs, γ[k]? = some a ∧ H a = some (.lst xs) ∧ Reps K g γ F xs l
  nd : γ.Nodup
  fr : ∀ a ∈ γ, F a = none
  tabs : LamX.Tabs g.T H
  nt : ∀ a ps, F a ≠ some (.tbl ps)
/-- what may change: cells, tables; new objects -/
structure Ext (F H : Hp) (γ : List Addr) (F' H' : Hp) (γ' : List Addr) : Prop where
  f : ∀ a o, F a = some o → F' a = some o
  g : ∃ δ, γ' = γ ++ δ ∧ ∀ a ∈ δ, Nw H a
  h : ∀ a o, H a = some o → (∀ ps, o ≠ .tbl ps) → a ∉ γ → H' a = some o
  n : ∀ a, Nw H' a → Nw H a
  fn : ∀ a, F' a ≠ none → F a ≠ none ∨ Nw H a
section
variable {K : PySem.W.Frag} {g : Gn} {γ γ1 γ2 : List Addr} {F H F1 H1 F2 H2 : Hp} {S : Sto}
theorem Ext.refl : Ext F H γ F H γ := ⟨fun _ _ h => h, ⟨[], by simp, fun _ h => by simp at h⟩, fun _ _ h _ _ => h, fun _ h => h, fun _ h => .inl h⟩
theorem Ext.trans (a : Ext F H γ F1 H1 γ1) (b : Ext F1 H1 γ1 F2 H2 γ2) : Ext F H γ F2 H2 γ2 := by
  obtain ⟨δ, e1, d1⟩ := a.g
  obtain ⟨δ', e2, d2⟩ := b.g
  refine ⟨fun x o h => b.f x o (a.f x o h), ⟨δ ++ δ', by rw [e2, e1, List.append_assoc], fun x hx => ?_⟩, fun x o h n m => ?_, fun x h => a.n x (b.n x h), fun x h => ?_⟩
  · rcases List.mem_append.mp hx with h | h
    · exact d1 x h
    · exact a.n x (d2 x h)
  · refine b.h x o (a.h x o h n m) n ?_
    rw [e1]
    intro hm
    rcases List.mem_append.mp hm with z | z
    · exact m z
    · exact (d1 x z).no h n
  · rcases b.fn x h with z | z
    · exact a.fn x z
    · exact .inr (a.n x z)
theorem Ext.gk (a : Ext F H γ F1 H1 γ1) : ∀ (k : Nat) (x : Addr), γ[k]? = some x → γ1[k]? = some x := fun k x h => by
  obtain ⟨δ, e, _⟩ := a.g
  obtain ⟨hk, _⟩ := List.getElem?_eq_some_iff.mp h
  rw [e, List.getElem?_append_left hk]
  exact h
theorem Ext.rep (a : Ext F H γ F1 H1 γ1) {v : V} {d : D} (r : Rep K g γ F v d) : Rep K g γ1 F1 v d := r.mono a.f a.gk
theorem Ext.reps (a : Ext F H γ F1 H1 γ1) {v : List V} {d : List D} (r : Reps K g γ F v d) : Reps K g γ1 F1 v d := r.mono a.f a.gk
theorem Ext.notIn (a : Ext F H γ F1 H1 γ1) {x : Addr} {o : List V} (h : H x = some (.lst o)) (m : x ∉ γ) : x ∉ γ1 := by
  obtain ⟨δ, e, d⟩ := a.g
  rw [e]
  intro hm
  rcases List.mem_append.mp hm with z | z
  · exact m z
  · exact (d x z).lst h
theorem Ext.fnone (a : Ext F H γ F1 H1 γ1) {x : Addr} {o : List V} (h : H x = some (.lst o)) (m : F x = none) : F1 x = none := by
  cases q : F1 x with
  | none => rfl
  | some o' =>
    rcases a.fn x (by rw [q]; simp) with z | z
    · exact absurd m z
    · exact (z.lst h).elim
theorem tabs_upd {T : List (Addr × Str)} {a : Addr} {o : HO} (t : LamX.Tabs T H) (h : (∀ ps, H a ≠ some (.tbl ps)) ∧ ∀ c q, H a ≠ some (LamX.CodeO c q)) : LamX.Tabs T (upd H a o) := fun p hp => by
  obtain ⟨ps, h1, h2, h3⟩ := t p hp
  refine ⟨ps, by rw [upd_ne]; exact h1; intro z; exact h.1 ps (by rw [← z]; exact h1), h2, fun pos cv hc => ?_⟩
  obtain ⟨c, e1, e2⟩ := h3 pos cv hc
  refine ⟨c, e1, by rw [upd_ne]; exact e2; intro z; exact h.2 _ _ (by rw [← z]; exact e2)⟩
theorem tabs_new {T : List (Addr × Str)} {a : Addr} {o : HO} (t : LamX.Tabs T H) (h : H a = none) : LamX.Tabs T (upd H a o) := tabs_upd t ⟨fun ps => (by rw [h]; simp), fun c q => (by rw [h]; simp)⟩
theorem tabs_lst {T : List (Addr × Str)} {a : Addr} {o : HO} {xs : List V} (t : LamX.Tabs T H) (h : H a = some (.lst xs)) : LamX.Tabs T (upd H a o) :=
  tabs_upd t ⟨fun ps => (by rw [h]; simp), fun c q => (by rw [h]; unfold LamX.CodeO; simp)⟩
/-- a new object, frozen -/
theorem SS.new (s : SS K g F H γ S) {p : Addr} {o : HO} (hp : H p = none) (ho : ∀ ps, o ≠ .tbl ps := by intro ps z; cases z) : SS K g (upd F p o) (upd H p o) γ S := by
  have fp : F p = none := by
    cases q : F p with
    | none => rfl
    | some u => rw [s.sub p u q] at hp; cases hp
  have hf : ∀ a u, F a = some u → upd F p o a = some u := fun a u h => by rw [upd_ne (ne_of_none h fp)]; exact h
  have nt : ∀ a ps, upd F p o a ≠ some (.tbl ps) := fun a ps z => by
    by_cases e : a = p
    · subst e; rw [upd_same] at z; cases z; exact ho ps rfl
    · rw [upd_ne e] at z; exact s.nt a ps z
  refine ⟨fun a u h => ?_, s.len, fun k l h => ?_, s.nd, fun a ha => ?_, tabs_new s.tabs hp, nt⟩
  · by_cases e : a = p
    · subst e; rw [upd_same] at h ⊢; exact h
    · rw [upd_ne e] at h ⊢; exact s.sub a u h
  · obtain ⟨a, xs, h1, h2, h3⟩ := s.cell k l h
    exact ⟨a, xs, h1, by rw [upd_ne (ne_of_none h2 hp)]; exact h2, h3.mono hf fun _ _ h => h⟩
  · rw [upd_ne ?_]
    · exact s.fr a ha
    · intro e
      subst e
      obtain ⟨k, hk⟩ := List.getElem?_of_mem ha
      obtain ⟨hlt, _⟩ := List.getElem?_eq_some_iff.mp hk
      have hlt' : k < S.length := by rw [← s.len]; exact hlt
      cases q : S[k] with
      | lst l =>
        obtain ⟨a', xs, h1, h2, h3⟩ := s.cell k l (by rw [List.getElem?_eq_getElem hlt', q])
        rw [hk] at h1
        cases h1
        rw [hp] at h2
        cases h2
theorem Ext.new {p : Addr} {o : HO} (s : ∀ a o, F a = some o → H a = some o) (hp : H p = none) : Ext F H γ (upd F p o) (upd H p o) γ := by
  have fp : F p = none := by
    cases q : F p with
    | none => rfl
    | some u => rw [s p u q] at hp; cases hp
  refine ⟨fun a u h => by rw [upd_ne (ne_of_none h fp)]; exact h, ⟨[], by simp, fun _ h => by simp at h⟩, fun a u h _ _ => by rw [upd_ne (ne_of_none h hp)]; exact h, fun a h => ?_, fun a h => ?_⟩
  · by_cases e : a = p
    · subst e; exact .of hp
    · intro u hu; exact h u (by rw [upd_ne e]; exact hu)
  · by_cases e : a = p
    · subst e; exact .inr (.of hp)
    · rw [upd_ne e] at h; exact .inl h
end

/-- the slots; H0: the heap at the def's entry -/
structure ER (K : PySem.W.Frag) (g : Gn) (H0 F H : Hp) (γ : List Addr) (ρ : Env) (σ : L2.St) : Prop where
  len : ρ.length = σ.length
  val : ∀ (i : Nat) (d : D), ρ[i]? = some (.v d) → ∃ v, σ[i]? = some (some v) ∧ Rep K g γ F v d
  own : ∃ oa : Nat → Addr, (∀ (i : Nat) (l : List D), ρ[i]? = some (.own l) → ∃ xs, σ[i]? = some (some (.ref (oa i))) ∧ H (oa i) = some (.lst xs) ∧ F (oa i) = none ∧ oa i ∉ γ ∧ Nw H0 (oa i) ∧ Reps K g γ F xs l) ∧
    ∀ (i j : Nat) (l m : List D), ρ[i]? = some (.own l) → ρ[j]? = some (.own m) → oa i = oa j → i = j
section
variable {K : PySem.W.Frag} {g : Gn} {γ γ1 : List Addr} {H0 F H F1 H1 : Hp} {ρ : Env} {σ : L2.St}
theorem ER.ext (r : ER K g H0 F H γ ρ σ) (e : Ext F H γ F1 H1 γ1) : ER K g H0 F1 H1 γ1 ρ σ := by
  refine ⟨r.len, fun i d h => ?_, ?_⟩
  · obtain ⟨v, h1, h2⟩ := r.val i d h
    exact ⟨v, h1, e.rep h2⟩
  · obtain ⟨oa, h1, h2⟩ := r.own
    refine ⟨oa, fun i l h => ?_, h2⟩
    obtain ⟨xs, a1, a2, a3, a4, a5, a6⟩ := h1 i l h
    exact ⟨xs, a1, e.h _ _ a2 (fun ps z => by cases z) a4, e.fnone a2 a3, e.notIn a2 a4, a5, e.reps a6⟩
end
end Pv

/-! PvU: tuple * 1 is the tuple itself. -/
namespace Pv
open PySem PySem.Spec PyProof.Rows L2
theorem tuple_mul1 (l : Addr) (items : Array Value) (n : Nat) (dd : Option Addr) (sl : Array (Option Value)) (u : Tok) :
    Meets (Builtin.«tuple.__mul__» ⟨[.ref l, .int 1 u], []⟩) (fun _ R s => s.heap.get? l = some { cls := .type "tuple", dict := dd, data := .seq items n, slots := sl } ∧ R (.ok (.ret (Value.ref l))) s) :=
  .of_wp fun prog w A R s h => by
    obtain ⟨hp, g, d, tk, os⟩ := s
    obtain ⟨hl, h⟩ := h
    have f1 := AutoSeq1.idx_int
    have c0 : (decide ((1 : Int) < -(2 ^ 63)) || decide ((1 : Int) ≥ 2 ^ 63)) = false := by decide
    have c1 : (items.isEmpty || ((1 : Int) == 1)) = true := by rw [show ((1 : Int) == 1) = true from rfl, Bool.or_true]
    wp_walk using wpAny_loadPart' hl
    repeat (first
      | (refine wpAny_ite_false (decide_eq_false (by rw [c0]; exact Bool.false_ne_true)) ?_; wp_walk using wpAny_loadPart' hl)
      | (refine wpAny_ite_true (decide_eq_true (by rw [c1])) ?_; wp_walk using wpAny_loadPart' hl))
    exact ⟨_, rfl, h⟩
def rRepT1 (K : PySem.W.Frag) : R2 := fun x y H Q => ∃ l xs, x = .ref l ∧ y = .int 1 ∧ SqT K H l xs ∧ Q (.ref l) H
theorem op_repT1 {X : Cx} : OpR X (binaryOp .Mult) (rRepT1 X.K) := by
  intro pins s σ H x y v u Q I rx ry h
  obtain ⟨l, xs, rfl, rfl, hT, q⟩ := h
  cases rx
  obtain ⟨t, rfl⟩ := ry
  obtain ⟨its, r, ⟨⟨cls, dd, data, sl⟩, ho, hc, n, hd⟩, hs⟩ := I.tuple hT
  simp only at hc hd
  subst hc hd
  exact wpAny_binaryOp_repeat_ref (T := "tuple") (U := "int") (by decide) ⟨_, ho, rfl⟩ (fun s' => typeIs_int s' 1 t) noFill_tuple_mul F.fills_int_mul F.slot_int_rmul repeat_tuple F.slot_int_index.lookup
    (call_meets F.slot_int_rmul (typeIs_int s 1 t) F.entry_int_rmul (F.args_int_rmul_2 _ _) (int_rmul_tuple 1 t l its.toArray n dd sl)
      ⟨ho, rfl, ⟨_, ho, rfl⟩, call_meets F.slot_tuple_mul ⟨_, ho, rfl⟩ F.entry_tuple_mul (F.args_tuple_mul_2 _ _) (tuple_mul1 l its.toArray n dd sl t) ⟨ho, .ref l, H, I, rfl, q⟩⟩)
end Pv

/-! Pv3: the operations on values. -/
namespace Pv
open PySem PySem.Spec PyProof.Rows L2

section
variable (K : PySem.W.Frag) (g : Gn)
/-- what a value's maker must meet -/
def VP (F H : Hp) (γ : List Addr) (S : Sto) (d : D) (Q : VK) : Prop := ∀ v F' H' γ', Ext F H γ F' H' γ' → SS K g F' H' γ' S → Rep K g γ' F' v d → Q v H'
/-- an operand: frozen, or a list of the def's own -/
def Top (F H : Hp) (γ : List Addr) (v : V) (d : D) : Prop := Rep K g γ F v d ∨ ∃ a xs ds, v = .ref a ∧ d = .lst ds ∧ H a = some (.lst xs) ∧ a ∉ γ ∧ F a = none ∧ Reps K g γ F xs ds
end
section
variable {K : PySem.W.Frag} {g : Gn} {F H F1 H1 : Hp} {γ γ1 : List Addr} {S S1 : Sto} {d : D} {Q : VK} {v : V}
theorem VP.here (q : VP K g F H γ S d Q) (s : SS K g F H γ S) (r : Rep K g γ F v d) : Q v H := q v F H γ .refl s r
theorem VP.ext (q : VP K g F H γ S d Q) (e : Ext F H γ F1 H1 γ1) : VP K g F1 H1 γ1 S d Q := fun v F' H' γ' e' s r => q v F' H' γ' (e.trans e') s r
theorem reps_new {p : Addr} {o : HO} {xs : List V} {ds : List D} (s : SS K g F H γ S) (hp : H p = none) (r : Reps K g γ F xs ds) : Reps K g γ (upd F p o) xs ds := r.mono (Ext.new (γ := γ) s.sub hp).f fun _ _ h => h
theorem VP.tup {ds : List D} {xs : List V} (q : VP K g F H γ S (.tup ds) Q) (s : SS K g F H γ S) (r : Reps K g γ F xs ds) : ∀ p, H p = none → Q (.ref p) (upd H p (.tup xs)) := fun p hp =>
  q _ _ _ γ (Ext.new s.sub hp) (s.new hp) (.tup (.inl (.inl upd_same)) (reps_new s hp r))
theorem VP.lst {ds : List D} {xs : List V} (q : VP K g F H γ S (.lst ds) Q) (s : SS K g F H γ S) (r : Reps K g γ F xs ds) : ∀ p, H p = none → Q (.ref p) (upd H p (.lst xs)) := fun p hp =>
  q _ _ _ γ (Ext.new s.sub hp) (s.new hp) (.lst upd_same (reps_new s hp r))
theorem Top.of (r : Rep K g γ F v d) : Top K g F H γ v d := .inl r
theorem Top.ext (t : Top K g F H γ v d) (e : Ext F H γ F1 H1 γ1) : Top K g F1 H1 γ1 v d := by
  rcases t with t | ⟨a, xs, ds, rfl, rfl, h1, h2, h3, h4⟩
  · exact .inl (e.rep t)
  · exact .inr ⟨a, xs, ds, rfl, rfl, e.h _ _ h1 (fun ps z => by cases z) h2, e.notIn h1 h2, e.fnone h1 h3, e.reps h4⟩
theorem Top.int {i : Int} (t : Top K g F H γ v (.int i)) : v = .int i := by
  rcases t with t | ⟨a, xs, ds, rfl, h, _⟩
  · cases t; rfl
  · cases h
theorem Top.bl {i : Bool} (t : Top K g F H γ v (.bl i)) : v = .bl i := by
  rcases t with t | ⟨a, xs, ds, rfl, h, _⟩
  · cases t; rfl
  · cases h
theorem Top.str {i : Str} (t : Top K g F H γ v (.str i)) : v = .str i := by
  rcases t with t | ⟨a, xs, ds, rfl, h, _⟩
  · cases t; rfl
  · cases h
theorem Top.non (t : Top K g F H γ v .non) : v = .non := by
  rcases t with t | ⟨a, xs, ds, rfl, h, _⟩
  · cases t; rfl
  · cases h
theorem Top.ty {n : String} (t : Top K g F H γ v (.ty n)) : v = .ty n := by
  rcases t with t | ⟨a, xs, ds, rfl, h, _⟩
  · cases t; rfl
  · cases h
theorem Top.lst {ds : List D} (s : SS K g F H γ S) (t : Top K g F H γ v (.lst ds)) : ∃ a xs, v = .ref a ∧ H a = some (.lst xs) ∧ Reps K g γ F xs ds := by
  rcases t with t | ⟨a, xs, ds', rfl, h, h1, _, _, h2⟩
  · cases t with
    | lst h r => exact ⟨_, _, rfl, s.sub _ _ h, r⟩
  · cases h
    exact ⟨_, _, rfl, h1, h2⟩
theorem Top.tup {ds : List D} (s : SS K g F H γ S) (t : Top K g F H γ v (.tup ds)) : ∃ a xs, v = .ref a ∧ SqT K F a xs ∧ SqT K H a xs ∧ Reps K g γ F xs ds := by
  rcases t with t | ⟨a, xs, ds', rfl, h, h1, _, _, h2⟩
  · cases t with
    | tup h r => exact ⟨_, _, rfl, h, sqT_mono s.sub h, r⟩
  · cases h
/-- a list as it stands -/
theorem Top.seqL {ds : List D} (s : SS K g F H γ S) (t : Top K g F H γ v d) (e : seqL S d = some ds) : ∃ a xs, v = .ref a ∧ SqL K H a xs ∧ Reps K g γ F xs ds := by
  cases d with
  | lst l =>
    cases e
    obtain ⟨a, xs, h1, h2, h3⟩ := Top.lst s t
    exact ⟨a, xs, h1, SqL.of h2, h3⟩
  | cell k =>
    rcases t with t | ⟨a, xs, ds', rfl, h, _⟩
    · cases t with
      | cell h =>
        have e' : (match S[k]? with
          | some (.lst l) => some l
          | none => none) = some ds := e
        cases hk : S[k]? with
        | none => rw [hk] at e'; cases e'
        | some cl =>
          cases cl with
          | lst l =>
            rw [hk] at e'
            cases e'
            obtain ⟨a', xs, h1, h2, h3⟩ := s.cell _ _ hk
            rw [h] at h1
            cases h1
            exact ⟨_, xs, rfl, SqL.of h2, h3⟩
    · cases h
  | _ => cases e
/-- a list or a tuple -/
theorem Top.seqOf {ds : List D} (s : SS K g F H γ S) (t : Top K g F H γ v d) (e : seqOf S d = some ds) : ∃ a xs, v = .ref a ∧ (SqL K H a xs ∨ SqT K H a xs) ∧ Reps K g γ F xs ds := by
  cases d with
  | scr l =>
    cases e
    rcases t with t | ⟨a, xs, ds', rfl, h, _⟩
    · cases t with
      | scr h => exact ⟨_, _, rfl, .inl (sqL_mono s.sub h), Reps.ints l⟩
    · cases h
  | tup l =>
    cases e
    obtain ⟨a, xs, h1, _, h2, h3⟩ := Top.tup s t
    exact ⟨a, xs, h1, .inr h2, h3⟩
  | lst l =>
    obtain ⟨a, xs, h1, h2, h3⟩ := Top.seqL s t (show Pv.seqL S (.lst l) = some ds from e)
    exact ⟨a, xs, h1, .inl h2, h3⟩
  | cell k =>
    obtain ⟨a, xs, h1, h2, h3⟩ := Top.seqL s t (show Pv.seqL S (.cell k) = some ds from e)
    exact ⟨a, xs, h1, .inl h2, h3⟩
  | _ => cases e
end

/-! ### binary operations -/
def opB : Bop → Operator
  | .add => .Add | .sub => .Sub | .mul => .Mult | .fdiv => .FloorDiv | .mod => .Mod | .pow => .Pow
def rStrAdd : R2 := fun x y H Q => ∃ i j, x = .str i ∧ y = .str j ∧ i.length + j.length ≤ sizeLine ∧ Q (.str (i ++ j)) H
def rBin (K : PySem.W.Frag) : Bop → R2
  | .add => fun x y H Q => (((rI0 fun i j => .int (i + j)) x y H Q ∨ rCat x y H Q) ∨ rCatA K x y H Q) ∨ rStrAdd x y H Q
  | .sub => rI0 fun i j => .int (i - j)
  | .mul => fun x y H Q => (((rI CMul fun i j => .int (i * j)) x y H Q ∨ (rI CMulW fun i j => .int (i * j)) x y H Q) ∨ rRep x y H Q) ∨ rRepT K x y H Q ∨ rRepT1 K x y H Q
  | .fdiv => rI CDivW fun i j => .int (i / j)
  | .mod => rI (fun _ j => 0 < j) fun i j => .int (i % j)
  | .pow => rI CPow fun i j => .int (i ^ j.toNat)
theorem op_bin {X : Cx} : ∀ op : Bop, OpR X (binaryOp (opB op)) (rBin X.K op)
  | .add => OpR.or (OpR.or (OpR.or op_add op_cat) op_catA) op_add_str
  | .sub => op_sub
  | .mul => OpR.or (OpR.or (OpR.or op_mul op_mulW) op_rep) (OpR.or op_repT op_repT1)
  | .fdiv => op_fdivW
  | .mod => op_mod
  | .pow => op_pow
theorem lenOk_le {n : Nat} (h : lenOk n = true) : n ≤ sizeLine := by
  rw [sizeLine_eq]
  exact of_decide_eq_true h
theorem natAbs_lt64 {i : Int} (h : i.natAbs < 2 ^ 64) : -(2 ^ 64) < i ∧ i < 2 ^ 64 := by omega
theorem mulOk_ok {i j : Int} (h : mulOk i j = true) : CMul i j ∨ CMulW i j := by
  unfold mulOk at h
  simp only [Bool.or_eq_true, Bool.and_eq_true, decide_eq_true_eq] at h
  rcases h with (h | h) | ⟨h1, h2⟩
  · exact .inl (.inl (natAbs_lt64 h))
  · exact .inl (.inr (natAbs_lt64 h))
  · exact .inr (wide_mul h1 h2 (by decide) (by decide) (by decide))
section
variable {K : PySem.W.Frag} {g : Gn} {F H : Hp} {γ : List Addr} {S : Sto} {x y : V} {dx dy d : D} {Q : VK}
theorem rBin_ok {op : Bop} (s : SS K g F H γ S) (hx : Top K g F H γ x dx) (hy : Top K g F H γ y dy) (e : binD op dx dy = some d) (q : VP K g F H γ S d Q) : rBin K op x y H Q := by
  unfold binD at e
  split at e
  · rename_i i j
    obtain rfl := hx.int
    obtain rfl := hy.int
    cases op with
    | add => cases e; exact .inl (.inl (.inl ⟨i, j, rfl, rfl, q.here s (.int _)⟩))
    | sub => cases e; exact ⟨i, j, rfl, rfl, q.here s (.int _)⟩
    | mul =>
      dsimp only at e
      split at e
      · rename_i hm
        cases e
        rcases mulOk_ok hm with h | h
        · exact .inl (.inl (.inl ⟨i, j, rfl, rfl, h, q.here s (.int _)⟩))
        · exact .inl (.inl (.inr ⟨i, j, rfl, rfl, h, q.here s (.int _)⟩))
      · cases e
    | fdiv =>
      dsimp only at e
      split at e
      · rename_i hm
        cases e
        simp only [Bool.and_eq_true, decide_eq_true_eq] at hm
        exact ⟨i, j, rfl, rfl, wide_div hm.1 hm.2 (by decide) (by decide), q.here s (.int _)⟩
      · cases e
    | mod =>
      dsimp only at e
      split at e
      · rename_i hm
        cases e
        exact ⟨i, j, rfl, rfl, of_decide_eq_true hm, q.here s (.int _)⟩
      · cases e
    | pow =>
      dsimp only at e
      split at e
      · rename_i hm
        cases e
        simp only [Bool.and_eq_true, decide_eq_true_eq] at hm
        exact ⟨i, j, rfl, rfl, ⟨hm.1.1, hm.1.2, hm.2⟩, q.here s (.int _)⟩
      · cases e
  · rename_i xs ys
    obtain ⟨a, us, rfl, h1, r1⟩ := Top.lst s hx
    obtain ⟨b, ws, rfl, h2, r2⟩ := Top.lst s hy
    cases op with
    | add =>
      dsimp only at e
      split at e
      · rename_i hm
        cases e
        exact .inl (.inl (.inr ⟨a, b, us, ws, rfl, rfl, h1, h2, by rw [r1.length, r2.length]; exact lenOk_le hm, q.lst s (r1.append r2)⟩))
      · cases e
    | _ => cases e
  · rename_i xs ys
    obtain ⟨a, us, rfl, f1, h1, r1⟩ := Top.tup s hx
    obtain ⟨b, ws, rfl, f2, h2, r2⟩ := Top.tup s hy
    cases op with
    | add =>
      dsimp only at e
      split at e
      · rename_i hm
        cases e
        refine .inl (.inr ⟨a, b, us, ws, rfl, rfl, h1, h2, by rw [r1.length, r2.length]; exact lenOk_le hm, fun z => ?_, fun _ z => ?_, fun _ _ => q.tup s (r1.append r2)⟩)
        · subst z
          cases r1
          exact q.here s (.tup f2 r2)
        · subst z
          cases r2
          refine q.here s (.tup f1 ?_)
          rw [List.append_nil]
          exact r1
      · cases e
    | _ => cases e
  · rename_i i j
    obtain rfl := hx.str
    obtain rfl := hy.str
    cases op with
    | add =>
      dsimp only at e
      split at e
      · rename_i hm
        cases e
        exact .inr ⟨i, j, rfl, rfl, lenOk_le hm, q.here s (.str _)⟩
      · cases e
    | _ => cases e
  · rename_i xs k
    obtain ⟨a, us, rfl, f1, h1, r1⟩ := Top.tup s hx
    obtain rfl := hy.int
    cases op with
    | mul =>
      dsimp only at e
      split at e
      · rename_i hm
        cases e
        simp only [Bool.and_eq_true, decide_eq_true_eq, Bool.not_eq_true', List.isEmpty_eq_false_iff] at hm
        by_cases hk : k = 1
        · subst hk
          refine .inr (.inr ⟨a, us, rfl, rfl, h1, q.here s (.tup f1 ?_)⟩)
          show Reps K g γ F us (List.replicate 1 xs).flatten
          simpa using r1
        · exact .inr (.inl ⟨a, k, us, rfl, rfl, h1, fun z => by subst z; cases r1; exact hm.1.1.1 rfl, by omega, hm.1.2, by rw [r1.length]; exact hm.2, q.tup s (r1.rep _)⟩)
      · cases e
    | _ => cases e
  · rename_i xs k
    obtain ⟨a, us, rfl, h1, r1⟩ := Top.lst s hx
    obtain rfl := hy.int
    cases op with
    | mul =>
      dsimp only at e
      split at e
      · rename_i hm
        cases e
        simp only [Bool.and_eq_true] at hm
        exact .inl (.inr ⟨a, k, us, rfl, rfl, h1, by have := (rngB_ok hm.1).1; omega, by have := (rngB_ok hm.1).2; omega, by rw [r1.length]; exact lenOk_le hm.2, q.lst s (r1.rep _)⟩)
      · cases e
    | _ => cases e
  · cases e
end
end Pv

/-! Pv4: comparisons. -/
namespace Pv
open PySem PySem.Spec PyProof.Rows L2

mutual
def toPy : D → PyData
  | .non => .none
  | .bl b => .bool b
  | .int i => .int i
  | .str s => .str s
  | .tup l => .tuple (toPys l)
  | .lst l => .list (toPys l)
  | _ => .none
def toPys : List D → List PyData
  | [] => []
  | d :: ds => toPy d :: toPys ds
end
theorem toPys_map : ∀ l : List D, toPys l = l.map toPy
  | [] => by unfold toPys; rfl
  | d :: ds => by unfold toPys; rw [toPys_map ds]; rfl
mutual
theorem plain_lay : ∀ (n : Nat) (d : D), plain n d = true → (toPy d).canLay0 = true ∧ (toPy d).depth ≤ n
  | n, .non, _ => by unfold toPy; exact ⟨by simp [PyData.canLay0], by simp [PyData.depth]⟩
  | n, .bl b, _ => by unfold toPy; exact ⟨by simp [PyData.canLay0], by simp [PyData.depth]⟩
  | n, .int b, _ => by unfold toPy; exact ⟨by simp [PyData.canLay0], by simp [PyData.depth]⟩
  | n, .str b, h => by
    unfold toPy
    refine ⟨?_, by simp [PyData.depth]⟩
    simp only [PyData.canLay0, PyData.strOk]
    unfold plain at h
    exact h
  | 0, .lst l, h => by simp [plain] at h
  | 0, .tup l, h => by simp [plain] at h
  | n + 1, .lst l, h => by
    have h' : plains n l = true := by simpa [plain] using h
    obtain ⟨h1, h2⟩ := plains_lay n l h'
    unfold toPy
    exact ⟨by simpa [PyData.canLay0] using h1, by simp only [PyData.depth]; omega⟩
  | n + 1, .tup l, h => by
    have h' : plains n l = true := by simpa [plain] using h
    obtain ⟨h1, h2⟩ := plains_lay n l h'
    unfold toPy
    exact ⟨by simpa [PyData.canLay0] using h1, by simp only [PyData.depth]; omega⟩
  | n, .fn _, h => by cases n <;> simp [plain] at h
  | n, .cls _, h => by cases n <;> simp [plain] at h
  | n, .ty _, h => by cases n <;> simp [plain] at h
  | n, .cell _, h => by cases n <;> simp [plain] at h
  | n, .scr _, h => by cases n <;> simp [plain] at h
theorem plains_lay : ∀ (n : Nat) (l : List D), plains n l = true → PyData.canLayAll0 (toPys l) = true ∧ PyData.depthAll (toPys l) ≤ n
  | n, [], _ => by unfold toPys; exact ⟨by simp [PyData.canLayAll0], by simp [PyData.depthAll]⟩
  | n, d :: ds, h => by
    have h' : (plain n d && plains n ds) = true := by simpa [plains] using h
    obtain ⟨h1, h2⟩ := Bool.and_eq_true_iff.mp h'
    obtain ⟨a1, a2⟩ := plain_lay n d h1
    obtain ⟨b1, b2⟩ := plains_lay n ds h2
    unfold toPys
    exact ⟨by simp [PyData.canLayAll0, a1, b1], by simp only [PyData.depthAll]; omega⟩
end
theorem plain_shaped {d : D} (h : plainD d = true) : SeqAt.shaped (toPy d) = true := by
  obtain ⟨h1, h2⟩ := plain_lay 64 d h
  unfold SeqAt.shaped
  rw [h1, decide_eq_true h2]
  rfl
theorem plainD_lst {l : List D} (h : plainD (.lst l) = true) : plains 63 l = true := by
  have h' : plain (63 + 1) (.lst l) = true := h
  simpa [plain] using h'
theorem plainD_tup {l : List D} (h : plainD (.tup l) = true) : plains 63 l = true := by
  have h' : plain (63 + 1) (.tup l) = true := h
  simpa [plain] using h'
mutual
theorem deq_py : ∀ (n m : Nat) (d e : D), plain n d = true → plain m e = true → deq d e = PyData.eqv (toPy d) (toPy e)
  | n, m, d, e, hd, he => by
    cases d with
    | fn _ => cases n <;> simp [plain] at hd
    | cls _ => cases n <;> simp [plain] at hd
    | ty _ => cases n <;> simp [plain] at hd
    | cell _ => cases n <;> simp [plain] at hd
    | scr _ => cases n <;> simp [plain] at hd
    | non => cases e <;> first | (cases m <;> simp [plain] at he; done) | simp [deq, toPy, PyData.eqv]
    | bl b => cases e <;> first | (cases m <;> simp [plain] at he; done) | simp [deq, toPy, PyData.eqv]
    | int b => cases e <;> first | (cases m <;> simp [plain] at he; done) | simp [deq, toPy, PyData.eqv]
    | str b => cases e <;> first | (cases m <;> simp [plain] at he; done) | simp [deq, toPy, PyData.eqv]
    | tup l => cases e with
      | tup l' =>
        cases n with
        | zero => simp [plain] at hd
        | succ n =>
        cases m with
        | zero => simp [plain] at he
        | succ m =>
          have h1 : plains n l = true := by simpa [plain] using hd
          have h2 : plains m l' = true := by simpa [plain] using he
          simp only [deq, toPy, PyData.eqv]
          exact deqs_py n m l l' h1 h2
      | _ => first | (cases m <;> simp [plain] at he; done) | simp [deq, toPy, PyData.eqv]
    | lst l => cases e with
      | lst l' =>
        cases n with
        | zero => simp [plain] at hd
        | succ n =>
        cases m with
        | zero => simp [plain] at he
        | succ m =>
          have h1 : plains n l = true := by simpa [plain] using hd
          have h2 : plains m l' = true := by simpa [plain] using he
          simp only [deq, toPy, PyData.eqv]
          exact deqs_py n m l l' h1 h2
      | _ => first | (cases m <;> simp [plain] at he; done) | simp [deq, toPy, PyData.eqv]
theorem deqs_py : ∀ (n m : Nat) (l l' : List D), plains n l = true → plains m l' = true → deqs l l' = PyData.eqvAll (toPys l) (toPys l')
  | n, m, [], [], _, _ => by simp [deqs, toPys, PyData.eqvAll]
  | n, m, [], _ :: _, _, _ => by simp [deqs, toPys, PyData.eqvAll]
  | n, m, _ :: _, [], _, _ => by simp [deqs, toPys, PyData.eqvAll]
  | n, m, d :: ds, e :: es, h1, h2 => by
    have h1' : (plain n d && plains n ds) = true := by simpa [plains] using h1
    have h2' : (plain m e && plains m es) = true := by simpa [plains] using h2
    obtain ⟨a1, a2⟩ := Bool.and_eq_true_iff.mp h1'
    obtain ⟨b1, b2⟩ := Bool.and_eq_true_iff.mp h2'
    simp only [deqs, toPys, PyData.eqvAll]
    rw [deq_py n m d e a1 b1, deqs_py n m ds es a2 b2]
end
section
variable {K : PySem.W.Frag} {g : Gn} {F H : Hp} {γ : List Addr} {S : Sto} {x y : V} {dx dy d : D} {Q : VK}
mutual
theorem dp_of (hs : ∀ a o, F a = some o → H a = some o) : ∀ {n : Nat} {v : V} {d : D}, Rep K g γ F v d → plain n d = true → Dp K H v (toPy d)
  | _, _, _, .non, _ => by unfold toPy; exact .non
  | _, _, _, .bl b, _ => by unfold toPy; exact .bl b
  | _, _, _, .int b, _ => by unfold toPy; exact .int b
  | _, _, _, .str b, _ => by unfold toPy; exact .str b
  | 0, _, _, .tup h r, p => by simp [plain] at p
  | 0, _, _, .lst h r, p => by simp [plain] at p
  | n + 1, _, _, .tup h r, p => by
    unfold toPy
    exact .tup (sqT_mono hs h) (dps_of hs r (n := n) (by simpa [plain] using p))
  | n + 1, _, _, .lst h r, p => by
    unfold toPy
    exact .lst (SqL.of (hs _ _ h)) (dps_of hs r (n := n) (by simpa [plain] using p))
  | n, _, _, .scr h, p => by cases n <;> simp [plain] at p
  | n, _, _, .fn _ _, p => by cases n <;> simp [plain] at p
  | n, _, _, .cls _, p => by cases n <;> simp [plain] at p
  | n, _, _, .ty _, p => by cases n <;> simp [plain] at p
  | n, _, _, .cell _, p => by cases n <;> simp [plain] at p
theorem dps_of (hs : ∀ a o, F a = some o → H a = some o) : ∀ {n : Nat} {vs : List V} {ds : List D}, Reps K g γ F vs ds → plains n ds = true → DpAll K H vs (toPys ds)
  | _, _, _, .nil, _ => by unfold toPys; exact .nil
  | n, _, _, .cons (d := d) (ds := ds) r t, p => by
    have p' : (plain n d && plains n ds) = true := by simpa [plains] using p
    obtain ⟨p1, p2⟩ := Bool.and_eq_true_iff.mp p'
    unfold toPys
    exact .cons (dp_of hs r p1) (dps_of hs t p2)
end
theorem Top.dp (s : SS K g F H γ S) (t : Top K g F H γ x dx) (p : plainD dx = true) : Dp K H x (toPy dx) := by
  rcases t with t | ⟨a, xs, ds, rfl, rfl, h1, _, _, h2⟩
  · exact dp_of s.sub t p
  · unfold toPy
    exact .lst (SqL.of h1) (dps_of s.sub h2 (n := 63) (plainD_lst p))
end
/-! ### the rules -/
def opC : Cop → CmpOp
  | .eq => .Eq | .ne => .NotEq | .lt => .Lt | .le => .LtE | .gt => .Gt | .ge => .GtE | .isin => .In | .notin => .NotIn | .is => .Is | .isnt => .IsNot
def rInT (K : PySem.W.Frag) : R2 := fun x y H Q => ∃ d ds, Dp K H x d ∧ Dp K H y (.tuple ds) ∧ SeqAt.shaped d = true ∧ SeqAt.shaped (.tuple ds) = true ∧ Q (.bl (ds.any fun z => PyData.eqv z d)) H
def rNotInT (K : PySem.W.Frag) : R2 := fun x y H Q => ∃ d ds, Dp K H x d ∧ Dp K H y (.tuple ds) ∧ SeqAt.shaped d = true ∧ SeqAt.shaped (.tuple ds) = true ∧ Q (.bl (!ds.any fun z => PyData.eqv z d)) H
theorem room_tup {A : Around} {d : PyData} {ds : List PyData} (sd : SeqAt.shaped d = true) (hu : A.units + 65 < cLine) : A.units + 1 + min (PyData.depthAll ds) d.depth < cLine := by
  have h := SeqAt.depth_of_shaped sd
  have h2 : min (PyData.depthAll ds) d.depth ≤ d.depth := Nat.min_le_right _ _
  omega
theorem op_inT {X : Cx} (hu : X.A.units + 65 < cLine) : OpR X (compareOp .In) (rInT X.K) := by
  intro pins s σ H x y v u Q I rx ry h
  obtain ⟨d, ds, hd, he, sd, se, q⟩ := h
  obtain ⟨as, r1⟩ := Dp.reads I d x v hd rx
  obtain ⟨bs, r2⟩ := Dp.reads I (.tuple ds) y u he ry
  exact SeqAt.in_tuple_reads r2 r1 (SeqAt.canLay_of_shaped se) (SeqAt.canLay_of_shaped sd) (room_tup sd hu) ⟨.bl _, H, I, rfl, q⟩
theorem op_notInT {X : Cx} (hu : X.A.units + 65 < cLine) : OpR X (compareOp .NotIn) (rNotInT X.K) := by
  intro pins s σ H x y v u Q I rx ry h
  obtain ⟨d, ds, hd, he, sd, se, q⟩ := h
  obtain ⟨as, r1⟩ := Dp.reads I d x v hd rx
  obtain ⟨bs, r2⟩ := Dp.reads I (.tuple ds) y u he ry
  exact SeqAt.notIn_tuple_reads r2 r1 (SeqAt.canLay_of_shaped se) (SeqAt.canLay_of_shaped sd) (room_tup sd hu) ⟨.bl _, H, I, rfl, q⟩
def rIsN : R2 := fun x y H Q => y = .non ∧ Q (.bl (decide (x = .non))) H
def rNotN : R2 := fun x y H Q => y = .non ∧ Q (.bl (!decide (x = .non))) H
def rCmp (K : PySem.W.Frag) : Cop → R2
  | .eq => fun x y H Q => rEq x y H Q ∨ rEqD K x y H Q
  | .ne => fun x y H Q => rNe x y H Q ∨ rNeD K x y H Q
  | .lt => fun x y H Q => (rI0 fun i j => .bl (decide (i < j))) x y H Q ∨ rLtT K x y H Q
  | .le => rI0 fun i j => .bl (decide (i ≤ j))
  | .gt => rI0 fun i j => .bl (decide (j < i))
  | .ge => rI0 fun i j => .bl (decide (j ≤ i))
  | .isin => fun x y H Q => rInD K x y H Q ∨ rInT K x y H Q
  | .notin => fun x y H Q => rNotInD K x y H Q ∨ rNotInT K x y H Q
  | .is => fun x y H Q => rIsN x y H Q ∨ rIsB x y H Q
  | .isnt => fun x y H Q => rNotN x y H Q ∨ rNotB x y H Q
theorem op_cmp {X : Cx} (hu : X.A.units + 65 < cLine) : ∀ op : Cop, OpR X (compareOp (opC op)) (rCmp X.K op)
  | .eq => OpR.or op_eq (op_eqD (by omega))
  | .ne => OpR.or op_ne (op_neD (by omega))
  | .lt => OpR.or op_lt (op_ltT (by omega))
  | .le => op_le
  | .gt => op_gt
  | .ge => op_ge
  | .isin => OpR.or (op_inD hu) (op_inT hu)
  | .notin => OpR.or (op_notInD hu) (op_notInT hu)
  | .is => OpR.or op_isN op_isBl
  | .isnt => OpR.or op_notN op_notBl
theorem lexLt_eq : ∀ a b : List Int, lexLt a b = HT.lexLt a b
  | [], [] => rfl
  | [], _ :: _ => rfl
  | _ :: _, [] => rfl
  | x :: xs, y :: ys => by
    unfold lexLt HT.lexLt
    rw [lexLt_eq xs ys]
section
variable {K : PySem.W.Frag} {g : Gn} {F H : Hp} {γ : List Addr} {S : Sto} {x y : V} {dx dy d : D} {Q : VK}
theorem ints_of : ∀ {vs : List V} {ds : List D} {ns : List Int}, Reps K g γ F vs ds → allSome D.int? ds = some ns → vs = ns.map V.int
  | _, _, ns, .nil, h => by
    have : ns = [] := by simpa [allSome] using h.symm
    subst this; rfl
  | _, _, ns, .cons (d := d) (ds := ds) r t, h => by
    cases d with
    | int i =>
      simp only [allSome, D.int?, Option.bind_some, Option.map_eq_some_iff] at h
      obtain ⟨ys, q, rfl⟩ := h
      cases r
      rw [ints_of t q]; rfl
    | _ => cases h
theorem bls_of : ∀ {vs : List V} {ds : List D} {ns : List Bool}, Reps K g γ F vs ds → allSome D.bl? ds = some ns → vs = ns.map V.bl
  | _, _, ns, .nil, h => by
    have : ns = [] := by simpa [allSome] using h.symm
    subst this; rfl
  | _, _, ns, .cons (d := d) (ds := ds) r t, h => by
    cases d with
    | bl i =>
      simp only [allSome, D.bl?, Option.bind_some, Option.map_eq_some_iff] at h
      obtain ⟨ys, q, rfl⟩ := h
      cases r
      rw [bls_of t q]; rfl
    | _ => cases h
theorem any_deq {x : D} {n : Nat} (hx : plain n x = true) : ∀ (m : Nat) (ys : List D), plains m ys = true → (ys.any fun z => deq z x) = ((toPys ys).any fun z => PyData.eqv z (toPy x))
  | m, [], _ => by unfold toPys; rfl
  | m, y :: ys, h => by
    have h' : (plain m y && plains m ys) = true := by simpa [plains] using h
    obtain ⟨h1, h2⟩ := Bool.and_eq_true_iff.mp h'
    unfold toPys
    rw [List.any_cons, List.any_cons, any_deq hx m ys h2, deq_py m n y x h1 hx]
theorem two_str {x y : D} (h : twoStr x y = true) : ∃ a b, x = .str a ∧ y = .str b := by
  cases x <;> cases y <;> first | exact ⟨_, _, rfl, rfl⟩ | cases h
theorem rCmp_ok {op : Cop} (s : SS K g F H γ S) (hx : Top K g F H γ x dx) (hy : Top K g F H γ y dy) (e : cmpD op dx dy = some d) (q : VP K g F H γ S d Q) : rCmp K op x y H Q := by
  cases op with
  | eq =>
    unfold cmpD at e
    dsimp only at e
    split at e
    · rename_i h
      cases e
      rcases Bool.or_eq_true_iff.mp h with h | h
      · obtain ⟨a, b, rfl, rfl⟩ := two_str h
        obtain rfl := hx.str
        obtain rfl := hy.str
        refine .inl ⟨rfl, ?_⟩
        rw [dec_str]
        exact q.here s (.bl _)
      · obtain ⟨p1, p2⟩ := Bool.and_eq_true_iff.mp h
        refine .inr ⟨_, _, hx.dp s p1, hy.dp s p2, plain_shaped p1, plain_shaped p2, ?_⟩
        rw [← deq_py 64 64 dx dy p1 p2]
        exact q.here s (.bl _)
    · cases e
  | ne =>
    unfold cmpD at e
    dsimp only at e
    split at e
    · rename_i h
      cases e
      rcases Bool.or_eq_true_iff.mp h with h | h
      · obtain ⟨a, b, rfl, rfl⟩ := two_str h
        obtain rfl := hx.str
        obtain rfl := hy.str
        refine .inl ⟨rfl, ?_⟩
        rw [dec_str]
        exact q.here s (.bl _)
      · obtain ⟨p1, p2⟩ := Bool.and_eq_true_iff.mp h
        refine .inr ⟨_, _, hx.dp s p1, hy.dp s p2, plain_shaped p1, plain_shaped p2, ?_⟩
        rw [← deq_py 64 64 dx dy p1 p2]
        exact q.here s (.bl _)
    · cases e
  | lt =>
    have e : ltD dx dy = some d := e
    unfold ltD at e
    split at e
    · cases e
      obtain rfl := hx.int
      obtain rfl := hy.int
      exact .inl ⟨_, _, rfl, rfl, q.here s (.bl _)⟩
    · obtain ⟨a, us, rfl, _, h1, r1⟩ := Top.tup s hx
      obtain ⟨b, ws, rfl, _, h2, r2⟩ := Top.tup s hy
      split at e
      · rename_i e1 e2
        cases e
        have z1 := ints_of r1 e1
        have z2 := ints_of r2 e2
        subst z1 z2
        refine .inr ⟨a, b, _, _, rfl, rfl, h1, h2, ?_⟩
        rw [← lexLt_eq]
        exact q.here s (.bl _)
      · cases e
    · cases e
  | le =>
    have e : ints2 (fun i j => decide (i ≤ j)) dx dy = some d := e
    unfold ints2 at e
    split at e
    · cases e
      obtain rfl := hx.int
      obtain rfl := hy.int
      exact ⟨_, _, rfl, rfl, q.here s (.bl _)⟩
    · cases e
  | gt =>
    have e : ints2 (fun i j => decide (j < i)) dx dy = some d := e
    unfold ints2 at e
    split at e
    · cases e
      obtain rfl := hx.int
      obtain rfl := hy.int
      exact ⟨_, _, rfl, rfl, q.here s (.bl _)⟩
    · cases e
  | ge =>
    have e : ints2 (fun i j => decide (j ≤ i)) dx dy = some d := e
    unfold ints2 at e
    split at e
    · cases e
      obtain rfl := hx.int
      obtain rfl := hy.int
      exact ⟨_, _, rfl, rfl, q.here s (.bl _)⟩
    · cases e
  | isin =>
    unfold cmpD at e
    dsimp only at e
    split at e
    · split at e
      · rename_i h
        cases e
        obtain ⟨p1, p2⟩ := Bool.and_eq_true_iff.mp h
        have dy := hy.dp s p2
        have sy := plain_shaped p2
        unfold toPy at dy sy
        refine .inl ⟨_, _, hx.dp s p1, dy, plain_shaped p1, sy, ?_⟩
        rw [← any_deq p1 63 _ (plainD_lst p2)]
        exact q.here s (.bl _)
      · cases e
    · split at e
      · rename_i h
        cases e
        obtain ⟨p1, p2⟩ := Bool.and_eq_true_iff.mp h
        have dy := hy.dp s p2
        have sy := plain_shaped p2
        unfold toPy at dy sy
        refine .inr ⟨_, _, hx.dp s p1, dy, plain_shaped p1, sy, ?_⟩
        rw [← any_deq p1 63 _ (plainD_tup p2)]
        exact q.here s (.bl _)
      · cases e
    · cases e
  | notin =>
    unfold cmpD at e
    dsimp only at e
    split at e
    · split at e
      · rename_i h
        cases e
        obtain ⟨p1, p2⟩ := Bool.and_eq_true_iff.mp h
        have dy := hy.dp s p2
        have sy := plain_shaped p2
        unfold toPy at dy sy
        refine .inl ⟨_, _, hx.dp s p1, dy, plain_shaped p1, sy, ?_⟩
        rw [← any_deq p1 63 _ (plainD_lst p2)]
        exact q.here s (.bl _)
      · cases e
    · split at e
      · rename_i h
        cases e
        obtain ⟨p1, p2⟩ := Bool.and_eq_true_iff.mp h
        have dy := hy.dp s p2
        have sy := plain_shaped p2
        unfold toPy at dy sy
        refine .inr ⟨_, _, hx.dp s p1, dy, plain_shaped p1, sy, ?_⟩
        rw [← any_deq p1 63 _ (plainD_tup p2)]
        exact q.here s (.bl _)
      · cases e
    · cases e
  | is =>
    unfold cmpD at e
    dsimp only at e
    split at e
    · cases e
      obtain rfl := hy.non
      refine .inl ⟨rfl, ?_⟩
      have z : decide (x = V.non) = isNon dx := by
        rcases hx with hx | ⟨a, xs, ds, rfl, rfl, _⟩
        · cases hx <;> simp [isNon]
        · simp [isNon]
      rw [z]
      exact q.here s (.bl _)
    · split at e
      · cases e
        obtain rfl := hx.bl
        obtain rfl := hy.bl
        refine .inr ⟨_, _, rfl, rfl, ?_⟩
        rw [← Bool.beq_eq_decide_eq]
        exact q.here s (.bl _)
      · cases e
    · cases e
  | isnt =>
    unfold cmpD at e
    dsimp only at e
    split at e
    · cases e
      obtain rfl := hy.non
      refine .inl ⟨rfl, ?_⟩
      have z : (!decide (x = V.non)) = !isNon dx := by
        rcases hx with hx | ⟨a, xs, ds, rfl, rfl, _⟩
        · cases hx <;> simp [isNon]
        · simp [isNon]
      rw [z]
      exact q.here s (.bl _)
    · split at e
      · cases e
        obtain rfl := hx.bl
        obtain rfl := hy.bl
        refine .inr ⟨_, _, rfl, rfl, ?_⟩
        rw [← Bool.beq_eq_decide_eq]
        exact q.here s (.bl _)
      · cases e
    · cases e
end
end Pv

/-! PvM: min over data: the ways of a piece. -/
namespace Pv
open PySem PySem.Spec PySem.W PyProof.Rows L2
theorem vals_back : ∀ {xs : List V} {us : List Value} {i : Nat} {u : Value}, Vals xs us → us[i]? = some u → ∃ x, xs[i]? = some x ∧ RelV x u
  | _, _, _, _, .nil, h => by simp at h
  | _, _, 0, _, .cons r _, h => by simp at h; subst h; exact ⟨_, by simp, r⟩
  | _, _, i + 1, u, .cons _ t, h => by
    obtain ⟨x, h1, h2⟩ := vals_back (i := i) (u := u) t (by simpa using h)
    exact ⟨x, by simpa using h1, h2⟩
/-- where the least stands -/
def least (l : List PyData) : Nat := argBest (fun i j => dataLt (l.getD i .none) (l.getD j .none)) (l.length - 1)
def rMinD (K : PySem.W.Frag) : List V → Hp → VK → Prop := fun vs H Q => ∃ (a : Addr) (xs : List V) (l : List PyData), vs = [V.ref a] ∧ SqL K H a xs ∧ DpAll K H xs l ∧ AlikeAll l ∧ l ≠ [] ∧ PyData.depthAll l ≤ 60 ∧ ∀ v, xs[least l]? = some v → Q v H
theorem cr_minD {X : Cx} (hc : X.calm = true) (hu : X.A.units + 65 < cLine) : CallR X (.builtin "min") (rMinD X.K) := by
  intro pins s σ H vs us Q I r h
  obtain ⟨a, xs, l, rfl, hs, hd, al, hne, hz, q⟩ := h
  obtain ⟨its, rv, hl, _⟩ := I.list hs
  obtain ⟨as, hr⟩ := Dp.readsAll I l xs its hd rv
  rw [Vals.ref1 r]
  have hlen : its.toArray.size = l.length := readsAll_len (vs := its.toArray) hr
  have hpos : 0 < l.length := List.length_pos_iff.mpr hne
  refine call_min_walkH (iter_listW (I.ok.hd hc) hl.isList fun s₂ e W st hfp hw hk => ⟨_, _, _, _, _, _, _, s.heap, _, rfl, W, st, hfp, by omega, hw, hk, cmpIn_lt hr al ?_, fun v s' hP m => ?_⟩)
  · show X.A.units + 1 + _ < _
    omega
  · obtain ⟨h', tk, rfl, hk'⟩ := moved_old e rfl m
    rw [hlen] at hP
    have hP' : its.toArray[least l]? = some v := hP
    rw [List.getElem?_toArray] at hP'
    obtain ⟨x, hx, rx⟩ := vals_back rv hP'
    exact ⟨x, H, I.kept hk', rx, q x hx⟩
/-! the ways -/
theorem allSome_get {α β : Type} {f : α → Option β} : ∀ {l : List α} {ks : List β}, allSome f l = some ks → ks.length = l.length ∧ ∀ (i : Nat) (h : i < l.length) (h' : i < ks.length), f l[i] = some ks[i]
  | [], ks, h => by
    simp only [allSome, Option.some.injEq] at h
    subst h
    exact ⟨rfl, fun i h => by simp at h⟩
  | x :: xs, ks, h => by
    simp only [allSome] at h
    cases hx : f x with
    | none => rw [hx] at h; cases h
    | some y =>
      rw [hx] at h
      simp only [Option.bind_some] at h
      obtain ⟨ys, h1, h2⟩ := Option.map_eq_some_iff.mp h
      subst h2
      obtain ⟨g1, g2⟩ := allSome_get h1
      refine ⟨by simp [g1], fun i hi hi' => ?_⟩
      cases i with
      | zero => simpa using hx
      | succ i => simpa using g2 i (by simpa using hi) (by simpa using hi')
theorem keyW_of {d : D} {k : Int × Int × Int} (h : keyW d = some k) : ∃ ps : List D, d = .tup [.tup [.int k.1, .int k.2.1], .int k.2.2, .lst ps] ∧ ps.all isPairI = true := by
  unfold keyW at h
  split at h
  · split at h
    · rename_i hp
      cases h
      unfold pairsW at hp
      split at hp
      · exact ⟨_, rfl, hp⟩
      · cases hp
    · cases h
  · cases h
theorem pairI_of {d : D} (h : isPairI d = true) : ∃ a b : Int, d = .tup [.int a, .int b] := by
  unfold isPairI at h
  split at h
  · exact ⟨_, _, rfl⟩
  · cases h
theorem alike_pairs : ∀ (ps qs : List D), ps.all isPairI = true → qs.all isPairI = true → alikeAll (toPys ps) (toPys qs) = true
  | [], _, _, _ => by simp only [toPys, alikeAll]
  | _ :: _, [], _, _ => by simp only [toPys, alikeAll]
  | p :: ps, q :: qs, h1, h2 => by
    simp only [List.all_cons, Bool.and_eq_true] at h1 h2
    obtain ⟨a, b, rfl⟩ := pairI_of h1.1
    obtain ⟨a', b', rfl⟩ := pairI_of h2.1
    simp only [toPys, toPy, alikeAll, alike, Bool.and_eq_true]
    exact ⟨⟨trivial, trivial, trivial⟩, alike_pairs ps qs h1.2 h2.2⟩
theorem alike_key {x y : D} {kx ky : Int × Int × Int} (hx : keyW x = some kx) (hy : keyW y = some ky) : alike (toPy x) (toPy y) = true := by
  obtain ⟨ps, rfl, h1⟩ := keyW_of hx
  obtain ⟨qs, rfl, h2⟩ := keyW_of hy
  simp only [toPys, toPy, alikeAll, alike, Bool.and_eq_true, alike_pairs ps qs h1 h2, and_self]
theorem lt_key {x y : D} {kx ky : Int × Int × Int} (hx : keyW x = some kx) (hy : keyW y = some ky) (hne : kx.2.2 ≠ ky.2.2) : dataLt (toPy x) (toPy y) = ltK kx ky := by
  obtain ⟨ps, rfl, h1⟩ := keyW_of hx
  obtain ⟨qs, rfl, h2⟩ := keyW_of hy
  obtain ⟨a, b, t⟩ := kx
  obtain ⟨a', b', t'⟩ := ky
  have dif : ∀ {i j : Int} {r r' : List (Int ⊕ List Nat)}, i ≠ j → PyProof.Rows.lexLt itemOrd (Sum.inl i :: r) (Sum.inl j :: r') = decide (i < j) := fun {i j r r'} h => (lex_diff (O := itemOrd) (fun e => h (Sum.inl.inj e))).trans rfl
  simp only at hne
  simp only [dataLt, toPy, toPys, keyToks, keyToksAll, List.cons_append, List.nil_append, List.append_assoc, ltK]
  rw [lex_self, lex_self]
  by_cases ha : a = a'
  · subst ha
    rw [lex_self, lex_self]
    by_cases hb : b = b'
    · subst hb
      rw [lex_self, lex_self, lex_self, dif hne]
      simp
    · rw [dif hb]
      simp [hb]
  · rw [dif ha]
    simp [ha]
theorem argBest_key {bt : Nat → Nat → Bool} {ks : List (Int × Int × Int)} {n : Nat} (h : ∀ i j, i < n → j < n → i ≠ j → bt i j = ltK (ks.getD i (0, 0, 0)) (ks.getD j (0, 0, 0))) : ∀ k, k < n → argBest bt k = bestK ks k ∧ bestK ks k ≤ k
  | 0, _ => ⟨rfl, Nat.le_refl _⟩
  | k + 1, hk => by
    obtain ⟨e, hl⟩ := argBest_key h k (by omega)
    have h1 := h (k + 1) (bestK ks k) hk (by omega) (by omega)
    simp only [argBest, bestK]
    rw [e, h1]
    refine ⟨rfl, ?_⟩
    split <;> omega
theorem least_key {l : List D} {ks : List (Int × Int × Int)} (hk : allSome keyW l = some ks) (nd : (ks.map (·.2.2)).Nodup) (hl : l ≠ []) : AlikeAll (toPys l) ∧ least (toPys l) = bestK ks (l.length - 1) := by
  obtain ⟨h1, h2⟩ := allSome_get hk
  have hpos : 0 < l.length := List.length_pos_iff.mpr hl
  have tl : (toPys l).length = l.length := by rw [toPys_map, List.length_map]
  have mem : ∀ x ∈ toPys l, ∃ d k, x = toPy d ∧ keyW d = some k := fun x hx => by
    rw [toPys_map] at hx
    obtain ⟨d, hd, rfl⟩ := List.mem_map.mp hx
    obtain ⟨i, hi, rfl⟩ := List.mem_iff_getElem.mp hd
    exact ⟨_, _, rfl, h2 i hi (by omega)⟩
  refine ⟨⟨fun x hx y hy => ?_, fun x hx => ?_⟩, ?_⟩
  · obtain ⟨d, k, rfl, e1⟩ := mem x hx
    obtain ⟨d', k', rfl, e2⟩ := mem y hy
    exact alike_key e1 e2
  · obtain ⟨d, k, rfl, e1⟩ := mem x hx
    obtain ⟨ps, rfl, _⟩ := keyW_of e1
    unfold toPy
    exact fun z => by cases z
  · unfold least
    rw [tl]
    refine (argBest_key (n := l.length) (fun i j hi hj hij => ?_) _ (by omega)).1
    have gi : ∀ i, i < l.length → (toPys l).getD i .none = toPy (l.getD i .non) := fun i hi => by
      rw [toPys_map, List.getD_eq_getElem?_getD, List.getElem?_map, List.getElem?_eq_getElem hi, List.getD_eq_getElem?_getD, List.getElem?_eq_getElem hi]
      rfl
    have ki : ∀ i, (hi : i < l.length) → keyW (l.getD i .non) = some (ks.getD i (0, 0, 0)) := fun i hi => by
      rw [List.getD_eq_getElem?_getD, List.getElem?_eq_getElem hi, List.getD_eq_getElem?_getD, List.getElem?_eq_getElem (by omega)]
      exact h2 i hi (by omega)
    show dataLt _ _ = _
    rw [gi i hi, gi j hj]
    refine lt_key (ki i hi) (ki j hj) fun e => hij ?_
    have hi' : i < (ks.map (·.2.2)).length := by rw [List.length_map]; omega
    have hj' : j < (ks.map (·.2.2)).length := by rw [List.length_map]; omega
    rw [List.getD_eq_getElem?_getD, List.getElem?_eq_getElem (by omega : i < ks.length), List.getD_eq_getElem?_getD, List.getElem?_eq_getElem (by omega : j < ks.length)] at e
    have pw := List.pairwise_iff_getElem.mp nd
    rcases Nat.lt_trichotomy i j with h | h | h
    · exact (pw i j hi' hj' h (by simpa using e)).elim
    · exact h
    · exact (pw j i hj' hi' h (by simpa using e.symm)).elim
end Pv

/-! PvW: sum, max and min of a tuple of ints. -/
namespace Pv
open PySem PySem.Spec PySem.W PyProof.Rows L2
section
variable {prog : Program} {w : World} {A : Around} {E : Value → Shared → Prop} {s : Shared} {l : Addr} {xs : Array (Int × Tok)} {its : List Value} {ns : List Int} {Q : Value → Shared → Prop}
theorem iter_intTup (hl : s.heap.IsTuple l (intItems xs))
    (h : ∀ s₂ : Shared, s₂ = { s with heap := s.heap.push { cls := .type "tuple_iterator", data := .fields #[.ref l, .int 0 0] } } →
      (s₂.heap.IsTupleIter s.heap.objs.size l 0 ∧ s₂.heap.IsTuple l (intItems xs)) → (∀ b ∈ [s.heap.objs.size, l], b < s₂.heap.objs.size) → l ≠ s.heap.objs.size → Q (.ref s.heap.objs.size) s₂) :
    wpAny (model prog w) A (pyIter (.ref l)) Q E s := by
  have hlt : l < s.heap.objs.size := by obtain ⟨_, e, _⟩ := hl; exact Heap.lt_size e
  refine wpAny_pyIter_tuple hl (h _ rfl ⟨⟨_, Heap.get?_push_size _ rfl, rfl, rfl⟩, hl.push _⟩ (fun b hb => ?_) (Nat.ne_of_lt hlt))
  show b < (s.heap.push _).objs.size
  rw [Heap.size_push]
  rcases List.mem_cons.mp hb with rfl | hb
  · exact Nat.lt_succ_self _
  · rcases List.mem_cons.mp hb with rfl | hb
    · exact Nat.lt_succ_of_lt hlt
    · cases hb
theorem old_keptT {o₀ : Obj} {h' : Heap} (hk : ∀ b o, b ∉ [s.heap.objs.size] → (s.heap.push o₀).get? b = some o → h'.get? b = some o) :
    ∀ b o, s.heap.get? b = some o → h'.get? b = some o := fun b o e => by
  refine hk b o (fun hm => ?_) (Heap.get?_push_of_some _ e)
  rcases List.mem_cons.mp hm with e1 | hm
  · exact absurd (e1 ▸ Heap.lt_size e) (Nat.lt_irrefl _)
  · cases hm
theorem sum_rawT (hh : A.handled = none) (hl : s.heap.IsTuple l its.toArray) (hi : IntsAre its ns)
    (h : ∀ h' tk t', (∀ b o, s.heap.get? b = some o → h'.get? b = some o) → Q (.int ns.sum t') { s with heap := h', toks := tk }) : wpAny (model prog w) A (call (.builtin "sum") [.ref l]) Q E s := by
  obtain ⟨xs, e⟩ := hi.allInts.items
  have hn : numsOf (intItems xs).toList = ns := by rw [← e]; exact hi.numsOf
  rw [nums_intItems] at hn
  rw [e] at hl
  refine call_sum_walkG (iter_intTup hl fun s₂ e st hfp hlI => ?_)
  subst e
  refine ⟨_, _, _, _, _, _, numAt xs, rfl, Walks.tuple (A := A.in1) hh _ l hlI (intItems xs), st, hfp, (fun _ _ => intItems_at), fun h' tk t' hk => ?_⟩
  have := h h' tk t' (old_keptT hk)
  have e2 : preSum (numAt xs) (intItems xs).size = ns.sum := by
    rw [show (intItems xs).size = xs.size by simp [intItems], preSum_eq, List.take_of_length_le (by simp), hn]
  rw [e2]; exact this
theorem max_rawT (hh : A.handled = none) (hl : s.heap.IsTuple l its.toArray) (hi : IntsAre its ns) (hne : 0 < ns.length)
    (h : ∀ h' tk M t', (∀ b o, s.heap.get? b = some o → h'.get? b = some o) → M ∈ ns → (∀ a, a ∈ ns → a ≤ M) → Q (.int M t') { s with heap := h', toks := tk }) : wpAny (model prog w) A (call (.builtin "max") [.ref l]) Q E s := by
  obtain ⟨xs, e⟩ := hi.allInts.items
  have hn : numsOf (intItems xs).toList = ns := by rw [← e]; exact hi.numsOf
  rw [nums_intItems] at hn
  subst hn
  rw [e] at hl
  have hsz : 0 < xs.size := by simpa using hne
  refine call_max_walk (iter_intTup hl fun s₂ e st hfp hlI => ?_)
  subst e
  refine ⟨_, _, _, _, _, _, _, rfl, Walks.tuple (A := A.in1) hh _ l hlI (intItems xs), st, hfp, by simpa [intItems] using hsz, CmpOf.ints_gt (numAt xs) (fun _ _ => intItems_at), fun v h' tk hv hk => ?_⟩
  have hv : (intItems xs)[argBest (fun i j => decide (numAt xs i > numAt xs j)) (xs.size - 1)]? = some v := by simpa [intItems] using hv
  obtain ⟨t, rfl⟩ := intItems_at hv
  obtain ⟨h1, h2⟩ := argBest_gt (numAt xs) (xs.size - 1)
  refine h h' tk _ t (old_keptT hk) ?_ fun a ha => ?_
  · rw [numAt_eq]; exact PySem.getD_mem (by rw [List.length_map, Array.length_toList]; omega)
  · obtain ⟨j, hj, rfl⟩ := mem_getD ha
    rw [List.length_map, Array.length_toList] at hj
    rw [← numAt_eq]; exact h2 j (by omega)
theorem min_rawT (hh : A.handled = none) (hl : s.heap.IsTuple l its.toArray) (hi : IntsAre its ns) (hne : 0 < ns.length)
    (h : ∀ h' tk M t', (∀ b o, s.heap.get? b = some o → h'.get? b = some o) → M ∈ ns → (∀ a, a ∈ ns → M ≤ a) → Q (.int M t') { s with heap := h', toks := tk }) : wpAny (model prog w) A (call (.builtin "min") [.ref l]) Q E s := by
  obtain ⟨xs, e⟩ := hi.allInts.items
  have hn : numsOf (intItems xs).toList = ns := by rw [← e]; exact hi.numsOf
  rw [nums_intItems] at hn
  subst hn
  rw [e] at hl
  have hsz : 0 < xs.size := by simpa using hne
  refine call_min_walk (iter_intTup hl fun s₂ e st hfp hlI => ?_)
  subst e
  refine ⟨_, _, _, _, _, _, _, rfl, Walks.tuple (A := A.in1) hh _ l hlI (intItems xs), st, hfp, by simpa [intItems] using hsz, CmpOf.ints_lt (numAt xs) (fun _ _ => intItems_at), fun v h' tk hv hk => ?_⟩
  have hv : (intItems xs)[argBest (fun i j => decide (numAt xs i < numAt xs j)) (xs.size - 1)]? = some v := by simpa [intItems] using hv
  obtain ⟨t, rfl⟩ := intItems_at hv
  obtain ⟨h1, h2⟩ := argBest_lt (numAt xs) (xs.size - 1)
  refine h h' tk _ t (old_keptT hk) ?_ fun a ha => ?_
  · rw [numAt_eq]; exact PySem.getD_mem (by rw [List.length_map, Array.length_toList]; omega)
  · obtain ⟨j, hj, rfl⟩ := mem_getD ha
    rw [List.length_map, Array.length_toList] at hj
    rw [← numAt_eq]; exact h2 j (by omega)
end
section
variable {X : Cx}
def SqS (K : PySem.W.Frag) (H : Hp) (a : Addr) (xs : List V) : Prop := SqL K H a xs ∨ SqT K H a xs
def rSumS (K : PySem.W.Frag) : List V → Hp → VK → Prop := fun vs H Q => ∃ (a : Addr) (ns : List Int), vs = [V.ref a] ∧ SqS K H a (ns.map V.int) ∧ Q (.int ns.sum) H
def rMaxS (K : PySem.W.Frag) : List V → Hp → VK → Prop := fun vs H Q => ∃ (a : Addr) (ns : List Int), vs = [V.ref a] ∧ SqS K H a (ns.map V.int) ∧ 0 < ns.length ∧ ∀ m, m ∈ ns → (∀ y, y ∈ ns → y ≤ m) → Q (.int m) H
def rMinS (K : PySem.W.Frag) : List V → Hp → VK → Prop := fun vs H Q => ∃ (a : Addr) (ns : List Int), vs = [V.ref a] ∧ SqS K H a (ns.map V.int) ∧ 0 < ns.length ∧ ∀ m, m ∈ ns → (∀ y, y ∈ ns → m ≤ y) → Q (.int m) H
theorem cr_sumS (hc : X.calm = true) : CallR X (.builtin "sum") (rSumS X.K) := by
  intro pins s σ H vs us Q I r h
  obtain ⟨a, ns, rfl, hs, q⟩ := h
  rcases hs with hs | hs
  · exact cr_sum hc pins s σ H _ us Q I r ⟨a, ns, rfl, hs, q⟩
  · obtain ⟨its, rv, hl, _⟩ := I.tuple hs
    rw [Vals.ref1 r]
    exact sum_rawT (I.ok.hd hc) hl rv.ints fun h' tk t' hk => ⟨.int _, H, I.kept hk, ⟨_, rfl⟩, q⟩
theorem cr_maxS (hc : X.calm = true) : CallR X (.builtin "max") (rMaxS X.K) := by
  intro pins s σ H vs us Q I r h
  obtain ⟨a, ns, rfl, hs, hne, q⟩ := h
  rcases hs with hs | hs
  · exact cr_max hc pins s σ H _ us Q I r ⟨a, ns, rfl, hs, hne, q⟩
  · obtain ⟨its, rv, hl, _⟩ := I.tuple hs
    rw [Vals.ref1 r]
    exact max_rawT (I.ok.hd hc) hl rv.ints hne fun h' tk m t' hk h1 h2 => ⟨.int _, H, I.kept hk, ⟨_, rfl⟩, q m h1 h2⟩
theorem cr_minS (hc : X.calm = true) : CallR X (.builtin "min") (rMinS X.K) := by
  intro pins s σ H vs us Q I r h
  obtain ⟨a, ns, rfl, hs, hne, q⟩ := h
  rcases hs with hs | hs
  · exact cr_min hc pins s σ H _ us Q I r ⟨a, ns, rfl, hs, hne, q⟩
  · obtain ⟨its, rv, hl, _⟩ := I.tuple hs
    rw [Vals.ref1 r]
    exact min_rawT (I.ok.hd hc) hl rv.ints hne fun h' tk m t' hk h1 h2 => ⟨.int _, H, I.kept hk, ⟨_, rfl⟩, q m h1 h2⟩
end
end Pv

/-! Pv5: subscripts, slices, built-in functions. -/
namespace Pv
open PySem PySem.Spec PyProof.Rows L2

/-! ### subscripts -/
section
variable {K : PySem.W.Frag} {g : Gn} {F H : Hp} {γ : List Addr} {S : Sto} {v : V} {d : D}
theorem Top.seqNT {ds : List D} (s : SS K g F H γ S) (t : Top K g F H γ v d) (e : Pv.seqOf S d = some ds) (n : ∀ l, d ≠ .tup l) : ∃ a xs, v = .ref a ∧ SqL K H a xs ∧ Reps K g γ F xs ds := by
  cases d with
  | scr l =>
    cases e
    rcases t with t | ⟨a, xs, ds', rfl, h, _⟩
    · cases t with
      | scr h => exact ⟨_, _, rfl, sqL_mono s.sub h, Reps.ints l⟩
    · cases h
  | tup l => exact (n l rfl).elim
  | lst l => exact Top.seqL s t (show Pv.seqL S (.lst l) = some ds from e)
  | cell k => exact Top.seqL s t (show Pv.seqL S (.cell k) = some ds from e)
  | _ => cases e
end
theorem ixN_eq (n : Nat) (i : Int) : Pv.ixN n i = L2.ixN n i := rfl
def isSlice : Expr → Bool
  | .Slice .. => true
  | _ => false
theorem plainIx_of {b : Expr} (h : isSlice b = false) : PlainIx b := by
  intro o i
  cases b <;> first | rfl | cases h
section
variable {K : PySem.W.Frag} {g : Gn} {F H : Hp} {γ : List Addr} {S : Sto} {x y : V} {dx dy d : D} {Q : VK}
theorem rIx_ok (s : SS K g F H γ S) (hx : Top K g F H γ x dx) (hy : Top K g F H γ y dy) (e : ixD S dx dy = some d) (q : VP K g F H γ S d Q) : rIx K x y H Q := by
  unfold ixD at e
  split at e
  · rename_i i
    obtain rfl := hy.int
    split at e
    · rename_i ds hs
      obtain ⟨a, xs, rfl, hl, r⟩ := Top.seqOf s hx hs
      cases hj : Pv.ixN ds.length i with
      | none => rw [hj] at e; cases e
      | some j =>
        rw [hj] at e
        have e : ds[j]? = some d := e
        obtain ⟨v, h1, h2⟩ := r.get e
        have hat : atI xs i = some v := by
          unfold atI
          rw [r.length, ← ixN_eq, hj]
          exact h1
        rcases hl with hl | hl
        · exact .inl ⟨a, xs, i, v, rfl, rfl, hl, hat, q.here s h2⟩
        · exact .inr (.inl ⟨a, xs, i, v, rfl, rfl, hl, hat, q.here s h2⟩)
    · cases e
  · cases e
/-! ### slices -/
theorem sIx_eq (n d : Nat) (o : Option Int) : sIx n d o = HT.sIx n d o := by
  cases o with
  | none => rfl
  | some v => first | rfl | (unfold sIx HT.sIx; rfl)
theorem Reps.cut {vs : List V} {ds : List D} (r : Reps K g γ F vs ds) (lo hi : Option Int) : Reps K g γ F (cutV vs lo hi) (Pv.cut ds lo hi) := by
  unfold cutV Pv.cut
  rw [sIx_eq, sIx_eq, r.length]
  exact (r.drop _).take _
def rSl (K : PySem.W.Frag) : V → Option Int → Option Int → Hp → VK → Prop := fun x lo hi H Q => rSlL K x lo hi H Q ∨ rSlA K x lo hi H Q
theorem sl_all {X : Cx} : SlR X (rSl X.K) := SlR.or sl_list sl_tupA
theorem cut_whole {vs : List V} {lo hi : Option Int} (h : HT.sIx vs.length 0 lo = 0 ∧ HT.sIx vs.length vs.length hi = vs.length) : cutV vs lo hi = vs := by
  unfold cutV
  rw [h.1, h.2]
  simp
theorem rSl_ok {lo hi : Option Int} (s : SS K g F H γ S) (hx : Top K g F H γ x dx) (e : slD S dx lo hi = some d) (q : VP K g F H γ S d Q) : rSl K x lo hi H Q := by
  have lst : ∀ {ds : List D}, seqL S dx = some ds → d = .lst (Pv.cut ds lo hi) → rSl K x lo hi H Q := fun {ds} hs hd => by
    obtain ⟨a, xs, rfl, hl, r⟩ := Top.seqL s hx hs
    subst hd
    exact .inl ⟨a, xs, rfl, hl, q.lst s (r.cut lo hi)⟩
  cases dx with
  | lst l => cases e; exact lst rfl rfl
  | tup l =>
    cases e
    obtain ⟨a, xs, rfl, hf, hl, r⟩ := Top.tup s hx
    refine .inr ⟨a, xs, rfl, hl, fun hw => ?_, fun _ => q.tup s (r.cut lo hi)⟩
    refine q.here s (.tup hf ?_)
    have z := r.cut lo hi
    rw [cut_whole hw] at z
    exact z
  | cell k =>
    unfold slD at e
    dsimp only at e
    cases hk : S[k]? with
    | none => rw [hk] at e; cases e
    | some c =>
      cases c with
      | lst l =>
        rw [hk] at e
        cases e
        exact lst (ds := l) (by simp only [Pv.seqL, hk]) rfl
  | _ => cases e
end
/-! ### max, min -/
theorem maxI_mem : ∀ (m : Int) (ns : List Int), maxI m ns ∈ m :: ns
  | m, [] => by simp [maxI]
  | m, x :: xs => by
    unfold maxI
    have := maxI_mem (if m < x then x else m) xs
    split at this
    · rw [if_pos (by assumption)]
      exact List.mem_cons_of_mem _ this
    · rw [if_neg (by assumption)]
      rcases List.mem_cons.mp this with h | h
      · rw [h]; exact List.mem_cons_self
      · exact List.mem_cons_of_mem _ (List.mem_cons_of_mem _ h)
theorem maxI_ge : ∀ (m : Int) (ns : List Int), ∀ y ∈ m :: ns, y ≤ maxI m ns
  | m, [], y, h => by simp at h; subst h; exact Int.le_refl _
  | m, x :: xs, y, h => by
    unfold maxI
    have ih := maxI_ge (if m < x then x else m) xs
    have h0 := ih _ List.mem_cons_self
    rcases List.mem_cons.mp h with h | h
    · subst h; split at h0 <;> split <;> omega
    · rcases List.mem_cons.mp h with h | h
      · subst h; split at h0 <;> split <;> omega
      · exact ih y (List.mem_cons_of_mem _ h)
theorem minI_mem : ∀ (m : Int) (ns : List Int), minI m ns ∈ m :: ns
  | m, [] => by simp [minI]
  | m, x :: xs => by
    unfold minI
    have := minI_mem (if x < m then x else m) xs
    split at this
    · rw [if_pos (by assumption)]
      exact List.mem_cons_of_mem _ this
    · rw [if_neg (by assumption)]
      rcases List.mem_cons.mp this with h | h
      · rw [h]; exact List.mem_cons_self
      · exact List.mem_cons_of_mem _ (List.mem_cons_of_mem _ h)
theorem minI_le : ∀ (m : Int) (ns : List Int), ∀ y ∈ m :: ns, minI m ns ≤ y
  | m, [], y, h => by simp at h; subst h; exact Int.le_refl _
  | m, x :: xs, y, h => by
    unfold minI
    have ih := minI_le (if x < m then x else m) xs
    have h0 := ih _ List.mem_cons_self
    rcases List.mem_cons.mp h with h | h
    · subst h; split at h0 <;> split <;> omega
    · rcases List.mem_cons.mp h with h | h
      · subst h; split at h0 <;> split <;> omega
      · exact ih y (List.mem_cons_of_mem _ h)
/-! ### built-in functions -/
def bltName : Blt → Str
  | .len => "len" | .sum => "sum" | .all => "all" | .any => "any" | .isinst => "isinstance" | .max => "max" | .min => "min"
  | .list => "list" | .tuple => "tuple" | .int => "int" | .bool => "bool" | .str => "str" | .sorted => "sorted" | .set => "set"
def bltTy : Blt → Option String
  | .list => some "list" | .tuple => some "tuple" | .int => some "int" | .bool => some "bool" | .str => some "str" | .set => some "set"
  | _ => none
def bltId : Blt → String
  | .len => "len" | .sum => "sum" | .all => "all" | .any => "any" | .isinst => "isinstance" | .max => "max" | .min => "min" | .sorted => "sorted"
  | _ => ""
def bltV (b : Blt) : Value := match bltTy b with
  | some t => .type t
  | none => .builtin (bltId b)
theorem boot_blt (b : Blt) : bootBuiltins (bltName b) = some (bltV b) := by
  cases b <;> decide +kernel
def rMax2 : List V → Hp → VK → Prop := fun xs H Q => ∃ i j, xs = [.int i, .int j] ∧ Q (.int (if j > i then j else i)) H
def rMin2 : List V → Hp → VK → Prop := fun xs H Q => ∃ i j, xs = [.int i, .int j] ∧ Q (.int (if j < i then j else i)) H
def rLenS (K : PySem.W.Frag) : List V → Hp → VK → Prop := fun xs H Q => ∃ p ys, xs = [.ref p] ∧ (SqL K H p ys ∨ SqT K H p ys) ∧ Q (.int ys.length) H
def rListOf (K : PySem.W.Frag) : List V → Hp → VK → Prop := fun xs H Q => ∃ p ys, xs = [.ref p] ∧ (SqL K H p ys ∨ SqT K H p ys) ∧ ∀ l, H l = none → Q (.ref l) (upd H l (.lst ys))
def rTupOf (K : PySem.W.Frag) : List V → Hp → VK → Prop := fun xs H Q => ∃ p ys, xs = [.ref p] ∧ ((SqL K H p ys ∧ ∀ l, H l = none → Q (.ref l) (upd H l (.tup ys))) ∨ (SqT K H p ys ∧ Q (.ref p) H))
def rInt1 : List V → Hp → VK → Prop := fun xs H Q => (∃ i, xs = [.int i] ∧ Q (.int i) H) ∨ ∃ k, xs = [.bl k] ∧ Q (.int (if k then 1 else 0)) H
def rBool1 : List V → Hp → VK → Prop := fun xs H Q => (∃ i, xs = [.int i] ∧ Q (.bl (i != 0)) H) ∨ ∃ k, xs = [.bl k] ∧ Q (.bl k) H
def rStrI : List V → Hp → VK → Prop := fun xs H Q => ∃ i, xs = [.int i] ∧ i.natAbs.log2 < 1920 ∧ Q (.str (toString i)) H
def rBlt (K : PySem.W.Frag) : Blt → List V → Hp → VK → Prop
  | .len => rLenS K
  | .sum => rSumS K
  | .all => rAll K
  | .any => rAny K
  | .isinst => rIsi K
  | .max => fun xs H Q => rMax2 xs H Q ∨ rMaxS K xs H Q
  | .min => fun xs H Q => (rMin2 xs H Q ∨ rMinS K xs H Q) ∨ rMinD K xs H Q
  | .list => rListOf K
  | .tuple => rTupOf K
  | .int => rInt1
  | .bool => rBool1
  | .str => rStrI
  | .sorted => fun _ _ _ => False
  | .set => fun _ _ _ => False
theorem call_blt {X : Cx} (hc : X.calm = true) (hu : X.A.units + 65 < cLine) : ∀ b : Blt, CallR X (bltV b) (rBlt X.K b)
  | .len => call_len_seq
  | .sum => cr_sumS hc
  | .all => cr_all hc
  | .any => cr_any hc
  | .isinst => call_isi
  | .max => CallR.or (call_max2 hc) (cr_maxS hc)
  | .min => CallR.or (CallR.or (call_min2 hc) (cr_minS hc)) (cr_minD hc hu)
  | .list => call_list_of
  | .tuple => call_tuple_of
  | .int => call_int1
  | .bool => call_bool1
  | .str => call_str_int
  | .sorted => fun _ _ _ _ _ _ _ _ _ h => h.elim
  | .set => fun _ _ _ _ _ _ _ _ _ h => h.elim
theorem kit_all : ∀ a ∈ ["NoneType", "bool", "int", "str", "tuple", "list"], ∀ n ∈ ["int", "bool", "str", "tuple", "list"], kitB a n = some (isTy a n) := by decide +kernel
section
variable {K : PySem.W.Frag} {g : Gn} {F H : Hp} {γ : List Addr} {S : Sto} {x y : V} {dx dy d : D} {Q : VK} {vs : List V} {ds : List D}
/-- several operands -/
inductive Tops (K : PySem.W.Frag) (g : Gn) (F H : Hp) (γ : List Addr) : List V → List D → Prop where
  | nil : Tops K g F H γ [] []
  | cons {v : V} {d : D} {vs : List V} {ds : List D} : Top K g F H γ v d → Tops K g F H γ vs ds → Tops K g F H γ (v :: vs) (d :: ds)
theorem tyX_of {t : String} (s : SS K g F H γ S) (hx : Top K g F H γ x dx) (e : tyOf S dx = some t) : TyX K H x (.type t) ∧ t ∈ ["NoneType", "bool", "int", "str", "tuple", "list"] := by
  have lst : ∀ {a : Addr} {xs : List V}, SqL K H a xs → TyX K H (.ref a) (.type "list") := fun {a xs} h => by
    rcases h with (h | ⟨o, h⟩) | ⟨o, its, n, hk, hc, _⟩
    · exact .base (.lst h)
    · exact .base (.frz h)
    · exact .kList hk hc
  cases dx with
  | non => cases e; obtain rfl := hx.non; exact ⟨.base .non, by simp⟩
  | bl b => cases e; obtain rfl := hx.bl; exact ⟨.base (.bl b), by simp⟩
  | int b => cases e; obtain rfl := hx.int; exact ⟨.base (.int b), by simp⟩
  | str b => cases e; obtain rfl := hx.str; exact ⟨.base (.str b), by simp⟩
  | tup l =>
    cases e
    obtain ⟨a, xs, rfl, _, h, _⟩ := Top.tup s hx
    refine ⟨?_, by simp⟩
    rcases h with (h | ⟨o, h⟩) | ⟨o, its, n, hk, hc, _⟩
    · exact .base (.tup h)
    · exact .fTuple h
    · exact .kTuple hk hc
  | lst l =>
    cases e
    obtain ⟨a, xs, rfl, h, _⟩ := Top.lst s hx
    exact ⟨lst (SqL.of h), by simp⟩
  | scr l =>
    cases e
    rcases hx with hx | ⟨a, xs, ds', rfl, h, _⟩
    · cases hx with
      | scr h => exact ⟨lst (sqL_mono s.sub h), by simp⟩
    · cases h
  | cell k =>
    unfold tyOf at e
    dsimp only at e
    cases hk : S[k]? with
    | none => rw [hk] at e; cases e
    | some c =>
      cases c with
      | lst l =>
        rw [hk] at e
        cases e
        obtain ⟨a, xs, rfl, h, _⟩ := Top.seqL (ds := l) s hx (by simp only [Pv.seqL, hk])
        exact ⟨lst h, by simp⟩
  | _ => cases e
theorem tyKnown_mem {n : String} (h : tyKnown n = true) : n ∈ ["int", "bool", "str", "tuple", "list"] := by
  unfold tyKnown at h
  exact List.contains_iff_mem.mp h
theorem Top.seqI (s : SS K g F H γ S) (t : Top K g F H γ x dx) {ds : List D} (e : Pv.seqI S dx = some ds) : ∃ a xs, x = .ref a ∧ SqS K H a xs ∧ Reps K g γ F xs ds := by
  have nt : Pv.seqL S dx = some ds → ∃ a xs, x = .ref a ∧ SqS K H a xs ∧ Reps K g γ F xs ds := fun e => by
    obtain ⟨a, xs, h1, h2, h3⟩ := Top.seqL s t e
    exact ⟨a, xs, h1, .inl h2, h3⟩
  cases dx with
  | tup l =>
    cases e
    obtain ⟨a, xs, h1, _, h2, h3⟩ := Top.tup s t
    exact ⟨a, xs, h1, .inr h2, h3⟩
  | _ => exact nt e
theorem one {vs : List V} (t : Tops K g F H γ vs [dx]) : ∃ v, vs = [v] ∧ Top K g F H γ v dx := by
  cases t with
  | cons h t => cases t; exact ⟨_, rfl, h⟩
theorem two {vs : List V} (t : Tops K g F H γ vs [dx, dy]) : ∃ v w, vs = [v, w] ∧ Top K g F H γ v dx ∧ Top K g F H γ w dy := by
  cases t with
  | cons h t => cases t with
    | cons h' t => cases t; exact ⟨_, _, rfl, h, h'⟩
theorem rBlt_ok {b : Blt} (s : SS K g F H γ S) (hx : Tops K g F H γ vs ds) (e : bltD b S ds = some d) (q : VP K g F H γ S d Q) : rBlt K b vs H Q := by
  unfold bltD at e
  split at e
  · rename_i x
    obtain ⟨v, rfl, t⟩ := one hx
    cases hs : Pv.seqOf S x with
    | none => rw [hs] at e; cases e
    | some l =>
      rw [hs] at e
      cases e
      obtain ⟨a, xs, rfl, hl, r⟩ := Top.seqOf s t hs
      refine ⟨a, xs, rfl, hl, ?_⟩
      rw [r.length]
      exact q.here s (.int _)
  · rename_i x
    obtain ⟨v, rfl, t⟩ := one hx
    cases hs : Pv.seqI S x with
    | none => rw [hs] at e; cases e
    | some l =>
      rw [hs] at e
      dsimp only [Option.bind_some] at e
      cases hi : allSome D.int? l with
      | none => rw [hi] at e; cases e
      | some ns =>
        rw [hi] at e
        cases e
        obtain ⟨a, xs, rfl, hl, r⟩ := Top.seqI s t hs
        have z := ints_of r hi
        subst z
        exact ⟨a, ns, rfl, hl, q.here s (.int _)⟩
  · rename_i x
    obtain ⟨v, rfl, t⟩ := one hx
    cases hs : Pv.seqL S x with
    | none => rw [hs] at e; cases e
    | some l =>
      rw [hs] at e
      dsimp only [Option.bind_some] at e
      cases hi : allSome D.bl? l with
      | none => rw [hi] at e; cases e
      | some ns =>
        rw [hi] at e
        cases e
        obtain ⟨a, xs, rfl, hl, r⟩ := Top.seqL s t hs
        have z := bls_of r hi
        subst z
        exact ⟨a, ns, rfl, hl, q.here s (.bl _)⟩
  · rename_i x
    obtain ⟨v, rfl, t⟩ := one hx
    cases hs : Pv.seqL S x with
    | none => rw [hs] at e; cases e
    | some l =>
      rw [hs] at e
      dsimp only [Option.bind_some] at e
      cases hi : allSome D.bl? l with
      | none => rw [hi] at e; cases e
      | some ns =>
        rw [hi] at e
        cases e
        obtain ⟨a, xs, rfl, hl, r⟩ := Top.seqL s t hs
        have z := bls_of r hi
        subst z
        exact ⟨a, ns, rfl, hl, q.here s (.bl _)⟩
  · rename_i x n
    obtain ⟨v, w, rfl, t, t2⟩ := two hx
    obtain rfl := t2.ty
    split at e
    · rename_i hn
      cases ht : tyOf S x with
      | none => rw [ht] at e; cases e
      | some ty =>
        rw [ht] at e
        cases e
        obtain ⟨h1, h2⟩ := tyX_of s t ht
        exact ⟨v, .ty n, .type ty, .type n, _, rfl, .ty n, h1, kit_ty (kit_all ty h2 n (tyKnown_mem hn)), q.here s (.bl _)⟩
    · cases e
  · rename_i i j
    obtain ⟨v, w, rfl, t, t2⟩ := two hx
    obtain rfl := t.int
    obtain rfl := t2.int
    cases e
    exact .inl ⟨i, j, rfl, q.here s (.int _)⟩
  · rename_i i j
    obtain ⟨v, w, rfl, t, t2⟩ := two hx
    obtain rfl := t.int
    obtain rfl := t2.int
    cases e
    exact .inl (.inl ⟨i, j, rfl, q.here s (.int _)⟩)
  · rename_i x
    obtain ⟨v, rfl, t⟩ := one hx
    cases hs : Pv.seqI S x with
    | none => rw [hs] at e; cases e
    | some l =>
      rw [hs] at e
      dsimp only [Option.bind_some] at e
      cases hi : allSome D.int? l with
      | none => rw [hi] at e; cases e
      | some ns =>
        rw [hi] at e
        cases ns with
        | nil => cases e
        | cons n ns =>
        cases e
        obtain ⟨a, xs, rfl, hl, r⟩ := Top.seqI s t hs
        have z := ints_of r hi
        subst z
        refine .inr ⟨a, n :: ns, rfl, hl, by simp, fun m h1 h2 => ?_⟩
        have : m = maxI n ns := Int.le_antisymm (maxI_ge n ns m h1) (h2 _ (maxI_mem n ns))
        rw [this]
        exact q.here s (.int _)
  · rename_i x
    obtain ⟨v, rfl, t⟩ := one hx
    cases hs : Pv.seqI S x with
    | none =>
      have h2 : Pv.seqL S x = none := by
        cases x with
        | tup l => rfl
        | _ => exact hs
      rw [hs] at e
      dsimp only [Option.bind_none] at e
      rw [h2] at e
      cases e
    | some l =>
      rw [hs] at e
      dsimp only [Option.bind_some] at e
      cases hi : allSome D.int? l with
      | none =>
        rw [hi] at e
        dsimp only at e
        have hs : Pv.seqL S x = some l := by
          cases x with
          | tup l => rw [show Pv.seqL S (.tup l) = none from rfl] at e; cases e
          | _ => exact hs
        rw [hs] at e
        dsimp only [Option.bind_some] at e
        obtain ⟨a, xs, rfl, hl, r⟩ := Top.seqL s t hs
        unfold minW at e
        cases hk : allSome keyW l with
        | none => rw [hk] at e; cases e
        | some ks =>
          rw [hk] at e
          dsimp only at e
          split at e
          · rename_i hb
            simp only [Bool.and_eq_true, decide_eq_true_eq] at hb
            have hne : l ≠ [] := fun z => by subst z; cases hi
            obtain ⟨al, lk⟩ := least_key hk hb.1 hne
            refine .inr ⟨a, xs, toPys l, rfl, hl, dps_of s.sub r hb.2, al, fun z => ?_, by have := (plains_lay 10 l hb.2).2; omega, fun v hv => ?_⟩
            · rw [toPys_map] at z
              exact hne (List.map_eq_nil_iff.mp z)
            · rw [lk] at hv
              obtain ⟨v', h1, h2⟩ := r.get e
              rw [hv] at h1
              cases h1
              exact q.here s h2
          · cases e
      | some ns =>
        rw [hi] at e
        cases ns with
        | nil => cases e
        | cons n ns =>
        cases e
        obtain ⟨a, xs, rfl, hl, r⟩ := Top.seqI s t hs
        have z := ints_of r hi
        subst z
        refine .inl (.inr ⟨a, n :: ns, rfl, hl, by simp, fun m h1 h2 => ?_⟩)
        have : m = minI n ns := Int.le_antisymm (h2 _ (minI_mem n ns)) (minI_le n ns m h1)
        rw [this]
        exact q.here s (.int _)
  · rename_i x
    obtain ⟨v, rfl, t⟩ := one hx
    cases hs : Pv.seqOf S x with
    | none => rw [hs] at e; cases e
    | some l =>
      rw [hs] at e
      cases e
      obtain ⟨a, xs, rfl, hl, r⟩ := Top.seqOf s t hs
      exact ⟨a, xs, rfl, hl, q.lst s r⟩
  · rename_i x
    obtain ⟨v, rfl, t⟩ := one hx
    cases hs : Pv.seqOf S x with
    | none => rw [hs] at e; cases e
    | some l =>
      rw [hs] at e
      cases e
      by_cases hT : ∃ l', x = .tup l'
      · obtain ⟨l', rfl⟩ := hT
        cases hs
        obtain ⟨a, xs, rfl, hf, hl, r⟩ := Top.tup s t
        exact ⟨a, xs, rfl, .inr ⟨hl, q.here s (.tup hf r)⟩⟩
      · obtain ⟨a, xs, rfl, hL, r⟩ := Top.seqNT s t hs fun l h => hT ⟨l, h⟩
        exact ⟨a, xs, rfl, .inl ⟨hL, q.tup s r⟩⟩
  · rename_i i
    obtain ⟨v, rfl, t⟩ := one hx
    obtain rfl := t.int
    cases e
    exact .inl ⟨i, rfl, q.here s (.int _)⟩
  · rename_i i
    obtain ⟨v, rfl, t⟩ := one hx
    obtain rfl := t.bl
    cases e
    exact .inr ⟨i, rfl, q.here s (.int _)⟩
  · rename_i i
    obtain ⟨v, rfl, t⟩ := one hx
    obtain rfl := t.bl
    cases e
    exact .inr ⟨i, rfl, q.here s (.bl _)⟩
  · cases e
end
end Pv

/-! PvX: a def called while an exception is handled. -/
namespace Pv
open PySem PySem.Spec PyProof.Rows L2
/-! ### called while the exception is handled -/
/-- a def's promise there, told of the handled exception p -/
structure FnX (P : Program) (w : World) (K : PySem.W.Frag) (mg : Str → Option Value) (base : Heap) (k : Nat) (f : Addr) (fd : FuncData) (ps : List Str) (sp : Addr × Obj → List V → Hp → VK → Prop) : Prop where
  len : ∀ p vs H Q, sp p vs H Q → vs.length = ps.length
  run : ∀ (A : Around) (outer : List PySem.Env) (s : Shared) (H : Hp) (args : Args) (us : List Value) (vs : List V) (Q : VK) (p : Addr × Obj), L2H.RoomH k A → L2H.Hot1 A p → L2H.PinOk outer H s p → Env0 P w K mg base A outer s H → BindsTo s fd args (ps.zip us) → Vals vs us → sp p vs H Q →
    codeAny (model P w) A (.call (.ref f) args) (CR C8.CX0 outer P w H s Q C8.E0) s
theorem fnX_of {P : Program} {w : World} {K : PySem.W.Frag} {mg : Str → Option Value} {base : Heap} {k : Nat} {f : Addr} {name qual : Str} {params : Arguments} {body : List Stmt} {scope : Scope} {dV kV doc pm cdv ct oc : Value} {an od : Option Addr}
    {osl : Array (Option Value)} {N ps : List Str} {sp : Addr × Obj → List V → Hp → VK → Prop} (lk : K.lookup f = some ⟨oc, od, .func (PySem.W.fnOf name qual params body scope dV kV doc pm an cdv ct), osl⟩) (hcd : PySem.W.codeIn K cdv qual = true) (Sc : FnScope N ps scope)
    (len : ∀ p vs H Q, sp p vs H Q → vs.length = ps.length)
    (hbody : ∀ (A : Around) (outer : List PySem.Env) (s : Shared) (H : Hp) (vs : List V) (Q : VK) (p : Addr × Obj), L2H.Hot1 A p → L2H.RoomH k (A.deeper (envOfC qual scope s.heap.objs.size f cdv)) → sp p vs H Q →
      ∃ t, PSs (L2H.cxH C8.CX0 P w K mg base N qual scope f cdv A outer s H C8.E0 p) body t ∧ t { nx := fun _ H' => Q .non H', rt := Q } (L2.start N vs) H) :
    FnX P w K mg base (k + 1) f (PySem.W.fnOf name qual params body scope dV kV doc pm an cdv ct) ps sp := by
  refine ⟨len, fun A outer s H args us vs Q p hroom hot hpin e0 hbd r hsp => ?_⟩
  have hlen := len _ _ _ _ hsp
  have KX : K.In s.heap := e0.mod.kin.keeps fun b o e => (e0.bs b o e).1
  have nlim : s.heap.NoLimit := e0.mod.nolimit.keeps fun b o e => (e0.bs b o e).1
  have kinds : ∀ y ∈ ps.zip us, scope.names.lookup y.1 = some .local ∨ (scope.names.lookup y.1 = some .cell ∧ ((cellsFrom (s.heap.objs.size + 1) scope.names []).lookup y.1).isSome = true) := fun ⟨n, v⟩ hy =>
    (Sc.par n (List.of_mem_zip hy).1).elim .inl fun q => .inr ⟨q, PySem.W.cellsFrom_some _ _ _ (.inl q)⟩
  refine codeAny_call_function hroom.depth (KX _ _ lk) rfl Sc.co Sc.gen rfl (PySem.W.codeRec_of KX hcd) (hbd _ _ _ _ (wpAny_newFunctionEnv_cells Sc.kind kinds fun env he s1 x => ?_))
  subst he
  refine ⟨nlim.keeps x.toInCall.keep, codeAny_func ?_⟩
  obtain ⟨t, ht, hq⟩ := hbody A outer s H vs Q p hot (hroom.deeper _) hsp
  have I : Inv (L2H.cxH C8.CX0 P w K mg base N qual scope f cdv A outer s H C8.E0 p) [] (L2.start N vs) H s1 := L2H.inv_startH Sc hpin e0 hlen r x
  refine wpAny_mono (ht.run [] s1 (L2.start N vs) H _ I hq) (fun fl s' hs => ?_) fun e s' hs => hs
  cases fl with
  | ret u =>
    obtain ⟨v, σ', H', J, rv, q⟩ := hs
    exact ⟨v, H', J.os, J.bare, J.base, J.hok, rv, q⟩
  | next =>
    obtain ⟨σ', H', J, q⟩ := hs
    exact ⟨V.non, H', J.os, J.bare, J.base, J.hok, rfl, q⟩
  | brk =>
    obtain ⟨_, _, _, q⟩ := hs
    exact q.elim
  | cont =>
    obtain ⟨_, _, _, q⟩ := hs
    exact q.elim
/-- f(n), n the handled exception -/
theorem pe_callX {X : Cx} {k i : Nat} {f : Addr} {fd : FuncData} {prm n x : Str} {sp : Addr × Obj → List V → Hp → VK → Prop} {q q2 pos : Pos} {p : Addr × Obj} (Fx : FnX X.prog X.w X.K X.mg X.base k f fd [prm] sp) (hr : L2H.RoomH k X.A) (hot : L2H.Hot1 X.A p) (hp : p ∈ X.pn)
    (hb : Binds X.K fd [prm] []) (hg : Gl X x) (hm : X.mg x = some (.ref f)) (kp : PySem.W.keepIn X.K (.ref f) = true) (hd : (x == ("__debug__" : Str)) = false) (hv : PE X (.Name n q2) (tVar i)) :
    PE X (.Call (.Name x q) [.Name n q2] [] pos) (fun σ H Q => ∃ v, σ[i]? = some (some v) ∧ sp p [v] H Q) := by
  refine ⟨fun pins s σ H Q I h => ?_⟩
  obtain ⟨v, hσ, h⟩ := h
  have pa : PA X [.Name n q2] (tCons (tVar i) tNil) := pa_cons hv pa_nil
  refine wpAny_Call_Name_kw (ld_glob I hg hm (PySem.W.callWith_K (h₀ := X.base) I.ok.mod.kin kp (thn (pa.run pos pins s σ H (fun vs H1 => vs = [v] ∧ H1 = H) I ⟨v, hσ, rfl, rfl⟩) fun us s1 ⟨vs, H1, I1, r, ev, eH⟩ => ⟨I1.kIn, ?_⟩)) hd)
  subst ev
  rw [eH] at I1
  have hl : us.length = [prm].length := by rw [← r.length]; rfl
  have b := hb s1 us I1.kIn (by rw [List.append_nil]; exact hl)
  rw [List.append_nil] at b
  have P1 := I1.pin p (List.mem_append_left _ hp)
  have pin : L2H.PinOk X.stack H s1 p := ⟨P1.1, P1.2.1, fun hm => (List.mem_cons.mp (I1.stkSub p.1 hm)).elim P1.2.2.1 P1.2.2.2.1, P1.2.2.2.2⟩
  refine wpAny_call (codeAny_mono (Fx.run X.A X.stack s1 H ⟨us, []⟩ us [v] Q p hr hot pin I1.env0 b r h) fun rr s' hq => ?_)
  cases rr with
  | error e => exact (show False from hq).elim
  | ok fl =>
    cases fl with
    | ret u => exact I1.after hq
    | next => exact False.elim hq
    | brk => exact False.elim hq
    | cont => exact False.elim hq
/-- what the def that names the exception promises -/
def spX (K : PySem.W.Frag) (g : Gn) (wrd : Nat → Option Str) : Addr × Obj → List V → Hp → VK → Prop := fun p vs H Q => vs = [.ref p.1] ∧ (∃ fs, p.2.data = .fields fs) ∧ ∃ k w, wrd k = some w ∧ L2.Zc (.ref (g.ca k)) none p.2 ∧
  ∃ F γ S, SS K g F H γ S ∧ ∀ F' H' γ', Ext F H γ F' H' γ' → SS K g F' H' γ' S → Q (.str w) H'
end Pv

/-! Pv6: the checker: does a term of the text say the same as a term of the small language? -/
namespace Pv
open PySem PySem.Spec PyProof.Rows L2

mutual
def same : D → D → Bool
  | .non, .non => true
  | .bl a, .bl b => a == b
  | .int a, .int b => a == b
  | .str a, .str b => a == b
  | .tup a, .tup b => sames a b
  | .lst a, .lst b => sames a b
  | .fn a, .fn b => a == b
  | .cls a, .cls b => a == b
  | .ty a, .ty b => a == b
  | _, _ => false
def sames : List D → List D → Bool
  | [], [] => true
  | x :: xs, y :: ys => same x y && sames xs ys
  | _, _ => false
end
mutual
theorem same_eq : ∀ (a b : D), same a b = true → a = b
  | .non, b, h => by cases b <;> simp_all [same]
  | .bl _, b, h => by cases b <;> simp_all [same]
  | .int _, b, h => by cases b <;> simp_all [same]
  | .str _, b, h => by cases b <;> simp_all [same]
  | .tup l, b, h => by
    cases b with
    | tup l' => rw [sames_eq l l' (by simpa [same] using h)]
    | _ => simp [same] at h
  | .lst l, b, h => by
    cases b with
    | lst l' => rw [sames_eq l l' (by simpa [same] using h)]
    | _ => simp [same] at h
  | .fn _, b, h => by cases b <;> simp_all [same]
  | .cls _, b, h => by cases b <;> simp_all [same]
  | .ty _, b, h => by cases b <;> simp_all [same]
  | .cell _, b, h => by cases b <;> simp [same] at h
  | .scr _, b, h => by cases b <;> simp [same] at h
theorem sames_eq : ∀ (a b : List D), sames a b = true → a = b
  | [], [], _ => rfl
  | [], _ :: _, h => by simp [sames] at h
  | _ :: _, [], h => by simp [sames] at h
  | x :: xs, y :: ys, h => by
    have h' : (same x y && sames xs ys) = true := by simpa [sames] using h
    obtain ⟨h1, h2⟩ := Bool.and_eq_true_iff.mp h'
    rw [same_eq x y h1, sames_eq xs ys h2]
end

/-- what is known of the module's names: gl: values; fr: built-in names that are free -/
structure Ck where
  gl : List (Str × D)
  fr : List Str
  ex : List (Str × Nat) := []
  /-- the def that calls what it gets and names the error -/
  rf : Option Str := none
  /-- the class that is caught, the def that names the error -/
  tw : Option (Str × Str) := none
def Ck.noRf (ck : Ck) : Ck := { ck with rf := none }
def noPar (a : Arguments) : Bool := a.posonlyargs.isEmpty && a.args.isEmpty && a.vararg.isNone && a.kwonlyargs.isEmpty && a.kw_defaults.isEmpty && a.kwarg.isNone && a.defaults.isEmpty

theorem noPar_eq {a : Arguments} (h : noPar a = true) : a = ⟨[], [], none, [], [], none, []⟩ := by
  obtain ⟨a1, a2, a3, a4, a5, a6, a7⟩ := a
  simp only [noPar, Bool.and_eq_true, List.isEmpty_iff, Option.isNone_iff_eq_none] at h
  obtain ⟨⟨⟨⟨⟨⟨rfl, rfl⟩, rfl⟩, rfl⟩, rfl⟩, rfl⟩, rfl⟩ := h
  rfl
def plainName (x : Str) : Bool := !(x == ("__debug__" : Str)) && !(x == ("__classdict__" : Str)) && !(x == ("__name__" : Str))
def visB (sc : Scope) (x : Str) : Bool := match sc.names.lookup x with
  | some .local => true
  | some .cell => true
  | some .free => true
  | _ => false
def locB (sc : Scope) (x : Str) : Bool := match sc.names.lookup x with
  | some .local => true
  | _ => false
def glB (sc : Scope) (x : Str) : Bool := match sc.names.lookup x with
  | some .globalImplicit => true
  | _ => false
/-- the name x stands at slot i -/
def slotB (N : List Str) (sc : Scope) (i : Nat) (x : Str) : Bool := (match N[i]? with
  | some y => y == x
  | none => false) && visB sc x && plainName x
def isStar : Expr → Bool
  | .Starred .. => true
  | _ => false
def isSetE : Expr → Bool
  | .Set .. => true
  | _ => false
/-- a term whose test is its value's truth -/
def headOk : Expr → Bool
  | .UnaryOp .Not _ _ => false
  | .BoolOp .. => false
  | .IfExp .. => false
  | .Compare .. => false
  | _ => true
def chkC (op : Cop) (o : CmpOp) : Bool := match op, o with
  | .eq, .Eq => true | .ne, .NotEq => true | .lt, .Lt => true | .le, .LtE => true | .gt, .Gt => true | .ge, .GtE => true
  | .isin, .In => true | .notin, .NotIn => true | .is, .Is => true | .isnt, .IsNot => true
  | _, _ => false
def chkB (op : Bop) (o : Operator) : Bool := match op, o with
  | .add, .Add => true | .sub, .Sub => true | .mul, .Mult => true | .fdiv, .FloorDiv => true | .mod, .Mod => true | .pow, .Pow => true
  | _, _ => false
def chkK (d : D) (c : Const) : Bool := match d, c with
  | .non, .none => true
  | .bl a, .bool b => a == b
  | .int a, .int b => a == b
  | .str a, .str b => a == b
  | _, _ => false
/-- the names that a def's body may store; a comprehension's -/
def asF (sc : Scope) (x : Str) : Bool := match sc.names.lookup x with
  | some .local => true
  | some .cell => true
  | _ => false
def asC (scope sc : Scope) (x : Str) : Bool := match (relS scope sc).names.lookup x with
  | some .local => true
  | some .cell => scope.names.lookup x == some .cell
  | _ => false
mutual
/-- a target; as: the names that may be stored -/
def chkG (N : List Str) (as : Str → Bool) : G → Expr → Bool
  | .nm i, .Name x _ => (match N[i]? with
    | some y => y == x
    | none => false) && as x
  | .tup gs, .Tuple es _ _ => chkGs N as gs es
  | _, _ => false
def chkGs (N : List Str) (as : Str → Bool) : G → List Expr → Bool
  | .nil, [] => true
  | .cons g gs, e :: es => !isStar e && chkG N as g e && chkGs N as gs es
  | _, _ => false
end
/-- the slots that a target takes -/
def gSlots : G → List Nat
  | .nil => []
  | .cons g gs => gSlots g ++ gSlots gs
  | .nm i => [i]
  | .tup gs => gSlots gs
/-- a comprehension's own names and their slots -/
def ownOf (N : List Str) (own : List Nat) : List (Str × Nat) := own.map fun i => (N.getD i Str.empty, i)
def isGlName (ck : Ck) (sc : Scope) (x : Str) (d : D) : Bool := glB sc x && plainName x && (match ck.gl.lookup x with
  | some d' => same d' d
  | none => false)
mutual
/-- b: may a list of the def's own be lent? -/
def chk (ck : Ck) (N : List Str) (sc : Scope) (b : Bool) : E → Expr → Bool
  | .var i, .Name x _ => slotB N sc i x
  | .bvar i, .Name x _ => b && slotB N sc i x
  | .lit d, .Constant c _ _ => chkK d c
  | .glb x d, .Name y _ => x == y && isGlName ck sc x d
  | .bin op a c, .BinOp x o y _ => chkB op o && chk ck N sc true a x && chk ck N sc true c y
  | .neg a, .UnaryOp .USub x _ => chk ck N sc true a x
  | .cmp op a c, .Compare x [o] [y] _ => chkC op o && !isSetE y && chk ck N sc true a x && chk ck N sc true c y
  | .chain op op' a c d, .Compare x [o, o'] [y, z] _ => chkC op o && chkC op' o' && !isSetE y && !isSetE z && chk ck N sc true a x && chk ck N sc true c y && chk ck N sc true d z
  | .and a c, .BoolOp .And (x :: y :: r) p => chk ck N sc false a x && (match r with
    | [] => chk ck N sc false c y
    | _ :: _ => chk ck N sc false c (.BoolOp .And (y :: r) p))
  | .or a c, .BoolOp .Or (x :: y :: r) p => chk ck N sc false a x && (match r with
    | [] => chk ck N sc false c y
    | _ :: _ => chk ck N sc false c (.BoolOp .Or (y :: r) p))
  | .not a, .UnaryOp .Not x _ => chk ck N sc false a x
  | .ite c a d, .IfExp x y z _ => chkT ck N sc c x && chk ck N sc false a y && chk ck N sc false d z
  | .tup es, .Tuple xs _ _ => chkL ck N sc false es xs
  | .lst es, .List xs _ => chkL ck N sc false es xs
  | .call k es, .Call (.Name x _) xs [] _ => isGlName ck sc x (.fn k) && chkL ck N sc false es xs
  | .callv i es, .Call (.Name x _) xs [] _ => slotB N sc i x && !xs.isEmpty && chkL ck N sc false es xs
  | .blt bl es, .Call (.Name x _) xs [] _ => x == bltName bl && glB sc x && ck.fr.contains x && !xs.isEmpty && chkL ck N sc true es xs
  | .ix a i, .Subscript x y _ => !isSlice y && chk ck N sc true a x && chk ck N sc true i y
  | .sl a lo hi, .Subscript x (.Slice l h none _) _ => chk ck N sc true a x && chkO ck N sc lo l && chkO ck N sc hi h
  | .comp own g it cond elt, .ListComp y [⟨tg, iter, ifs, 0⟩] scope _ => (gSlots g).all (fun i => own.contains i) && blkC N sc scope (ownOf N own) && !isSetE iter && chkI ck N sc true it tg iter && chkG N (asC scope sc) g tg && (match ifs with
    | [] => (match cond with
      | .lit (.bl true) => true
      | _ => false)
    | [c] => chkT ck.noRf N (relS scope sc) cond c
    | _ => false) && chk ck.noRf N (relS scope sc) false elt y
  | .refused m, .Call (.Name x _) [.Lambda params body scope _] [] _ => (match ck.rf with
    | some y => y == x
    | none => false) && glB sc x && plainName x && noPar params && LamX.lamSB sc scope && chk ck.noRf N scope false m body
  | .sset a, .Call (.Name x _) [.Call (.Name y _) [e] [] _] [] _ => x == ("sorted" : Str) && y == ("set" : Str) && glB sc x && glB sc y && ck.fr.contains x && ck.fr.contains y && !isStar e && chk ck N sc true a e
  | .lzip a c, .Call (.Name x _) [.Call (.Name y _) [e, f] [] _] [] _ => x == ("list" : Str) && y == ("zip" : Str) && glB sc x && glB sc y && ck.fr.contains x && ck.fr.contains y && !isStar e && !isStar f && chk ck N sc true a e && chk ck N sc true c f
  | .newcell es, .List xs _ => chkL ck N sc false es xs
  | .tst a, x => headOk x && chk ck N sc false a x
  | _, _ => false
def chkL (ck : Ck) (N : List Str) (sc : Scope) (b : Bool) : E → List Expr → Bool
  | .nil, [] => true
  | .cons e es, x :: xs => !isStar x && chk ck N sc b e x && chkL ck N sc b es xs
  | _, _ => false
def chkO (ck : Ck) (N : List Str) (sc : Scope) : E → Option Expr → Bool
  | .non, none => true
  | .som e, some x => chk ck N sc true e x
  | _, _ => false
/-- tg: the target -/
def chkI (ck : Ck) (N : List Str) (sc : Scope) (b : Bool) : E → Expr → Expr → Bool
  | .walk a, _, x => chk ck N sc b a x
  | .rng1 a, _, .Call (.Name x _) [y] [] _ => x == ("range" : Str) && glB sc x && ck.fr.contains x && !isStar y && chk ck N sc true a y
  | .rng2 a c, _, .Call (.Name x _) [y, z] [] _ => x == ("range" : Str) && glB sc x && ck.fr.contains x && !isStar y && !isStar z && chk ck N sc true a y && chk ck N sc true c z
  | .zip a c, .Tuple _ _ _, .Call (.Name x _) [y, z] [] _ => x == ("zip" : Str) && glB sc x && ck.fr.contains x && !isStar y && !isStar z && chk ck N sc b a y && chk ck N sc b c z
  | .enum a, .Tuple _ _ _, .Call (.Name x _) [y] [] _ => x == ("enumerate" : Str) && glB sc x && ck.fr.contains x && !isStar y && chk ck N sc b a y
  | _, _, _ => false
/-- a test -/
def chkT (ck : Ck) (N : List Str) (sc : Scope) : E → Expr → Bool
  | .tst a, x => headOk x && chk ck N sc false a x
  | .not a, .UnaryOp .Not x _ => chkT ck N sc a x
  | .cmp op a c, .Compare x [o] [y] _ => chkC op o && !isSetE y && chk ck N sc true a x && chk ck N sc true c y
  | .chain op op' a c d, .Compare x [o, o'] [y, z] _ => chkC op o && chkC op' o' && !isSetE y && !isSetE z && chk ck N sc true a x && chk ck N sc true c y && chk ck N sc true d z
  | .and a c, .BoolOp .And (x :: y :: r) p => chkT ck N sc a x && (match r with
    | [] => chkT ck N sc c y
    | _ :: _ => chkT ck N sc c (.BoolOp .And (y :: r) p))
  | .or a c, .BoolOp .Or (x :: y :: r) p => chkT ck N sc a x && (match r with
    | [] => chkT ck N sc c y
    | _ :: _ => chkT ck N sc c (.BoolOp .Or (y :: r) p))
  | _, _ => false
end
end Pv

/-! Pv7: what is to be shown of a term; small lemmas. -/
namespace Pv
open PySem PySem.Spec PyProof.Rows L2

/-! ### answers -/
section
variable (K : PySem.W.Frag) (g : Gn)
def Pst {α β : Type} (R : Hp → Hp → List Addr → β → α → Prop) (F H : Hp) (γ : List Addr) (r : Res α) (Q : β → Hp → Prop) (E : XK) : Prop := match r with
  | .ok a S => ∀ b F' H' γ', Ext F H γ F' H' γ' → SS K g F' H' γ' S → R F' H' γ' b a → Q b H'
  | .exc j S => ∀ F' H' γ', Ext F H γ F' H' γ' → SS K g F' H' γ' S → E (.ref (g.ca j)) none H'
  | .bad => False
def RR (F H : Hp) (γ : List Addr) (v : V) (d : D) : Prop := Rep K g γ F v d
def RT (F H : Hp) (γ : List Addr) (v : V) (d : D) : Prop := Top K g F H γ v d
def RRs (F H : Hp) (γ : List Addr) (v : List V) (d : List D) : Prop := Reps K g γ F v d
def RTs (F H : Hp) (γ : List Addr) (v : List V) (d : List D) : Prop := Tops K g F H γ v d
def RB (F H : Hp) (γ : List Addr) (b : Bool) (d : D) : Prop := d = .bl b
def RO (F H : Hp) (γ : List Addr) (i j : Option Int) : Prop := i = j
end
section
variable {K : PySem.W.Frag} {g : Gn} {α β α' β' : Type} {R : Hp → Hp → List Addr → β → α → Prop} {R' : Hp → Hp → List Addr → β' → α' → Prop} {F H F1 H1 : Hp} {γ γ1 : List Addr} {E : XK}
theorem Pst.ext {r : Res α} {Q : β → Hp → Prop} (h : Pst K g R F H γ r Q E) (e : Ext F H γ F1 H1 γ1) : Pst K g R F1 H1 γ1 r Q E := by
  cases r with
  | ok a S => exact fun b F' H' γ' e' s x => h b F' H' γ' (e.trans e') s x
  | exc j S => exact fun F' H' γ' e' s => h F' H' γ' (e.trans e') s
  | bad => exact h
theorem Pst.bind {r : Res α} {f : α → Sto → Res α'} {Q : β' → Hp → Prop} {Q1 : β → Hp → Prop} (h : Pst K g R' F H γ (r.bind f) Q E)
    (k : ∀ a S b F' H' γ', r = .ok a S → Ext F H γ F' H' γ' → SS K g F' H' γ' S → R F' H' γ' b a → Pst K g R' F' H' γ' (f a S) Q E → Q1 b H') : Pst K g R F H γ r Q1 E := by
  cases r with
  | ok a S => exact fun b F' H' γ' e s x => k a S b F' H' γ' rfl e s x (Pst.ext h e)
  | exc j S => exact h
  | bad => exact h
theorem Pst.lift {S : Sto} {o : Option α} {Q : β → Hp → Prop} (h : Pst K g R F H γ (Res.lift S o) Q E) : ∃ a, o = some a ∧ Pst K g R F H γ (.ok a S) Q E := by
  cases o with
  | none => exact h.elim
  | some a => exact ⟨a, rfl, h⟩
theorem Pst.imp {R2 : Hp → Hp → List Addr → β → α → Prop} {r : Res α} {Q : β → Hp → Prop} (h : Pst K g R F H γ r Q E) (i : ∀ F' H' γ' b a, R2 F' H' γ' b a → R F' H' γ' b a) : Pst K g R2 F H γ r Q E := by
  cases r with
  | ok a S => exact fun b F' H' γ' e s x => h b F' H' γ' e s (i _ _ _ _ _ x)
  | exc j S => exact h
  | bad => exact h
end
theorem Reps.tops {K : PySem.W.Frag} {g : Gn} {F H : Hp} {γ : List Addr} : ∀ {vs : List V} {ds : List D}, Reps K g γ F vs ds → Tops K g F H γ vs ds
  | _, _, .nil => .nil
  | _, _, .cons r t => .cons (.inl r) (Reps.tops t)
theorem Tops.ext {K : PySem.W.Frag} {g : Gn} {F H F1 H1 : Hp} {γ γ1 : List Addr} (e : Ext F H γ F1 H1 γ1) : ∀ {vs : List V} {ds : List D}, Tops K g F H γ vs ds → Tops K g F1 H1 γ1 vs ds
  | _, _, .nil => .nil
  | _, _, .cons r t => .cons (r.ext e) (Tops.ext e t)

/-! ### the context -/
/-- a def's promise -/
def spF (K : PySem.W.Frag) (g : Gn) (cal : Nat → List D → Sto → Res D) (k n : Nat) : Sp := fun vs H Q E => vs.length = n ∧ ∃ F γ S ds, SS K g F H γ S ∧ Reps K g γ F vs ds ∧ Pst K g (RR K g) F H γ (cal k ds S) Q E
structure FnHyp (g : Gn) (cal : Nat → List D → Sto → Res D) (lv : Nat) (P : Program) (w : World) (K : PySem.W.Frag) (mg : Str → Option Value) (base : Heap) (k : Nat) : Prop where
  ex : ∃ fd ps, FnOk P w K mg base (L2N.CX P w) lv (g.fa k) fd ps (spF K g cal k ps.length) ∧ Binds K fd ps [] ∧ ∀ ds S, cal k ds S ≠ .bad → ds.length = ps.length
  kp : PySem.W.keepIn K (.ref (g.fa k)) = true
/-- the code object of a def that makes lambdas -/
def LamHyp (g : Gn) (X : Cx) : Prop := ∃ c P, LamX.TabB X.base X.mg c P ∧ X.env.code = .ref c ∧ (P, X.env.qual ++ ("<lambda>" : Str)) ∈ g.T ∧ ∀ p ∈ g.T, p.1 = P → p.2 = X.env.qual ++ ("<lambda>" : Str)
/-- the def x: try: a() / except ec as e: return er(e) / return '' -/
structure RfHyp (g : Gn) (wrd : Nat → Option Str) (P : Program) (w : World) (K : PySem.W.Frag) (mg : Str → Option Value) (base : Heap) (x : Str) : Prop where
  ex : ∃ (G : Addr) (name qual : Str) (pg : Arguments) (sg : Scope) (dV kV doc pm cdv ct oc : Value) (an od : Option Addr) (osl : Array (Option Value)) (a e ec er : Str) (j : Nat) (p1 p2 p3 p4 p5 p6 p7 p8 p9 pa pb pc : Pos) (c : Value) (f : Addr) (fd : FuncData) (prm : Str),
    mg x = some (.ref G) ∧ PySem.W.keepIn K (.ref G) = true ∧
    K.lookup G = some ⟨oc, od, .func (PySem.W.fnOf name qual pg [.Try [.Expr (.Call (.Name a p1) [] [] p2) p3] [.ExceptHandler (some (.Name ec p4)) (some e) [.Return (some (.Call (.Name er p5) [.Name e p6] [] p7)) p8] p9] [] [] pa, .Return (some (.Constant (.str ⟨#[]⟩) j pb)) pc] sg dV kV doc pm an cdv ct), osl⟩ ∧
    PySem.W.codeIn K cdv qual = true ∧ Binds K (PySem.W.fnOf name qual pg [.Try [.Expr (.Call (.Name a p1) [] [] p2) p3] [.ExceptHandler (some (.Name ec p4)) (some e) [.Return (some (.Call (.Name er p5) [.Name e p6] [] p7)) p8] p9] [] [] pa, .Return (some (.Constant (.str ⟨#[]⟩) j pb)) pc] sg dV kV doc pm an cdv ct) [a] [] ∧
    FnScope [a, e] [a] sg ∧ locB sg a = true ∧ locB sg e = true ∧ plainName a = true ∧ plainName e = true ∧ glB sg ec = true ∧ plainName ec = true ∧ glB sg er = true ∧ plainName er = true ∧
    mg ec = some c ∧ (∀ k v, wrd k = some v → PySem.W.exmOne K (.ref (g.ca k)) c = some true) ∧
    FnX P w K mg base 1 f fd [prm] (spX K g wrd) ∧ Binds K fd [prm] [] ∧ mg er = some (.ref f) ∧ PySem.W.keepIn K (.ref f) = true
structure CtxE (g : Gn) (wrd : Nat → Option Str) (cal : Nat → List D → Sto → Res D) (ck : Ck) (lv : Nat) (X : Cx) : Prop where
  nd : X.N.Nodup
  calm : X.calm = true
  room : Room lv X.A
  gl : ∀ x d, ck.gl.lookup x = some d → ∃ v u, (X.mg x = some u ∨ (X.mg x = none ∧ bootBuiltins x = some u)) ∧ RelV v u ∧ ∀ γ F, Rep X.K g γ F v d
  fr : ∀ x, ck.fr.contains x = true → X.mg x = none
  fns : ∀ k, k < g.nf → FnHyp g cal lv X.prog X.w X.K X.mg X.base k
  rf : ∀ x, ck.rf = some x → Room (lv + 2) X.A ∧ LamHyp g X ∧ RfHyp g wrd X.prog X.w X.K X.mg X.base x

section
variable (g : Gn) (wrd : Nat → Option Str) (cal : Nat → List D → Sto → Res D) (X : Cx) (W : WX)
def DEr {β α : Type} (R : Hp → Hp → List Addr → β → α → Prop) (t : L2.St → Hp → (β → Hp → Prop) → Prop) (f : Env → Sto → Res α) : Prop :=
  ∀ H0 F H γ S ρ σ Q, SS X.K g F H γ S → ER X.K g H0 F H γ ρ σ → Pst X.K g R F H γ (f ρ S) Q (fun c dd H' => W c dd σ H') → t σ H Q
def DE (e : Expr) (m : E) : Prop := ∃ t, PE X e t ∧ DEr g X W (RR X.K g) t (ev wrd cal m)
def BE (e : Expr) (m : E) : Prop := ∃ t, PE X e t ∧ DEr g X W (RT X.K g) t (ev wrd cal m)
def DA (es : List Expr) (m : E) : Prop := ∃ t, PA X es t ∧ DEr g X W (RRs X.K g) t (evs wrd cal m)
def BA (es : List Expr) (m : E) : Prop := ∃ t, PA X es t ∧ DEr g X W (RTs X.K g) t (evs wrd cal m)
def DT (e : Expr) (m : E) : Prop := ∃ t, PT X e t ∧ DEr g X W RB t (ev wrd cal m)
def DW (e : Expr) (m : E) : Prop := ∃ t, PW X e t ∧ DEr g X W RB t (ev wrd cal m)
def DO (e : Option Expr) (m : E) : Prop := ∃ t, PO X e t ∧ DEr g X W RO t (evo wrd cal m)
/-- what stands still while something is walked -/
def GB (F : Hp) (B : List (Addr × List V)) (H : Hp) : Prop := (∀ a o, F a = some o → H a = some o) ∧ ∀ p ∈ B, H p.1 = some (.lst p.2)
def YD (K : PySem.W.Frag) (g : Gn) (γ : List Addr) (F : Hp) (its : List D) (i : Nat) (H : Hp) (x : V) (H' : Hp) : Prop := ∃ d, its[i]? = some d ∧
  ((H' = H ∧ Rep K g γ F x d) ∨ ∃ T u v du dv, x = .ref T ∧ H T = none ∧ H' = upd H T (.tup [u, v]) ∧ Rep K g γ F u du ∧ Rep K g γ F v dv ∧ d = .tup [du, dv])
structure WD (K : PySem.W.Frag) (g : Gn) (γ : List Addr) (F : Hp) (B : List (Addr × List V)) (J : It) (its : List D) : Prop where
  goes : ∀ i H, i < its.length → GB F B H → J.go i H
  stops : ∀ H, GB F B H → J.stop its.length H
  yields : ∀ i H x H', i < its.length → GB F B H → J.yld i H x H' → YD K g γ F its i H x H'
/-- an iterable; b: with lists of the def's own, B -/
def RI (K : PySem.W.Frag) (b : Bool) (F H : Hp) (γ : List Addr) (J : It) (its : List D) : Prop := ∃ B, WD K g γ F B J its ∧ (∀ p ∈ B, H p.1 = some (.lst p.2) ∧ p.1 ∉ γ) ∧ (b = false → B = [])
def DI (b : Bool) (tg e : Expr) (m : E) : Prop := ∃ wi, PI X tg e wi ∧ DEr g X W (RI g X.K b) wi (evi wrd cal m)
end
section
variable {g : Gn} {wrd : Nat → Option Str} {cal : Nat → List D → Sto → Res D} {X : Cx} {W : WX}
theorem DE.be {e : Expr} {m : E} (h : DE g wrd cal X W e m) : BE g wrd cal X W e m := by
  obtain ⟨t, p, h⟩ := h
  exact ⟨t, p, fun H0 F H γ S ρ σ Q s r q => h H0 F H γ S ρ σ Q s r (q.imp fun _ _ _ _ _ x => .inl x)⟩
theorem DA.ba {e : List Expr} {m : E} (h : DA g wrd cal X W e m) : BA g wrd cal X W e m := by
  obtain ⟨t, p, h⟩ := h
  exact ⟨t, p, fun H0 F H γ S ρ σ Q s r q => h H0 F H γ S ρ σ Q s r (q.imp fun _ _ _ _ _ x => Reps.tops x)⟩
end

/-! ### syntax -/
theorem star_cons {e : Expr} {es : List Expr} {env : PySem.Env} (h : isStar e = false) : starEach (e :: es) env = (false, eval e env) :: starEach es env := by
  cases e <;> first | rfl | cases h
theorem back_plain {env : PySem.Env} {pos : Pos} : ∀ {es : List Expr}, es.all (fun e => !isStar e) = true → (backTo pos (starEach es env)).any (·.1) = false
  | [], _ => rfl
  | e :: es, h => by
    obtain ⟨h1, h2⟩ := Bool.and_eq_true_iff.mp (show ((!isStar e) && es.all fun e => !isStar e) = true from h)
    have h1 : isStar e = false := by simpa using h1
    rw [star_cons h1]
    show (false || (backTo pos (starEach es env)).any (·.1)) = false
    rw [back_plain h2]
    rfl
theorem noset_of {e : Expr} {env : PySem.Env} (h : isSetE e = false) (x : Value) : foldedSetIterable e env x = pure x := by
  cases e <;> first | rfl | cases h
theorem nomark_of {e : Expr} (op : CmpOp) (h : isSetE e = false) : behindInMarks op e = false := by
  cases e <;> first | rfl | cases h
theorem marks_of {e e' : Expr} (o o' : CmpOp) (h : isSetE e' = false) : lastMarks [o, o'] [e, e'] = false := by
  show behindInMarks o' e' = false
  exact nomark_of o' h
theorem head_of {e : Expr} {env : PySem.Env} (h : headOk e = true) (whole : Sem Value) : isTrue e env whole = (do let v ← whole; standAt e.pos; holding [v] (truthy v)) := by
  cases e with
  | UnaryOp op x p => cases op <;> first | rfl | cases h
  | _ => first | rfl | cases h
theorem plainName_of {x : Str} (h : plainName x = true) : (x == ("__debug__" : Str)) = false ∧ (x == ("__classdict__" : Str)) = false ∧ x ≠ "__name__" := by
  unfold plainName at h
  simp only [Bool.and_eq_true, Bool.not_eq_true'] at h
  refine ⟨h.1.1, h.1.2, fun z => ?_⟩
  have h2 := h.2
  rw [z] at h2
  simp at h2
theorem vis_of {sc : Scope} {x : Str} (h : visB sc x = true) : Vis sc x := by
  unfold visB at h
  split at h
  · exact .inl (by assumption)
  · exact .inr (.inl (by assumption))
  · exact .inr (.inr (by assumption))
  · cases h
theorem loc_of {sc : Scope} {x : Str} (h : locB sc x = true) : sc.names.lookup x = some .local := by
  unfold locB at h
  split at h
  · assumption
  · cases h
theorem gl_of {X : Cx} {x : Str} (h : glB X.env.scope x = true) : Gl X x := by
  unfold glB at h
  split at h
  · assumption
  · cases h
theorem chkC_eq {op : Cop} {o : CmpOp} (h : chkC op o = true) : o = opC op := by
  cases op <;> cases o <;> first | rfl | cases h
theorem chkB_eq {op : Bop} {o : Operator} (h : chkB op o = true) : o = opB op := by
  cases op <;> cases o <;> first | rfl | cases h
theorem slotB_of {N : List Str} {sc : Scope} {i : Nat} {x : Str} (h : slotB N sc i x = true) : N[i]? = some x ∧ Vis sc x ∧ (x == ("__debug__" : Str)) = false ∧ (x == ("__classdict__" : Str)) = false := by
  unfold slotB at h
  simp only [Bool.and_eq_true] at h
  obtain ⟨⟨h1, h2⟩, h3⟩ := h
  refine ⟨?_, vis_of h2, (plainName_of h3).1, (plainName_of h3).2.1⟩
  split at h1
  · rename_i y hy
    rw [hy, eq_of_beq h1]
  · cases h1
end Pv

/-! Pv8: the pieces of the soundness of expressions. -/
namespace Pv
open PySem PySem.Spec PyProof.Rows L2

section
variable {g : Gn} {wrd : Nat → Option Str} {cal : Nat → List D → Sto → Res D} {lv : Nat} {ck : Ck} {X : Cx} {W : WX}
theorem getS_eq {ρ : Env} {i : Nat} {d : D} (h : getS ρ i = some d) : ρ[i]? = some (.v d) := by
  unfold getS at h
  split at h
  · rename_i e; cases h; exact e
  · cases h
theorem getO_eq {ρ : Env} {i : Nat} {d : List D} (h : getO ρ i = some d) : ρ[i]? = some (.own d) := by
  unfold getO at h
  split at h
  · rename_i e; cases h; exact e
  · cases h
theorem de_var {i : Nat} {x : Str} {p : Pos} (h : slotB X.N X.env.scope i x = true) : DE g wrd cal X W (.Name x p) (.var i) := by
  obtain ⟨h1, h2, h3, h4⟩ := slotB_of h
  refine ⟨tVar i, pe_var h1 h2 h3 h4, fun H0 F H γ S ρ σ Q s r q => ?_⟩
  simp only [ev] at q
  obtain ⟨d, e, q⟩ := Pst.lift q
  obtain ⟨v, hv, rv⟩ := r.val i d (getS_eq e)
  exact ⟨v, hv, q v F H γ .refl s rv⟩
theorem be_bvar {i : Nat} {x : Str} {p : Pos} (h : slotB X.N X.env.scope i x = true) : BE g wrd cal X W (.Name x p) (.bvar i) := by
  obtain ⟨h1, h2, h3, h4⟩ := slotB_of h
  refine ⟨tVar i, pe_var h1 h2 h3 h4, fun H0 F H γ S ρ σ Q s r q => ?_⟩
  simp only [ev] at q
  obtain ⟨d, e, q⟩ := Pst.lift q
  obtain ⟨l, e2, rfl⟩ := Option.map_eq_some_iff.mp e
  obtain ⟨oa, ho, _⟩ := r.own
  obtain ⟨xs, a1, a2, a3, a4, a5, a6⟩ := ho i l (getO_eq e2)
  exact ⟨.ref (oa i), a1, q _ F H γ .refl s (.inr ⟨_, xs, l, rfl, rfl, a2, a4, a3, a6⟩)⟩
theorem de_lit {d : D} {c : Const} {k : Nat} {p : Pos} (h : chkK d c = true) : DE g wrd cal X W (.Constant c k p) (.lit d) := by
  cases d with
  | non =>
    cases c <;> try cases h
    exact ⟨_, pe_non, fun H0 F H γ S ρ σ Q s r q => q _ F H γ .refl s .non⟩
  | bl b =>
    cases c <;> try cases h
    rename_i b'
    obtain rfl : b = b' := eq_of_beq h
    exact ⟨_, pe_bl, fun H0 F H γ S ρ σ Q s r q => q _ F H γ .refl s (.bl b)⟩
  | int b =>
    cases c <;> try cases h
    rename_i b'
    obtain rfl : b = b' := eq_of_beq h
    exact ⟨_, pe_int, fun H0 F H γ S ρ σ Q s r q => q _ F H γ .refl s (.int b)⟩
  | str b =>
    cases c <;> try cases h
    rename_i b'
    obtain rfl : b = b' := eq_of_beq h
    exact ⟨_, pe_str, fun H0 F H γ S ρ σ Q s r q => q _ F H γ .refl s (.str b)⟩
  | _ => cases c <;> cases h
theorem isGl_of {x : Str} {d : D} (C : CtxE g wrd cal ck lv X) (h : isGlName ck X.env.scope x d = true) : Gl X x ∧ (x == ("__debug__" : Str)) = false ∧ x ≠ "__name__" ∧ ∃ v u, (X.mg x = some u ∨ (X.mg x = none ∧ bootBuiltins x = some u)) ∧ RelV v u ∧ ∀ γ F, Rep X.K g γ F v d := by
  unfold isGlName at h
  simp only [Bool.and_eq_true] at h
  obtain ⟨⟨h1, h2⟩, h3⟩ := h
  obtain ⟨n1, _, n3⟩ := plainName_of h2
  split at h3
  · rename_i d' hl
    obtain rfl := same_eq _ _ h3
    exact ⟨gl_of h1, n1, n3, C.gl x d' hl⟩
  · cases h3
theorem de_glb {x : Str} {d : D} {p : Pos} (C : CtxE g wrd cal ck lv X) (h : isGlName ck X.env.scope x d = true) : DE g wrd cal X W (.Name x p) (.glb x d) := by
  obtain ⟨h1, h2, h3, v, u, h4, h5, h6⟩ := isGl_of C h
  refine ⟨tC v, ?_, fun H0 F H γ S ρ σ Q s r q => q _ F H γ .refl s (h6 γ F)⟩
  rcases h4 with h4 | ⟨h4, h4'⟩
  · exact pe_glob h1 h4 h5 h2
  · exact pe_bltn h1 h4 h4' h5 h3 h2
theorem units_of (C : CtxE g wrd cal ck lv X) : X.A.units + 65 < cLine := by have := C.room.un; omega
theorem de_bin {op : Bop} {a c : E} {x y : Expr} {p : Pos} (ha : BE g wrd cal X W x a) (hb : BE g wrd cal X W y c) : DE g wrd cal X W (.BinOp x (opB op) y p) (.bin op a c) := by
  obtain ⟨ta, pa, ha⟩ := ha
  obtain ⟨tb, pb, hb⟩ := hb
  refine ⟨_, pe_op (op_bin op) pa pb, fun H0 F H γ S ρ σ Q s r q => ?_⟩
  simp only [ev] at q
  refine ha H0 F H γ S ρ σ _ s r (Pst.bind q fun dx S1 v F1 H1 γ1 _ e1 s1 r1 q => ?_)
  refine hb H0 F1 H1 γ1 S1 ρ σ _ s1 (r.ext e1) (Pst.bind q fun dy S2 u F2 H2 γ2 _ e2 s2 r2 q => ?_)
  obtain ⟨d, e, q⟩ := Pst.lift q
  exact rBin_ok s2 (r1.ext e2) r2 e q
theorem de_neg {a : E} {x : Expr} {p : Pos} (ha : BE g wrd cal X W x a) : DE g wrd cal X W (.UnaryOp .USub x p) (.neg a) := by
  obtain ⟨ta, pa, ha⟩ := ha
  refine ⟨_, pe_un un_neg pa, fun H0 F H γ S ρ σ Q s r q => ?_⟩
  simp only [ev] at q
  refine ha H0 F H γ S ρ σ _ s r (Pst.bind q fun dx S1 v F1 H1 γ1 _ e1 s1 r1 q => ?_)
  split at q
  · obtain rfl := Top.int r1
    exact ⟨_, rfl, q _ F1 H1 γ1 .refl s1 (.int _)⟩
  · exact q.elim
theorem de_cmp {op : Cop} {a c : E} {x y : Expr} {p : Pos} (C : CtxE g wrd cal ck lv X) (hs : isSetE y = false) (ha : BE g wrd cal X W x a) (hb : BE g wrd cal X W y c) : DE g wrd cal X W (.Compare x [opC op] [y] p) (.cmp op a c) := by
  obtain ⟨ta, pa, ha⟩ := ha
  obtain ⟨tb, pb, hb⟩ := hb
  refine ⟨_, pe_cmpR (op_cmp (units_of C) op) pa pb (nomark_of _ hs), fun H0 F H γ S ρ σ Q s r q => ?_⟩
  simp only [ev] at q
  refine ha H0 F H γ S ρ σ _ s r (Pst.bind q fun dx S1 v F1 H1 γ1 _ e1 s1 r1 q => ?_)
  refine hb H0 F1 H1 γ1 S1 ρ σ _ s1 (r.ext e1) (Pst.bind q fun dy S2 u F2 H2 γ2 _ e2 s2 r2 q => ?_)
  obtain ⟨d, e, q⟩ := Pst.lift q
  exact rCmp_ok s2 (r1.ext e2) r2 e q
/-- a comparison's answer is a truth value -/
theorem cmpD_bl {op : Cop} {x y d : D} (h : cmpD op x y = some d) : ∃ b, d = .bl b := by
  have i2 : ∀ {f : Int → Int → Bool}, ints2 f x y = some d → ∃ b, d = .bl b := fun {f} h => by
    unfold ints2 at h
    split at h
    · cases h; exact ⟨_, rfl⟩
    · cases h
  cases op with
  | lt =>
    have h : ltD x y = some d := h
    unfold ltD at h
    split at h
    · cases h; exact ⟨_, rfl⟩
    · split at h
      · cases h; exact ⟨_, rfl⟩
      · cases h
    · cases h
  | le => exact i2 h
  | gt => exact i2 h
  | ge => exact i2 h
  | eq => unfold cmpD at h; dsimp only at h; split at h <;> first | (cases h; exact ⟨_, rfl⟩) | cases h
  | ne => unfold cmpD at h; dsimp only at h; split at h <;> first | (cases h; exact ⟨_, rfl⟩) | cases h
  | isin => unfold cmpD at h; dsimp only at h; (repeat' split at h) <;> first | (cases h; exact ⟨_, rfl⟩) | cases h
  | notin => unfold cmpD at h; dsimp only at h; (repeat' split at h) <;> first | (cases h; exact ⟨_, rfl⟩) | cases h
  | is => unfold cmpD at h; dsimp only at h; (repeat' split at h) <;> first | (cases h; exact ⟨_, rfl⟩) | cases h
  | isnt => unfold cmpD at h; dsimp only at h; (repeat' split at h) <;> first | (cases h; exact ⟨_, rfl⟩) | cases h
/-- a test out of an expression that gives a truth value -/
theorem der_test {t : TE} {f : Env → Sto → Res D} (h : DEr g X W (RR X.K g) t f) (hb : ∀ ρ S d S', f ρ S = .ok d S' → ∃ b, d = .bl b) : DEr g X W RB (tTest t) f := fun H0 F H γ S ρ σ Q s r q => by
  refine h H0 F H γ S ρ σ _ s r ?_
  revert q
  cases e : f ρ S with
  | ok d S' =>
    intro q v F' H' γ' e' s' x
    obtain ⟨b, rfl⟩ := hb ρ S d S' e
    cases x
    exact ⟨b, rfl, q b F' H' γ' e' s' rfl⟩
  | exc j S' => exact fun q => q
  | bad => exact fun q => q
theorem dt_cmp {op : Cop} {a c : E} {x y : Expr} {p : Pos} (C : CtxE g wrd cal ck lv X) (hs : isSetE y = false) (ha : BE g wrd cal X W x a) (hb : BE g wrd cal X W y c) : DT g wrd cal X W (.Compare x [opC op] [y] p) (.cmp op a c) := by
  obtain ⟨ta, pa, ha⟩ := ha
  obtain ⟨tb, pb, hb⟩ := hb
  refine ⟨_, pt_cmpR (op_cmp (units_of C) op) pa pb (nomark_of _ hs), der_test (fun H0 F H γ S ρ σ Q s r q => ?_) (fun ρ S d S' h => ?_)⟩
  · simp only [ev] at q
    refine ha H0 F H γ S ρ σ _ s r (Pst.bind q fun dx S1 v F1 H1 γ1 _ e1 s1 r1 q => ?_)
    refine hb H0 F1 H1 γ1 S1 ρ σ _ s1 (r.ext e1) (Pst.bind q fun dy S2 u F2 H2 γ2 _ e2 s2 r2 q => ?_)
    obtain ⟨d, e, q⟩ := Pst.lift q
    exact rCmp_ok s2 (r1.ext e2) r2 e q
  · simp only [ev] at h
    cases e1 : ev wrd cal a ρ S with
    | ok x S1 =>
      rw [e1] at h
      simp only [Res.bind] at h
      cases e2 : ev wrd cal c ρ S1 with
      | ok y S2 =>
        rw [e2] at h
        simp only at h
        cases e3 : cmpD op x y with
        | some z => rw [e3] at h; simp only [Res.lift] at h; cases h; exact cmpD_bl e3
        | none => rw [e3] at h; cases h
      | exc j S2 => rw [e2] at h; cases h
      | bad => rw [e2] at h; cases h
    | exc j S1 => rw [e1] at h; cases h
    | bad => rw [e1] at h; cases h
theorem der_chain {op op' : Cop} {a c d : E} {ta tb tc : TE} (ha : DEr g X W (RT X.K g) ta (ev wrd cal a)) (hb : DEr g X W (RT X.K g) tb (ev wrd cal c)) (hc : DEr g X W (RT X.K g) tc (ev wrd cal d)) :
    DEr g X W (RR X.K g) (tChain (rCmp X.K op) (rCmp X.K op') ta tb tc) (ev wrd cal (.chain op op' a c d)) := fun H0 F H γ S ρ σ Q s r q => by
  simp only [ev] at q
  refine ha H0 F H γ S ρ σ _ s r (Pst.bind q fun dx S1 v F1 H1 γ1 _ e1 s1 r1 q => ?_)
  refine hb H0 F1 H1 γ1 S1 ρ σ _ s1 (r.ext e1) (Pst.bind q fun dy S2 u F2 H2 γ2 _ e2 s2 r2 q => ?_)
  split at q
  · rename_i e
    refine rCmp_ok s2 (r1.ext e2) r2 e fun z F3 H3 γ3 e3 s3 r3 => ?_
    cases r3
    refine ⟨true, rfl, iteT ?_⟩
    refine hc H0 F3 H3 γ3 S2 ρ σ _ s3 ((r.ext (e1.trans e2)).ext e3) (Pst.bind (Pst.ext q e3) fun dz S4 u4 F4 H4 γ4 _ e4 s4 r4 q => ?_)
    obtain ⟨d, e', q⟩ := Pst.lift q
    exact rCmp_ok s4 (r2.ext (e3.trans e4)) r4 e' q
  · rename_i e
    refine rCmp_ok s2 (r1.ext e2) r2 e fun z F3 H3 γ3 e3 s3 r3 => ?_
    cases r3
    exact ⟨false, rfl, iteF (q _ F3 H3 γ3 e3 s3 (.bl false))⟩
  · exact q.elim
theorem chain_bl {op op' : Cop} {a c d : E} {ρ : Env} {S S' : Sto} {v : D} (h : ev wrd cal (.chain op op' a c d) ρ S = .ok v S') : ∃ b, v = .bl b := by
  simp only [ev] at h
  cases e1 : ev wrd cal a ρ S with
  | ok x S1 =>
    rw [e1] at h
    simp only [Res.bind] at h
    cases e2 : ev wrd cal c ρ S1 with
    | ok y S2 =>
      rw [e2] at h
      simp only at h
      split at h
      · cases e4 : ev wrd cal d ρ S2 with
        | ok z S3 =>
          rw [e4] at h
          simp only at h
          cases e3 : cmpD op' y z with
          | some z => rw [e3] at h; simp only [Res.lift] at h; cases h; exact cmpD_bl e3
          | none => rw [e3] at h; cases h
        | exc j S2 => rw [e4] at h; cases h
        | bad => rw [e4] at h; cases h
      · cases h; exact ⟨_, rfl⟩
      · cases h
    | exc j S2 => rw [e2] at h; cases h
    | bad => rw [e2] at h; cases h
  | exc j S1 => rw [e1] at h; cases h
  | bad => rw [e1] at h; cases h
theorem de_chain {op op' : Cop} {a c d : E} {x y z : Expr} {p : Pos} (C : CtxE g wrd cal ck lv X) (hs : isSetE z = false) (ha : BE g wrd cal X W x a) (hb : BE g wrd cal X W y c) (hc : BE g wrd cal X W z d) :
    DE g wrd cal X W (.Compare x [opC op, opC op'] [y, z] p) (.chain op op' a c d) := by
  obtain ⟨ta, pa, ha⟩ := ha
  obtain ⟨tb, pb, hb⟩ := hb
  obtain ⟨tc, pc, hc⟩ := hc
  exact ⟨_, pe_chain (op_cmp (units_of C) op) (op_cmp (units_of C) op') pa pb pc (marks_of _ _ hs), der_chain ha hb hc⟩
theorem dt_chain {op op' : Cop} {a c d : E} {x y z : Expr} {p : Pos} (C : CtxE g wrd cal ck lv X) (hs : isSetE z = false) (ha : BE g wrd cal X W x a) (hb : BE g wrd cal X W y c) (hc : BE g wrd cal X W z d) :
    DT g wrd cal X W (.Compare x [opC op, opC op'] [y, z] p) (.chain op op' a c d) := by
  obtain ⟨ta, pa, ha⟩ := ha
  obtain ⟨tb, pb, hb⟩ := hb
  obtain ⟨tc, pc, hc⟩ := hc
  exact ⟨_, pt_chain (op_cmp (units_of C) op) (op_cmp (units_of C) op') pa pb pc (marks_of _ _ hs), der_test (der_chain ha hb hc) fun ρ S d S' h => chain_bl h⟩
/-! ### and, or, not -/
theorem de_and {a c : E} {x y : Expr} {r : List Expr} {p : Pos} (ha : DE g wrd cal X W x a) (hb : DE g wrd cal X W (.BoolOp .And (y :: r) p) c) : DE g wrd cal X W (.BoolOp .And (x :: y :: r) p) (.and a c) := by
  obtain ⟨ta, pa, ha⟩ := ha
  obtain ⟨tb, pb, hb⟩ := hb
  refine ⟨_, pe_and pa pb, fun H0 F H γ S ρ σ Q s r q => ?_⟩
  simp only [ev] at q
  refine ha H0 F H γ S ρ σ _ s r (Pst.bind q fun dx S1 v F1 H1 γ1 _ e1 s1 r1 q => ?_)
  split at q
  · cases r1
    exact ⟨true, rfl, iteT (hb H0 F1 H1 γ1 S1 ρ σ _ s1 (r.ext e1) q)⟩
  · cases r1
    exact ⟨false, rfl, iteF (q _ F1 H1 γ1 .refl s1 (.bl false))⟩
  · exact q.elim
theorem de_or {a c : E} {x y : Expr} {r : List Expr} {p : Pos} (ha : DE g wrd cal X W x a) (hb : DE g wrd cal X W (.BoolOp .Or (y :: r) p) c) : DE g wrd cal X W (.BoolOp .Or (x :: y :: r) p) (.or a c) := by
  obtain ⟨ta, pa, ha⟩ := ha
  obtain ⟨tb, pb, hb⟩ := hb
  refine ⟨_, pe_or pa pb, fun H0 F H γ S ρ σ Q s r q => ?_⟩
  simp only [ev] at q
  refine ha H0 F H γ S ρ σ _ s r (Pst.bind q fun dx S1 v F1 H1 γ1 _ e1 s1 r1 q => ?_)
  split at q
  · cases r1
    exact ⟨false, rfl, iteF (hb H0 F1 H1 γ1 S1 ρ σ _ s1 (r.ext e1) q)⟩
  · cases r1
    exact ⟨true, rfl, iteT (q _ F1 H1 γ1 .refl s1 (.bl true))⟩
  · exact q.elim
theorem de_one {op : BoolOp} {c : E} {y : Expr} {p : Pos} (hb : DE g wrd cal X W y c) : DE g wrd cal X W (.BoolOp op [y] p) c := by
  obtain ⟨tb, pb, hb⟩ := hb
  exact ⟨tb, pe_one pb, hb⟩
theorem de_not {a : E} {x : Expr} {p : Pos} (ha : DE g wrd cal X W x a) : DE g wrd cal X W (.UnaryOp .Not x p) (.not a) := by
  obtain ⟨ta, pa, ha⟩ := ha
  refine ⟨_, pe_not pa, fun H0 F H γ S ρ σ Q s r q => ?_⟩
  simp only [ev] at q
  refine ha H0 F H γ S ρ σ _ s r (Pst.bind q fun dx S1 v F1 H1 γ1 _ e1 s1 r1 q => ?_)
  split at q
  · cases r1
    exact ⟨_, rfl, q _ F1 H1 γ1 .refl s1 (.bl _)⟩
  · exact q.elim
theorem dt_not {a : E} {x : Expr} {p : Pos} (ha : DT g wrd cal X W x a) : DT g wrd cal X W (.UnaryOp .Not x p) (.not a) := by
  obtain ⟨ta, pa, ha⟩ := ha
  refine ⟨_, pt_not pa, fun H0 F H γ S ρ σ Q s r q => ?_⟩
  simp only [ev] at q
  refine ha H0 F H γ S ρ σ _ s r (Pst.bind q fun dx S1 v F1 H1 γ1 _ e1 s1 r1 q => ?_)
  cases r1
  exact q _ F1 H1 γ1 .refl s1 rfl
theorem dw_and {a c : E} {x y : Expr} {r : List Expr} {p : Pos} (ha : DT g wrd cal X W x a) (hb : DW g wrd cal X W (.BoolOp .And (y :: r) p) c) : DW g wrd cal X W (.BoolOp .And (x :: y :: r) p) (.and a c) := by
  obtain ⟨ta, pa, ha⟩ := ha
  obtain ⟨tb, pb, hb⟩ := hb
  refine ⟨_, pw_and pa pb, fun H0 F H γ S ρ σ Q s r q => ?_⟩
  simp only [ev] at q
  refine ha H0 F H γ S ρ σ _ s r (Pst.bind q fun dx S1 v F1 H1 γ1 _ e1 s1 r1 q => ?_)
  cases r1
  cases v with
  | true => exact iteT (hb H0 F1 H1 γ1 S1 ρ σ _ s1 (r.ext e1) q)
  | false => exact iteF (q _ F1 H1 γ1 .refl s1 rfl)
theorem dw_or {a c : E} {x y : Expr} {r : List Expr} {p : Pos} (ha : DT g wrd cal X W x a) (hb : DW g wrd cal X W (.BoolOp .Or (y :: r) p) c) : DW g wrd cal X W (.BoolOp .Or (x :: y :: r) p) (.or a c) := by
  obtain ⟨ta, pa, ha⟩ := ha
  obtain ⟨tb, pb, hb⟩ := hb
  refine ⟨_, pw_or pa pb, fun H0 F H γ S ρ σ Q s r q => ?_⟩
  simp only [ev] at q
  refine ha H0 F H γ S ρ σ _ s r (Pst.bind q fun dx S1 v F1 H1 γ1 _ e1 s1 r1 q => ?_)
  cases r1
  cases v with
  | true => exact iteT (q _ F1 H1 γ1 .refl s1 rfl)
  | false => exact iteF (hb H0 F1 H1 γ1 S1 ρ σ _ s1 (r.ext e1) q)
theorem dw_one {op : BoolOp} {c : E} {y : Expr} {p : Pos} (hb : DT g wrd cal X W y c) : DW g wrd cal X W (.BoolOp op [y] p) c := by
  obtain ⟨tb, pb, hb⟩ := hb
  cases op with
  | And => exact ⟨tb, pw_and1 pb, hb⟩
  | Or => exact ⟨tb, pw_or1 pb, hb⟩
theorem DW.dt {c : E} {y : Expr} (hb : DW g wrd cal X W y c) : DT g wrd cal X W y c := by
  obtain ⟨tb, pb, hb⟩ := hb
  exact ⟨tb, pb.pt, hb⟩
theorem dt_tst {a : E} {x : Expr} (hh : headOk x = true) (ha : DE g wrd cal X W x a) : DT g wrd cal X W x (.tst a) := by
  obtain ⟨ta, pa, ha⟩ := ha
  refine ⟨_, pt_truth pa (head_of hh), fun H0 F H γ S ρ σ Q s r q => ?_⟩
  simp only [ev] at q
  refine ha H0 F H γ S ρ σ _ s r (Pst.bind q fun dx S1 v F1 H1 γ1 _ e1 s1 r1 q => ?_)
  split at q
  · cases r1
    exact ⟨_, rfl, q _ F1 H1 γ1 .refl s1 rfl⟩
  · exact q.elim
theorem de_tst {a : E} {x : Expr} (ha : DE g wrd cal X W x a) : DE g wrd cal X W x (.tst a) := by
  obtain ⟨ta, pa, ha⟩ := ha
  refine ⟨_, pa, fun H0 F H γ S ρ σ Q s r q => ?_⟩
  simp only [ev] at q
  refine ha H0 F H γ S ρ σ _ s r (Pst.bind q fun dx S1 v F1 H1 γ1 _ e1 s1 r1 q => ?_)
  split at q
  · cases r1
    exact q _ F1 H1 γ1 .refl s1 (.bl _)
  · exact q.elim
theorem de_ite {c a d : E} {x y z : Expr} {p : Pos} (hc : DT g wrd cal X W x c) (ha : DE g wrd cal X W y a) (hb : DE g wrd cal X W z d) : DE g wrd cal X W (.IfExp x y z p) (.ite c a d) := by
  obtain ⟨tc, pc, hc⟩ := hc
  obtain ⟨ta, pa, ha⟩ := ha
  obtain ⟨tb, pb, hb⟩ := hb
  refine ⟨_, pe_ifExp pc pa pb, fun H0 F H γ S ρ σ Q s r q => ?_⟩
  simp only [ev] at q
  refine hc H0 F H γ S ρ σ _ s r (Pst.bind q fun dx S1 v F1 H1 γ1 _ e1 s1 r1 q => ?_)
  cases r1
  cases v with
  | true => exact iteT (ha H0 F1 H1 γ1 S1 ρ σ _ s1 (r.ext e1) q)
  | false => exact iteF (hb H0 F1 H1 γ1 S1 ρ σ _ s1 (r.ext e1) q)
/-! ### lists of terms, displays -/
theorem da_nil : DA g wrd cal X W [] .nil := ⟨tNil, pa_nil, fun H0 F H γ S ρ σ Q s r q => by
  simp only [evs] at q
  exact q _ F H γ .refl s .nil⟩
theorem da_cons {e es : E} {x : Expr} {xs : List Expr} (hs : isStar x = false) (ha : DE g wrd cal X W x e) (hb : DA g wrd cal X W xs es) : DA g wrd cal X W (x :: xs) (.cons e es) := by
  obtain ⟨ta, pa, ha⟩ := ha
  obtain ⟨tb, pb, hb⟩ := hb
  refine ⟨_, pa_cons pa pb (star_cons hs), fun H0 F H γ S ρ σ Q s r q => ?_⟩
  simp only [evs] at q
  refine ha H0 F H γ S ρ σ _ s r (Pst.bind q fun dx S1 v F1 H1 γ1 _ e1 s1 r1 q => ?_)
  refine hb H0 F1 H1 γ1 S1 ρ σ _ s1 (r.ext e1) (Pst.bind q fun dy S2 u F2 H2 γ2 _ e2 s2 r2 q => ?_)
  exact q _ F2 H2 γ2 .refl s2 (.cons (e2.rep r1) r2)
theorem ba_cons {e es : E} {x : Expr} {xs : List Expr} (hs : isStar x = false) (ha : BE g wrd cal X W x e) (hb : BA g wrd cal X W xs es) : BA g wrd cal X W (x :: xs) (.cons e es) := by
  obtain ⟨ta, pa, ha⟩ := ha
  obtain ⟨tb, pb, hb⟩ := hb
  refine ⟨_, pa_cons pa pb (star_cons hs), fun H0 F H γ S ρ σ Q s r q => ?_⟩
  simp only [evs] at q
  refine ha H0 F H γ S ρ σ _ s r (Pst.bind q fun dx S1 v F1 H1 γ1 _ e1 s1 r1 q => ?_)
  refine hb H0 F1 H1 γ1 S1 ρ σ _ s1 (r.ext e1) (Pst.bind q fun dy S2 u F2 H2 γ2 _ e2 s2 r2 q => ?_)
  exact q _ F2 H2 γ2 .refl s2 (.cons (r1.ext e2) r2)
theorem de_tup {es : E} {xs : List Expr} {k : Nat} {p : Pos} (ha : DA g wrd cal X W xs es) : DE g wrd cal X W (.Tuple xs k p) (.tup es) := by
  obtain ⟨ta, pa, ha⟩ := ha
  refine ⟨_, pe_tup pa, fun H0 F H γ S ρ σ Q s r q => ?_⟩
  simp only [ev] at q
  refine ha H0 F H γ S ρ σ _ s r (Pst.bind q fun dx S1 v F1 H1 γ1 _ e1 s1 r1 q => ?_)
  split at q
  · rename_i hl
    exact ⟨by rw [Reps.length r1]; exact lenOk_le hl, VP.tup q s1 r1⟩
  · exact q.elim
theorem de_lst {es : E} {xs : List Expr} {p : Pos} (ha : DA g wrd cal X W xs es) : DE g wrd cal X W (.List xs p) (.lst es) := by
  obtain ⟨ta, pa, ha⟩ := ha
  refine ⟨_, pe_lst pa, fun H0 F H γ S ρ σ Q s r q => ?_⟩
  simp only [ev] at q
  refine ha H0 F H γ S ρ σ _ s r (Pst.bind q fun dx S1 v F1 H1 γ1 _ e1 s1 r1 q => ?_)
  split at q
  · rename_i hl
    exact ⟨by rw [Reps.length r1]; exact lenOk_le hl, VP.lst q s1 r1⟩
  · exact q.elim
/-- a new cell -/
theorem cell_new {K : PySem.W.Frag} {F H : Hp} {γ : List Addr} {S : Sto} {xs : List V} {ds : List D} {p : Addr} (s : SS K g F H γ S) (r : Reps K g γ F xs ds) (hp : H p = none) :
    Ext F H γ F (upd H p (.lst xs)) (γ ++ [p]) ∧ SS K g F (upd H p (.lst xs)) (γ ++ [p]) (S ++ [.lst ds]) := by
  have fp : F p = none := by
    cases q : F p with
    | none => rfl
    | some u => rw [s.sub p u q] at hp; cases hp
  have np : p ∉ γ := fun hm => by
    obtain ⟨k, hk⟩ := List.getElem?_of_mem hm
    obtain ⟨hlt, _⟩ := List.getElem?_eq_some_iff.mp hk
    have hlt' : k < S.length := by rw [← s.len]; exact hlt
    cases q : S[k] with
    | lst l =>
      obtain ⟨a', xs, h1, h2, h3⟩ := s.cell k l (by rw [List.getElem?_eq_getElem hlt', q])
      rw [hk] at h1
      cases h1
      rw [hp] at h2
      cases h2
  have e : Ext F H γ F (upd H p (.lst xs)) (γ ++ [p]) := by
    refine ⟨fun _ _ h => h, ⟨[p], rfl, fun a ha => by simp at ha; subst ha; exact .of hp⟩, fun a o h _ _ => by rw [upd_ne (ne_of_none h hp)]; exact h, fun a h => ?_, fun a h => .inl h⟩
    by_cases e : a = p
    · subst e; exact .of hp
    · intro u hu; exact h u (by rw [upd_ne e]; exact hu)
  refine ⟨e, fun a o h => by rw [upd_ne (ne_of_none h fp)]; exact s.sub a o h, by rw [List.length_append, List.length_append, s.len]; rfl, fun k l h => ?_, ?_, fun a ha => ?_, tabs_new s.tabs hp, s.nt⟩
  · by_cases hk : k < S.length
    · rw [List.getElem?_append_left hk] at h
      obtain ⟨a, xs', h1, h2, h3⟩ := s.cell k l h
      exact ⟨a, xs', e.gk k a h1, by rw [upd_ne (ne_of_none h2 hp)]; exact h2, e.reps h3⟩
    · rw [List.getElem?_append_right (by omega)] at h
      have hk0 : k - S.length = 0 := by
        obtain ⟨hlt, _⟩ := List.getElem?_eq_some_iff.mp h
        simp at hlt
        omega
      rw [hk0] at h
      cases h
      refine ⟨p, xs, ?_, upd_same, e.reps r⟩
      rw [List.getElem?_append_right (by rw [s.len]; omega), s.len, hk0]
      rfl
  · exact List.nodup_append.mpr ⟨s.nd, by simp, fun a ha b hb => by simp at hb; subst hb; intro z; subst z; exact np ha⟩
  · rcases List.mem_append.mp ha with h | h
    · exact s.fr a h
    · simp at h; subst h; exact fp
theorem de_newcell {es : E} {xs : List Expr} {p : Pos} (ha : DA g wrd cal X W xs es) : DE g wrd cal X W (.List xs p) (.newcell es) := by
  obtain ⟨ta, pa, ha⟩ := ha
  refine ⟨_, pe_lst pa, fun H0 F H γ S ρ σ Q s r q => ?_⟩
  simp only [ev] at q
  refine ha H0 F H γ S ρ σ _ s r (Pst.bind q fun dx S1 v F1 H1 γ1 _ e1 s1 r1 q => ?_)
  split at q
  · rename_i hl
    refine ⟨by rw [Reps.length r1]; exact lenOk_le hl, fun p hp => ?_⟩
    obtain ⟨e, s2⟩ := cell_new s1 r1 hp
    refine q _ F1 _ _ e s2 (.cell ?_)
    rw [List.getElem?_append_right (by rw [s1.len]; omega), s1.len, Nat.sub_self]
    rfl
  · exact q.elim
/-! ### subscripts, slices -/
theorem de_ix {a i : E} {x y : Expr} {p : Pos} (hy : isSlice y = false) (ha : BE g wrd cal X W x a) (hb : BE g wrd cal X W y i) : DE g wrd cal X W (.Subscript x y p) (.ix a i) := by
  obtain ⟨ta, pa, ha⟩ := ha
  obtain ⟨tb, pb, hb⟩ := hb
  refine ⟨_, pe_ix ix_seq pa pb (plainIx_of hy), fun H0 F H γ S ρ σ Q s r q => ?_⟩
  simp only [ev] at q
  refine ha H0 F H γ S ρ σ _ s r (Pst.bind q fun dx S1 v F1 H1 γ1 _ e1 s1 r1 q => ?_)
  refine hb H0 F1 H1 γ1 S1 ρ σ _ s1 (r.ext e1) (Pst.bind q fun dy S2 u F2 H2 γ2 _ e2 s2 r2 q => ?_)
  obtain ⟨d, e, q⟩ := Pst.lift q
  exact rIx_ok s2 (r1.ext e2) r2 e q
theorem do_non : DO g wrd cal X W none .non := ⟨tNoPart, po_none, fun H0 F H γ S ρ σ Q s r q => by
  simp only [evo] at q
  exact q _ F H γ .refl s rfl⟩
theorem do_som {a : E} {x : Expr} (ha : BE g wrd cal X W x a) : DO g wrd cal X W (some x) (.som a) := by
  obtain ⟨ta, pa, ha⟩ := ha
  refine ⟨_, po_some pa, fun H0 F H γ S ρ σ Q s r q => ?_⟩
  simp only [evo] at q
  refine ha H0 F H γ S ρ σ _ s r (Pst.bind q fun dx S1 v F1 H1 γ1 _ e1 s1 r1 q => ?_)
  split at q
  · obtain rfl := Top.int r1
    exact ⟨_, rfl, q _ F1 H1 γ1 .refl s1 rfl⟩
  · exact q.elim
theorem de_sl {a lo hi : E} {x : Expr} {l h : Option Expr} {p p2 : Pos} (ha : BE g wrd cal X W x a) (hl : DO g wrd cal X W l lo) (hh : DO g wrd cal X W h hi) : DE g wrd cal X W (.Subscript x (.Slice l h none p2) p) (.sl a lo hi) := by
  obtain ⟨ta, pa, ha⟩ := ha
  obtain ⟨tl, pl, hl⟩ := hl
  obtain ⟨th, ph, hh⟩ := hh
  refine ⟨_, pe_slice sl_all pa pl ph, fun H0 F H γ S ρ σ Q s r q => ?_⟩
  simp only [ev] at q
  refine ha H0 F H γ S ρ σ _ s r (Pst.bind q fun dx S1 v F1 H1 γ1 _ e1 s1 r1 q => ?_)
  refine hl H0 F1 H1 γ1 S1 ρ σ _ s1 (r.ext e1) (Pst.bind q fun lo' S2 u F2 H2 γ2 _ e2 s2 r2 q => ?_)
  refine hh H0 F2 H2 γ2 S2 ρ σ _ s2 ((r.ext e1).ext e2) (Pst.bind q fun hi' S3 w F3 H3 γ3 _ e3 s3 r3 q => ?_)
  obtain rfl : u = lo' := r2
  obtain rfl : w = hi' := r3
  obtain ⟨d, e, q⟩ := Pst.lift q
  exact rSl_ok s3 ((r1.ext e2).ext e3) e q
/-! ### calls -/
theorem all_plain {b : Bool} : ∀ {m : E} {es : List Expr}, chkL ck X.N X.env.scope b m es = true → es.all (fun e => !isStar e) = true
  | .nil, [], _ => rfl
  | .cons _ m, e :: es, h => by
    simp only [chkL, Bool.and_eq_true] at h
    obtain ⟨⟨h1, _⟩, h2⟩ := h
    show ((!isStar e) && es.all fun e => !isStar e) = true
    rw [h1, all_plain h2]
    rfl
  | .nil, _ :: _, h => by simp [chkL] at h
  | .cons _ _, [], h => by simp [chkL] at h
theorem pa_head {e : Expr} {es : List Expr} (h : (e :: es).all (fun e => !isStar e) = true) {env : PySem.Env} {pos : Pos} : starEach (e :: es) env = (false, eval e env) :: starEach es env ∧ (backTo pos (starEach es env)).any (·.1) = false := by
  obtain ⟨h1, h2⟩ := Bool.and_eq_true_iff.mp (show ((!isStar e) && es.all fun e => !isStar e) = true from h)
  exact ⟨star_cons (by simpa using h1), back_plain h2⟩
theorem de_blt {b : Blt} {es : E} {x : Str} {e : Expr} {xs : List Expr} {p p2 : Pos} (C : CtxE g wrd cal ck lv X) (hx : x = bltName b) (hg : glB X.env.scope x = true) (hf : ck.fr.contains x = true) (hp : (e :: xs).all (fun e => !isStar e) = true) (ha : BA g wrd cal X W (e :: xs) es) :
    DE g wrd cal X W (.Call (.Name x p) (e :: xs) [] p2) (.blt b es) := by
  obtain ⟨ta, pa, ha⟩ := ha
  obtain ⟨h1, h2⟩ := pa_head hp (env := X.env) (pos := p2)
  have pn : x ≠ "__name__" ∧ (x == ("__debug__" : Str)) = false := by subst hx; cases b <;> exact ⟨by decide, by decide⟩
  have hP : PE X (.Call (.Name x p) (e :: xs) [] p2) (tCB (rBlt X.K b) ta) := by
    have hb := boot_blt b
    have hc := call_blt C.calm (units_of C) b
    rw [← hx] at hb
    unfold bltV at hb hc
    cases ht : bltTy b with
    | some t =>
      rw [ht] at hb hc
      exact pe_callTy hc (gl_of hg) (C.fr x hf) hb pa pn.1 pn.2 h1 h2
    | none =>
      rw [ht] at hb hc
      exact pe_callB hc (gl_of hg) (C.fr x hf) hb pa pn.1 pn.2 h1 h2
  refine ⟨_, hP, fun H0 F H γ S ρ σ Q s r q => ?_⟩
  simp only [ev] at q
  refine ha H0 F H γ S ρ σ _ s r (Pst.bind q fun dx S1 v F1 H1 γ1 _ e1 s1 r1 q => ?_)
  obtain ⟨d, e, q⟩ := Pst.lift q
  exact rBlt_ok s1 r1 e q
def tCallN (K : PySem.W.Frag) (g : Gn) (cal : Nat → List D → Sto → Res D) (W : WX) (k : Nat) (n : Nat) (t : TA) : TE := fun σ H Q => t σ H fun vs H1 => spF K g cal k n vs H1 Q (WE W σ)
theorem ne_bad {r : Res D} {F H : Hp} {γ : List Addr} {K : PySem.W.Frag} {Q : VK} {E : XK} (h : Pst K g (RR K g) F H γ r Q E) : r ≠ .bad := fun z => by
  rw [z] at h
  exact h
/-- what follows where the callee is known -/
theorem de_callK {es : E} {xs : List Expr} {k : Nat} {call : Expr} (C : CtxE g wrd cal ck lv X) (hk : k < g.nf) (ha : DA g wrd cal X W xs es)
    (hP : ∀ {fd : FuncData} {ps : List Str} {t : TA}, FnOk X.prog X.w X.K X.mg X.base (L2N.CX X.prog X.w) lv (g.fa k) fd ps (spF X.K g cal k ps.length) → Binds X.K fd ps [] → PA X xs t → PE X call (tCallN X.K g cal W k ps.length t)) :
    ∃ t, PE X call t ∧ DEr g X W (RR X.K g) t (fun ρ S => (evs wrd cal es ρ S).bind fun xs S1 => cal k xs S1) := by
  obtain ⟨ta, pa, ha⟩ := ha
  obtain ⟨fd, ps, F, hb, hn⟩ := (C.fns k hk).ex
  refine ⟨_, hP F hb pa, fun H0 F H γ S ρ σ Q s r q => ?_⟩
  refine ha H0 F H γ S ρ σ _ s r (Pst.bind q fun dx S1 v F1 H1 γ1 _ e1 s1 r1 q => ?_)
  exact ⟨by rw [Reps.length r1]; exact hn _ _ (ne_bad q), F1, γ1, S1, dx, s1, r1, q⟩
theorem pe_callG {es : List Expr} {p2 : Pos} {t : TA} {k : Nat} {fd : FuncData} {ps : List Str} (C : CtxE g wrd cal ck lv X) (tk : L2N.Takes X W) (kp : PySem.W.keepIn X.K (.ref (g.fa k)) = true) (hp : es.all (fun e => !isStar e) = true)
    (hne : es ≠ []) (F : FnOk X.prog X.w X.K X.mg X.base (L2N.CX X.prog X.w) lv (g.fa k) fd ps (spF X.K g cal k ps.length)) (hb : Binds X.K fd ps []) (ha : PA X es t)
    {pins : List (Addr × Obj)} {s : Shared} {σ : L2.St} {H : Hp} {Q : VK} (I : Inv X pins σ H s) (h : tCallN X.K g cal W k ps.length t σ H Q) :
    wpAny (model X.prog X.w) X.A (callWith p2 (.ref (g.fa k)) [] (backTo p2 (starEach es X.env)) (backToKw p2 (keywordEach [] X.env))) (EP X pins σ Q) X.xe s := by
  cases es with
  | nil => exact (hne rfl).elim
  | cons e es =>
    obtain ⟨h1, h2⟩ := pa_head hp (env := X.env) (pos := p2)
    refine PySem.W.callWith_K (h₀ := X.base) I.ok.mod.kin kp (thn (ha.run p2 pins s σ H _ I h) fun us s1 ⟨vs, H1, I1, r, q⟩ => ⟨I1.kIn, ?_⟩) h1 h2
    have q' : spF X.K g cal k ps.length (vs ++ []) H1 Q (WE W σ) := by rw [List.append_nil]; exact q
    exact run_fnSD F C.room hb .nil (L2N.passAt tk σ) I1 r q'
theorem pe_callG0 {p2 : Pos} {k : Nat} {fd : FuncData} {ps : List Str} (C : CtxE g wrd cal ck lv X) (tk : L2N.Takes X W) (kp : PySem.W.keepIn X.K (.ref (g.fa k)) = true)
    (F : FnOk X.prog X.w X.K X.mg X.base (L2N.CX X.prog X.w) lv (g.fa k) fd ps (spF X.K g cal k ps.length)) (hb : Binds X.K fd ps [])
    {pins : List (Addr × Obj)} {s : Shared} {σ : L2.St} {H : Hp} {Q : VK} (I : Inv X pins σ H s) (h : tCallN X.K g cal W k ps.length tNil σ H Q) :
    wpAny (model X.prog X.w) X.A (callWith p2 (.ref (g.fa k)) [] (backTo p2 (starEach [] X.env)) (backToKw p2 (keywordEach [] X.env))) (EP X pins σ Q) X.xe s :=
  PySem.W.callWith_K0 I.kIn kp (run_fnSD (us := []) (vs := []) F C.room hb .nil (L2N.passAt tk σ) I .nil h)
/-- a name of the module, or of the built-in ones, is read -/
theorem ld_any {E : Value → Shared → Prop} {x : Str} {u : Value} {p : Pos} (h1 : Gl X x) (h2 : (x == ("__debug__" : Str)) = false) (h3 : x ≠ "__name__") (h4 : X.mg x = some u ∨ (X.mg x = none ∧ bootBuiltins x = some u))
    {pins : List (Addr × Obj)} {s : Shared} {σ : L2.St} {H : Hp} {Q : Value → Shared → Prop} (I : Inv X pins σ H s) (h : Q u s) : wpAny (model X.prog X.w) X.A (eval (.Name x p) X.env) Q E s := by
  rcases h4 with h4 | ⟨h4, h4'⟩
  · exact ld_glob I h1 h4 h h2
  · exact ld_blt I h1 h4 h4' h h3 h2
theorem de_call {es : E} {xs : List Expr} {k : Nat} {x : Str} {p p2 : Pos} (C : CtxE g wrd cal ck lv X) (tk : L2N.Takes X W) (hg : isGlName ck X.env.scope x (.fn k) = true) (hp : xs.all (fun e => !isStar e) = true) (hne : xs ≠ []) (ha : DA g wrd cal X W xs es) :
    DE g wrd cal X W (.Call (.Name x p) xs [] p2) (.call k es) := by
  obtain ⟨h1, h2, h3, v, u, h4, h5, h6⟩ := isGl_of C hg
  have hv := h6 [] (fun _ => none)
  cases hv with
  | fn _ hk =>
    have e5 : u = Value.ref (g.fa k) := h5
    subst e5
    obtain ⟨t, pt, ht⟩ := de_callK (call := .Call (.Name x p) xs [] p2) C hk ha fun {fd ps t} F hb pa => ⟨fun pins s σ H Q I h => wpAny_Call_Name_kw (ld_any h1 h2 h3 h4 I (pe_callG C tk (C.fns k hk).kp hp hne F hb pa I h))⟩
    exact ⟨t, pt, fun H0 F H γ S ρ σ Q s r q => ht H0 F H γ S ρ σ Q s r (by simpa only [ev] using q)⟩
theorem de_call0 {k : Nat} {x : Str} {p p2 : Pos} (C : CtxE g wrd cal ck lv X) (tk : L2N.Takes X W) (hg : isGlName ck X.env.scope x (.fn k) = true) :
    DE g wrd cal X W (.Call (.Name x p) [] [] p2) (.call k .nil) := by
  obtain ⟨h1, h2, h3, v, u, h4, h5, h6⟩ := isGl_of C hg
  have hv := h6 [] (fun _ => none)
  cases hv with
  | fn _ hk =>
    have e5 : u = Value.ref (g.fa k) := h5
    subst e5
    obtain ⟨fd, ps, F, hb, hn⟩ := (C.fns k hk).ex
    refine ⟨tCallN X.K g cal W k ps.length tNil, ⟨fun pins s σ H Q I h => wpAny_Call_Name_kw (ld_any h1 h2 h3 h4 I (pe_callG0 C tk (C.fns k hk).kp F hb I h))⟩, fun H0 F H γ S ρ σ Q s r q => ?_⟩
    simp only [ev, evs, Res.bind] at q
    exact ⟨hn _ _ (ne_bad q), F, γ, S, [], s, .nil, q⟩
/-- a call of what a name of the def holds -/
theorem de_callv {es : E} {xs : List Expr} {i : Nat} {x : Str} {p p2 : Pos} (C : CtxE g wrd cal ck lv X) (tk : L2N.Takes X W) (hs : slotB X.N X.env.scope i x = true) (hp : xs.all (fun e => !isStar e) = true) (hne : xs ≠ []) (ha : DA g wrd cal X W xs es) :
    DE g wrd cal X W (.Call (.Name x p) xs [] p2) (.callv i es) := by
  obtain ⟨h1, h2, h3, h4⟩ := slotB_of hs
  obtain ⟨ta, pa, ha⟩ := ha
  refine ⟨fun σ H Q => ∃ (k : Nat) (fd : FuncData) (ps : List Str), k < g.nf ∧ FnOk X.prog X.w X.K X.mg X.base (L2N.CX X.prog X.w) lv (g.fa k) fd ps (spF X.K g cal k ps.length) ∧ Binds X.K fd ps [] ∧ σ[i]? = some (some (.ref (g.fa k))) ∧ tCallN X.K g cal W k ps.length ta σ H Q,
    ⟨fun pins s σ H Q I h => ?_⟩, fun H0 F H γ S ρ σ Q s r q => ?_⟩
  · obtain ⟨k, fd, ps, hk, F, hb, hσ, h⟩ := h
    refine wpAny_Call_Name_kw (thn ((pe_var (pos := p) h1 h2 h3 h4).run pins s σ H (fun v H1 => v = .ref (g.fa k) ∧ H1 = H) I ⟨_, hσ, rfl, rfl⟩) fun u s1 ⟨v, H1, I1, r1, q1⟩ => ?_)
    obtain ⟨rfl, rfl⟩ := q1
    cases r1
    exact pe_callG C tk (C.fns k hk).kp hp hne F hb pa I1 h
  · simp only [ev] at q
    split at q
    · rename_i k e
      obtain ⟨v, hv, rv⟩ := r.val i _ (getS_eq e)
      cases rv with
      | fn _ hk =>
        obtain ⟨fd, ps, Fo, hb, hn⟩ := (C.fns k hk).ex
        refine ⟨k, fd, ps, hk, Fo, hb, hv, ?_⟩
        refine ha H0 F H γ S ρ σ _ s r (Pst.bind q fun dx S1 v F1 H1 γ1 _ e1 s1 r1 q => ?_)
        exact ⟨by rw [Reps.length r1]; exact hn _ _ (ne_bad q), F1, γ1, S1, dx, s1, r1, q⟩
    · exact q.elim
end
end Pv

set_option maxHeartbeats 1000000
/-! Pv9: walks of lists and tuples in any mix: zip, enumerate. -/
namespace Pv
open PySem PySem.Spec PyProof.Rows L2

/-- a list (true) or a tuple -/
def SqK (K : PySem.W.Frag) (k : Bool) (H : Hp) (a : Addr) (xs : List V) : Prop := match k with
  | true => SqL K H a xs
  | false => SqT K H a xs
def SeqIs (k : Bool) (h : Heap) (a : Addr) (items : Array Value) : Prop := match k with
  | true => h.IsList a items
  | false => h.IsTuple a items
def ItAt (k : Bool) (h : Heap) (it a : Addr) (i : Nat) : Prop := match k with
  | true => h.IsListIter it a i
  | false => h.IsTupleIter it a i
def itObj (k : Bool) (a : Addr) : Obj := match k with
  | true => { cls := .type "list_iterator", data := .fields #[.ref a, .int 0 0] }
  | false => { cls := .type "tuple_iterator", data := .fields #[.ref a, .int 0 0] }
theorem draws_of {prog : Program} {w : World} {A : Around} (k : Bool) (hh : A.handled = none) (it a : Addr) (hne : a ≠ it) (items : Array Value) :
    Draws prog w A it [it, a] items.size (fun i v => items[i]? = some v) (fun i h => ItAt k h it a i ∧ SeqIs k h a items) := by
  cases k with
  | true => exact Draws.list hh it a hne items
  | false => exact Draws.tuple hh it a hne items
theorem begins_of (k : Bool) (a : Addr) (items : Array Value) : Begins (.ref a) (itObj k a) fun h => SeqIs k h a items := by
  cases k with
  | true => exact begins_list a items
  | false => exact begins_tuple a items
theorem itAt_new {k : Bool} {h : Heap} {it a : Addr} (e : h.get? it = some (itObj k a)) : ItAt k h it a 0 := by
  cases k <;> exact ⟨_, e, rfl, rfl⟩
theorem ItAt.get {k : Bool} {h : Heap} {it a : Addr} {i : Nat} (x : ItAt k h it a i) : ∃ o, h.get? it = some o ∧ ∀ v, o.data ≠ .cell v := by
  cases k with
  | true => obtain ⟨o, e, _, d⟩ := x; exact ⟨o, e, fun v q => by rw [d] at q; cases q⟩
  | false => obtain ⟨o, e, _, d⟩ := x; exact ⟨o, e, fun v q => by rw [d] at q; cases q⟩
theorem ItAt.at {k : Bool} {h h' : Heap} {it a : Addr} {i : Nat} (x : ItAt k h it a i) (e : ∀ o, h.get? it = some o → h'.get? it = some o) : ItAt k h' it a i := by
  cases k with
  | true => exact Heap.IsListIter.at x e
  | false => exact Heap.IsTupleIter.at x e
section
variable {X : Cx} {pins : List (Addr × Obj)} {σ : L2.St} {H : Hp} {s : Shared} {a : Addr} {xs ys : List V} {k : Bool}
theorem inv_sq (I : Inv X pins σ H s) (h : SqK X.K k H a xs) : ∃ its : List Value, Vals xs its ∧ SeqIs k s.heap a its.toArray ∧ a < s.heap.objs.size := by
  cases k with
  | true => obtain ⟨its, r, p, _⟩ := I.list h; exact ⟨its, r, p.isList, p.lt⟩
  | false => obtain ⟨its, r, p, _⟩ := I.tuple h; exact ⟨its, r, p, p.lt⟩
theorem inv_sq_inj (I : Inv X pins σ H s) (h : SqK X.K k H a xs) (h' : SqK X.K k H a ys) : xs = ys := by
  cases k with
  | true => exact I.list_inj h h'
  | false => exact I.tuple_inj h h'
end
/-! ### zip -/
def ItzK (K : PySem.W.Frag) (k1 k2 : Bool) (a b : Addr) : It :=
  ⟨fun i H => ∃ (xs ys : List V) (x y : V), SqK K k1 H a xs ∧ SqK K k2 H b ys ∧ xs[i]? = some x ∧ ys[i]? = some y,
    fun i H v H' => ∃ T x y, v = .ref T ∧ H T = none ∧ H' = upd H T (.tup [x, y]) ∧ (∀ xs, SqK K k1 H a xs → xs[i]? = some x) ∧ ∀ ys, SqK K k2 H b ys → ys[i]? = some y,
    fun i H => ∃ xs ys : List V, SqK K k1 H a xs ∧ SqK K k2 H b ys ∧ i ≤ xs.length ∧ i ≤ ys.length ∧ (i = xs.length ∨ i = ys.length)⟩
structure ZApart (z TI TO i1 i2 a b : Addr) : Prop where
  TIz : TI ≠ z
  TOz : TO ≠ z
  TITO : TI ≠ TO
  TIi1 : TI ≠ i1
  TIi2 : TI ≠ i2
  zi1 : z ≠ i1
  zi2 : z ≠ i2
  TOi1 : TO ≠ i1
  TOi2 : TO ≠ i2
  i12 : i1 ≠ i2
  za : z ≠ a
  zb : z ≠ b
  TOa : TO ≠ a
  TOb : TO ≠ b
  i1a : i1 ≠ a
  i1b : i1 ≠ b
  i2a : i2 ≠ a
  i2b : i2 ≠ b
theorem ZApart.sep {z TI TO i1 i2 a b : Addr} (D : ZApart z TI TO i1 i2 a b) : ZipSep2 z TI TO i1 i2 [i1, a] [i2, b] :=
  ⟨D.TIz, D.TOz, D.TITO, D.TIi1, by simp, by simp [D.zi1, D.za], by simp [D.TOi1, D.TOa], D.TIi2, by simp, by simp [D.zi2, D.zb], by simp [D.TOi2, D.TOb], by simp [D.i12, D.i1b], by simp [Ne.symm D.i12, D.i2a]⟩
theorem za_nat (N a b : Nat) (la : a < N) (lb : b < N) : N + 2 ≠ N + 4 ∧ N + 3 ≠ N + 4 ∧ N + 2 ≠ N + 3 ∧ N + 2 ≠ N ∧ N + 2 ≠ N + 1 ∧ N + 4 ≠ N ∧ N + 4 ≠ N + 1 ∧ N + 3 ≠ N ∧ N + 3 ≠ N + 1 ∧ N ≠ N + 1 ∧ N + 4 ≠ a ∧ N + 4 ≠ b ∧ N + 3 ≠ a ∧ N + 3 ≠ b ∧ N ≠ a ∧ N ≠ b ∧ N + 1 ≠ a ∧ N + 1 ≠ b := by omega
theorem zapart_new (N a b : Addr) (la : a < N) (lb : b < N) : ZApart (N + 4) (N + 2) (N + 3) N (N + 1) a b := by
  obtain ⟨h1, h2, h3, h4, h5, h6, h7, h8, h9, h10, h11, h12, h13, h14, h15, h16, h17, h18⟩ := za_nat N a b la lb
  exact ⟨h1, h2, h3, h4, h5, h6, h7, h8, h9, h10, h11, h12, h13, h14, h15, h16, h17, h18⟩
theorem turn_zipK {P : Program} {w : World} {K : PySem.W.Frag} {k1 k2 : Bool} {elts : List Expr} {kk : Nat} {tpos : Pos} {a b z TI TO i1 i2 : Addr} (D : ZApart z TI TO i1 i2 a b) :
    Turn P w K (.Tuple elts kk tpos) (ItzK K k1 k2 a b) [z, TI, TO, i1, i2] z (fun i h => IsZip h z TI TO .none ∧ IsPair h TI (.ref i1) (.ref i2) ∧ (∃ x y, IsPair h TO x y) ∧ ItAt k1 h i1 a i ∧ ItAt k2 h i2 b i) where
  mem := by simp
  obj := fun i h st c hc => by
    obtain ⟨hz, hTI, ⟨x, y, hTO⟩, h1, h2⟩ := st
    have e' : c = z ∨ c = TI ∨ c = TO ∨ c = i1 ∨ c = i2 := by simpa using hc
    rcases e' with q | q | q | q | q
    · rw [q]; exact ⟨_, hz, fun v q => nomatch q⟩
    · rw [q]; exact ⟨_, hTI, fun v q => nomatch q⟩
    · rw [q]; exact ⟨_, hTO, fun v q => nomatch q⟩
    · rw [q]; exact h1.get
    · rw [q]; exact h2.get
  keep := fun i h h' st k => by
    obtain ⟨hz, hTI, ⟨x, y, hTO⟩, h1, h2⟩ := st
    exact ⟨k z (by simp) _ hz, k TI (by simp) _ hTI, ⟨x, y, k TO (by simp) _ hTO⟩, h1.at fun o q => k i1 (by simp) o q, h2.at fun o q => k i2 (by simp) o q⟩
  item := by
    intro X hP hw hK hc i pins s σ H E I hf st hg
    subst hP hw hK
    obtain ⟨hz, hTI, ⟨x0, y0, hTO⟩, h1, h2⟩ := st
    obtain ⟨xs, ys, x, y, hqx, hqy, hx, hy⟩ := hg
    obtain ⟨its, rv, p, _⟩ := inv_sq I hqx
    obtain ⟨its2, rv2, p2, _⟩ := inv_sq I hqy
    obtain ⟨u, hu, ru⟩ := rv.get hx
    obtain ⟨u2, hu2, ru2⟩ := rv2.get hy
    have hzl : z < s.heap.objs.size := Heap.lt_size hz
    have hh : X.A.handled = none := I.ok.hd hc
    have lt1 : i < its.toArray.size := by
      obtain ⟨q, _⟩ := List.getElem?_eq_some_iff.mp hu
      simpa using q
    have lt2 : i < its2.toArray.size := by
      obtain ⟨q, _⟩ := List.getElem?_eq_some_iff.mp hu2
      simpa using q
    refine wpAny_pyNext_zipD2_item D.sep (draws_of k1 (A := X.A.in1) hh i1 a (Ne.symm D.i1a) its.toArray) (draws_of k2 (A := X.A.in1) hh i2 b (Ne.symm D.i2b) its2.toArray) hz hTI hTO ⟨h1, p⟩ ⟨h2, p2⟩ lt1 lt2 fun w1 w2 h' tk hw1 hw2 z' TO' h1' h2' hT hsz hk => ?_
    have e1 : w1 = u := by
      have : its[i]? = some w1 := by simpa using hw1
      rw [hu] at this
      exact (Option.some.inj this).symm
    have e2 : w2 = u2 := by
      have : its2[i]? = some w2 := by simpa using hw2
      rw [hu2] at this
      exact (Option.some.inj this).symm
    subst e1 e2
    refine ⟨_, rfl, wpAny_letOwnedTupleGo_zip (s := { s with heap := h', toks := tk }) z' fun h'' z'' sb => ?_⟩
    have hT2 : h''.get? s.heap.objs.size = some { cls := .type "tuple", data := .seq #[w1, w2] } := (sb.2 _ (Nat.ne_of_gt hzl)).trans hT
    have new : ObjOk X.prog X.w (upd H s.heap.objs.size (.tup [x, y])) h'' s.heap.objs.size (.tup [x, y]) :=
      ⟨by show 2 ≤ sizeLine; decide, [w1, w2], .cons ru (.cons ru2 .nil), ⟨_, hT2, rfl, _, rfl⟩⟩
    have I1 : Inv X pins σ (upd H s.heap.objs.size (.tup [x, y])) { s with heap := h'', toks := tk } :=
      I.turnedNew (t' := tk) (ch := [z, TI, TO, i1, i2]) (fun c o hb q => (sb.2 c (fun q' => hb (by simp [q']))).trans (hk c o (fun q' => hb (by simp [q'])) (fun q' => hb (by simp [q'])) (fun q' => hb (by simp [q'])) (fun q' => hb (by simp [q'])) q)) hf (Nat.le_refl _) new
    refine ⟨.ref s.heap.objs.size, _, I1, rfl, ⟨_, x, y, rfl, I.hok.fresh (Nat.le_refl _), rfl, fun l hl => by rw [inv_sq_inj I hl hqx]; exact hx, fun l hl => by rw [inv_sq_inj I hl hqy]; exact hy⟩, ⟨z'', ?_, ⟨w1, w2, ?_⟩, ?_, ?_⟩, fun c hcm => ?_⟩
    · exact (sb.2 _ D.TIz).trans (hk _ _ D.TIz D.TITO D.TIi1 D.TIi2 hTI)
    · exact (sb.2 _ D.TOz).trans TO'
    · exact h1'.1.at fun o q => (sb.2 _ (Ne.symm D.zi1)).trans q
    · exact h2'.1.at fun o q => (sb.2 _ (Ne.symm D.zi2)).trans q
    · have hlt : c < s.heap.objs.size := by
        have e' : c = z ∨ c = TI ∨ c = TO ∨ c = i1 ∨ c = i2 := by simpa using hcm
        rcases e' with q | q | q | q | q
        · rw [q]; exact hzl
        · rw [q]; exact Heap.lt_size hTI
        · rw [q]; exact Heap.lt_size hTO
        · rw [q]; obtain ⟨_, e1, _⟩ := h1.get; exact Heap.lt_size e1
        · rw [q]; obtain ⟨_, e2, _⟩ := h2.get; exact Heap.lt_size e2
      rw [upd_ne (Nat.ne_of_lt hlt)]
      exact (hf c hcm).1
  done := by
    intro X hP hw hK hc i pins s σ H E I hf st hg
    subst hP hw hK
    obtain ⟨hz, hTI, ⟨x0, y0, hTO⟩, h1, h2⟩ := st
    obtain ⟨xs, ys, hqx, hqy, le1, le2, hend⟩ := hg
    obtain ⟨its, rv, p, _⟩ := inv_sq I hqx
    obtain ⟨its2, rv2, p2, _⟩ := inv_sq I hqy
    have l1 := rv.length
    have l2 := rv2.length
    have hh : X.A.handled = none := I.ok.hd hc
    exact wpAny_pyNext_zipD2_end D.sep (draws_of k1 (A := X.A.in1) hh i1 a (Ne.symm D.i1a) its.toArray) (draws_of k2 (A := X.A.in1) hh i2 b (Ne.symm D.i2b) its2.toArray) hz hTI hTO ⟨h1, p⟩ ⟨h2, p2⟩ (by simp; omega) (by simp; omega) (by rcases hend with q | q <;> simp <;> omega)
      fun h' tk hk => ⟨rfl, I.turnedL (t' := tk) (ch := [z, TI, TO, i1, i2]) (fun c o hb q => hk c o (fun q' => hb (by simp [q'])) (fun q' => hb (by simp [q'])) (fun q' => hb (by simp [q'])) (fun q' => hb (by simp [q'])) q) hf⟩
  self := fun A i s Q E st h => wpAny_pyIter_zip st.1 h
def iZipK (K : PySem.W.Frag) (ta : TA) : TI := fun σ H R => ta σ H fun vs H1 => ∃ k1 k2 a b xs ys, vs = [.ref a, .ref b] ∧ SqK K k1 H1 a xs ∧ SqK K k2 H1 b ys ∧ R (ItzK K k1 k2 a b) H1
theorem pi_zipK {X : Cx} {e e2 : Expr} {ta : TA} {p pos tpos : Pos} {elts : List Expr} {kk : Nat} (hg : Gl X "zip") (hm : X.mg "zip" = none) (ha : PA X [e, e2] ta)
    (hs : starEach [e, e2] X.env = (false, eval e X.env) :: starEach [e2] X.env) (hpl : (backTo pos (starEach [e2] X.env)).any (·.1) = false) :
    PI X (.Tuple elts kk tpos) (.Call (.Name "zip" p) [e, e2] [] pos) (iZipK X.K ta) := by
  refine ⟨fun pins s σ H R I h => ?_⟩
  refine Call_ (ld_blt I hg hm PyProof.Rows.boot_zip (PyProof.Rows.callWith_type1 (thn (ha.run pos pins s σ H _ I h) fun us s1 ⟨vs, H1, I1, r1, q1⟩ => ?_) hs hpl))
  obtain ⟨k1, k2, a, b, xs, ys, ex, hqx, hqy, q⟩ := q1
  subst ex
  cases r1 with
  | cons r rr =>
    cases rr with
    | cons r' rr =>
      cases rr
      cases r
      cases r'
      obtain ⟨its, rv, p1, la⟩ := inv_sq I1 hqx
      obtain ⟨its2, rv2, p2, lb⟩ := inv_sq I1 hqy
      refine zip_begins2 (begins_of k1 a its.toArray) (begins_of k2 b its2.toArray) p1 p2 fun h' hz hTI hTO h1 h2 hsz hk => wpAny_pyIter_zip hz ?_
      have I2 : Inv X pins σ H1 { s1 with heap := h' } := I1.kept (t' := s1.toks) hk
      refine ⟨s1.heap.objs.size + 4, [s1.heap.objs.size + 4, s1.heap.objs.size + 2, s1.heap.objs.size + 3, s1.heap.objs.size, s1.heap.objs.size + 1], _, _, H1, rfl, I2, turn_zipK (k1 := k1) (k2 := k2) (zapart_new s1.heap.objs.size a b la lb), ⟨hz, hTI, ⟨_, _, hTO⟩, itAt_new h1, itAt_new h2⟩, fun c hcm => ?_, q⟩
      have e' : c = s1.heap.objs.size + 4 ∨ c = s1.heap.objs.size + 2 ∨ c = s1.heap.objs.size + 3 ∨ c = s1.heap.objs.size ∨ c = s1.heap.objs.size + 1 := by simpa using hcm
      have hle : s1.heap.objs.size ≤ c := by
        rcases e' with z | z | z | z | z
        · rw [z]; exact Nat.le_add_right _ _
        · rw [z]; exact Nat.le_add_right _ _
        · rw [z]; exact Nat.le_add_right _ _
        · rw [z]; exact Nat.le_refl _
        · rw [z]; exact Nat.le_add_right _ _
      exact I1.fpOk hle (I1.hok.fresh hle)
/-! ### enumerate -/
def IteK (K : PySem.W.Frag) (k : Bool) (a : Addr) : It :=
  ⟨fun i H => ∃ (xs : List V) (x : V), SqK K k H a xs ∧ xs[i]? = some x, fun i H v H' => ∃ T x, v = .ref T ∧ H T = none ∧ H' = upd H T (.tup [.int (i : Nat), x]) ∧ ∀ xs, SqK K k H a xs → xs[i]? = some x, fun i H => ∃ xs : List V, SqK K k H a xs ∧ i = xs.length⟩
theorem fits0 : Builtin.SmallTypes.fitsIndex 0 = true := by decide
theorem meets_enum1 {v : Value} {o : Obj} {H : Heap → Prop} (B : Begins v o H) :
    Meets (Builtin.«enumerate.__new__» ⟨[.type "enumerate", v], []⟩) (fun _ R s => H s.heap ∧
      R (.ok (.ret (.ref (s.heap.push o).objs.size))) { s with heap := (s.heap.push o).push { cls := .type "enumerate", data := .fields #[.none, .bool false, .ref s.heap.objs.size, rawInt 0, .none, .none] } }) :=
  .of_wp fun prog w A R s h => by
    obtain ⟨hp, g, d, tk, os⟩ := s; obtain ⟨h1, h⟩ := h
    have hsub := sub_enumerate
    have q1 : ∀ {A' : Around} {E : Value → Shared → Prop} {Q : Value → Shared → Prop}, Q (.ref hp.objs.size) ⟨hp.push o, g, d, tk, os⟩ → wpAny (model prog w) A' (pyIter v) Q E ⟨hp, g, d, tk, os⟩ :=
      fun q => B.iter prog w _ _ ⟨hp, g, d, tk, os⟩ _ h1 q
    wp_walk using q1
    refine wpAny_stack_any fun st => wpAny_pure ?_
    split
    · rename_i c _ _ _ _ _
      cases (c == Value.type "enumerate")
      · wp_walk using q1
        exact ⟨_, rfl, h⟩
      · wp_walk using q1
        exact ⟨_, rfl, h⟩
    · wp_walk using q1
      exact ⟨_, rfl, h⟩
section
variable {prog : Program} {w : World} {A : Around} {E : Value → Shared → Prop} {s : Shared}
theorem enum_begins1 {v : Value} {o : Obj} {H : Heap → Prop} {Q : Value → Shared → Prop} (B : Begins v o H) (h1 : H s.heap)
    (h : ∀ h', IsEnum h' (s.heap.objs.size + 1) s.heap.objs.size 0 .none → h'.get? s.heap.objs.size = some o → h'.objs.size = s.heap.objs.size + 2 →
      (∀ b o, s.heap.get? b = some o → h'.get? b = some o) → Q (.ref (s.heap.objs.size + 1)) { s with heap := h' }) :
    wpAny (model prog w) A (call (.type "enumerate") [v]) Q E s := by
  refine callType_new F.called_enumerate (by decide) (F.typeCall_enumerate_1 _) (F.newCall_enumerate_1 _) (fun obj => F.args_object_init_2 obj _) F.entry_enumerate_new
    (meets_enum1 B) ⟨h1, ?_⟩
  have hz : (s.heap.push o).objs.size = s.heap.objs.size + 1 := Heap.size_push ..
  show _ ∧ _
  rw [hz]
  have he : IsEnum ((s.heap.push o).push { cls := .type "enumerate", data := .fields #[.none, .bool false, .ref s.heap.objs.size, rawInt 0, .none, .none] }) (s.heap.objs.size + 1) s.heap.objs.size 0 .none := by
    have := Heap.get?_push_size (s.heap.push o) (o := { cls := .type "enumerate", data := .fields #[.none, .bool false, .ref s.heap.objs.size, rawInt 0, .none, .none] }) rfl
    rw [hz] at this; exact this
  refine ⟨⟨_, he, rfl⟩, h _ he (Heap.get?_push_of_some _ (Heap.get?_push_size _ B.free)) (by rw [Heap.size_push, hz]) fun b o x => Heap.get?_push_of_some _ (Heap.get?_push_of_some _ x)⟩
end
theorem turn_enumK {P : Program} {w : World} {K : PySem.W.Frag} {k : Bool} {elts : List Expr} {kk : Nat} {tpos : Pos} (a e it : Addr) :
    Turn P w K (.Tuple elts kk tpos) (IteK K k a) [e, it] e (fun i h => (∃ old, IsEnum h e it ((i : Nat) : Int) old) ∧ ItAt k h it a i ∧ e ≠ it ∧ e ≠ a ∧ it ≠ a) where
  mem := by simp
  obj := fun i h st b hb => by
    obtain ⟨⟨old, he⟩, hi, _⟩ := st
    have e' : b = e ∨ b = it := by simpa using hb
    rcases e' with z | z
    · rw [z]; exact ⟨_, he, fun v q => nomatch q⟩
    · rw [z]; exact hi.get
  keep := fun i h h' st k => let ⟨⟨old, he⟩, hi, hne⟩ := st; ⟨⟨old, k e (by simp) _ he⟩, hi.at fun o q => k it (by simp) o q, hne⟩
  item := by
    intro X hP hw hK hc i pins s σ H E I hf st hg
    subst hP hw hK
    obtain ⟨⟨old, he⟩, hit, hne, hea, hia⟩ := st
    obtain ⟨xs, x, hq, hx⟩ := hg
    obtain ⟨its, rv, p, hz⟩ := inv_sq I hq
    obtain ⟨u, hu, ru⟩ := rv.get hx
    have hel : e < s.heap.objs.size := Heap.lt_size he
    have hil : it < s.heap.objs.size := by obtain ⟨_, q, _⟩ := hit.get; exact Heap.lt_size q
    have hh : X.A.handled = none := I.ok.hd hc
    have lt1 : i < its.toArray.size := by
      obtain ⟨q, _⟩ := List.getElem?_eq_some_iff.mp hu
      simpa using q
    refine wpAny_pyNext_enum_itemC (draws_of k (A := X.A.in1) hh it a (Ne.symm hia) its.toArray) he ⟨hit, p⟩ lt1 hne (by simp [hne, hea]) fun w1 h' tk hw1 ho hit' hT hsz hk => ?_
    have e1 : w1 = u := by
      have : its[i]? = some w1 := by simpa using hw1
      rw [hu] at this
      exact (Option.some.inj this).symm
    subst e1
    refine ⟨_, rfl, wpAny_letOwnedTupleGo_enum (s := { s with heap := h', toks := tk + 1 }) ho fun h'' he' sb => ?_⟩
    have hT2 : h''.get? s.heap.objs.size = some { cls := .type "tuple", data := .seq #[.int i tk, w1] } := (sb.2 _ (Nat.ne_of_gt hel)).trans hT
    have new : ObjOk X.prog X.w (upd H s.heap.objs.size (.tup [.int (i : Nat), x])) h'' s.heap.objs.size (.tup [.int (i : Nat), x]) :=
      ⟨by show 2 ≤ sizeLine; decide, [.int i tk, w1], .cons ⟨_, rfl⟩ (.cons ru .nil), ⟨_, hT2, rfl, _, rfl⟩⟩
    have I1 : Inv X pins σ (upd H s.heap.objs.size (.tup [.int (i : Nat), x])) { s with heap := h'', toks := tk + 1 } :=
      I.turnedNew (ch := [e, it]) (fun b ob hb q => (sb.2 b (fun z => hb (by simp [z]))).trans (hk b ob (fun z => hb (by simp [z])) (fun z => hb (by simp [z])) q)) hf (Nat.le_refl _) new
    refine ⟨.ref s.heap.objs.size, _, I1, rfl, ⟨_, x, rfl, I.hok.fresh (Nat.le_refl _), rfl, fun ys hy => by rw [inv_sq_inj I hy hq]; exact hx⟩, ⟨⟨w1, ?_⟩, hit'.1.at fun o q => (sb.2 it (Ne.symm hne)).trans q, hne, hea, hia⟩, fun b hb => ?_⟩
    · have e1 : ((i + 1 : Nat) : Int) = (i : Int) + 1 := by omega
      rw [e1]; exact he'
    · have hb' : b < s.heap.objs.size := by
        have e' : b = e ∨ b = it := by simpa using hb
        rcases e' with z | z
        · rw [z]; exact hel
        · rw [z]; exact hil
      rw [upd_ne (Nat.ne_of_lt hb')]
      exact (hf b hb).1
  done := by
    intro X hP hw hK hc i pins s σ H E I hf st hg
    subst hP hw hK
    obtain ⟨⟨old, he⟩, hit, hne, hea, hia⟩ := st
    obtain ⟨xs, hq, hx⟩ := hg
    obtain ⟨its, rv, p, hz⟩ := inv_sq I hq
    obtain ⟨f0, f1, f2, f3, f4, f5⟩ := hf it (by simp)
    have hl := rv.length
    have hh : X.A.handled = none := I.ok.hd hc
    have en : i = its.toArray.size := by simp; omega
    subst en
    exact wpAny_pyNext_enum_endD (draws_of k (A := X.A.in1) hh it a (Ne.symm hia) its.toArray) he ⟨hit, p⟩ fun h' eb => ⟨rfl, I.turned (t' := s.toks) (fun b o hb q => eb b o hb q) f0 f1 f3 f4 f5⟩
  self := fun A i s Q E st h => let ⟨⟨_, he⟩, _⟩ := st; wpAny_pyIter_enum he h
def iEnumK (K : PySem.W.Frag) (ta : TA) : TI := fun σ H R => ta σ H fun vs H1 => ∃ k a xs, vs = [.ref a] ∧ SqK K k H1 a xs ∧ R (IteK K k a) H1
theorem pi_enumK {X : Cx} {e : Expr} {ta : TA} {p pos tpos : Pos} {elts : List Expr} {kk : Nat} (hg : Gl X "enumerate") (hm : X.mg "enumerate" = none) (ha : PA X [e] ta) (hs : starEach [e] X.env = [(false, eval e X.env)]) :
    PI X (.Tuple elts kk tpos) (.Call (.Name "enumerate" p) [e] [] pos) (iEnumK X.K ta) := by
  refine ⟨fun pins s σ H R I h => ?_⟩
  refine Call_ (ld_blt I hg hm boot_enumerate (PyProof.Rows.callWith_type1 (thn (ha.run pos pins s σ H _ I h) fun us s1 ⟨vs, H1, I1, r1, q1⟩ => ?_) hs rfl))
  obtain ⟨k, a, xs, ex, hq, q⟩ := q1
  subst ex
  cases r1 with
  | cons r rr =>
    cases rr
    cases r
    obtain ⟨its, rv, p', la⟩ := inv_sq I1 hq
    refine enum_begins1 (begins_of k a its.toArray) p' fun h' he hit hsz hk => wpAny_pyIter_enum he ?_
    have I2 : Inv X pins σ H1 { s1 with heap := h' } := I1.kept (t' := s1.toks) hk
    refine ⟨s1.heap.objs.size + 1, [s1.heap.objs.size + 1, s1.heap.objs.size], _, _, H1, rfl, I2, turn_enumK (k := k) a (s1.heap.objs.size + 1) s1.heap.objs.size, ⟨⟨.none, he⟩, itAt_new hit, Nat.succ_ne_self _, Nat.ne_of_gt (Nat.lt_of_lt_of_le la (Nat.le_succ _)), Nat.ne_of_gt la⟩, fun b hb => ?_, q⟩
    have e' : b = s1.heap.objs.size + 1 ∨ b = s1.heap.objs.size := by simpa using hb
    have hle : s1.heap.objs.size ≤ b := by
      rcases e' with z | z
      · rw [z]; exact Nat.le_add_right _ _
      · rw [z]; exact Nat.le_refl _
    exact I1.fpOk hle (I1.hok.fresh hle)
/-! ### a list or a tuple itself -/
def ItSeq (K : PySem.W.Frag) (k : Bool) (a : Addr) : It := match k with
  | true => Itl K a
  | false => Itt K a
def iSeq (K : PySem.W.Frag) (tl : TE) : TI := fun σ H R => tl σ H fun x H1 => ∃ k a xs, x = .ref a ∧ SqK K k H1 a xs ∧ R (ItSeq K k a) H1
theorem pi_seq {X : Cx} {tg l : Expr} {tl : TE} (hl : PE X l tl) : PI X tg l (iSeq X.K tl) := by
  refine ⟨fun pins s σ H R I h => ?_⟩
  refine thn (hl.run pins s σ H _ I h) fun v s1 ⟨x, H1, I1, r1, q1⟩ => ?_
  obtain ⟨k, a, xs, e, hq, q⟩ := q1
  subst e
  cases r1
  cases k with
  | true =>
    obtain ⟨its, rv, p, hz⟩ := I1.list hq
    refine wpAny_pyIter_list p.isList ?_
    refine ⟨s1.heap.objs.size, [s1.heap.objs.size], _, _, H1, rfl, I1.kept (t' := s1.toks) fun b o e => Heap.get?_push_of_some _ e, turn_list a _, ⟨_, Heap.get?_push_size _ rfl, rfl, rfl⟩, fun b hb => ?_, q⟩
    have e : b = s1.heap.objs.size := by simpa using hb
    subst e
    exact I1.fpOk (Nat.le_refl _) (I1.hok.fresh (Nat.le_refl _))
  | false =>
    obtain ⟨its, rv, p, hz⟩ := I1.tuple hq
    refine wpAny_pyIter_tuple (show s1.heap.IsTuple a its.toArray from p) ?_
    refine ⟨s1.heap.objs.size, [s1.heap.objs.size], _, _, H1, rfl, I1.kept (t' := s1.toks) fun b o e => Heap.get?_push_of_some _ e, turn_tuple a _, ⟨_, Heap.get?_push_size _ rfl, rfl, rfl⟩, fun b hb => ?_, q⟩
    have e : b = s1.heap.objs.size := by simpa using hb
    subst e
    exact I1.fpOk (Nat.le_refl _) (I1.hok.fresh (Nat.le_refl _))
end Pv

/-! Pv10: what is walked, targets, comprehensions. -/
namespace Pv
open PySem PySem.Spec PyProof.Rows L2

/-! ### walks -/
section
variable {K : PySem.W.Frag} {g : Gn} {F H : Hp} {γ : List Addr} {v u : V} {d e : D} {ds es : List D} {S : Sto}
def RX (K : PySem.W.Frag) (g : Gn) (b : Bool) (F H : Hp) (γ : List Addr) (v : V) (d : D) : Prop := match b with
  | true => Top K g F H γ v d
  | false => Rep K g γ F v d
theorem RX.top {b : Bool} (r : RX K g b F H γ v d) : Top K g F H γ v d := by
  cases b with
  | true => exact r
  | false => exact .inl r
theorem RX.ext {b : Bool} {F1 H1 : Hp} {γ1 : List Addr} (r : RX K g b F H γ v d) (e : Ext F H γ F1 H1 γ1) : RX K g b F1 H1 γ1 v d := by
  cases b with
  | true => exact Top.ext r e
  | false => exact e.rep r
/-- a list or a tuple that stands still while GB holds -/
def Still (K : PySem.W.Frag) (F : Hp) (B : List (Addr × List V)) (k : Bool) (a : Addr) (xs : List V) : Prop := ∀ H, GB F B H → SqK K k H a xs
theorem GB.app {B B' : List (Addr × List V)} (h : GB F (B ++ B') H) : GB F B H ∧ GB F B' H := ⟨⟨h.1, fun p hp => h.2 p (List.mem_append_left _ hp)⟩, ⟨h.1, fun p hp => h.2 p (List.mem_append_right _ hp)⟩⟩
/-- what a walk leans on: the lists of the def's own that are walked -/
structure Own (b : Bool) (H : Hp) (γ : List Addr) (B : List (Addr × List V)) : Prop where
  at_ : ∀ p ∈ B, H p.1 = some (.lst p.2) ∧ p.1 ∉ γ
  nil : b = false → B = []
theorem Own.app {b : Bool} {B B' : List (Addr × List V)} (h : Own b H γ B) (h' : Own b H γ B') : Own b H γ (B ++ B') :=
  ⟨fun p hp => (List.mem_append.mp hp).elim (h.at_ p) (h'.at_ p), fun z => by rw [h.nil z, h'.nil z]; rfl⟩
theorem Own.none {b : Bool} : Own b H γ [] := ⟨fun _ h => by simp at h, fun _ => rfl⟩
theorem still_of {b : Bool} (s : SS K g F H γ S) (t : RX K g b F H γ v d) (e : seqW d = some ds) : ∃ k a xs B, v = .ref a ∧ SqK K k H a xs ∧ Reps K g γ F xs ds ∧ Still K F B k a xs ∧ Own b H γ B := by
  have rep : Rep K g γ F v d → ∃ k a xs B, v = .ref a ∧ SqK K k H a xs ∧ Reps K g γ F xs ds ∧ Still K F B k a xs ∧ Own b H γ B := fun t => by
    cases d with
    | scr l =>
      cases e
      cases t with
      | scr h => exact ⟨true, _, _, [], rfl, sqL_mono s.sub h, Reps.ints l, fun H' b => sqL_mono b.1 h, Own.none⟩
    | tup l =>
      cases e
      cases t with
      | tup h r => exact ⟨false, _, _, [], rfl, sqT_mono s.sub h, r, fun H' b => sqT_mono b.1 h, Own.none⟩
    | lst l =>
      cases e
      cases t with
      | lst h r => exact ⟨true, _, _, [], rfl, SqL.of (s.sub _ _ h), r, fun H' b => SqL.of (b.1 _ _ h), Own.none⟩
    | _ => cases e
  cases b with
  | false => exact rep t
  | true =>
    rcases t with t | ⟨a, xs, ds', rfl, rfl, h1, h2, h3, h4⟩
    · exact rep t
    · cases e
      exact ⟨true, a, xs, [(a, xs)], rfl, SqL.of h1, h4, fun H' b => SqL.of (b.2 (a, xs) (by simp)), ⟨fun p hp => by simp at hp; subst hp; exact ⟨h1, h2⟩, fun z => by cases z⟩⟩
theorem wd_seq {k : Bool} {a : Addr} {xs : List V} {B : List (Addr × List V)} (h : Still K F B k a xs) (r : Reps K g γ F xs ds) : WD K g γ F B (ItSeq K k a) ds := by
  have hl := r.length
  have yd : ∀ {i : Nat} {x : V} {H : Hp}, i < ds.length → xs[i]? = some x → YD K g γ F ds i H x H := fun {i x H} hi hx => by
    refine ⟨ds[i], by simp [hi], .inl ⟨rfl, ?_⟩⟩
    obtain ⟨v, h1, h2⟩ := r.get (i := i) (d := ds[i]) (by simp [hi])
    rw [hx] at h1
    cases h1
    exact h2
  cases k with
  | true => exact ⟨fun i H hi b => ⟨xs, xs[i]'(by omega), h H b, by simp [hl, hi]⟩, fun H b => ⟨xs, h H b, by omega⟩, fun i H x H' hi b y => by
      obtain ⟨e, y⟩ := y
      subst e
      exact yd hi (y xs (h _ b))⟩
  | false => exact ⟨fun i H hi b => ⟨xs, xs[i]'(by omega), h H b, by simp [hl, hi]⟩, fun H b => ⟨xs, h H b, by omega⟩, fun i H x H' hi b y => by
      obtain ⟨e, y⟩ := y
      subst e
      exact yd hi (y xs (h _ b))⟩
theorem wd_range {lo : Int} {n : Nat} : WD K g γ F [] (Itr lo n) ((List.range n).map fun (i : Nat) => .int (lo + (i : Int))) := by
  refine ⟨fun i H hi b => by show i < n; simpa using hi, fun H b => by show n ≤ _; simp, fun i H x H' hi b y => ?_⟩
  obtain ⟨e, y⟩ := y
  subst e y
  have hi' : i < n := by simpa using hi
  exact ⟨.int (lo + i), by simp [hi'], .inl ⟨rfl, .int _⟩⟩
theorem wd_zip {k1 k2 : Bool} {a b : Addr} {xs ys : List V} {B B' : List (Addr × List V)} (h : Still K F B k1 a xs) (h' : Still K F B' k2 b ys) (r : Reps K g γ F xs ds) (r' : Reps K g γ F ys es) :
    WD K g γ F (B ++ B') (ItzK K k1 k2 a b) (List.zipWith (fun a b => .tup [a, b]) ds es) := by
  have hl := r.length
  have hl' := r'.length
  have hn : (List.zipWith (fun a b => D.tup [a, b]) ds es).length = min ds.length es.length := List.length_zipWith
  refine ⟨fun i H hi q => ?_, fun H q => ?_, fun i H x H' hi q y => ?_⟩
  · obtain ⟨q1, q2⟩ := q.app
    have h1 : i < xs.length := by omega
    have h2 : i < ys.length := by omega
    exact ⟨xs, ys, xs[i], ys[i], h H q1, h' H q2, by simp [h1], by simp [h2]⟩
  · obtain ⟨q1, q2⟩ := q.app
    exact ⟨xs, ys, h H q1, h' H q2, by omega, by omega, by omega⟩
  · obtain ⟨q1, q2⟩ := q.app
    obtain ⟨T, u, v, rfl, n, rfl, y1, y2⟩ := y
    have h1 : i < ds.length := by omega
    have h2 : i < es.length := by omega
    obtain ⟨u', a1, a2⟩ := r.get (i := i) (d := ds[i]) (by simp [h1])
    obtain ⟨v', b1, b2⟩ := r'.get (i := i) (d := es[i]) (by simp [h2])
    have e1 := y1 xs (h H q1)
    have e2 := y2 ys (h' H q2)
    rw [a1] at e1
    rw [b1] at e2
    cases e1
    cases e2
    exact ⟨.tup [ds[i], es[i]], by simp [List.getElem?_zipWith, h1, h2], .inr ⟨T, _, _, _, _, rfl, n, rfl, a2, b2, rfl⟩⟩
theorem wd_enum {k : Bool} {a : Addr} {xs : List V} {B : List (Addr × List V)} (h : Still K F B k a xs) (r : Reps K g γ F xs ds) :
    WD K g γ F B (IteK K k a) (ds.zipIdx.map fun p => .tup [.int p.2, p.1]) := by
  have hl := r.length
  refine ⟨fun i H hi q => ?_, fun H q => ?_, fun i H x H' hi q y => ?_⟩
  · have h1 : i < xs.length := by simp at hi; omega
    exact ⟨xs, xs[i], h H q, by simp [h1]⟩
  · exact ⟨xs, h H q, by simp; omega⟩
  · obtain ⟨T, u, rfl, n, rfl, y1⟩ := y
    have h1 : i < ds.length := by simpa using hi
    obtain ⟨u', a1, a2⟩ := r.get (i := i) (d := ds[i]) (by simp [h1])
    have e1 := y1 xs (h H q)
    rw [a1] at e1
    cases e1
    exact ⟨.tup [.int i, ds[i]], by simp [List.getElem?_zipIdx, h1], .inr ⟨T, _, _, _, _, rfl, n, rfl, .int _, a2, rfl⟩⟩
end
section
variable {g : Gn} {wrd : Nat → Option Str} {cal : Nat → List D → Sto → Res D} {lv : Nat} {ck : Ck} {X : Cx} {W : WX}
def XE (g : Gn) (wrd : Nat → Option Str) (cal : Nat → List D → Sto → Res D) (X : Cx) (W : WX) (b : Bool) (e : Expr) (m : E) : Prop := ∃ t, PE X e t ∧ DEr g X W (RX X.K g b) t (ev wrd cal m)
theorem xe_false {e : Expr} {m : E} : XE g wrd cal X W false e m ↔ DE g wrd cal X W e m := Iff.rfl
theorem xe_true {e : Expr} {m : E} : XE g wrd cal X W true e m ↔ BE g wrd cal X W e m := Iff.rfl
theorem di_walk {b : Bool} {a : E} {tg x : Expr} (ha : XE g wrd cal X W b x a) : DI g wrd cal X W b tg x (.walk a) := by
  obtain ⟨ta, pa, ha⟩ := ha
  refine ⟨_, pi_seq pa, fun H0 F H γ S ρ σ R s r q => ?_⟩
  simp only [evi] at q
  refine ha H0 F H γ S ρ σ _ s r (Pst.bind q fun dx S1 v F1 H1 γ1 _ e1 s1 r1 q => ?_)
  obtain ⟨ds, e, q⟩ := Pst.lift q
  obtain ⟨k, a', xs, B, rfl, h1, h2, h3, h4⟩ := still_of s1 r1 e
  exact ⟨k, a', xs, rfl, h1, q _ F1 H1 γ1 .refl s1 ⟨B, wd_seq h3 h2, h4.at_, h4.nil⟩⟩
theorem di_rng1 {b : Bool} {a : E} {tg y : Expr} {p p2 : Pos} (C : CtxE g wrd cal ck lv X) (hg : glB X.env.scope ("range" : Str) = true) (hf : ck.fr.contains ("range" : Str) = true) (hy : isStar y = false) (ha : BE g wrd cal X W y a) :
    DI g wrd cal X W b tg (.Call (.Name "range" p) [y] [] p2) (.rng1 a) := by
  obtain ⟨ta, pa, ha⟩ := ha
  refine ⟨_, pi_range1 (gl_of hg) (C.fr _ hf) (pa_cons pa pa_nil (star_cons hy)) (star_cons hy), fun H0 F H γ S ρ σ R s r q => ?_⟩
  simp only [evi] at q
  refine ha H0 F H γ S ρ σ _ s r (Pst.bind q fun dx S1 v F1 H1 γ1 _ e1 s1 r1 q => ?_)
  cases dx with
  | int n =>
    simp only at q
    split at q
    · rename_i hn
      obtain rfl := Top.int r1
      refine ⟨n, rfl, (rngB_ok hn).1, (rngB_ok hn).2, q _ F1 H1 γ1 .refl s1 ⟨[], ?_, fun _ h => by simp at h, fun _ => rfl⟩⟩
      have z := wd_range (K := X.K) (g := g) (γ := γ1) (F := F1) (lo := 0) (n := n.toNat)
      simp only [Int.zero_add] at z
      exact z
    · exact q.elim
  | _ => exact q.elim
theorem di_rng2 {b : Bool} {a c : E} {tg y z : Expr} {p p2 : Pos} (C : CtxE g wrd cal ck lv X) (hg : glB X.env.scope ("range" : Str) = true) (hf : ck.fr.contains ("range" : Str) = true) (hy : isStar y = false) (hz : isStar z = false) (ha : BE g wrd cal X W y a) (hb : BE g wrd cal X W z c) :
    DI g wrd cal X W b tg (.Call (.Name "range" p) [y, z] [] p2) (.rng2 a c) := by
  obtain ⟨ta, pa, ha⟩ := ha
  obtain ⟨tb, pb, hb⟩ := hb
  refine ⟨_, pi_range2 (gl_of hg) (C.fr _ hf) (pa_cons pa (pa_cons pb pa_nil (star_cons hz)) (star_cons hy)) (by rw [star_cons hy, star_cons hz]; rfl) (star_cons hz), fun H0 F H γ S ρ σ R s r q => ?_⟩
  simp only [evi] at q
  refine ha H0 F H γ S ρ σ _ s r (Pst.bind q fun dx S1 v F1 H1 γ1 _ e1 s1 r1 q => ?_)
  refine hb H0 F1 H1 γ1 S1 ρ σ _ s1 (r.ext e1) (Pst.bind q fun dy S2 u F2 H2 γ2 _ e2 s2 r2 q => ?_)
  split at q
  · split at q
    · rename_i hn
      simp only [Bool.and_eq_true] at hn
      obtain rfl := Top.int r1
      obtain rfl := Top.int r2
      exact ⟨_, _, rfl, ⟨(rngB_ok hn.1).1, (rngB_ok hn.1).2, (rngB_ok hn.2).1, (rngB_ok hn.2).2⟩, q _ F2 H2 γ2 .refl s2 ⟨[], wd_range, fun _ h => by simp at h, fun _ => rfl⟩⟩
    · exact q.elim
  · exact q.elim
theorem di_zip {b : Bool} {a c : E} {y z : Expr} {p p2 tpos : Pos} {elts : List Expr} {kk : Nat} (C : CtxE g wrd cal ck lv X) (hg : glB X.env.scope ("zip" : Str) = true) (hf : ck.fr.contains ("zip" : Str) = true) (hy : isStar y = false) (hz : isStar z = false) (ha : XE g wrd cal X W b y a) (hb : XE g wrd cal X W b z c) :
    DI g wrd cal X W b (.Tuple elts kk tpos) (.Call (.Name "zip" p) [y, z] [] p2) (.zip a c) := by
  obtain ⟨ta, pa, ha⟩ := ha
  obtain ⟨tb, pb, hb⟩ := hb
  refine ⟨_, pi_zipK (gl_of hg) (C.fr _ hf) (pa_cons pa (pa_cons pb pa_nil (star_cons hz)) (star_cons hy)) (star_cons hy) (back_plain (by simp [hz])), fun H0 F H γ S ρ σ R s r q => ?_⟩
  simp only [evi] at q
  refine ha H0 F H γ S ρ σ _ s r (Pst.bind q fun dx S1 v F1 H1 γ1 _ e1 s1 r1 q => ?_)
  refine hb H0 F1 H1 γ1 S1 ρ σ _ s1 (r.ext e1) (Pst.bind q fun dy S2 u F2 H2 γ2 _ e2 s2 r2 q => ?_)
  split at q
  · rename_i xs ys hx hy
    obtain ⟨k1, a1, us, B1, rfl, h1, h2, h3, h4⟩ := still_of s2 (RX.ext r1 e2) hx
    obtain ⟨k2, a2, ws, B2, rfl, g1, g2, g3, g4⟩ := still_of s2 r2 hy
    have o := h4.app g4
    exact ⟨k1, k2, a1, a2, us, ws, rfl, h1, g1, q _ F2 H2 γ2 .refl s2 ⟨B1 ++ B2, wd_zip h3 g3 h2 g2, o.at_, o.nil⟩⟩
  · exact q.elim
theorem di_enum {b : Bool} {a : E} {y : Expr} {p p2 tpos : Pos} {elts : List Expr} {kk : Nat} (C : CtxE g wrd cal ck lv X) (hg : glB X.env.scope ("enumerate" : Str) = true) (hf : ck.fr.contains ("enumerate" : Str) = true) (hy : isStar y = false) (ha : XE g wrd cal X W b y a) :
    DI g wrd cal X W b (.Tuple elts kk tpos) (.Call (.Name "enumerate" p) [y] [] p2) (.enum a) := by
  obtain ⟨ta, pa, ha⟩ := ha
  refine ⟨_, pi_enumK (gl_of hg) (C.fr _ hf) (pa_cons pa pa_nil (star_cons hy)) (star_cons hy), fun H0 F H γ S ρ σ R s r q => ?_⟩
  simp only [evi] at q
  refine ha H0 F H γ S ρ σ _ s r (Pst.bind q fun dx S1 v F1 H1 γ1 _ e1 s1 r1 q => ?_)
  split at q
  · rename_i xs hx
    obtain ⟨k1, a1, us, B1, rfl, h1, h2, h3, h4⟩ := still_of s1 r1 hx
    exact ⟨k1, a1, us, rfl, h1, q _ F1 H1 γ1 .refl s1 ⟨B1, wd_enum h3 h2, h4.at_, h4.nil⟩⟩
  · exact q.elim
end

/-! ### targets -/
theorem wipe_set2 {σ : L2.St} {i : Nat} {x y : Option V} : ∀ vs : List Nat, (wipe (σ.set i x) vs).set i y = (wipe σ vs).set i y
  | [] => by show (σ.set i x).set i y = σ.set i y; rw [List.set_set]
  | v :: vs => by
    show ((wipe (σ.set i x) vs).set v none).set i y = ((wipe σ vs).set v none).set i y
    by_cases h : v = i
    · subst h; rw [List.set_set, List.set_set]; exact wipe_set2 vs
    · rw [List.set_comm _ _ h, List.set_comm _ _ h, wipe_set2 vs]
theorem wipe_set {σ : L2.St} {i : Nat} {x : Option V} : ∀ {vs : List Nat}, i ∈ vs → wipe (σ.set i x) vs = wipe σ vs
  | v :: vs, h => by
    show (wipe (σ.set i x) vs).set v none = (wipe σ vs).set v none
    by_cases e : i = v
    · subst e; exact wipe_set2 vs
    · rw [wipe_set ((List.mem_cons.mp h).resolve_left e)]
theorem wipe_wipe {σ : L2.St} {ws : List Nat} : ∀ {vs : List Nat}, (∀ i ∈ vs, i ∈ ws) → wipe (wipe σ vs) ws = wipe σ ws
  | [], _ => rfl
  | v :: vs, h => by
    show wipe ((wipe σ vs).set v none) ws = _
    rw [wipe_set (h v List.mem_cons_self)]
    exact wipe_wipe fun i hi => h i (List.mem_cons_of_mem _ hi)
theorem ER.set {K : PySem.W.Frag} {g : Gn} {H0 F H : Hp} {γ : List Addr} {ρ : Env} {σ : L2.St} {i : Nat} {v : V} {d : D} (r : ER K g H0 F H γ ρ σ) (hi : i < ρ.length) (x : Rep K g γ F v d) : ER K g H0 F H γ (ρ.set i (.v d)) (σ.set i (some v)) := by
  have hl := r.len
  refine ⟨by simp [r.len], fun j e h => ?_, ?_⟩
  · by_cases hj : j = i
    · subst hj
      rw [List.getElem?_set_self hi] at h
      cases h
      exact ⟨v, List.getElem?_set_self (by omega), x⟩
    · rw [List.getElem?_set_ne (Ne.symm hj)] at h ⊢
      exact r.val j e h
  · obtain ⟨oa, h1, h2⟩ := r.own
    have ne : ∀ {j : Nat} {l : List D}, (ρ.set i (.v d))[j]? = some (.own l) → j ≠ i ∧ ρ[j]? = some (.own l) := fun {j l} h => by
      by_cases hj : j = i
      · subst hj
        rw [List.getElem?_set_self hi] at h
        cases h
      · rw [List.getElem?_set_ne (Ne.symm hj)] at h
        exact ⟨hj, h⟩
    refine ⟨oa, fun j l h => ?_, fun j k l m a b => h2 j k l m (ne a).2 (ne b).2⟩
    obtain ⟨hj, h⟩ := ne h
    rw [List.getElem?_set_ne (Ne.symm hj)]
    exact h1 j l h
section
variable {g : Gn} {X : Cx}
/-- a target's reading -/
def GOk (g : Gn) (X : Cx) (sl : List Nat) (t : TG) (f : D → Env → Option Env) : Prop := ∀ H0 F H γ S ρ σ v d ρ' (Q : L2.St → Hp → Prop), SS X.K g F H γ S → ER X.K g H0 F H γ ρ σ → Rep X.K g γ F v d → f d ρ = some ρ' → (∀ σ', ER X.K g H0 F H γ ρ' σ' → (∀ vs : List Nat, (∀ i ∈ sl, i ∈ vs) → wipe σ' vs = wipe σ vs) → Q σ' H) → t v σ H Q
def GsOk (g : Gn) (X : Cx) (sl : List Nat) (t : TGs) (f : List D → Env → Option Env) : Prop := ∀ H0 F H γ S ρ σ vs ds ρ' (Q : L2.St → Hp → Prop), SS X.K g F H γ S → ER X.K g H0 F H γ ρ σ → Reps X.K g γ F vs ds → f ds ρ = some ρ' → (∀ σ', ER X.K g H0 F H γ ρ' σ' → (∀ vs : List Nat, (∀ i ∈ sl, i ∈ vs) → wipe σ' vs = wipe σ vs) → Q σ' H) → t vs σ H Q
theorem assign_star {e : Expr} {es : List Expr} {env : PySem.Env} (h : isStar e = false) : assignEach (e :: es) env = (false, assign e env) :: assignEach es env := by
  cases e <;> first | rfl | cases h
theorem assign_len {env : PySem.Env} {N : List Str} {sc : Str → Bool} : ∀ {gs : G} {es : List Expr}, chkGs N sc gs es = true → (assignEach es env).length = es.length ∧ (assignEach es env).findIdx? (·.1) = none
  | .nil, [], _ => ⟨rfl, rfl⟩
  | .cons _ gs, e :: es, h => by
    simp only [chkGs, Bool.and_eq_true, Bool.not_eq_true'] at h
    obtain ⟨h1, h2⟩ := assign_len (env := env) h.2
    rw [assign_star h.1.1]
    refine ⟨by simp [h1], ?_⟩
    rw [List.findIdx?_cons]
    simp [h2]
  | .nil, _ :: _, h => by simp [chkGs] at h
  | .cons _ _, [], h => by simp [chkGs] at h
  | .nm _, es, h => by simp [chkGs] at h
  | .tup _, es, h => by simp [chkGs] at h
theorem pg_or {e : Expr} {t u : TG} (h1 : PG X e t) (h2 : PG X e u) : PG X e (fun v σ H Q => t v σ H Q ∨ u v σ H Q) := ⟨fun pins s σ H v w Q I r hw => hw.elim (fun hw => h1.run pins s σ H v w Q I r hw) fun hw => h2.run pins s σ H v w Q I r hw⟩
/-- what may be stored -/
def Asn (X : Cx) (as : Str → Bool) : Prop := ∀ x, as x = true → Loc X.env.scope x ∧ (X.fn x = true ∨ X.env.scope.names.lookup x = some .local)
theorem g_ok {as : Str → Bool} (hN : X.N.Nodup) (hc : X.calm = true) (ha : Asn X as) : ∀ m : G, (∀ e, chkG X.N as m e = true → ∃ t, PG X e t ∧ GOk g X (gSlots m) t (asg m)) ∧ (∀ es, chkGs X.N as m es = true → ∃ t, PGs X es t ∧ GsOk g X (gSlots m) t (asg.asgs m)) := by
  intro m
  induction m with
  | nil =>
    refine ⟨fun e h => by simp [chkG] at h, fun es h => ?_⟩
    cases es with
    | nil =>
      refine ⟨gNil, pgs_nil, fun H0 F H γ S ρ σ vs ds ρ' Q s r x e q => ?_⟩
      cases x with
      | nil => simp only [asg.asgs] at e; cases e; exact ⟨rfl, q σ r fun _ _ => rfl⟩
      | cons _ _ => simp [asg.asgs] at e
    | cons _ _ => simp [chkGs] at h
  | cons g1 gs ih1 ih2 =>
    refine ⟨fun e h => by simp [chkG] at h, fun es h => ?_⟩
    cases es with
    | nil => simp [chkGs] at h
    | cons e es =>
      simp only [chkGs, Bool.and_eq_true] at h
      obtain ⟨t1, p1, k1⟩ := ih1.1 e h.1.2
      obtain ⟨t2, p2, k2⟩ := ih2.2 es h.2
      refine ⟨_, pgs_cons p1 p2 (by rw [assign_star (by simpa using h.1.1)]; rfl), fun H0 F H γ S ρ σ vs ds ρ' Q s r x e q => ?_⟩
      cases x with
      | nil => simp [asg.asgs] at e
      | cons x xs =>
        simp only [asg.asgs] at e
        split at e
        · rename_i ρ1 e1
          exact ⟨_, _, rfl, k1 H0 F H γ S ρ σ _ _ ρ1 _ s r x e1 fun σ1 r1 w1 => k2 H0 F H γ S ρ1 σ1 _ _ ρ' _ s r1 xs e fun σ2 r2 w2 => q σ2 r2 fun vs hv => (w2 vs fun i hi => hv i (List.mem_append_right _ hi)).trans (w1 vs fun i hi => hv i (List.mem_append_left _ hi))⟩
        · cases e
  | nm i =>
    refine ⟨fun e h => ?_, fun es h => by simp [chkGs] at h⟩
    cases e with
    | Name x p =>
      simp only [chkG, Bool.and_eq_true] at h
      obtain ⟨h1, h2⟩ := h
      have hi : X.N[i]? = some x := by
        split at h1
        · rename_i y hy; rw [hy, eq_of_beq h1]
        · cases h1
      obtain ⟨hl, hl2⟩ := ha x h2
      refine ⟨gName i, pg_name hN hi hl hl2, fun H0 F H γ S ρ σ v d ρ' Q s r x e q => ?_⟩
      simp only [asg] at e
      split at e
      · rename_i hlt
        cases e
        exact q _ (r.set hlt x) fun vs hv => wipe_set (hv i (by simp [gSlots]))
      · cases e
    | _ => simp [chkG] at h
  | tup gs ih =>
    refine ⟨fun e h => ?_, fun es h => by simp [chkGs] at h⟩
    cases e with
    | Tuple es k p =>
      simp only [chkG] at h
      obtain ⟨t, pt, kt⟩ := ih.2 es h
      obtain ⟨l1, l2⟩ := assign_len (env := X.env) h
      refine ⟨_, pg_or (pg_tup hc pt rfl l2) (pg_lst hc pt rfl l2), fun H0 F H γ S ρ σ v d ρ' Q s r x e q => ?_⟩
      rw [l1]
      have hlen : ∀ {gs : G} {es : List Expr} {l : List D} {ρ ρ' : Env}, chkGs X.N as gs es = true → asg.asgs gs l ρ = some ρ' → l.length = es.length := by
        intro gs
        induction gs with
        | nil => intro es l ρ ρ' h e; cases es <;> cases l <;> simp [chkGs, asg.asgs] at h e ⊢
        | cons g1 gs i1 i2 =>
          intro es l ρ ρ' h e
          cases es with
          | nil => simp [chkGs] at h
          | cons e' es =>
            cases l with
            | nil => simp [asg.asgs] at e
            | cons x l =>
              simp only [chkGs, Bool.and_eq_true] at h
              simp only [asg.asgs] at e
              split at e
              · simp [i2 h.2 e]
              · cases e
        | nm i => intro es l ρ ρ' h e; simp [chkGs] at h
        | tup i _ => intro es l ρ ρ' h e; simp [chkGs] at h
      cases d with
      | tup l =>
        simp only [asg] at e
        cases x with
        | tup hT hr => exact .inl ⟨_, _, rfl, sqT_mono s.sub hT, by rw [hr.length]; exact hlen h e, kt H0 F H γ S ρ σ _ _ ρ' Q s r hr e q⟩
      | lst l =>
        simp only [asg] at e
        cases x with
        | lst hL hr => exact .inr ⟨_, _, rfl, SqL.of (s.sub _ _ hL), by rw [hr.length]; exact hlen h e, kt H0 F H γ S ρ σ _ _ ρ' Q s r hr e q⟩
      | _ => simp [asg] at e
    | _ => simp [chkG] at h
end

/-! ### comprehensions -/
theorem ER.wipe {K : PySem.W.Frag} {g : Gn} {H0 F H : Hp} {γ : List Addr} {ρ : Env} {σ : L2.St} (r : ER K g H0 F H γ ρ σ) : ∀ vs : List Nat, ER K g H0 F H γ (wipes ρ vs) (L2.wipe σ vs)
  | [] => r
  | v :: vs => by
    have ih := ER.wipe r vs
    have un : ∀ {j : Nat} {x : Sl}, (wipes ρ (v :: vs))[j]? = some x → x ≠ .un → j ≠ v ∧ (wipes ρ vs)[j]? = some x := fun {j x} h hx => by
      have h : ((wipes ρ vs).set v .un)[j]? = some x := h
      by_cases hj : j = v
      · subst hj
        obtain ⟨hlt, _⟩ := List.getElem?_eq_some_iff.mp h
        rw [List.getElem?_set_self (by simpa using hlt)] at h
        cases h
        exact (hx rfl).elim
      · rw [List.getElem?_set_ne (Ne.symm hj)] at h
        exact ⟨hj, h⟩
    have out : ∀ {j : Nat}, j ≠ v → (L2.wipe σ (v :: vs))[j]? = (L2.wipe σ vs)[j]? := fun {j} hj => by
      show ((L2.wipe σ vs).set v none)[j]? = _
      rw [List.getElem?_set_ne (Ne.symm hj)]
    refine ⟨?_, fun i d h => ?_, ?_⟩
    · show ((wipes ρ vs).set v .un).length = ((L2.wipe σ vs).set v none).length
      rw [List.length_set, List.length_set, ih.len]
    · obtain ⟨h1, h2⟩ := un h (by simp)
      rw [out h1]
      exact ih.val i d h2
    · obtain ⟨oa, h1, h2⟩ := ih.own
      refine ⟨oa, fun i l h => ?_, fun i j l m a b => h2 i j l m (un a (by simp)).2 (un b (by simp)).2⟩
      obtain ⟨n1, n2⟩ := un h (by simp)
      rw [out n1]
      exact h1 i l n2
section
variable {K : PySem.W.Frag} {g : Gn} {F H F1 H1 : Hp} {γ γ1 : List Addr} {S : Sto}
/-- a list of ours, not frozen, not a cell, is written -/
theorem SS.upd {D : Addr} {o : HO} {xs : List V} (s : SS K g F H γ S) (hD : H D = some (.lst xs)) (fD : F D = none) (gD : D ∉ γ) : SS K g F (L2.upd H D o) γ S := by
  refine ⟨fun a u h => by rw [upd_ne (ne_of_none h fD)]; exact s.sub a u h, s.len, fun k l h => ?_, s.nd, s.fr, tabs_lst s.tabs hD, s.nt⟩
  obtain ⟨a, xs', h1, h2, h3⟩ := s.cell k l h
  refine ⟨a, xs', h1, ?_, h3⟩
  rw [upd_ne]
  · exact h2
  · intro z
    subst z
    exact gD (List.mem_of_getElem? h1)
theorem SS.newU {D : Addr} {o : HO} (s : SS K g F H γ S) (hD : H D = none) : SS K g F (L2.upd H D o) γ S ∧ F D = none ∧ D ∉ γ := by
  have fD : F D = none := by
    cases q : F D with
    | none => rfl
    | some u => rw [s.sub D u q] at hD; cases hD
  have gD : D ∉ γ := fun hm => by
    obtain ⟨k, hk⟩ := List.getElem?_of_mem hm
    obtain ⟨hlt, _⟩ := List.getElem?_eq_some_iff.mp hk
    have hlt' : k < S.length := by rw [← s.len]; exact hlt
    cases q : S[k] with
    | lst l =>
      obtain ⟨a', xs, h1, h2, h3⟩ := s.cell k l (by rw [List.getElem?_eq_getElem hlt', q])
      rw [hk] at h1
      cases h1
      rw [hD] at h2
      cases h2
  refine ⟨⟨fun a u h => by rw [upd_ne (ne_of_none h fD)]; exact s.sub a u h, s.len, fun k l h => ?_, s.nd, s.fr, tabs_new s.tabs hD, s.nt⟩, fD, gD⟩
  obtain ⟨a, xs', h1, h2, h3⟩ := s.cell k l h
  exact ⟨a, xs', h1, by rw [upd_ne (ne_of_none h2 hD)]; exact h2, h3⟩
/-- an object that is new since the start is written -/
theorem Ext.updNew {D : Addr} {o : HO} (e : Ext F H γ F1 H1 γ1) (hD : Nw H D) : Ext F H γ F1 (L2.upd H1 D o) γ1 := by
  refine ⟨e.f, e.g, fun a u h n m => by rw [upd_ne (Nw.ne h n hD)]; exact e.h a u h n m, fun a h => ?_, e.fn⟩
  by_cases q : a = D
  · subst q; exact hD
  · exact e.n a fun u hu => h u (by rw [upd_ne q]; exact hu)
/-- a list of ours is frozen -/
theorem SS.freeze {D : Addr} {xs : List V} (s : SS K g F H γ S) (hD : H D = some (.lst xs)) (fD : F D = none) (gD : D ∉ γ) : SS K g (L2.upd F D (.lst xs)) H γ S := by
  have hf : ∀ a u, F a = some u → L2.upd F D (.lst xs) a = some u := fun a u h => by rw [upd_ne (ne_of_none h fD)]; exact h
  refine ⟨fun a u h => ?_, s.len, fun k l h => ?_, s.nd, fun a ha => ?_, s.tabs, fun a ps z => ?_⟩
  · by_cases e : a = D
    · subst e; rw [upd_same] at h; cases h; exact hD
    · rw [upd_ne e] at h; exact s.sub a u h
  · obtain ⟨a, xs', h1, h2, h3⟩ := s.cell k l h
    exact ⟨a, xs', h1, h2, h3.mono hf fun _ _ h => h⟩
  · rw [upd_ne (fun z => gD (by rw [← z]; exact ha))]
    exact s.fr a ha
  · by_cases e : a = D
    · subst e; rw [upd_same] at z; cases z
    · rw [upd_ne e] at z; exact s.nt a ps z
theorem Ext.freeze {D : Addr} {o : HO} (e : Ext F H γ F1 H1 γ1) (hD : Nw H D) (fD : F1 D = none) : Ext F H γ (L2.upd F1 D o) H1 γ1 := by
  refine ⟨fun a u h => ?_, e.g, e.h, e.n, fun a h => ?_⟩
  · rw [upd_ne (ne_of_none (e.f a u h) fD)]
    exact e.f a u h
  · by_cases q : a = D
    · subst q; exact .inr hD
    · rw [upd_ne q] at h; exact e.fn a h
end
theorem own_ix (N : List Str) (own : List Nat) : (ownOf N own).map (·.2) = own := by
  unfold ownOf
  rw [List.map_map]
  exact List.map_id' own
/-! ### fresh lists -/
def FP (K : PySem.W.Frag) (g : Gn) (F H : Hp) (γ : List Addr) (S : Sto) (l : List D) (Q : VK) : Prop := ∀ p xs F' H' γ', Ext F H γ F' H' γ' → SS K g F' H' γ' S → Nw H p → H' p = some (.lst xs) → F' p = none → p ∉ γ' → Reps K g γ' F' xs l → Q (.ref p) H'
def Fst (K : PySem.W.Frag) (g : Gn) (F H : Hp) (γ : List Addr) (r : Res D) (Q : VK) (E : XK) : Prop := match r with
  | .ok d S => (match d with
    | .lst l => FP K g F H γ S l Q
    | _ => False)
  | .exc j S => ∀ F' H' γ', Ext F H γ F' H' γ' → SS K g F' H' γ' S → E (.ref (g.ca j)) none H'
  | .bad => False
section
variable {K : PySem.W.Frag} {g : Gn} {F H F1 H1 : Hp} {γ γ1 : List Addr} {S : Sto} {l : List D} {Q : VK} {E : XK}
theorem none_of {F H F1 H1 : Hp} {γ γ1 : List Addr} {p : Addr} (e : Ext F H γ F1 H1 γ1) (h : Nw H1 p) : Nw H p := e.n p h
theorem FP.ext (q : FP K g F H γ S l Q) (e : Ext F H γ F1 H1 γ1) : FP K g F1 H1 γ1 S l Q := fun p xs F' H' γ' e' s n a b c d => q p xs F' H' γ' (e.trans e') s (none_of e n) a b c d
theorem FP.lst {xs : List V} (q : FP K g F H γ S l Q) (s : SS K g F H γ S) (r : Reps K g γ F xs l) : ∀ p, H p = none → Q (.ref p) (upd H p (.lst xs)) := fun p hp => by
  obtain ⟨s', fp, gp⟩ := s.newU (o := .lst xs) hp
  exact q p xs F _ γ (Ext.refl.updNew (.of hp)) s' (.of hp) upd_same fp gp r
theorem FP.of_vp (q : VP K g F H γ S (.lst l) Q) : FP K g F H γ S l Q := fun p xs F' H' γ' e s n a b c r =>
  q _ _ _ _ (e.freeze n b) (s.freeze a b c) (.lst upd_same (r.mono (fun a' u h => by rw [upd_ne (ne_of_none h b)]; exact h) fun _ _ h => h))
theorem Fst.ext {r : Res D} (h : Fst K g F H γ r Q E) (e : Ext F H γ F1 H1 γ1) : Fst K g F1 H1 γ1 r Q E := by
  cases r with
  | ok d S => cases d with
    | lst l => exact FP.ext h e
    | _ => exact h
  | exc j S => exact fun F' H' γ' e' s => h F' H' γ' (e.trans e') s
  | bad => exact h
theorem Fst.of {r : Res D} (h : Pst K g (RR K g) F H γ r Q E) (hl : ∀ d S, r = .ok d S → ∃ l, d = .lst l) : Fst K g F H γ r Q E := by
  cases r with
  | ok d S =>
    obtain ⟨l, rfl⟩ := hl d S rfl
    exact FP.of_vp h
  | exc j S => exact h
  | bad => exact h
theorem Fst.bind {α β : Type} {R : Hp → Hp → List Addr → β → α → Prop} {r : Res α} {f : α → Sto → Res D} {Q1 : β → Hp → Prop} (h : Fst K g F H γ (r.bind f) Q E)
    (k : ∀ a S b F' H' γ', r = .ok a S → Ext F H γ F' H' γ' → SS K g F' H' γ' S → R F' H' γ' b a → Fst K g F' H' γ' (f a S) Q E → Q1 b H') : Pst K g R F H γ r Q1 E := by
  cases r with
  | ok a S => exact fun b F' H' γ' e s x => k a S b F' H' γ' rfl e s x (Fst.ext h e)
  | exc j S => exact h
  | bad => exact h
theorem Fst.lift {S : Sto} {o : Option D} (h : Fst K g F H γ (Res.lift S o) Q E) : ∃ a, o = some (.lst a) ∧ FP K g F H γ S a Q := by
  cases o with
  | none => exact h.elim
  | some a =>
    cases a with
    | lst l => exact ⟨l, rfl, h⟩
    | _ => exact h.elim
end
section
variable {g : Gn} {wrd : Nat → Option Str} {cal : Nat → List D → Sto → Res D} {lv : Nat} {ck : Ck} {X : Cx} {W : WX}
def DFr (g : Gn) (X : Cx) (W : WX) (t : TE) (f : Env → Sto → Res D) : Prop :=
  ∀ H0 F H γ S ρ σ Q, SS X.K g F H γ S → ER X.K g H0 F H γ ρ σ → Fst X.K g F H γ (f ρ S) Q (fun c dd H' => W c dd σ H') → t σ H Q
def DF (g : Gn) (wrd : Nat → Option Str) (cal : Nat → List D → Sto → Res D) (X : Cx) (W : WX) (e : Expr) (m : E) : Prop := ∃ t, PE X e t ∧ DFr g X W t (ev wrd cal m)
theorem DFr.der {t : TE} {f : Env → Sto → Res D} (h : DFr g X W t f) (hl : ∀ ρ S d S', f ρ S = .ok d S' → ∃ l, d = .lst l) : DEr g X W (RR X.K g) t f := fun H0 F H γ S ρ σ Q s r q =>
  h H0 F H γ S ρ σ Q s r (Fst.of q fun d S' e => hl _ _ _ _ e)
theorem df_lst {es : E} {xs : List Expr} {p : Pos} (ha : DA g wrd cal X W xs es) : DF g wrd cal X W (.List xs p) (.lst es) := by
  obtain ⟨ta, pa, ha⟩ := ha
  refine ⟨_, pe_lst pa, fun H0 F H γ S ρ σ Q s r q => ?_⟩
  simp only [ev] at q
  refine ha H0 F H γ S ρ σ _ s r (Fst.bind q fun dx S1 v F1 H1 γ1 _ e1 s1 r1 q => ?_)
  split at q
  · rename_i hl
    exact ⟨by rw [Reps.length r1]; exact lenOk_le hl, FP.lst q s1 r1⟩
  · exact q.elim
/-- list(x) -/
theorem df_list {es : E} {x : Str} {e : Expr} {xs : List Expr} {p p2 : Pos} (C : CtxE g wrd cal ck lv X) (hx : x = bltName .list) (hg : glB X.env.scope x = true) (hf : ck.fr.contains x = true) (hp : (e :: xs).all (fun e => !isStar e) = true) (ha : BA g wrd cal X W (e :: xs) es) :
    DF g wrd cal X W (.Call (.Name x p) (e :: xs) [] p2) (.blt .list es) := by
  obtain ⟨ta, pa, ha⟩ := ha
  obtain ⟨h1, h2⟩ := pa_head hp (env := X.env) (pos := p2)
  have pn : x ≠ "__name__" ∧ (x == ("__debug__" : Str)) = false := by subst hx; exact ⟨by decide, by decide⟩
  have hP : PE X (.Call (.Name x p) (e :: xs) [] p2) (tCB (rBlt X.K .list) ta) := by
    have hb := boot_blt .list
    have hc := call_blt C.calm (units_of C) .list
    rw [← hx] at hb
    exact pe_callTy hc (gl_of hg) (C.fr x hf) hb pa pn.1 pn.2 h1 h2
  refine ⟨_, hP, fun H0 F H γ S ρ σ Q s r q => ?_⟩
  simp only [ev] at q
  refine ha H0 F H γ S ρ σ _ s r (Fst.bind q fun dx S1 v F1 H1 γ1 _ e1 s1 r1 q => ?_)
  obtain ⟨d, e, qq⟩ := Fst.lift q
  cases r1 with
  | nil => cases e
  | cons t r1 =>
    cases r1 with
    | cons _ _ => cases e
    | nil =>
      simp only [bltD] at e
      obtain ⟨l, e1, e2⟩ := Option.map_eq_some_iff.mp e
      have e3 : l = d := by cases e2; rfl
      subst e3
      obtain ⟨a, xs, rfl, hl, r⟩ := Top.seqOf s1 t e1
      exact ⟨a, xs, rfl, hl, FP.lst qq s1 r⟩
/-- a + b, lists -/
theorem df_add {a c : E} {x y : Expr} {p : Pos} (ha : BE g wrd cal X W x a) (hb : BE g wrd cal X W y c) : DF g wrd cal X W (.BinOp x .Add y p) (.bin .add a c) := by
  obtain ⟨ta, pa, ha⟩ := ha
  obtain ⟨tb, pb, hb⟩ := hb
  refine ⟨_, pe_op (op_bin .add) pa pb, fun H0 F H γ S ρ σ Q s r q => ?_⟩
  simp only [ev] at q
  refine ha H0 F H γ S ρ σ _ s r (Fst.bind q fun dx S1 v F1 H1 γ1 _ e1 s1 r1 q => ?_)
  refine hb H0 F1 H1 γ1 S1 ρ σ _ s1 (r.ext e1) (Fst.bind q fun dy S2 u F2 H2 γ2 _ e2 s2 r2 q => ?_)
  obtain ⟨d, e, qq⟩ := Fst.lift q
  have t1 : Top X.K g F2 H2 γ2 v dx := Top.ext r1 e2
  have t2 : Top X.K g F2 H2 γ2 u dy := r2
  unfold binD at e
  split at e
  · cases e
  · obtain ⟨b1, us, rfl, h1, q1⟩ := Top.lst s2 t1
    obtain ⟨b2, ws, rfl, h2, q2⟩ := Top.lst s2 t2
    dsimp only at e
    split at e
    · rename_i hm
      have e3 := Option.some.inj e
      injection e3 with e3
      subst e3
      exact .inl (.inl (.inr ⟨b1, b2, us, ws, rfl, rfl, h1, h2, by rw [q1.length, q2.length]; exact lenOk_le hm, FP.lst qq s2 (q1.append q2)⟩))
    · cases e
  · dsimp only at e
    split at e <;> cases e
  · dsimp only at e
    split at e <;> cases e
  · cases e
  · cases e
  · cases e
theorem CtxE.blk (C : CtxE g wrd cal ck lv X) (s : Shared) (H : Hp) (scope : Scope) (cenv : PySem.Env) (fp : List Addr) : CtxE g wrd cal ck.noRf lv (X.blk s H scope cenv fp) := ⟨C.nd, C.calm, C.room, C.gl, C.fr, C.fns, fun x h => by cases h⟩
theorem PE.mono {e : Expr} {t t' : TE} (h : PE X e t) (i : ∀ σ H Q, t' σ H Q → t σ H Q) : PE X e t' := ⟨fun pins s σ H Q I q => h.run pins s σ H Q I (i σ H Q q)⟩
theorem PTs.mono {e : List Expr} {t t' : TT} (h : PTs X e t) (i : ∀ σ H Q, t' σ H Q → t σ H Q) : PTs X e t' := ⟨fun pins s σ H Q I q => h.run pins s σ H Q I (i σ H Q q)⟩
theorem PG.mono {e : Expr} {t t' : TG} (h : PG X e t) (i : ∀ v σ H Q, t' v σ H Q → t v σ H Q) : PG X e t' := ⟨fun pins s σ H v u Q I r q => h.run pins s σ H v u Q I r (i v σ H Q q)⟩
abbrev W0 : WX := fun _ _ _ _ => False
theorem df_comp {own : List Nat} {gt : G} {it cond elt : E} {tg iter y : Expr} {ifs : List Expr} {scope : Scope} {p : Pos} (C : CtxE g wrd cal ck lv X) (hown : ∀ i ∈ gSlots gt, i ∈ own) (hb : blkC X.N X.env.scope scope (ownOf X.N own) = true) (hset : isSetE iter = false)
    (hi : DI g wrd cal X W true tg iter it)
    (hg : ∀ (s : Shared) (H : Hp) (Ca : Addr) (cl : List (Str × Addr)) (fp : List Addr), ∃ t, PG (X.blk s H scope (compEnvC scope cl Ca X.env) fp) tg t ∧ GOk g X (gSlots gt) t (asg gt))
    (ht : ∀ (s : Shared) (H : Hp) (Ca : Addr) (cl : List (Str × Addr)) (fp : List Addr), ∃ t, PTs (X.blk s H scope (compEnvC scope cl Ca X.env) fp) ifs t ∧ DEr g X W0 RB t (ev wrd cal cond))
    (he : ∀ (s : Shared) (H : Hp) (Ca : Addr) (cl : List (Str × Addr)) (fp : List Addr), ∃ t, PE (X.blk s H scope (compEnvC scope cl Ca X.env) fp) y t ∧ DEr g X W0 (RR X.K g) t (ev wrd cal elt)) :
    ∃ wi gg tt te, (PI X tg iter wi ∧ BlkOk X.N X.env.scope scope (ownOf X.N own) ∧ (∀ (s : Shared) (H : Hp) (Ca : Addr) (cl : List (Str × Addr)) (fp : List Addr), PG (X.blk s H scope (compEnvC scope cl Ca X.env) fp) tg gg) ∧
      (∀ (s : Shared) (H : Hp) (Ca : Addr) (cl : List (Str × Addr)) (fp : List Addr), PTs (X.blk s H scope (compEnvC scope cl Ca X.env) fp) ifs tt) ∧ ∀ (s : Shared) (H : Hp) (Ca : Addr) (cl : List (Str × Addr)) (fp : List Addr), PE (X.blk s H scope (compEnvC scope cl Ca X.env) fp) y te) ∧
      DFr g X W (tLc wi gg tt te own) (ev wrd cal (.comp own gt it cond elt)) := by
  obtain ⟨wi, pi, hi⟩ := hi
  refine ⟨wi, fun v σ H Q => ∀ s H' Ca cl fp, Classical.choose (hg s H' Ca cl fp) v σ H Q, fun σ H Q => ∀ s H' Ca cl fp, Classical.choose (ht s H' Ca cl fp) σ H Q, fun σ H Q => ∀ s H' Ca cl fp, Classical.choose (he s H' Ca cl fp) σ H Q,
    ⟨pi, blkOk_by hb, fun s H' Ca cl fp => Pv.PG.mono (Classical.choose_spec (hg s H' Ca cl fp)).1 fun v σ H Q h => h s H' Ca cl fp, fun s H' Ca cl fp => Pv.PTs.mono (Classical.choose_spec (ht s H' Ca cl fp)).1 fun σ H Q h => h s H' Ca cl fp,
      fun s H' Ca cl fp => Pv.PE.mono (Classical.choose_spec (he s H' Ca cl fp)).1 fun σ H Q h => h s H' Ca cl fp⟩, fun H0 F H γ S ρ σ Q s r q => ?_⟩
  simp only [ev] at q
  refine hi H0 F H γ S ρ σ _ s r (Fst.bind q fun its S1 J F1 H1 γ1 _ e1 s1 r1 q => ?_)
  obtain ⟨B, wd, hB, _⟩ := r1
  intro D hD
  obtain ⟨sD, fD, gD⟩ := s1.newU (o := .lst []) hD
  have gb : ∀ {Fc Hc : Hp} {γc : List Addr} {Sc : Sto}, Ext F1 H1 γ1 Fc Hc γc → SS X.K g Fc Hc γc Sc → GB F1 B Hc := fun e s => ⟨fun a o h => s.sub a o (e.f a o h), fun p hp => e.h _ _ (hB p hp).1 (fun ps z => by cases z) (hB p hp).2⟩
  refine ⟨fun i m Hc => m = its.length - i ∧ i ≤ its.length ∧ ∃ Fc γc Sc accd accv, Ext F1 H1 γ1 Fc Hc γc ∧ SS X.K g Fc Hc γc Sc ∧ Hc D = some (.lst accv) ∧ Fc D = none ∧ D ∉ γc ∧ Reps X.K g γc Fc accv accd ∧
    Fst X.K g F1 H1 γ1 (comps (fun x => asg gt x (wipes ρ own)) (ev wrd cal cond) (ev wrd cal elt) (its.drop i) accd Sc) Q (fun c dd H' => W c dd σ H'), ⟨its.length, by simp, Nat.zero_le _, F1, γ1, S1, [], [], Ext.refl.updNew (.of hD), sD, upd_same, fD, gD, .nil, q⟩, ?_⟩
  rintro i m Hc ⟨rfl, hi', Fc, γc, Sc, accd, accv, ec, sc, hDc, fDc, gDc, racc, qc⟩
  by_cases hlt : i < its.length
  · refine .inr ⟨wd.goes i Hc hlt (gb ec sc), fun Hn => ∃ Fc γc Sc accd accv, Ext F1 H1 γ1 Fc Hn γc ∧ SS X.K g Fc Hn γc Sc ∧ Hn D = some (.lst accv) ∧ Fc D = none ∧ D ∉ γc ∧ Reps X.K g γc Fc accv accd ∧
      Fst X.K g F1 H1 γ1 (comps (fun x => asg gt x (wipes ρ own)) (ev wrd cal cond) (ev wrd cal elt) (its.drop (i + 1)) accd Sc) Q (fun c dd H' => W c dd σ H'), fun H' h' => ⟨its.length - (i + 1), by omega, rfl, hlt, h'⟩, fun x Hy yl => ?_⟩
    obtain ⟨d, hd, hy⟩ := wd.yields i Hc x Hy hlt (gb ec sc) yl
    have hdrop : its.drop i = d :: its.drop (i + 1) := by
      obtain ⟨h1, h2⟩ := List.getElem?_eq_some_iff.mp hd
      rw [← h2]
      exact List.drop_eq_getElem_cons h1
    rw [hdrop] at qc
    simp only [comps] at qc
    -- the item, frozen
    have item : ∃ Fy, Ext Fc Hc γc Fy Hy γc ∧ SS X.K g Fy Hy γc Sc ∧ Rep X.K g γc Fy x d ∧ Hy D = some (.lst accv) ∧ Fy D = none := by
      rcases hy with ⟨rfl, hr⟩ | ⟨T, u, v, du, dv, rfl, nT, rfl, ru, rv, rfl⟩
      · exact ⟨Fc, .refl, sc, ec.rep hr, hDc, fDc⟩
      · have nDT : D ≠ T := ne_of_none hDc nT
        refine ⟨L2.upd Fc T (.tup [u, v]), Ext.new sc.sub nT, sc.new nT, .tup (.inl (.inl upd_same)) (reps_new sc nT (.cons (ec.rep ru) (.cons (ec.rep rv) .nil))), by rw [upd_ne nDT]; exact hDc, by rw [upd_ne nDT]; exact fDc⟩
    obtain ⟨Fy, ey, sy, ry, hDy, fDy⟩ := item
    cases hρ : asg gt d (wipes ρ own) with
    | none => rw [hρ] at qc; exact qc.elim
    | some ρ2 =>
      rw [hρ] at qc
      simp only at qc
      have er := ((r.ext e1).ext (ec.trans ey)).wipe own
      intro sg Hg Ca cl fp
      refine (Classical.choose_spec (hg sg Hg Ca cl fp)).2 H0 Fy Hy γc Sc _ _ x d ρ2 _ sy er ry hρ fun σ2 r2 w2 => ⟨?_, ?_⟩
      · rw [w2 own hown]
        exact wipe_wipe fun i hi => hi
      · intro st Ht Ct clt fpt
        refine (Classical.choose_spec (ht st Ht Ct clt fpt)).2 H0 Fy Hy γc Sc ρ2 σ2 _ sy r2 ?_
        cases hc : ev wrd cal cond ρ2 Sc with
        | bad => rw [hc] at qc; exact qc.elim
        | exc j S2 => rw [hc] at qc; exact qc.elim
        | ok b S2 =>
          rw [hc] at qc
          intro bb F3 H3 γ3 e3 s3 hb3
          cases hb3
          have eAll := ec.trans (ey.trans e3)
          have hD3 : H3 D = some (.lst accv) := e3.h _ _ hDy (fun ps z => by cases z) gDc
          have gD3 : D ∉ γ3 := e3.notIn hDy gDc
          have fD3 : F3 D = none := e3.fnone hDy fDy
          cases bb with
          | false =>
            refine iteF ⟨F3, γ3, S2, accd, accv, eAll, s3, hD3, fD3, gD3, (ey.trans e3).reps racc, qc⟩
          | true =>
            refine iteT ?_
            simp only at qc
            intro se He Ce cle fpe
            refine (Classical.choose_spec (he se He Ce cle fpe)).2 H0 F3 H3 γ3 S2 ρ2 σ2 _ s3 (r2.ext e3) ?_
            cases hv : ev wrd cal elt ρ2 S2 with
            | bad => rw [hv] at qc; exact qc.elim
            | exc j S3 => rw [hv] at qc; exact qc.elim
            | ok dv S3 =>
              rw [hv] at qc
              simp only at qc
              split at qc
              · rename_i hlen
                intro yv F4 H4 γ4 e4 s4 r4
                have hD4 : H4 D = some (.lst accv) := e4.h _ _ hD3 (fun ps z => by cases z) gD3
                have gD4 : D ∉ γ4 := e4.notIn hD3 gD3
                have fD4 : F4 D = none := e4.fnone hD3 fD3
                refine ⟨accv, hD4, ?_, F4, γ4, S3, accd ++ [dv], accv ++ [yv], (eAll.trans e4).updNew (.of hD), s4.upd hD4 fD4 gD4, upd_same, fD4, gD4, ?_, qc⟩
                · have := lenOk_le hlen
                  rw [racc.length]
                  omega
                · exact (((ey.trans e3).trans e4).reps racc).append (.cons r4 .nil)
              · exact qc.elim
  · have ei : i = its.length := by omega
    subst ei
    refine .inl ⟨wd.stops Hc (gb ec sc), ?_⟩
    rw [List.drop_length] at qc
    simp only [comps] at qc
    exact qc D accv _ _ _ ec sc (.of hD) hDc fDc gDc racc
end
end Pv

set_option maxHeartbeats 3200000
/-! PvS: set(xs), xs a list of ints; sorted of that. -/
namespace PvSet
open PySem PySem.Spec PyProof.Rows L2

section
variable {P : Program} {w : World} {A : Around} {E : Value → Shared → Prop} {s : Shared}
theorem fresh_set {h : Heap} {a : Addr} (ho : h.get? a = some { cls := .type "set", dict := none, data := .set #[] 0 (.fresh 0 0 (!w.params.followText "set-order")) }) : SetR w h a (fun _ => false) 0 := by
  refine ⟨_, #[], 0, _, ho, ⟨rfl, rfl, rfl⟩, rfl, (fun e he => by cases he), List.nodup_nil, (fun k => by simp), (by show 0 < 4096; decide), rfl, rfl, ?_, ?_⟩
  · exact List.Pairwise.nil
  · cases q : w.params.followText "set-order"
    · exact .inr rfl
    · exact .inl rfl
/-- the loop of set.update over ints -/
theorem upd_ints {I : Addr} {fp wr : List Addr} {G : Array GenState → Array GenState → Prop} {n : Nat} {Pv : Nat → Value → Prop} {St : Nat → Shared → Prop} {R : Result → Shared → Prop} (W : WalksS P w A.in1 I fp wr G n Pv St) (D : Addr) (hD : D ∉ fp) (ns : List Int)
    (hn : n = ns.length) (hfew : ns.length < 4000) (val : ∀ i v, Pv i v → ∃ k t, ns[i]? = some k ∧ v = .int k t) :
    ∀ (m i : Nat) (s : Shared) (S : Int → Bool) (c : Nat), n - i = m → i ≤ n → St i s → SetR w s.heap D S c → (∀ k, S k = (ns.take i).contains k) → c ≤ i →
      (∀ s2 S2 c2, Moved (D :: wr) G s s2 → SetR w s2.heap D S2 c2 → (∀ k, S2 k = ns.contains k) → c2 ≤ n → R (.ok (.ret .none)) s2) →
      codeAny (model P w) A (.builtin "set.update.loop" ⟨[.ref D, .ref I], []⟩) R s := by
  have Dw : D ∉ wr := fun z => hD (W.sub _ z)
  have more : ∀ b ∈ wr, b ∈ D :: wr := fun b z => List.mem_cons_of_mem _ z
  have kept : ∀ {s s2 : Shared} {S : Int → Bool} {c : Nat}, Moved wr G s s2 → SetR w s.heap D S c → SetR w s2.heap D S c := fun mv r => r.at fun o e => mv.heap D o Dw e
  intro m
  induction m with
  | zero =>
    intro i s S c hm hi sst r hS hc fin
    obtain rfl : i = n := by omega
    refine codeAny_builtin F.entry_set_update_loop ?_
    rw [Around.under_plainId F.plain_set_update_loop _]
    show wpAny _ A.in1 (pyNext (.ref I) >>= _) _ _ _
    refine wpAny_bind (W.done s _ _ sst fun s2 mv => ?_)
    show wpAny _ A.in1 (ret Value.none) _ _ s2
    exact wpAny_pure (fin s2 S c (mv.mono more) (kept mv r) (fun k => by rw [hS, hn, List.take_length]) hc)
  | succ m ih =>
    intro i s S c hm hi sst r hS hc fin
    have lt : i < n := by omega
    refine codeAny_builtin F.entry_set_update_loop ?_
    rw [Around.under_plainId F.plain_set_update_loop _]
    show wpAny _ A.in1 (pyNext (.ref I) >>= _) _ _ _
    refine wpAny_bind (W.item i s _ _ lt sst fun v s2 hP sst2 mv => ?_)
    obtain ⟨k, t, hk, rfl⟩ := val i v hP
    show wpAny _ A.in1 (holding [Value.int k t] (setAdd D (.int k t)) >>= _) _ _ s2
    refine wpAny_bind (wpAny_holding ?_)
    unfold setAdd
    refine wpAny_holding (wpAny_bind ((intKind P w).pyHash (intKind_is P w k t) ?_))
    refine setR_add_hashed (s := { s2 with toks := s2.toks + 1 }) (show SetR w s2.heap D S c from kept mv r) (by unfold scanBound; omega) fun h3 sb r3 => ?_
    have tk : ns.take (i + 1) = ns.take i ++ [k] := by rw [List.take_add_one, hk]; rfl
    refine wpAny_pure ⟨plainId_quiet F.plain_set_update_loop _, ih (i + 1) _ _ _ (by omega) lt (W.frame _ s2 _ _ sst2 (Nat.le_succ _) fun b hb o e => ?_) r3 (fun j => ?_) (by split <;> omega) fun s4 S4 c4 mv4 r4 hS4 hc4 => ?_⟩
    · rw [sb.2 b (fun z : b = D => hD (by rw [← z]; exact hb))]; exact e
    · rw [tk, hS j, List.contains_eq_any_beq, List.contains_eq_any_beq, List.any_append]
      simp
      by_cases z : j = k
      · simp [z]
      · simp [z, Ne.symm z]
    · refine fin s4 S4 c4 (Moved.trans W.gtrans ((mv.mono more).then_heap (Nat.le_succ _) fun b o hb e => ?_) mv4) r4 hS4 hc4
      rw [sb.2 b (fun z : b = D => hb (by rw [z]; exact List.mem_cons_self))]; exact e
/-- set(xs) -/
theorem call_set_ints {l : Addr} {items : Array Value} (ns : List Int) {Q : Value → Shared → Prop} (hh : A.handled = none) (hl : s.heap.IsList l items) (hit : IntsAre items.toList ns) (hfew : ns.length < 4000)
    (h : ∀ (h2 : Heap) (tk : Nat) (S : Int → Bool) (c : Nat), SetR w h2 s.heap.objs.size S c → (∀ k, S k = ns.contains k) → c ≤ ns.length → (∀ b o, s.heap.get? b = some o → h2.get? b = some o) → Q (.ref s.heap.objs.size) { s with heap := h2, toks := tk }) :
    wpAny (model P w) A (call (.type "set") [.ref l]) Q E s := by
  have isz : items.size = ns.length := by rw [← Array.length_toList]; exact hit.length
  obtain ⟨c, tl, hmro⟩ := F.called_set.mro
  have made := F.called_set.made
  have subd := F.called_set.sub
  refine wpAny_call (codeAny_of_tree ?_)
  show wpAny _ _ (callAny (.type "set") _) _ _ _
  refine wpAny_pure ⟨Code.quiet_builtin _ (by decide +kernel), codeAny_builtin F.entry_type_call ?_⟩
  rw [Around.under_plain (weight_type_call_type "set" [.ref l] []) rfl]
  have notT := F.called_set.notType
  have can := F.called_set.canCreate
  have tcl := F.typeCall_set_1 (.ref l)
  repeat (any_goals (first | assumption | wp_step))
  refine codeAny_mono (code_set_led1 (.ref l) (E := E) (Q₁ := fun obj s₁ => obj = .ref s.heap.objs.size ∧ s₁ = { s with heap := s.heap.push { cls := .type "set", dict := none, data := .set #[] 0 (.fresh 0 0 (!w.params.followText "set-order")) } }) ⟨rfl, rfl⟩) fun r s₁ hr => ?_
  cases r with
  | error e => exact hr
  | ok fl =>
    cases fl with
    | ret obj =>
      obtain ⟨rfl, rfl⟩ := hr
      have hS : (s.heap.push { cls := .type "set", dict := none, data := .set #[] 0 (.fresh 0 0 (!w.params.followText "set-order")) }).get? s.heap.objs.size = some { cls := .type "set", dict := none, data := .set #[] 0 (.fresh 0 0 (!w.params.followText "set-order")) } := Heap.get?_push_size _ rfl
      have hT : Shared.TypeIs { s with heap := s.heap.push { cls := .type "set", dict := none, data := .set #[] 0 (.fresh 0 0 (!w.params.followText "set-order")) } } (.ref s.heap.objs.size) "set" := ⟨_, hS, rfl⟩
      have hli := F.called_set.init.lookup
      have hbi := F.called_set.init.bind (.ref s.heap.objs.size)
      repeat (any_goals (first | assumption | wp_step))
      refine codeAny_mono (codeAny_call_builtin (R := wants (fun r s₂ => r = .none ∧ ∃ h2 tk S c, s₂ = { s with heap := h2, toks := tk } ∧ SetR w h2 s.heap.objs.size S c ∧ (∀ k, S k = ns.contains k) ∧ c ≤ ns.length ∧ (∀ b o, s.heap.get? b = some o → h2.get? b = some o)) E)
          F.called_set.init.plain F.entry_set_init (check_set_init_1 hT ?_)) fun r₂ s₂ hr₂ => ?_
      · obtain ⟨ol, hol, hcl, nl, hdl⟩ := hl
        obtain ⟨ocls, odict, odata, oslots⟩ := ol
        simp only at hcl hdl
        subst hcl; subst hdl
        have hol2 : (s.heap.push { cls := .type "set", dict := none, data := .set #[] 0 (.fresh 0 0 (!w.params.followText "set-order")) }).get? l = some { cls := .type "list", dict := odict, data := .seq items nl, slots := oslots } := Heap.get?_push_of_some _ hol
        have hsls := F.sub_list_set
        have hslf := F.sub_list_frozenset
        have hne : (Value.type "list" == Value.type "dict") = false := by decide
        have lst1 : (s.heap.push { cls := .type "set", dict := none, data := .set #[] 0 (.fresh 0 0 (!w.params.followText "set-order")) }).IsList l items := ⟨_, hol2, rfl, nl, rfl⟩
        unfold Builtin.«set.__init__» noKeywords Builtin.Frozenset.updateFrom
        generalize hPI : pyIter = PI
        wp_walk
        subst hPI
        refine wpAny_pyIter_list lst1 ?_
        refine wpAny_bind (wpAny_runValue ?_)
        have ltl : l < s.heap.objs.size := Heap.lt_size hol
        have hh3 : A.in1.in1.in1.handled = none := by simp [hh]
        have psz : (s.heap.push { cls := .type "set", dict := none, data := .set #[] 0 (.fresh 0 0 (!w.params.followText "set-order")) }).objs.size = s.heap.objs.size + 1 := Heap.size_push ..
        have neI : l ≠ (s.heap.push { cls := .type "set", dict := none, data := .set #[] 0 (.fresh 0 0 (!w.params.followText "set-order")) }).objs.size := by rw [psz]; exact Nat.ne_of_lt (Nat.lt_succ_of_lt ltl)
        have nmem : s.heap.objs.size ∉ [(s.heap.push { cls := .type "set", dict := none, data := .set #[] 0 (.fresh 0 0 (!w.params.followText "set-order")) }).objs.size, l] := by
          rw [psz]; simp only [List.mem_cons, List.mem_singleton, List.not_mem_nil, or_false, not_or]
          exact ⟨Nat.ne_of_lt (Nat.lt_succ_self _), Nat.ne_of_gt ltl⟩
        have val : ∀ (i : Nat) (v : Value), items[i]? = some v → ∃ k t, ns[i]? = some k ∧ v = .int k t := fun i v hv => by
          have q : items.toList[i]? = some v := by rw [Array.getElem?_toList]; exact hv
          obtain ⟨t, e⟩ := hit.int_at i v q
          have lt : i < ns.length := by rw [← isz]; exact (Array.getElem?_eq_some_iff.mp hv).1
          refine ⟨ns[i], t, by simp [lt], ?_⟩
          rw [e, List.getD_eq_getElem?_getD, List.getElem?_eq_getElem lt]
          rfl
        refine upd_ints ((Walks.list hh3 _ l neI items).toS) s.heap.objs.size nmem ns isz hfew val (items.size - 0) 0 _ (fun _ => false) 0 (by omega) (Nat.zero_le _)
          ⟨⟨_, Heap.get?_push_size _ rfl, rfl, rfl⟩, (lst1.push _)⟩ (fresh_set (Heap.get?_push_of_some _ hS)) (fun k => by simp) (Nat.le_refl _) ?fin
        case fin =>
          intro s3 S3 c3 mv r3 e3 le3
          obtain ⟨h3, g3, d3, tk3, os3⟩ := s3
          have eg : g3 = s.gens := mv.gens
          have ed : d3 = s.drawn := mv.drawn
          have eo : os3 = s.os := mv.os
          subst eg; subst ed; subst eo
          show wpAny _ _ _ _ _ _
          refine wpAny_pure ?_
          show wpAny _ _ (ret Value.none) _ _ _
          refine wpAny_pure ⟨rfl, h3, tk3, S3, c3, rfl, r3, e3, by rw [← isz]; exact le3, fun b o e => ?_⟩
          have lt := Heap.lt_size e
          refine mv.heap b o (fun z => ?_) (Heap.get?_push_of_some _ (Heap.get?_push_of_some _ e))
          rcases List.mem_cons.mp z with z | z
          · rw [z] at lt; exact Nat.lt_irrefl _ lt
          · have e2 := List.mem_singleton.mp z
            have e3 : b = s.heap.objs.size + 1 := e2.trans (Heap.size_push ..)
            rw [e3] at lt
            exact absurd lt (Nat.not_lt.mpr (Nat.le_succ _))
      · cases r₂ with
        | error e => exact hr₂
        | ok fl₂ =>
          cases fl₂ with
          | ret r =>
            obtain ⟨rfl, h2, tk, S, c, rfl, rS, eS, cS, kS⟩ := hr₂
            repeat (any_goals (first | assumption | wp_step))
            exact h _ _ _ _ rS eS cS kS
          | _ => exact hr₂.elim
    | _ => exact hr.elim
end
/-- set(xs), xs a list of ints -/
def rSetOfI (K : PySem.W.Frag) (w : World) : List V → Hp → VK → Prop := fun xs H Q => ∃ (l : Addr) (ns : List Int), xs = [V.ref l] ∧ SqL K H l (ns.map V.int) ∧ ns.length < 4000 ∧ ∀ a S c, H a = none → (∀ k, S k = ns.contains k) → c ≤ ns.length → Q (.ref a) (upd H a (SetO w a S c))
theorem cr_setOfI {X : Cx} (hc : X.calm = true) : CallR X (.type "set") (rSetOfI X.K X.w) := by
  intro pins s σ H xs us Q I r h
  obtain ⟨l, ns, rfl, hl, hf, q⟩ := h
  rw [Vals.ref1 r]
  obtain ⟨its, rv, pl, hz⟩ := I.list hl
  refine call_set_ints (P := X.prog) (w := X.w) ns (I.ok.hd hc) pl.isList (by simpa using RZ.intsAre_vals rv) hf fun h2 tk S c R eS cS k => ?_
  exact ⟨.ref s.heap.objs.size, upd H s.heap.objs.size (SetO X.w s.heap.objs.size S c), I.laid (t' := tk) k (Nat.le_refl _) (setO_new R), rfl, q _ S c (I.hok.fresh (Nat.le_refl _)) eS cS⟩
end PvSet

/-! PvT: sorted(set(xs)). -/
namespace Pv
open PySem PySem.Spec PyProof.Rows L2
section
variable {g : Gn} {wrd : Nat → Option Str} {cal : Nat → List D → Sto → Res D} {lv : Nat} {ck : Ck} {X : Cx} {W : WX}
theorem de_sset {a : E} {e : Expr} {p1 p2 p3 p4 : Pos} (C : CtxE g wrd cal ck lv X) (g1 : glB X.env.scope ("sorted" : Str) = true) (g2 : glB X.env.scope ("set" : Str) = true) (f1 : ck.fr.contains ("sorted" : Str) = true) (f2 : ck.fr.contains ("set" : Str) = true)
    (hst : isStar e = false) (ha : BE g wrd cal X W e a) : DE g wrd cal X W (.Call (.Name ("sorted" : Str) p1) [.Call (.Name ("set" : Str) p2) [e] [] p3] [] p4) (.sset a) := by
  obtain ⟨ta, pa, ka⟩ := ha
  have b1 : bootBuiltins ("sorted" : Str) = some (.builtin "sorted") := boot_blt .sorted
  have b2 : bootBuiltins ("set" : Str) = some (.type "set") := boot_blt .set
  have pset : PE X (.Call (.Name ("set" : Str) p2) [e] [] p3) (tCB (PvSet.rSetOfI X.K X.w) (tCons ta tNil)) :=
    pe_callTy (PvSet.cr_setOfI C.calm) (gl_of g2) (C.fr _ f2) b2 (pa_cons pa pa_nil (star_cons hst)) (by decide) (by decide) (star_cons hst) rfl
  refine ⟨_, pe_callB (cr_sortedSet C.calm) (gl_of g1) (C.fr _ f1) b1 (pa_cons pset pa_nil rfl) (by decide) (by decide) rfl rfl, fun H0 F H γ S ρ σ Q s r q => ?_⟩
  simp only [ev] at q
  refine ka H0 F H γ S ρ σ _ s r (Pst.bind q fun dx S1 v F1 H1 γ1 _ e1 s1 r1 q => ?_)
  split at q
  · rename_i ns hns
    obtain ⟨l, hl, hi⟩ := Option.bind_eq_some_iff.mp hns
    split at q
    · rename_i hlen
      have hlen : ns.length < 60 := of_decide_eq_true hlen
      obtain ⟨b, xs, rfl, hq, rr⟩ := Top.seqL s1 r1 hl
      have z := ints_of rr hi
      subst z
      refine ⟨b, ns, rfl, hq, by omega, fun c Sx n hc hS hn => ?_⟩
      obtain ⟨s2, _, _⟩ := s1.newU (o := SetO X.w c Sx n) hc
      have e2 : Ext F1 H1 γ1 F1 (L2.upd H1 c (SetO X.w c Sx n)) γ1 := Ext.refl.updNew (.of hc)
      refine ⟨c, Sx, n, rfl, upd_same, by omega, fun ms p hpw hmem hlen2 hp => ?_⟩
      have em : ms = ssort ns := pw_ext hpw (ssort_pw ns) fun k => by rw [hmem, hS, ssort_mem]; simp
      subst em
      exact VP.lst (S := S1) (fun v F' H' γ' e s r => q v F' H' γ' (e2.trans e) s r) s2 (Reps.ints _) p hp
    · exact q.elim
  · exact q.elim
end
end Pv

/-! PvL: x(lambda: body), x the def that names the error that its callee raises. -/
namespace Pv
open PySem PySem.Spec PyProof.Rows L2

/-- the context of the lambda's body; exceptions told with what they follow -/
def lamN (X : Cx) (A : Around) (outer : List PySem.Env) (s : Shared) (H : Hp) (E : XK) (scope : Scope) (f c' : Addr) : Cx :=
  (LamX.lamCx X A outer s H E scope f c').wish fun e s' => wpAny (model X.prog X.w) (A.deeper (LamX.lamEnv X scope s.heap.objs.size f c')) (leaving (LamX.lamEnv X scope s.heap.objs.size f c') e) (fun _ s'' => L2N.CX X.prog X.w outer H s E e s'') (fun e' s'' => L2N.CX X.prog X.w outer H s E e' s'') s'
theorem lamN_takes {X : Cx} {A : Around} {outer : List PySem.Env} {s : Shared} {H : Hp} {E : XK} {scope : Scope} {f c' : Addr} : L2N.Takes (lamN X A outer s H E scope f c') (fun cls d _ H => E cls d H) :=
  L2N.takes_of (X := lamN X A outer s H E scope f c') rfl rfl rfl rfl
section
variable {X : Cx} {pins : List (Addr × Obj)} {σ : L2.St} {H : Hp} {s : Shared}
/-- a(), in the def that got the lambda -/
theorem pe_actN {Ng : List Str} {qg : Str} {sg : Scope} {g f c' : Addr} {cdg pm ctv : Value} {params : Arguments} {body : Expr} {scope : Scope} {k i : Nat} {a : Str} {pn : List (Addr × Obj)} {xe : Value → Shared → Prop} {W : WX} {tb : XK → TE} {p1 p2 : Pos}
    (I : Inv X pins σ H s) (L : LamX.LamS X.env.scope scope) (hf : s.heap.get? f = some (PySem.W.kla_obj "<lambda>" (X.env.qual ++ "<lambda>") params body scope (cloFrom X.env.cells scope.names []) pm c' ctv)) (hfn : H f = none) (hfr : f ∉ frs X.stack)
    (hbind : bindArgs (PySem.W.kla_fn "<lambda>" (X.env.qual ++ "<lambda>") params body scope (cloFrom X.env.cells scope.names []) pm (.ref c') ctv) ⟨[], []⟩ = pure [])
    (tk : L2N.Takes ((cxOf C8.CX0 X.prog X.w X.K X.mg X.base Ng qg sg g cdg X.A X.stack s H C8.E0).tr pn xe) W) (hr : Room (k + 1) (X.A.deeper (envOfC qg sg s.heap.objs.size g cdg)))
    (hbody : ∀ (A : Around) (outer : List PySem.Env) (s : Shared) (H : Hp) (E : XK), Room k (A.deeper (LamX.lamEnv X scope s.heap.objs.size f c')) → PE (lamN X A outer s H E scope f c') body (tb E))
    (hN : Ng[i]? = some a) (hv : Vis sg a) (hd : (a == ("__debug__" : Str)) = false) (hcd : (a == ("__classdict__" : Str)) = false) :
    PE ((cxOf C8.CX0 X.prog X.w X.K X.mg X.base Ng qg sg g cdg X.A X.stack s H C8.E0).tr pn xe) (.Call (.Name a p1) [] [] p2)
      (fun σZ HZ Q => σZ[i]? = some (some (.ref f)) ∧ HZ c' = some (LamX.CodeO c' (X.env.qual ++ "<lambda>")) ∧ tb (fun cls d H' => W cls d σZ H') σ HZ Q) := by
  refine ⟨fun pinsZ sZ σZ HZ Q IZ ⟨hs, hc, ht⟩ => ?_⟩
  refine wpAny_Call_Name_kw (thn ((pe_var (pos := p1) hN hv hd hcd).run pinsZ sZ σZ HZ (fun v H1 => v = .ref f ∧ H1 = HZ) IZ ⟨.ref f, hs, rfl, rfl⟩) fun u s1 ⟨v, H1, I1, r1, ev, eH⟩ => ?_)
  subst ev
  rw [eH] at I1
  obtain rfl : u = Value.ref f := r1
  have fat : s1.heap.get? f = some (PySem.W.kla_obj "<lambda>" (X.env.qual ++ "<lambda>") params body scope (cloFrom X.env.cells scope.names []) pm c' ctv) := I1.base.keep f _ hf hfn hfr (fun z => nomatch (show f ∈ ([] : List Addr) from z))
  refine PySem.W.callWith_F0 ⟨_, _, _, _, fat⟩ ?_
  have unb : Un (frs X.stack) [] H HZ s.heap s1.heap := I1.base
  obtain ⟨⟨oc, vs, t, g1, g2, g3⟩, _, _⟩ := I1.hok c' _ hc
  have run : codeAny (model X.prog X.w) (X.A.deeper (envOfC qg sg s.heap.objs.size g cdg)) (.call (.ref f) ⟨[], []⟩) (CR (L2N.CX X.prog X.w) (envOfC qg sg s.heap.objs.size g cdg :: X.stack) X.prog X.w HZ s1 Q (fun cls d H' => W cls d σZ H')) s1 := by
    refine PySem.W.kla_callFunE hr.depth fat rfl L.co L.gen rfl ⟨c', oc, vs, t, rfl, g1, g2, g3⟩ ?_
    rw [hbind]
    refine wpAny_pure (wpAny_newFunctionEnv (fun y hy => (L.own y hy).2) (fun y hy => absurd hy (by simp)) (fun hA hns hsb => ⟨I1.nolimit.fresh _ hsb, ?_⟩) L.kind)
    show codeAny _ _ (.expr body (LamX.lamEnv X scope s1.heap.objs.size f c')) _ _
    have keep : ∀ b o, s1.heap.get? b = some o → hA.get? b = some o := fun b o e => hsb.extBut b o (Nat.ne_of_lt (Heap.lt_size e)) (Heap.get?_push_of_some _ e)
    have J0 := LamX.lam_start2 (E := fun cls d H' => W cls d σZ H') (f := f) (c' := c') (tk := s1.toks + ([] : List (Str × Value)).length) I L I1.env0 hr.hd unb hns keep
    have J : Inv (lamN X (X.A.deeper (envOfC qg sg s.heap.objs.size g cdg)) (envOfC qg sg s.heap.objs.size g cdg :: X.stack) s1 HZ (fun cls d H' => W cls d σZ H') scope f c') [] σ HZ { s1 with heap := hA, toks := s1.toks + ([] : List (Str × Value)).length } := J0.wish _
    refine PySem.W.kla_codeExpr (wpAny_mono ((hbody _ _ s1 HZ _ (hr.deeper _)).run [] _ _ HZ Q J ht) (fun v s' ⟨w', H', J', rv, q⟩ => ?_) fun e s' hq => hq)
    exact ⟨w', H', J'.os, J'.bare, J'.base, J'.hok, rv, q⟩
  refine wpAny_call (codeAny_mono run fun r s' hq => ?_)
  cases r with
  | error e => exact L2N.passAt tk σZ pinsZ HZ s1 e s' I1 hq
  | ok fl =>
    cases fl with
    | ret u => exact I1.after hq
    | next => exact False.elim hq
    | brk => exact False.elim hq
    | cont => exact False.elim hq
end
theorem nwExtN {F H H1 : Hp} {γ : List Addr} (eN : LamX.ExtN H H1) : Ext F H γ F H1 γ :=
  ⟨fun _ _ h => h, ⟨[], by simp, fun _ h => by simp at h⟩, fun a o h n _ => eN a o h n, fun a h o ho => by
    by_cases hn : ∃ ps, o = .tbl ps
    · exact hn
    · exact h o (eN a o ho fun ps z => hn ⟨ps, z⟩), fun a h => .inl h⟩
theorem SS.extN {K : PySem.W.Frag} {g : Gn} {F H H1 : Hp} {γ : List Addr} {S : Sto} (s : SS K g F H γ S) (eN : LamX.ExtN H H1) (T1 : LamX.Tabs g.T H1) : SS K g F H1 γ S :=
  ⟨fun a o h => eN a o (s.sub a o h) (fun ps z => s.nt a ps (by rw [← z]; exact h)), s.len, fun k l h => by
    obtain ⟨a, xs, b1, b2, b3⟩ := s.cell k l h
    exact ⟨a, xs, b1, eN _ _ b2 (by intro ps z; cases z), b3⟩, s.nd, s.fr, T1, s.nt⟩
section
variable {g : Gn} {wrd : Nat → Option Str} {cal : Nat → List D → Sto → Res D} {lv : Nat} {ck : Ck} {X : Cx} {W : WX}
/-- the suite's reading: what the error's def is asked -/
def tErr (K : PySem.W.Frag) (g : Gn) (wrd : Nat → Option Str) (i : Nat) (a : Addr) (cls : Value) (d : Option Addr) : TS := tRet fun σ H Q => σ[i]? = some (some (.ref a)) ∧ ∃ k w, wrd k = some w ∧ cls = .ref (g.ca k) ∧ d = none ∧
  ∃ F γ S, SS K g F H γ S ∧ ∀ F' H' γ', Ext F H γ F' H' γ' → SS K g F' H' γ' S → Q (.str w) H'
theorem err_suite {Z : Cx} {e er : Str} {i : Nat} {p5 p6 p7 p8 : Pos} {f : Addr} {fd : FuncData} {prm : Str} (hr : L2H.RoomH 1 Z.A) (hN : Z.N[i]? = some e) (hle : locB Z.env.scope e = true) (pe : plainName e = true) (hg : glB Z.env.scope er = true) (pr : plainName er = true)
    (Fx : FnX Z.prog Z.w Z.K Z.mg Z.base 1 f fd [prm] (spX Z.K g wrd)) (hb : Binds Z.K fd [prm] []) (hm : Z.mg er = some (.ref f)) (kp : PySem.W.keepIn Z.K (.ref f) = true)
    (a : Addr) (oe : Obj) (cls : Value) (d : Option Addr) (pn : List (Addr × Obj)) (hz : L2N.Zn cls d oe) (hf : ∃ vs, oe.data = .fields vs) :
    PSs (Z.suite a ((a, oe) :: pn)) [.Return (some (.Call (.Name er p5) [.Name e p6] [] p7)) p8] (tErr Z.K g wrd i a cls d) := by
  have hot : L2H.Hot1 (Z.suite a ((a, oe) :: pn)).A (a, oe) := by
    obtain ⟨vs, hv⟩ := hf
    exact ⟨rfl, vs, hv, hz.2.2 vs hv⟩
  obtain ⟨n1, n2, _⟩ := plainName_of pe
  have h := pe_callX (X := Z.suite a ((a, oe) :: pn)) (i := i) (q := p5) (q2 := p6) (pos := p7) Fx ⟨hr.dp, hr.un⟩ hot List.mem_cons_self hb (gl_of hg) hm kp (plainName_of pr).1 (pe_var hN (.inl (loc_of hle)) n1 n2)
  refine pss_one (ps_ret (Pv.PE.mono h fun σ H Q hq => ?_))
  obtain ⟨h1, k, w, h2, h3, h4, h5⟩ := hq
  exact ⟨.ref a, h1, rfl, hf, k, w, h2, by rw [h3, h4] at hz; exact hz.zc, h5⟩
theorem de_refused {m : E} {x : Str} {params : Arguments} {body : Expr} {scope : Scope} {p lpos pos : Pos} (C : CtxE g wrd cal ck lv X) (hx : ck.rf = some x) (hg : glB X.env.scope x = true) (hpn : plainName x = true) (hpar : noPar params = true) (hL : LamX.lamSB X.env.scope scope = true)
    (hm : ∀ (X' : Cx) (W' : WX), X'.N = X.N → X'.K = X.K → X'.env.scope = scope → CtxE g wrd cal ck.noRf lv X' → L2N.Takes X' W' → DE g wrd cal X' W' body m) :
    DE g wrd cal X W (.Call (.Name x p) [.Lambda params body scope lpos] [] pos) (.refused m) := by
  obtain rfl := noPar_eq hpar
  obtain ⟨hroom, ⟨c0, P, TB, hcode, hmT, hu⟩, R⟩ := C.rf x hx
  obtain ⟨G, name, qual, pg, sg, dV, kV, doc, pm, cdv, ct, oc, an, od, osl, a, e, ec, er, j, p1, p2, p3, p4, p5, p6, p7, p8, p9, pa, pb, pc, c, f0, fd, prm, k1, k2, lk, hcg, hb, Sg, la, le, pna, pne, gec, pnec, ger, pner, mec, hexm, Fx, hbx, mer, kper⟩ := R.ex
  have L := LamX.lamS_by hL
  refine ⟨fun σ H Q => ∃ H0 F γ S ρ, SS X.K g F H γ S ∧ ER X.K g H0 F H γ ρ σ ∧ Pst X.K g (RR X.K g) F H γ (ev wrd cal (.refused m) ρ S) Q (fun c dd H' => W c dd σ H'), ⟨fun pins s σ H Q I ⟨H0, F, γ, S, ρ, s0, r0, q⟩ => ?_⟩, fun H0 F H γ S ρ σ Q s r q => ⟨H0, F, γ, S, ρ, s, r, q⟩⟩
  refine wpAny_Call_Name_kw (ld_glob I (gl_of hg) k1 ?_ (plainName_of hpn).1)
  refine PySem.W.callWith_K (h₀ := X.base) I.ok.mod.kin k2 ?_ (by rfl) (by rfl)
  show wpAny _ _ (spliced ((false, eval (.Lambda ⟨[], [], none, [], [], none, []⟩ body scope lpos) X.env) :: backTo pos (starEach [] X.env))) _ _ s
  refine Calls.spliced_cons (LamX.lam_make2 I TB hcode hmT hu s0.tabs rfl (L.has I.ok) fun f c' pm' ctv H1 s' I1 eN T1 hf hfn hfr hco => Calls.spliced_nil ⟨I1.kIn, ?_⟩)
  have e1 : Ext F H γ F H1 γ := nwExtN eN
  have s1 := s0.extN eN T1
  have r1 := r0.ext e1
  have ctx : ∀ (A : Around) (outer : List PySem.Env) (s : Shared) (H : Hp) (E : XK), Room lv (A.deeper (LamX.lamEnv X scope s.heap.objs.size f c')) → CtxE g wrd cal ck.noRf lv (lamN X A outer s H E scope f c') := fun A outer s H E hr =>
    ⟨C.nd, rfl, hr, C.gl, C.fr, C.fns, fun x h => by cases h⟩
  have rc : codeAny (model X.prog X.w) X.A (.call (.ref G) ⟨[.ref f], []⟩) (CR C8.CX0 X.stack X.prog X.w H1 s' Q C8.E0) s' := by
    refine LamX.run_ofS (N := [a, e]) (ps := [a]) (us := [.ref f]) (vs := [.ref f]) lk hcg Sg hroom I1.env0 (hb s' [.ref f] I1.kIn rfl) (.cons rfl .nil) rfl fun hr' => ?_
    generalize hts : tErr X.K g wrd 1 = ts
    let TB0 : XK → TE := fun E σ H Q => ∀ (A : Around) (outer : List PySem.Env) (s : Shared) (H' : Hp) (hr : Room lv (A.deeper (LamX.lamEnv X scope s.heap.objs.size f c'))), Classical.choose (hm (lamN X A outer s H' E scope f c') (fun cls d _ H => E cls d H) rfl rfl rfl (ctx A outer s H' E hr) lamN_takes) σ H Q
    obtain ⟨na1, na2, _⟩ := plainName_of pna
    refine ⟨_, pss_cons (L2N.ps_try_as (X := cxOf C8.CX0 X.prog X.w X.K X.mg X.base [a, e] qual sg G cdv X.A X.stack s' H1 C8.E0) (i := 1) (c := c) (Wout := fun _ _ _ _ => False) (ts := ts)
        (tb := fun W => tDrop fun σZ HZ Q => σZ[0]? = some (some (.ref f)) ∧ HZ c' = some (LamX.CodeO c' (X.env.qual ++ "<lambda>")) ∧ TB0 (fun cls d H' => W cls d σZ H') σ HZ Q)
        rfl rfl Sg.nd rfl (loc_of le) ⟨gl_of gec, (plainName_of pnec).1, .inl mec⟩ (fun _ _ x => by
          obtain ⟨_, _, _, _, _, _, _, _, _, _, _, _, _, _, _, _, z⟩ := x
          exact z.elim)
        (fun W pn xe tk _ => pss_one (ps_expr (pe_actN (i := 0) (tb := TB0) I1 L hf hfn hfr rfl tk hr' (fun A outer s H E hr => ⟨fun pins s2 σ2 H2 Q2 J h => (Classical.choose_spec (hm (lamN X A outer s H E scope f c') (fun cls d _ H => E cls d H) rfl rfl rfl (ctx A outer s H E hr) lamN_takes)).1.run pins s2 σ2 H2 Q2 J (h A outer s H hr)⟩) rfl (.inl (loc_of la)) na1 na2) rfl))
        (fun a' oe cls d pn hz hf' => by
          rw [← hts]
          exact err_suite (Z := cxOf C8.CX0 X.prog X.w X.K X.mg X.base [a, e] qual sg G cdv X.A X.stack s' H1 C8.E0) (L2H.roomH_of (hr'.mono (by omega))) rfl le pne ger pner Fx hbx mer kper a' oe cls d pn hz hf')) (pss_one (ps_ret pe_str)), ?_⟩
    refine ⟨rfl, hco, fun A outer s2 H2 hr => ?_⟩
    refine (Classical.choose_spec (hm (lamN X A outer s2 H2 _ scope f c') _ rfl rfl rfl (ctx A outer s2 H2 _ hr) lamN_takes)).2 H0 F H1 γ S ρ σ _ s1 r1 ?_
    revert q
    simp only [ev]
    cases ev wrd cal m ρ S with
    | ok d S1 => exact fun q b F' H' γ' e' s' _ => q _ _ _ _ (e1.trans e') s' (.str _)
    | exc k S1 =>
      intro q F' H' γ' e' s'
      simp only at q
      split at q
      · rename_i w hw
        refine ⟨true, hexm k w hw, fun _ a' ha' => ?_, fun z => by cases z⟩
        rw [← hts]
        exact ⟨rfl, k, w, hw, rfl, rfl, F', γ', S1, s', fun F2 H2 γ2 e2 s2 => q _ _ _ _ ((e1.trans e').trans e2) s2 (.str _)⟩
      · exact q.elim
    | bad => exact fun q => q.elim
  refine wpAny_call (codeAny_mono rc fun r s2 hq => ?_)
  cases r with
  | error e => exact (show False from hq).elim
  | ok fl =>
    cases fl with
    | ret u => exact I1.after hq
    | next => exact False.elim hq
    | brk => exact False.elim hq
    | cont => exact False.elim hq
end
end Pv

set_option maxHeartbeats 1000000
/-! PvZ: list(zip(xs, ys)), both lists. -/
namespace PvZip
open PySem PySem.Spec PyProof.Rows L2
theorem no_len : typeLookup (.type "zip") "__len__" = pure none := by rw [typeLookup_type, builtinLookup_eq_fast]; kernel_rfl
theorem no_hint : typeLookup (.type "zip") "__length_hint__" = pure none := by rw [typeLookup_type, builtinLookup_eq_fast]; kernel_rfl
section
variable {prog : Program} {w : World} {A : Around} {E : Value → Shared → Prop} {s : Shared}
theorem hint {r : Addr} {Q : Bool → Shared → Prop} (hT : s.TypeIs (.ref r) "zip") (h : Q true s) : wpAny (model prog w) A (Builtin.List.listLengthHint (.ref r)) Q E s := by
  unfold Builtin.List.listLengthHint
  refine wpAny_bind (wpAny_specialOf hT no_len ?_)
  wp_delta
  refine wpAny_bind (wpAny_specialOf hT no_hint ?_)
  exact wpAny_pure h
end
/-- how the zip stands after i turns -/
structure ZSt (H : Hp) (h : Heap) (z TI TO i1 i2 a b : Addr) (i : Nat) : Prop where
  zp : (IsZip h z TI TO .none ∧ ∃ x y, IsPair h TO x y) ∨ ∃ T f vs, PySem.IsZipHeld h z TI TO T f ∧ H T = some (.tup vs)
  ti : IsPair h TI (.ref i1) (.ref i2)
  l1 : h.IsListIter i1 a i
  l2 : h.IsListIter i2 b i
  tl : TO < h.objs.size
section
variable {X : Cx} {pins : List (Addr × Obj)} {σ : L2.St} {z TI TO i1 i2 a b S : Addr} {xs ys : List V} {n : Nat}
/-- the loop that fills the list -/
theorem fill {R : Result → Shared → Prop} {A : Around} (hh : A.handled = none) (D : ZipApart z TI TO i1 i2 a b) (Pk : Nat → Hp → List V → Prop) (hn : n = min xs.length ys.length) (hz : n ≤ sizeLine)
    (hq : ∀ i Hc vs, Pk i Hc vs → SqL X.K Hc a xs ∧ SqL X.K Hc b ys)
    (stp : ∀ i Hc vs T x y, i < n → Pk i Hc vs → Hc S = some (.lst vs) → Hc T = none → xs[i]? = some x → ys[i]? = some y → Pk (i + 1) (upd (upd Hc T (.tup [x, y])) S (.lst (vs ++ [.ref T]))) (vs ++ [.ref T]))
    (fin : ∀ s2 Hc vs, Inv X pins σ Hc s2 → Pk n Hc vs → Hc S = some (.lst vs) → R (.ok (.ret .none)) s2) :
    ∀ (m i : Nat) (s : Shared) (Hc : Hp) (vs : List V), n - i = m → i ≤ n → Inv X pins σ Hc s → Pk i Hc vs → Hc S = some (.lst vs) → vs.length = i → ZSt Hc s.heap z TI TO i1 i2 a b i → (∀ c ∈ [z, TI, TO, i1, i2], FpOk X pins Hc c) →
      codeAny (model X.prog X.w) A (.builtin "list.extend.loop" ⟨[.ref S, .ref z, .none], []⟩) R s := by
  have hh1 : A.in1.handled = none := hh
  intro m
  induction m with
  | zero =>
    intro i s Hc vs hm hi I hP hS hl Z hf
    obtain rfl : i = n := by omega
    obtain ⟨q1, q2⟩ := hq _ _ _ hP
    obtain ⟨its, rv, p1, _⟩ := I.list q1
    obtain ⟨its2, rv2, p2, _⟩ := I.list q2
    have len1 := rv.length
    have len2 := rv2.length
    have hend : its.toArray[i]? = none ∨ its2.toArray[i]? = none := by
      rcases Nat.le_total xs.length ys.length with k | k
      · left; simp; omega
      · right; simp; omega
    refine codeAny_builtin PySem.F.entry_extend_loop ?_
    rw [Around.under_plainId PySem.F.plain_extend_loop _]
    show wpAny _ A.in1 (pyNext (.ref z) >>= _) _ _ _
    have last : ∀ h2 : Heap, (∀ c o, c ≠ z → c ≠ TO → c ≠ i1 → c ≠ i2 → s.heap.get? c = some o → h2.get? c = some o) → Inv X pins σ Hc { s with heap := h2 } := fun h2 k =>
      I.turnedL (t' := s.toks) (ch := [z, TI, TO, i1, i2]) (fun c o hb q => k c o (fun e => hb (by simp [e])) (fun e => hb (by simp [e])) (fun e => hb (by simp [e])) (fun e => hb (by simp [e])) q) hf
    rcases Z.zp with ⟨hz0, x0, y0, hTO⟩ | ⟨T, f, ws, hz0, hT⟩
    · exact wpAny_bind (wpAny_pyNext_zip_end hh1 D hz0 Z.ti hTO Z.l1 Z.l2 p1.isList p2.isList hend fun h2 k => wpAny_pure (fin _ Hc vs (last h2 k) hP hS))
    · obtain ⟨_, ws', _, ⟨oT, gT, _⟩⟩ := I.hok T _ hT
      exact wpAny_bind (wpAny_pyNext_zip_end_held hh1 D hz0 gT Z.ti Z.l1 Z.l2 p1.isList p2.isList hend fun h2 k => wpAny_pure (fin _ Hc vs (last h2 fun c o e1 _ e3 e4 q => k c o e1 e3 e4 q) hP hS))
  | succ m ih =>
    intro i s Hc vs hm hi I hP hS hl Z hf
    have lt : i < n := by omega
    obtain ⟨q1, q2⟩ := hq _ _ _ hP
    obtain ⟨its, rv, p1, _⟩ := I.list q1
    obtain ⟨its2, rv2, p2, _⟩ := I.list q2
    have lt1 : i < xs.length := by omega
    have lt2 : i < ys.length := by omega
    obtain ⟨u, hu, ru⟩ := rv.get (show xs[i]? = some xs[i] by simp [lt1])
    obtain ⟨u2, hu2, ru2⟩ := rv2.get (show ys[i]? = some ys[i] by simp [lt2])
    refine codeAny_builtin PySem.F.entry_extend_loop ?_
    rw [Around.under_plainId PySem.F.plain_extend_loop _]
    show wpAny _ A.in1 (pyNext (.ref z) >>= _) _ _ _
    have zl : z < s.heap.objs.size := by
      rcases Z.zp with ⟨hz0, _⟩ | ⟨T, f, ws, hz0, _⟩ <;> exact Heap.lt_size hz0
    have fpl : ∀ c ∈ [z, TI, TO, i1, i2], c ≠ TO → c < s.heap.objs.size := fun c hc nTO => by
      have e : c = z ∨ c = TI ∨ c = TO ∨ c = i1 ∨ c = i2 := by simpa using hc
      rcases e with e | e | e | e | e
      · rw [e]; exact zl
      · rw [e]; exact Heap.lt_size Z.ti
      · exact (nTO e).elim
      · rw [e]; obtain ⟨o, g, _⟩ := Z.l1; exact Heap.lt_size g
      · rw [e]; obtain ⟨o, g, _⟩ := Z.l2; exact Heap.lt_size g
    -- what every turn does
    have turn : ∀ (h2 : Heap) (f : Bool) (Th : Addr), (Th = s.heap.objs.size ∨ ∃ ws, Hc Th = some (.tup ws)) → PySem.IsZipHeld h2 z TI TO Th f → h2.IsListIter i1 a (i + 1) → h2.IsListIter i2 b (i + 1) → IsPair h2 s.heap.objs.size u u2 → IsPair h2 TI (.ref i1) (.ref i2) → TO ≠ s.heap.objs.size → h2.objs.size = s.heap.objs.size + 1 →
        (∀ c o, c ≠ z → c ≠ TO → c ≠ i1 → c ≠ i2 → s.heap.get? c = some o → h2.get? c = some o) →
        wpAny (model X.prog X.w) A.in1 ((fun v => updateSeq S (·.push v) >>= fun _ => again (.builtin "list.extend.loop" ⟨[.ref S, .ref z, .none], []⟩)) (.ref s.heap.objs.size)) (fun fin s' => match fin with
          | .done f => R (.ok f) s'
          | .again c' => c'.quiet = true ∧ codeAny (model X.prog X.w) A c' R s') (fun e s' => R (.error e) s') { s with heap := h2 } := fun h2 f Th hTh z2 a1 a2 hT hTI nTO hsz k => by
      have new : ObjOk X.prog X.w (upd Hc s.heap.objs.size (.tup [xs[i], ys[i]])) h2 s.heap.objs.size (.tup [xs[i], ys[i]]) :=
        ⟨by show 2 ≤ sizeLine; decide, [u, u2], .cons ru (.cons ru2 .nil), ⟨_, hT, rfl, _, rfl⟩⟩
      have nS : S ≠ s.heap.objs.size := ne_of_none hS (I.hok.fresh (Nat.le_refl _))
      have I1 : Inv X pins σ (upd Hc s.heap.objs.size (.tup [xs[i], ys[i]])) { s with heap := h2 } :=
        I.turnedNew (t' := s.toks) (ch := [z, TI, TO, i1, i2]) (fun c o hb q => k c o (fun e => hb (by simp [e])) (fun e => hb (by simp [e])) (fun e => hb (by simp [e])) (fun e => hb (by simp [e])) q) hf (Nat.le_refl _) new
      have hS1 : upd Hc s.heap.objs.size (.tup [xs[i], ys[i]]) S = some (.lst vs) := by rw [upd_ne nS]; exact hS
      obtain ⟨hz1, il, nl, rl, ll, gl⟩ := I1.lstM hS1
      have gl : h2.get? S = some { cls := .type "list", data := .seq il.toArray nl } := gl
      have I2 : Inv X pins σ (upd (upd Hc s.heap.objs.size (.tup [xs[i], ys[i]])) S (.lst (vs ++ [.ref s.heap.objs.size]))) { s with heap := h2.update S (Obj.mapSeq (·.push (.ref s.heap.objs.size))) } :=
        I1.lset (its' := il ++ [.ref s.heap.objs.size]) (t' := s.toks) hS1 gl (by simp) (rl.append (.cons (show L2.RelV (V.ref s.heap.objs.size) (Value.ref s.heap.objs.size) from rfl) .nil)) (by rw [List.length_append, List.length_singleton]; omega)
      have kS : ∀ c o, c ≠ S → h2.get? c = some o → (h2.update S (Obj.mapSeq (·.push (Value.ref s.heap.objs.size)))).get? c = some o := fun c o hc q => (Heap.get?_update_other _ _ (Ne.symm hc)).trans q
      have fS : ∀ c ∈ [z, TI, TO, i1, i2], c ≠ S := fun c hc e => by
        have q := (hf c hc).1
        rw [e, hS] at q
        cases q
      have fS2 : ∀ c ∈ [z, TI, TO, i1, i2], FpOk X pins (upd (upd Hc s.heap.objs.size (.tup [xs[i], ys[i]])) S (.lst (vs ++ [.ref s.heap.objs.size]))) c := fun c hc => by
        refine ⟨?_, (hf c hc).2⟩
        rw [upd_ne (fS c hc), upd_ne]
        · exact (hf c hc).1
        · by_cases e : c = TO
          · rw [e]; exact nTO
          · exact Nat.ne_of_lt (fpl c hc e)
      have held : ∃ ws, upd (upd Hc s.heap.objs.size (.tup [xs[i], ys[i]])) S (.lst (vs ++ [.ref s.heap.objs.size])) Th = some (.tup ws) := by
        rcases hTh with e | ⟨ws, e⟩
        · rw [e, upd_ne (Ne.symm nS), upd_same]; exact ⟨_, rfl⟩
        · have n1 : Th ≠ S := fun z => by rw [z, hS] at e; cases e
          rw [upd_ne n1, upd_ne (ne_of_none e (I.hok.fresh (Nat.le_refl _)))]
          exact ⟨ws, e⟩
      refine wpAny_bind (wpAny_updateSeq gl rfl (wpAny_pure ⟨plainId_quiet PySem.F.plain_extend_loop _, ih (i + 1) _ _ _ (by omega) lt I2 (stp i Hc vs _ _ _ lt hP hS (I.hok.fresh (Nat.le_refl _)) (by simp [lt1]) (by simp [lt2])) upd_same (by simp [hl]) ⟨.inr ⟨Th, f, held.choose, kS _ _ (fS z (by simp)) z2, held.choose_spec⟩, kS _ _ (fS TI (by simp)) hTI, a1.at fun o q => kS _ _ (fS i1 (by simp)) q, a2.at fun o q => kS _ _ (fS i2 (by simp)) q, by
        have e : (h2.update S (Obj.mapSeq (·.push (Value.ref s.heap.objs.size)))).objs.size = h2.objs.size := (Heap.SameBut.update ..).1
        show TO < (h2.update S (Obj.mapSeq (·.push (Value.ref s.heap.objs.size)))).objs.size
        rw [e, hsz]; exact Nat.lt_succ_of_lt Z.tl⟩ fS2⟩) ?_ ?_)
      · rw [List.size_toArray, ← ll]; omega
      · show (il.toArray.push _).size ≤ sizeLine + 1
        rw [Array.size_push, List.size_toArray, ← ll]; omega
    rcases Z.zp with ⟨hz0, x0, y0, hTO⟩ | ⟨T, f, ws, hz0, hT⟩
    · exact wpAny_bind (wpAny_pyNext_zip_item D hz0 Z.ti hTO Z.l1 Z.l2 p1.isList p2.isList (by simpa using hu) (by simpa using hu2) fun h2 z2 t2 a1 a2 hT hsz k => turn h2 false _ (.inl rfl) z2 a1 a2 hT (k _ _ D.TIz D.TITO D.TIi1 D.TIi2 Z.ti) (Nat.ne_of_lt Z.tl) hsz k)
    · obtain ⟨_, ws', _, ⟨oT, gT, _⟩⟩ := I.hok T _ hT
      exact wpAny_bind (wpAny_pyNext_zip_item_held D hz0 gT Z.ti Z.l1 Z.l2 p1.isList p2.isList (by simpa using hu) (by simpa using hu2) fun h2 z2 a1 a2 hT2 hsz k => turn h2 true _ (.inr ⟨ws, by assumption⟩) z2 a1 a2 hT2 (k _ _ D.TIz D.TIi1 D.TIi2 Z.ti) (Nat.ne_of_lt Z.tl) hsz fun c o e1 _ e3 e4 q => k c o e1 e3 e4 q)
theorem ZSt.at {Hc Hd : Hp} {h h2 : Heap} {i : Nat} (Z : ZSt Hc h z TI TO i1 i2 a b i) (k : ∀ c ∈ [z, TI, TO, i1, i2], ∀ o, h.get? c = some o → h2.get? c = some o) (kH : ∀ T ws, Hc T = some (.tup ws) → Hd T = some (.tup ws)) (hsz : h.objs.size ≤ h2.objs.size) : ZSt Hd h2 z TI TO i1 i2 a b i := by
  refine ⟨?_, k TI (by simp) _ Z.ti, Z.l1.at fun o q => k i1 (by simp) o q, Z.l2.at fun o q => k i2 (by simp) o q, Nat.lt_of_lt_of_le Z.tl hsz⟩
  rcases Z.zp with ⟨h1, x, y, h2⟩ | ⟨T, f, ws, h1, h2⟩
  · exact .inl ⟨k z (by simp) _ h1, x, y, k TO (by simp) _ h2⟩
  · exact .inr ⟨T, f, ws, k z (by simp) _ h1, kH T ws h2⟩
theorem init_fill {R : Result → Shared → Prop} {A : Around} (hh : A.handled = none) (D : ZipApart z TI TO i1 i2 a b) (Pk : Nat → Hp → List V → Prop) (hn : n = min xs.length ys.length) (hz : n ≤ sizeLine)
    (hq : ∀ i Hc vs, Pk i Hc vs → SqL X.K Hc a xs ∧ SqL X.K Hc b ys)
    (stp : ∀ i Hc vs T x y, i < n → Pk i Hc vs → Hc S = some (.lst vs) → Hc T = none → xs[i]? = some x → ys[i]? = some y → Pk (i + 1) (upd (upd Hc T (.tup [x, y])) S (.lst (vs ++ [.ref T]))) (vs ++ [.ref T]))
    (fin : ∀ s2 Hc vs, Inv X pins σ Hc s2 → Pk n Hc vs → Hc S = some (.lst vs) → R (.ok (.ret .none)) s2)
    {s : Shared} {Hc : Hp} (I : Inv X pins σ Hc s) (hP : Pk 0 Hc []) (hS : Hc S = some (.lst [])) (Z : ZSt Hc s.heap z TI TO i1 i2 a b 0) (hf : ∀ c ∈ [z, TI, TO, i1, i2], FpOk X pins Hc c) (hz0 : IsZip s.heap z TI TO .none) :
    wpAny (model X.prog X.w) A.in1 (Builtin.«list.__init__» ⟨[.ref S, .ref z], []⟩) (fun fin s' => match fin with
      | .done f => R (.ok f) s'
      | .again c' => c'.quiet = true ∧ codeAny (model X.prog X.w) A c' R s') (fun e s' => R (.error e) s') s := by
  have fS : ∀ c ∈ [z, TI, TO, i1, i2], c ≠ S := fun c hc e => by
    have q := (hf c hc).1
    rw [e, hS] at q
    cases q
  -- the list is written: what stays
  have wr : ∀ {s : Shared} {vs vs' : List V} {il' : List Value} {fn : Array Value → Array Value}, Inv X pins σ (upd Hc S (.lst vs)) s → ZSt Hc s.heap z TI TO i1 i2 a b 0 → IsZip s.heap z TI TO .none → vs'.length ≤ 1 → Vals vs' il' → (∀ il : List Value, Vals vs il → fn il.toArray = il'.toArray) →
      ∃ il nl, s.heap.get? S = some { cls := .type "list", data := .seq (il : List Value).toArray nl } ∧ il.length = vs.length ∧ Inv X pins σ (upd Hc S (.lst vs')) { s with heap := s.heap.update S (Obj.mapSeq fn) } ∧ ZSt Hc (s.heap.update S (Obj.mapSeq fn)) z TI TO i1 i2 a b 0 ∧ IsZip (s.heap.update S (Obj.mapSeq fn)) z TI TO .none := fun {s vs vs' il' fn} J Z hz0 h1 hv hfn => by
    obtain ⟨_, il, nl, rl, ll, gl⟩ := J.lstM upd_same
    have J2 := J.lset (its' := il') (t' := s.toks) (ys := vs') upd_same gl (hfn il rl) hv (by rw [sizeLine_eq]; omega)
    rw [upd_upd] at J2
    have kS : ∀ c ∈ [z, TI, TO, i1, i2], ∀ o, s.heap.get? c = some o → (s.heap.update S (Obj.mapSeq fn)).get? c = some o := fun c hc o q => (Heap.get?_update_other _ _ (Ne.symm (fS c hc))).trans q
    exact ⟨il, nl, gl, ll.symm, J2, ZSt.at Z kS (fun _ _ h => h) (by rw [(Heap.SameBut.update ..).1]; exact Nat.le_refl _), kS z (by simp) _ hz0⟩
  have same : upd Hc S (.lst []) = Hc := by
    funext c
    by_cases e : c = S
    · rw [e, upd_same, hS]
    · rw [upd_ne e]
  show wpAny _ _ (do let old ← Builtin.List.listItems (.ref S); Builtin.List.listUpdate (.ref S) (fun _ => #[]); letGo old.toList.reverse; Builtin.List.listExtendWith (.ref S) (.ref z) .none) _ _ s
  obtain ⟨il, nl, gl, ll, I1, Z1, hz1⟩ := wr (s := s) (vs := []) (vs' := []) (il' := []) (fn := fun _ => #[]) (by rw [same]; exact I) Z hz0 (Nat.zero_le _) .nil fun il _ => rfl
  obtain rfl : il = [] := List.eq_nil_of_length_eq_zero ll
  refine wpAny_bind ?_
  unfold Builtin.List.listItems
  refine wpAny_bind (wpAny_seqItems gl rfl (wpAny_pure ?_))
  show wpAny _ _ (updateSeq S (fun _ => #[]) >>= fun _ => letGo (#[] : Array Value).toList.reverse >>= fun _ => Builtin.List.listExtendWith (.ref S) (.ref z) .none) _ _ _
  refine wpAny_bind (wpAny_updateSeq gl rfl (wpAny_bind (wpAny_letGo ?_)))
  unfold Builtin.List.listExtendWith
  refine wpAny_bind (wpAny_typeOf (T := "zip") ⟨_, hz1, rfl⟩ ?_)
  have nsame : Builtin.List.listSameRef (.ref S) (.ref z) = false := by
    have := fS z (by simp)
    simp [Builtin.List.listSameRef, Ne.symm this]
  have t1 : (Value.type "zip" == Value.type "list") = false := by decide
  have t2 : (Value.type "zip" == Value.type "tuple") = false := by decide
  simp only [nsame, t1, t2, Bool.or_false, Bool.false_eq_true, if_false]
  refine wpAny_bind (wpAny_pyIter_zip hz1 ?_)
  refine wpAny_bind (wpAny_holding (hint ⟨_, hz1, rfl⟩ ?_))
  simp only [Bool.true_or, if_true]
  refine wpAny_bind (wpAny_rule (wpAny_bind ?_))
  show wpAny _ _ (updateSeq S (·.push .none) >>= fun _ => updateSeq S (·.pop)) _ _ _
  obtain ⟨il2, nl2, gl2, ll2, I2, Z2, hz2⟩ := wr (vs' := [.non]) (il' := [.none]) (fn := (·.push .none)) I1 Z1 hz1 (by simp) (.cons rfl .nil) fun il h => by cases h; rfl
  obtain rfl : il2 = [] := List.eq_nil_of_length_eq_zero ll2
  refine wpAny_bind (wpAny_updateSeq gl2 rfl ?_)
  obtain ⟨il3, nl3, gl3, ll3, I3, Z3, hz3⟩ := wr (vs' := []) (il' := []) (fn := (·.pop)) I2 Z2 hz2 (by simp) .nil fun il h => by
    cases h with
    | cons r t => cases t; rfl
  refine wpAny_updateSeq gl3 rfl ?_ ?_ ?_
  · rw [same] at I3
    exact wpAny_pure ⟨plainId_quiet PySem.F.plain_extend_loop _, fill hh D Pk hn hz hq stp fin (n - 0) 0 _ Hc [] rfl (Nat.zero_le _) I3 hP hS rfl Z3 hf⟩
  · rw [List.size_toArray, ll3]; show 1 ≤ 16777216; omega
  · rw [Array.size_pop, List.size_toArray, ll3]; show 1 - 1 ≤ 16777216 + 1; omega
end
end PvZip
namespace Pv
open PySem PySem.Spec PyProof.Rows L2
section
variable {g : Gn} {wrd : Nat → Option Str} {cal : Nat → List D → Sto → Res D} {lv : Nat} {ck : Ck} {X : Cx} {W : WX}
theorem zipA_new (N a b : Addr) (la : a < N) (lb : b < N) : ZipApart (N + 4) (N + 2) (N + 3) N (N + 1) a b := by
  obtain ⟨h1, h2, h3, h4, h5, h6, h7, h8, h9, h10, h11, h12, h13, h14, h15, h16, h17, h18⟩ := za_nat N a b la lb
  constructor <;> first | assumption | exact Ne.symm (by assumption)
/-- the tuples so far -/
def Zp (K : PySem.W.Frag) (g : Gn) (F0 H0 : Hp) (γ : List Addr) (S : Sto) (L : Addr) (ds : List D) (i : Nat) (Hc : Hp) (vs : List V) : Prop :=
  ∃ Fc, Ext F0 H0 γ Fc Hc γ ∧ SS K g Fc Hc γ S ∧ Fc L = none ∧ L ∉ γ ∧ Reps K g γ Fc vs (ds.take i)
theorem de_lzip {a c : E} {e f : Expr} {p1 p2 p3 p4 : Pos} (C : CtxE g wrd cal ck lv X) (g1 : glB X.env.scope ("list" : Str) = true) (g2 : glB X.env.scope ("zip" : Str) = true) (f1 : ck.fr.contains ("list" : Str) = true) (f2 : ck.fr.contains ("zip" : Str) = true)
    (hse : isStar e = false) (hsf : isStar f = false) (ha : BE g wrd cal X W e a) (hc : BE g wrd cal X W f c) : DE g wrd cal X W (.Call (.Name ("list" : Str) p1) [.Call (.Name ("zip" : Str) p2) [e, f] [] p3] [] p4) (.lzip a c) := by
  obtain ⟨ta, pa, ka⟩ := ha
  obtain ⟨tc, pc, kc⟩ := hc
  have b1 : bootBuiltins ("list" : Str) = some (.type "list") := boot_blt .list
  have pargs : PA X [e, f] (tCons ta (tCons tc tNil)) := pa_cons pa (pa_cons pc pa_nil (star_cons hsf)) (star_cons hse)
  refine ⟨fun σ H Q => tCons ta (tCons tc tNil) σ H fun vs H1 => ∃ la lb xs ys ds es F γ S, vs = [.ref la, .ref lb] ∧ SqL X.K H1 la xs ∧ SqL X.K H1 lb ys ∧ SS X.K g F H1 γ S ∧ Reps X.K g γ F xs ds ∧ Reps X.K g γ F ys es ∧ (∀ Fc Hc, Ext F H1 γ Fc Hc γ → SS X.K g Fc Hc γ S → SqL X.K Hc la xs ∧ SqL X.K Hc lb ys) ∧
      VP X.K g F H1 γ S (.lst (List.zipWith (fun a b => .tup [a, b]) ds es)) Q, ⟨fun pins s σ H Q I h => ?_⟩, fun H0 F H γ S ρ σ Q s r q => ?_⟩
  · refine Call_ (ld_blt I (gl_of g1) (C.fr _ f1) b1 ?_)
    refine PyProof.Rows.callWith_type1 (PyProof.Rows.args_cons ?_ rfl) rfl rfl
    refine Call_ (ld_blt I (gl_of g2) (C.fr _ f2) PyProof.Rows.boot_zip ?_)
    refine PyProof.Rows.callWith_type1 (thn (pargs.run p3 pins s σ H _ I h) fun us s1 ⟨vs, H1, I1, r1, q1⟩ => ?_) (star_cons hse) (by rw [star_cons hsf]; rfl)
    obtain ⟨la, lb, xs, ys, ds, es, F, γ, S, ev, q1, q2, ss, rx, ry, keep, q⟩ := q1
    subst ev
    cases r1 with
    | cons r rr =>
    cases rr with
    | cons r' rr =>
    cases rr
    cases r
    cases r'
    obtain ⟨its, rv, p1', zx⟩ := I1.list q1
    obtain ⟨its2, rv2, p2', _⟩ := I1.list q2
    refine zip_begins2 (begins_list la its.toArray) (begins_list lb its2.toArray) p1'.isList p2'.isList fun h2 hz hTI hTO h1 h3 hsz hk => PyProof.Rows.args_nil ?_
    have I2 : Inv X pins σ H1 { s1 with heap := h2 } := I1.kept (t' := s1.toks) hk
    have Dz := zipA_new s1.heap.objs.size la lb p1'.lt p2'.lt
    generalize hN : s1.heap.objs.size = N at *
    have fpN : ∀ k ∈ [N + 4, N + 2, N + 3, N, N + 1], N ≤ k ∧ k < N + 5 := fun k hk => by
      have e : k = N + 4 ∨ k = N + 2 ∨ k = N + 3 ∨ k = N ∨ k = N + 1 := by simpa using hk
      rcases e with e | e | e | e | e <;> rw [e] <;> constructor <;> first | exact Nat.le_refl _ | exact Nat.le_add_right _ _ | exact Nat.add_lt_add_left (by decide) _ | exact Nat.lt_add_of_pos_right (by decide)
    refine callType_codes (Q₁ := fun obj s₂ => obj = .ref h2.objs.size ∧ s₂ = { s1 with heap := h2.push { cls := .type "list", data := .seq #[] } }) PySem.F.called_list (PySem.F.typeCall_list_1 _) PySem.F.entry_list_init (code_list_new (s := { s1 with heap := h2 }) _ ⟨rfl, rfl⟩) fun obj s₂ hs2 => ?_
    obtain ⟨rfl, rfl⟩ := hs2
    have I3 : Inv X pins σ (upd H1 h2.objs.size (.lst [])) { s1 with heap := h2.push { cls := .type "list", data := .seq #[] } } := I2.lnew (its := []) (t' := s1.toks) .nil (Nat.zero_le _)
    have hLn : H1 h2.objs.size = none := I2.fresh
    obtain ⟨ss3, fL, gL⟩ := ss.newU (o := .lst []) hLn
    have kp : ∀ k o, h2.get? k = some o → (h2.push { cls := .type "list", data := .seq #[] }).get? k = some o := fun k o q => Heap.get?_push_of_some _ q
    refine ⟨⟨_, Heap.get?_push_size _ rfl, rfl⟩, PySem.F.args_list_init_2 _ _, ?_⟩
    refine PvZip.init_fill (A := X.A.in1) (xs := xs) (ys := ys) (n := min xs.length ys.length) (I1.ok.hd C.calm) Dz (Zp X.K g F H1 γ S h2.objs.size (List.zipWith (fun a b => .tup [a, b]) ds es)) rfl ?_ (fun i Hc vs hp => ?_) (fun i Hc vs T x y hi hp hS hT hx hy => ?_) (fun s4 Hc vs I4 hp hS => ?_) I3 ?_ upd_same ?_ (fun k hk => ?_) (kp _ _ hz)
    · exact Nat.le_trans (Nat.min_le_left _ _) zx
    · obtain ⟨Fc, e, sc, _⟩ := hp
      exact keep Fc Hc e sc
    · obtain ⟨Fc, e, sc, fl, gl, r⟩ := hp
      have lenx := rx.length
      have leny := ry.length
      have i1 : i < ds.length := by omega
      have i2 : i < es.length := by omega
      obtain ⟨x', a1, a2⟩ := rx.get (i := i) (d := ds[i]) (by simp [i1])
      obtain ⟨y', b1, b2⟩ := ry.get (i := i) (d := es[i]) (by simp [i2])
      rw [hx] at a1
      rw [hy] at b1
      cases a1
      cases b1
      have nLT : h2.objs.size ≠ T := ne_of_none hS hT
      have ey : Ext Fc Hc γ (L2.upd Fc T (.tup [x, y])) (L2.upd Hc T (.tup [x, y])) γ := Ext.new sc.sub hT
      have sy : SS X.K g (L2.upd Fc T (.tup [x, y])) (L2.upd Hc T (.tup [x, y])) γ S := sc.new hT
      have hS1 : L2.upd Hc T (.tup [x, y]) h2.objs.size = some (.lst vs) := by rw [upd_ne nLT]; exact hS
      have fl1 : L2.upd Fc T (.tup [x, y]) h2.objs.size = none := by rw [upd_ne nLT]; exact fl
      refine ⟨_, (e.trans ey).updNew (.of hLn), sy.upd hS1 fl1 gl, fl1, gl, ?_⟩
      have tk : (List.zipWith (fun a b => D.tup [a, b]) ds es).take (i + 1) = (List.zipWith (fun a b => D.tup [a, b]) ds es).take i ++ [.tup [ds[i], es[i]]] := by
        rw [List.take_add_one]
        simp [List.getElem?_zipWith, i1, i2]
      rw [tk]
      exact (ey.reps r).append (.cons (.tup (.inl (.inl upd_same)) (reps_new sc hT (.cons (e.rep a2) (.cons (e.rep b2) .nil)))) .nil)
    · obtain ⟨Fc, e, sc, fl, gl, r⟩ := hp
      have all : (List.zipWith (fun a b => D.tup [a, b]) ds es).take (min xs.length ys.length) = List.zipWith (fun a b => D.tup [a, b]) ds es := List.take_of_length_le (by rw [List.length_zipWith, rx.length, ry.length]; exact Nat.le_refl _)
      rw [all] at r
      exact ⟨rfl, .ref h2.objs.size, Hc, I4, rfl, FP.of_vp q h2.objs.size vs Fc Hc γ e sc (.of hLn) hS fl gl r⟩
    · exact ⟨F, Ext.refl.updNew (.of hLn), ss3, fL, gL, .nil⟩
    · refine ⟨.inl ⟨kp _ _ hz, _, _, kp _ _ hTO⟩, kp _ _ hTI, ⟨_, kp _ _ h1, rfl, rfl⟩, ⟨_, kp _ _ h3, rfl, rfl⟩, ?_⟩
      show N + 3 < (h2.push _).objs.size
      rw [Heap.size_push, hsz]
      exact Nat.lt_succ_of_lt (Nat.add_lt_add_left (by decide) _)
    · obtain ⟨k1, k2⟩ := fpN k hk
      refine I1.fpOk (by rw [hN]; exact k1) ?_
      rw [upd_ne (by rw [hsz]; exact Nat.ne_of_lt k2)]
      exact I1.hok.fresh (by rw [hN]; exact k1)
  · simp only [ev] at q
    refine ka H0 F H γ S ρ σ _ s r (Pst.bind q fun dx S1 v F1 H1 γ1 _ e1 s1 r1 q => ?_)
    refine kc H0 F1 H1 γ1 S1 ρ σ _ s1 (r.ext e1) (Pst.bind q fun dy S2 u F2 H2 γ2 _ e2 s2 r2 q => ?_)
    split at q
    · skip
      have lst : ∀ {v : V} {l : List Pv.D}, Top X.K g F2 H2 γ2 v (.lst l) → ∃ la xs, v = .ref la ∧ SqL X.K H2 la xs ∧ Reps X.K g γ2 F2 xs l ∧ ∀ Fc Hc, Ext F2 H2 γ2 Fc Hc γ2 → SS X.K g Fc Hc γ2 S2 → SqL X.K Hc la xs := fun {v l} t => by
        rcases t with t | ⟨la, xs, l', e1, e2, h1, h2, h3, h4⟩
        · cases t with
          | lst hF r => exact ⟨_, _, rfl, SqL.of (s2.sub _ _ hF), r, fun Fc Hc e sc => SqL.of (sc.sub _ _ (e.f _ _ hF))⟩
        · cases e2
          exact ⟨la, xs, e1, SqL.of h1, h4, fun Fc Hc e sc => SqL.of (e.h _ _ h1 (fun ps z => by cases z) h2)⟩
      obtain ⟨la, xs, rfl, x1, x2, x3⟩ := lst (r1.ext e2)
      obtain ⟨lb, ys, rfl, y1, y2, y3⟩ := lst r2
      exact ⟨la, lb, xs, ys, _, _, F2, γ2, S2, rfl, x1, y1, s2, x2, y2, fun Fc Hc e sc => ⟨x3 Fc Hc e sc, y3 Fc Hc e sc⟩, fun v F' H' γ' e s r => q v F' H' γ' e s r⟩
    · exact q.elim
end
end Pv

/-! Pv11: the soundness of expressions. -/
namespace Pv
open PySem PySem.Spec PyProof.Rows L2

/-- what is shown of a term -/
structure Sd (g : Gn) (wrd : Nat → Option Str) (cal : Nat → List D → Sto → Res D) (ck : Ck) (X : Cx) (W : WX) (m : E) : Prop where
  e : ∀ b x, chk ck X.N X.env.scope b m x = true → XE g wrd cal X W b x m
  l : ∀ x, chkL ck X.N X.env.scope false m x = true → DA g wrd cal X W x m
  lb : ∀ x, chkL ck X.N X.env.scope true m x = true → BA g wrd cal X W x m
  o : ∀ x, chkO ck X.N X.env.scope m x = true → DO g wrd cal X W x m
  i : ∀ b tg x, chkI ck X.N X.env.scope b m tg x = true → DI g wrd cal X W b tg x m
  t : ∀ x, chkT ck X.N X.env.scope m x = true → DT g wrd cal X W x m
  w : ∀ op es p, chkT ck X.N X.env.scope m (.BoolOp op es p) = true → DW g wrd cal X W (.BoolOp op es p) m
section
variable {g : Gn} {wrd : Nat → Option Str} {cal : Nat → List D → Sto → Res D} {lv : Nat} {ck : Ck} {X : Cx} {W : WX}
theorem takesN0 {X : Cx} : L2N.Takes X (fun _ _ _ _ => False) := fun _ _ x => by
  obtain ⟨_, _, _, _, _, _, _, _, _, _, _, _, _, _, _, _, z⟩ := x
  exact z.elim
theorem asn_blk {s : Shared} {H : Hp} {fp : List Addr} (scope : Scope) {cl : List (Str × Addr)} {Ca : Addr} : Asn (X.blk s H scope (compEnvC scope cl Ca X.env) fp) (asC scope X.env.scope) := fun x h => by
  unfold asC at h
  split at h
  · rename_i e
    exact ⟨.inl e, .inr e⟩
  · rename_i e
    exact ⟨.inr e, .inl h⟩
  · cases h
theorem ff {p : Prop} {b : Bool} (h : b = false) (h' : b = true) : p := by rw [h] at h'; cases h'
theorem DE.xe {b : Bool} {x : Expr} {m : E} (h : DE g wrd cal X W x m) : XE g wrd cal X W b x m := by
  cases b with
  | false => exact h
  | true => exact h.be
/-- a term that is an expression only -/
theorem Sd.only {m : E} (e : ∀ b x, chk ck X.N X.env.scope b m x = true → XE g wrd cal X W b x m)
    (hl : ∀ b x, chkL ck X.N X.env.scope b m x = false) (ho : ∀ x, chkO ck X.N X.env.scope m x = false) (hi : ∀ b tg x, chkI ck X.N X.env.scope b m tg x = false) (ht : ∀ x, chkT ck X.N X.env.scope m x = false) : Sd g wrd cal ck X W m :=
  ⟨e, fun x h => ff (hl _ _) h, fun x h => ff (hl _ _) h, fun x h => ff (ho _) h, fun b tg x h => ff (hi _ _ _) h, fun x h => ff (ht _) h, fun op es p h => ff (ht _) h⟩
/-- an expression and a test -/
theorem Sd.test {m : E} (e : ∀ b x, chk ck X.N X.env.scope b m x = true → XE g wrd cal X W b x m)
    (hl : ∀ b x, chkL ck X.N X.env.scope b m x = false) (ho : ∀ x, chkO ck X.N X.env.scope m x = false) (hi : ∀ b tg x, chkI ck X.N X.env.scope b m tg x = false) (t : ∀ x, chkT ck X.N X.env.scope m x = true → DT g wrd cal X W x m)
    (hw : ∀ op es p, chkT ck X.N X.env.scope m (.BoolOp op es p) = true → DW g wrd cal X W (.BoolOp op es p) m) : Sd g wrd cal ck X W m :=
  ⟨e, fun x h => ff (hl _ _) h, fun x h => ff (hl _ _) h, fun x h => ff (ho _) h, fun b tg x h => ff (hi _ _ _) h, t, hw⟩
/-- a part of something else -/
theorem Sd.part {m : E} (he : ∀ b x, chk ck X.N X.env.scope b m x = false) (ht : ∀ x, chkT ck X.N X.env.scope m x = false)
    (l : ∀ x, chkL ck X.N X.env.scope false m x = true → DA g wrd cal X W x m) (lb : ∀ x, chkL ck X.N X.env.scope true m x = true → BA g wrd cal X W x m)
    (o : ∀ x, chkO ck X.N X.env.scope m x = true → DO g wrd cal X W x m) (i : ∀ b tg x, chkI ck X.N X.env.scope b m tg x = true → DI g wrd cal X W b tg x m) : Sd g wrd cal ck X W m :=
  ⟨fun b x h => ff (he _ _) h, l, lb, o, i, fun x h => ff (ht _) h, fun op es p h => ff (ht _) h⟩
theorem Sd.no {m : E} (he : ∀ b x, chk ck X.N X.env.scope b m x = false)
    (hl : ∀ b x, chkL ck X.N X.env.scope b m x = false) (ho : ∀ x, chkO ck X.N X.env.scope m x = false) (hi : ∀ b tg x, chkI ck X.N X.env.scope b m tg x = false) (ht : ∀ x, chkT ck X.N X.env.scope m x = false) : Sd g wrd cal ck X W m :=
  .only (fun b x h => ff (he _ _) h) hl ho hi ht
theorem Sd.de {m : E} (h : Sd g wrd cal ck X W m) {x : Expr} (c : chk ck X.N X.env.scope false m x = true) : DE g wrd cal X W x m := h.e false x c
theorem Sd.be {m : E} (h : Sd g wrd cal ck X W m) {x : Expr} (c : chk ck X.N X.env.scope true m x = true) : BE g wrd cal X W x m := h.e true x c
theorem opC_mk {op : Cop} {o : CmpOp} (h : chkC op o = true) : ∃ _ : Unit, o = opC op := ⟨(), chkC_eq h⟩
theorem sd_var {i : Nat}  : Sd g wrd cal ck X W (.var i) := by
  refine .only (fun b x h => ?_) (fun b x => by cases x <;> rfl) (fun x => by cases x <;> rfl) (fun b tg x => by cases x <;> rfl) (fun x => by cases x <;> rfl)
  cases x with
  | Name x p => exact (de_var h).xe
  | _ => cases h
theorem sd_bvar {i : Nat}  : Sd g wrd cal ck X W (.bvar i) := by
  refine .only (fun b x h => ?_) (fun b x => by cases x <;> rfl) (fun x => by cases x <;> rfl) (fun b tg x => by cases x <;> rfl) (fun x => by cases x <;> rfl)
  cases x with
  | Name x p =>
    obtain ⟨rfl, h⟩ := Bool.and_eq_true_iff.mp h
    exact be_bvar h
  | _ => cases h
theorem sd_lit {d : D}  : Sd g wrd cal ck X W (.lit d) := by
  refine .only (fun b x h => ?_) (fun b x => by cases x <;> rfl) (fun x => by cases x <;> rfl) (fun b tg x => by cases x <;> rfl) (fun x => by cases x <;> rfl)
  cases x with
  | Constant c k p => exact (de_lit h).xe
  | _ => cases h
theorem sd_glb {y : Str} {d : D} (C : CtxE g wrd cal ck lv X) : Sd g wrd cal ck X W (.glb y d) := by
  refine .only (fun b x h => ?_) (fun b x => by cases x <;> rfl) (fun x => by cases x <;> rfl) (fun b tg x => by cases x <;> rfl) (fun x => by cases x <;> rfl)
  cases x with
  | Name x p =>
    obtain ⟨h1, h2⟩ := Bool.and_eq_true_iff.mp h
    obtain rfl : y = x := eq_of_beq h1
    exact (de_glb C h2).xe
  | _ => cases h
theorem sd_bin {op : Bop} {a c : E} (ha : Sd g wrd cal ck X W a) (hc : Sd g wrd cal ck X W c) : Sd g wrd cal ck X W (.bin op a c) := by
  refine .only (fun b x h => ?_) (fun b x => by cases x <;> rfl) (fun x => by cases x <;> rfl) (fun b tg x => by cases x <;> rfl) (fun x => by cases x <;> rfl)
  cases x with
  | BinOp x o y p =>
    simp only [chk, Bool.and_eq_true] at h
    rw [chkB_eq h.1.1]
    exact (de_bin (ha.be h.1.2) (hc.be h.2)).xe
  | _ => cases h
theorem sd_neg {a : E} (ha : Sd g wrd cal ck X W a) : Sd g wrd cal ck X W (.neg a) := by
  refine .only (fun b x h => ?_) (fun b x => by cases x <;> rfl) (fun x => by cases x <;> rfl) (fun b tg x => by cases x <;> rfl) (fun x => by cases x <;> rfl)
  cases x with
  | UnaryOp o x p =>
    cases o with
    | USub => exact (de_neg (ha.be h)).xe
    | _ => cases h
  | _ => cases h
theorem sd_ite {c a d : E} (hc : Sd g wrd cal ck X W c) (ha : Sd g wrd cal ck X W a) (hd : Sd g wrd cal ck X W d) : Sd g wrd cal ck X W (.ite c a d) := by
  refine .only (fun b x h => ?_) (fun b x => by cases x <;> rfl) (fun x => by cases x <;> rfl) (fun b tg x => by cases x <;> rfl) (fun x => by cases x <;> rfl)
  cases x with
  | IfExp x y z p =>
    simp only [chk, Bool.and_eq_true] at h
    exact (de_ite (hc.t _ h.1.1) (ha.de h.1.2) (hd.de h.2)).xe
  | _ => cases h
theorem sd_tup {m : E} (hm : Sd g wrd cal ck X W m) : Sd g wrd cal ck X W (.tup m) := by
  refine .only (fun b x h => ?_) (fun b x => by cases x <;> rfl) (fun x => by cases x <;> rfl) (fun b tg x => by cases x <;> rfl) (fun x => by cases x <;> rfl)
  cases x with
  | Tuple xs k p => exact (de_tup (hm.l _ h)).xe
  | _ => cases h
theorem sd_lst {m : E} (hm : Sd g wrd cal ck X W m) : Sd g wrd cal ck X W (.lst m) := by
  refine .only (fun b x h => ?_) (fun b x => by cases x <;> rfl) (fun x => by cases x <;> rfl) (fun b tg x => by cases x <;> rfl) (fun x => by cases x <;> rfl)
  cases x with
  | List xs p => exact (de_lst (hm.l _ h)).xe
  | _ => cases h
theorem sd_newcell {m : E} (hm : Sd g wrd cal ck X W m) : Sd g wrd cal ck X W (.newcell m) := by
  refine .only (fun b x h => ?_) (fun b x => by cases x <;> rfl) (fun x => by cases x <;> rfl) (fun b tg x => by cases x <;> rfl) (fun x => by cases x <;> rfl)
  cases x with
  | List xs p => exact (de_newcell (hm.l _ h)).xe
  | _ => cases h
theorem sd_ix {a i : E} (ha : Sd g wrd cal ck X W a) (hi : Sd g wrd cal ck X W i) : Sd g wrd cal ck X W (.ix a i) := by
  refine .only (fun b x h => ?_) (fun b x => by cases x <;> rfl) (fun x => by cases x <;> rfl) (fun b tg x => by cases x <;> rfl) (fun x => by cases x <;> rfl)
  cases x with
  | Subscript x y p =>
    simp only [chk, Bool.and_eq_true, Bool.not_eq_true'] at h
    exact (de_ix h.1.1 (ha.be h.1.2) (hi.be h.2)).xe
  | _ => cases h
theorem sd_sl {a lo hi : E} (ha : Sd g wrd cal ck X W a) (hlo : Sd g wrd cal ck X W lo) (hhi : Sd g wrd cal ck X W hi) : Sd g wrd cal ck X W (.sl a lo hi) := by
  refine .only (fun b x h => ?_) (fun b x => by cases x <;> rfl) (fun x => by cases x <;> rfl) (fun b tg x => by cases x <;> rfl) (fun x => by cases x <;> rfl)
  cases x with
  | Subscript x y p =>
    cases y with
    | Slice l h' st p2 =>
      cases st with
      | none =>
        simp only [chk, Bool.and_eq_true] at h
        exact (de_sl (ha.be h.1.1) (hlo.o _ h.1.2) (hhi.o _ h.2)).xe
      | some _ => cases h
    | _ => cases h
  | _ => cases h
theorem sd_call {k : Nat} {m : E} (C : CtxE g wrd cal ck lv X) (tk : L2N.Takes X W) (hm : Sd g wrd cal ck X W m) : Sd g wrd cal ck X W (.call k m) := by
  refine .only (fun b x h => ?_) (fun b x => by cases x <;> rfl) (fun x => by cases x <;> rfl) (fun b tg x => by cases x <;> rfl) (fun x => by cases x <;> rfl)
  cases x with
  | Call f xs ks p2 =>
    cases f with
    | Name x p =>
      cases ks with
      | nil =>
        simp only [chk, Bool.and_eq_true] at h
        cases xs with
        | nil =>
          cases m with
          | nil => exact (de_call0 C tk h.1).xe
          | _ => cases h.2
        | cons e es => exact (de_call C tk h.1 (all_plain h.2) (by simp) (hm.l _ h.2)).xe
      | cons _ _ => cases h
    | _ => cases h
  | _ => cases h
theorem sd_callv {k : Nat} {m : E} (C : CtxE g wrd cal ck lv X) (tk : L2N.Takes X W) (hm : Sd g wrd cal ck X W m) : Sd g wrd cal ck X W (.callv k m) := by
  refine .only (fun b x h => ?_) (fun b x => by cases x <;> rfl) (fun x => by cases x <;> rfl) (fun b tg x => by cases x <;> rfl) (fun x => by cases x <;> rfl)
  cases x with
  | Call f xs ks p2 =>
    cases f with
    | Name x p =>
      cases ks with
      | nil =>
        simp only [chk, Bool.and_eq_true, Bool.not_eq_true'] at h
        refine (de_callv C tk h.1.1 (all_plain h.2) ?_ (hm.l _ h.2)).xe
        rintro rfl
        cases h.1.2
      | cons _ _ => cases h
    | _ => cases h
  | _ => cases h
theorem sd_blt {bl : Blt} {m : E} (C : CtxE g wrd cal ck lv X) (hm : Sd g wrd cal ck X W m) : Sd g wrd cal ck X W (.blt bl m) := by
  refine .only (fun b x h => ?_) (fun b x => by cases x <;> rfl) (fun x => by cases x <;> rfl) (fun b tg x => by cases x <;> rfl) (fun x => by cases x <;> rfl)
  cases x with
  | Call f xs ks p2 =>
    cases f with
    | Name x p =>
      cases ks with
      | nil =>
        simp only [chk, Bool.and_eq_true, Bool.not_eq_true'] at h
        obtain ⟨⟨⟨⟨h1, h2⟩, h3⟩, h4⟩, h5⟩ := h
        cases xs with
        | nil => cases h4
        | cons e es => exact (de_blt C (eq_of_beq h1) h2 h3 (all_plain h5) (hm.lb _ h5)).xe
      | cons _ _ => cases h
    | _ => cases h
  | _ => cases h
theorem sd_cmp {op : Cop} {a c : E} (C : CtxE g wrd cal ck lv X) (ha : Sd g wrd cal ck X W a) (hc : Sd g wrd cal ck X W c) : Sd g wrd cal ck X W (.cmp op a c) := by
  refine .test (fun b x h => ?_) (fun b x => by cases x <;> rfl) (fun x => by cases x <;> rfl) (fun b tg x => by cases x <;> rfl) (fun x h => ?_) (fun op es p h => by cases h)
  · -- as an expression
    cases x with
    | Compare x os ys p =>
      cases os with
      | nil => cases h
      | cons o os =>
      cases os with
      | cons _ _ => cases h
      | nil =>
      cases ys with
      | nil => cases h
      | cons y ys =>
      cases ys with
      | cons _ _ => cases h
      | nil =>
      simp only [chk, Bool.and_eq_true, Bool.not_eq_true'] at h
      rw [chkC_eq h.1.1.1]
      exact (de_cmp C h.1.1.2 (ha.be h.1.2) (hc.be h.2)).xe
    | _ => cases h
  · -- as a test
    cases x with
    | Compare x os ys p =>
      cases os with
      | nil => cases h
      | cons o os =>
      cases os with
      | cons _ _ => cases h
      | nil =>
      cases ys with
      | nil => cases h
      | cons y ys =>
      cases ys with
      | cons _ _ => cases h
      | nil =>
      simp only [chkT, Bool.and_eq_true, Bool.not_eq_true'] at h
      rw [chkC_eq h.1.1.1]
      exact dt_cmp C h.1.1.2 (ha.be h.1.2) (hc.be h.2)
    | _ => cases h
theorem sd_chain {op op' : Cop} {a c d : E} (C : CtxE g wrd cal ck lv X) (ha : Sd g wrd cal ck X W a) (hc : Sd g wrd cal ck X W c) (hd : Sd g wrd cal ck X W d) : Sd g wrd cal ck X W (.chain op op' a c d) := by
  refine .test (fun b x h => ?_) (fun b x => by cases x <;> rfl) (fun x => by cases x <;> rfl) (fun b tg x => by cases x <;> rfl) (fun x h => ?_) (fun op es p h => by cases h)
  · -- as an expression
    cases x with
    | Compare x os ys p =>
      cases os with
      | nil => cases h
      | cons o os =>
      cases os with
      | nil => cases h
      | cons o' os =>
      cases os with
      | cons _ _ => cases h
      | nil =>
      cases ys with
      | nil => cases h
      | cons y ys =>
      cases ys with
      | nil => cases h
      | cons z ys =>
      cases ys with
      | cons _ _ => cases h
      | nil =>
      simp only [chk, Bool.and_eq_true, Bool.not_eq_true'] at h
      rw [chkC_eq h.1.1.1.1.1.1, chkC_eq h.1.1.1.1.1.2]
      exact (de_chain C h.1.1.1.2 (ha.be h.1.1.2) (hc.be h.1.2) (hd.be h.2)).xe
    | _ => cases h
  · -- as a test
    cases x with
    | Compare x os ys p =>
      cases os with
      | nil => cases h
      | cons o os =>
      cases os with
      | nil => cases h
      | cons o' os =>
      cases os with
      | cons _ _ => cases h
      | nil =>
      cases ys with
      | nil => cases h
      | cons y ys =>
      cases ys with
      | nil => cases h
      | cons z ys =>
      cases ys with
      | cons _ _ => cases h
      | nil =>
      simp only [chkT, Bool.and_eq_true, Bool.not_eq_true'] at h
      rw [chkC_eq h.1.1.1.1.1.1, chkC_eq h.1.1.1.1.1.2]
      exact dt_chain C h.1.1.1.2 (ha.be h.1.1.2) (hc.be h.1.2) (hd.be h.2)
    | _ => cases h
theorem sd_tst {a : E} (ha : Sd g wrd cal ck X W a) : Sd g wrd cal ck X W (.tst a) := by
  refine .test (fun b x h => ?_) (fun b x => by cases x <;> rfl) (fun x => by cases x <;> rfl) (fun b tg x => by cases x <;> rfl) (fun x h => ?_) (fun op es p h => by cases h)
  · -- as an expression
    simp only [chk, Bool.and_eq_true] at h
    exact (de_tst (ha.de h.2)).xe
  · -- as a test
    simp only [chkT, Bool.and_eq_true] at h
    exact dt_tst h.1 (ha.de h.2)
theorem sd_not {a : E} (ha : Sd g wrd cal ck X W a) : Sd g wrd cal ck X W (.not a) := by
  refine .test (fun b x h => ?_) (fun b x => by cases x <;> rfl) (fun x => by cases x <;> rfl) (fun b tg x => by cases x <;> rfl) (fun x h => ?_) (fun op es p h => by cases h)
  · -- as an expression
    cases x with
    | UnaryOp o x p =>
      cases o with
      | Not => exact (de_not (ha.de h)).xe
      | _ => cases h
    | _ => cases h
  · -- as a test
    cases x with
    | UnaryOp o x p =>
      cases o with
      | Not => exact dt_not (ha.t _ h)
      | _ => cases h
    | _ => cases h
theorem sd_and {a c : E} (ha : Sd g wrd cal ck X W a) (hc : Sd g wrd cal ck X W c) : Sd g wrd cal ck X W (.and a c) := by
  have w : ∀ op es p, chkT ck X.N X.env.scope (.and a c) (.BoolOp op es p) = true → DW g wrd cal X W (.BoolOp op es p) (.and a c) := fun op es p h => by
    cases op with
    | And =>
      cases es with
      | nil => cases h
      | cons x es =>
      cases es with
      | nil => cases h
      | cons y r =>
      cases r with
      | nil =>
        simp only [chkT, Bool.and_eq_true] at h
        exact dw_and (ha.t _ h.1) (dw_one (hc.t _ h.2))
      | cons z r =>
        simp only [chkT, Bool.and_eq_true] at h
        exact dw_and (ha.t _ h.1) (hc.w _ _ _ h.2)
    | _ => cases h
  refine .test (fun b x h => ?_) (fun b x => by cases x <;> rfl) (fun x => by cases x <;> rfl) (fun b tg x => by cases x <;> rfl) (fun x h => ?_) w
  · cases x with
    | BoolOp op es p =>
      cases op with
      | And =>
        cases es with
        | nil => cases h
        | cons x es =>
        cases es with
        | nil => cases h
        | cons y r =>
        cases r with
        | nil =>
          simp only [chk, Bool.and_eq_true] at h
          exact (de_and (ha.de h.1) (de_one (hc.de h.2))).xe
        | cons z r =>
          simp only [chk, Bool.and_eq_true] at h
          exact (de_and (ha.de h.1) (hc.de h.2)).xe
      | _ => cases h
    | _ => cases h
  · cases x with
    | BoolOp op es p => exact (w _ _ _ h).dt
    | _ => cases h
theorem sd_or {a c : E} (ha : Sd g wrd cal ck X W a) (hc : Sd g wrd cal ck X W c) : Sd g wrd cal ck X W (.or a c) := by
  have w : ∀ op es p, chkT ck X.N X.env.scope (.or a c) (.BoolOp op es p) = true → DW g wrd cal X W (.BoolOp op es p) (.or a c) := fun op es p h => by
    cases op with
    | Or =>
      cases es with
      | nil => cases h
      | cons x es =>
      cases es with
      | nil => cases h
      | cons y r =>
      cases r with
      | nil =>
        simp only [chkT, Bool.and_eq_true] at h
        exact dw_or (ha.t _ h.1) (dw_one (hc.t _ h.2))
      | cons z r =>
        simp only [chkT, Bool.and_eq_true] at h
        exact dw_or (ha.t _ h.1) (hc.w _ _ _ h.2)
    | _ => cases h
  refine .test (fun b x h => ?_) (fun b x => by cases x <;> rfl) (fun x => by cases x <;> rfl) (fun b tg x => by cases x <;> rfl) (fun x h => ?_) w
  · cases x with
    | BoolOp op es p =>
      cases op with
      | Or =>
        cases es with
        | nil => cases h
        | cons x es =>
        cases es with
        | nil => cases h
        | cons y r =>
        cases r with
        | nil =>
          simp only [chk, Bool.and_eq_true] at h
          exact (de_or (ha.de h.1) (de_one (hc.de h.2))).xe
        | cons z r =>
          simp only [chk, Bool.and_eq_true] at h
          exact (de_or (ha.de h.1) (hc.de h.2)).xe
      | _ => cases h
    | _ => cases h
  · cases x with
    | BoolOp op es p => exact (w _ _ _ h).dt
    | _ => cases h
theorem sd_nil : Sd g wrd cal ck X W .nil := by
  refine .part (fun b x => by cases x <;> rfl) (fun x => by cases x <;> rfl) (fun x h => ?_) (fun x h => ?_) (fun x h => ff (by cases x <;> rfl) h) (fun b tg x h => ff (by cases x <;> rfl) h)
  · cases x with
    | nil => exact da_nil
    | cons _ _ => cases h
  · cases x with
    | nil => exact da_nil.ba
    | cons _ _ => cases h
theorem sd_cons {a c : E} (ha : Sd g wrd cal ck X W a) (hc : Sd g wrd cal ck X W c) : Sd g wrd cal ck X W (.cons a c) := by
  refine .part (fun b x => by cases x <;> rfl) (fun x => by cases x <;> rfl) (fun x h => ?_) (fun x h => ?_) (fun x h => ff (by cases x <;> rfl) h) (fun b tg x h => ff (by cases x <;> rfl) h)
  · cases x with
    | nil => cases h
    | cons _ _ =>
      simp only [chkL, Bool.and_eq_true, Bool.not_eq_true'] at h
      exact da_cons h.1.1 (ha.de h.1.2) (hc.l _ h.2)
  · cases x with
    | nil => cases h
    | cons _ _ =>
      simp only [chkL, Bool.and_eq_true, Bool.not_eq_true'] at h
      exact ba_cons h.1.1 (ha.be h.1.2) (hc.lb _ h.2)
theorem sd_non : Sd g wrd cal ck X W .non := by
  refine .part (fun b x => by cases x <;> rfl) (fun x => by cases x <;> rfl) (fun x h => ff (by cases x <;> rfl) h) (fun x h => ff (by cases x <;> rfl) h) (fun x h => ?_) (fun b tg x h => ff (by cases x <;> rfl) h)
  cases x with
  | none => exact do_non
  | some _ => cases h
theorem sd_som {a : E} (ha : Sd g wrd cal ck X W a) : Sd g wrd cal ck X W (.som a) := by
  refine .part (fun b x => by cases x <;> rfl) (fun x => by cases x <;> rfl) (fun x h => ff (by cases x <;> rfl) h) (fun x h => ff (by cases x <;> rfl) h) (fun x h => ?_) (fun b tg x h => ff (by cases x <;> rfl) h)
  cases x with
  | none => cases h
  | some _ => exact do_som (ha.be h)
theorem sd_walk {a : E} (ha : Sd g wrd cal ck X W a) : Sd g wrd cal ck X W (.walk a) := by
  refine .part (fun b x => by cases x <;> rfl) (fun x => by cases x <;> rfl) (fun x h => ff (by cases x <;> rfl) h) (fun x h => ff (by cases x <;> rfl) h) (fun x h => ff (by cases x <;> rfl) h) (fun b tg x h => ?_)
  exact di_walk (ha.e _ _ h)
theorem sd_rng1 {a : E} (C : CtxE g wrd cal ck lv X) (ha : Sd g wrd cal ck X W a) : Sd g wrd cal ck X W (.rng1 a) := by
  refine .part (fun b x => by cases x <;> rfl) (fun x => by cases x <;> rfl) (fun x h => ff (by cases x <;> rfl) h) (fun x h => ff (by cases x <;> rfl) h) (fun x h => ff (by cases x <;> rfl) h) (fun b tg x h => ?_)
  cases x with
  | Call f xs ks p2 =>
    cases f with
    | Name x p =>
      cases xs with
      | nil => cases ks <;> cases h
      | cons y xs =>
      cases xs with
      | cons _ _ => cases ks <;> cases h
      | nil =>
      cases ks with
      | cons _ _ => cases h
      | nil =>
      simp only [chkI, Bool.and_eq_true, Bool.not_eq_true'] at h
      obtain ⟨⟨⟨⟨h1, h2⟩, h3⟩, h4⟩, h5⟩ := h
      obtain rfl := eq_of_beq h1
      exact di_rng1 C h2 h3 h4 (ha.be h5)
    | _ => cases h
  | _ => cases h
theorem sd_rng2 {a c : E} (C : CtxE g wrd cal ck lv X) (ha : Sd g wrd cal ck X W a) (hc : Sd g wrd cal ck X W c) : Sd g wrd cal ck X W (.rng2 a c) := by
  refine .part (fun b x => by cases x <;> rfl) (fun x => by cases x <;> rfl) (fun x h => ff (by cases x <;> rfl) h) (fun x h => ff (by cases x <;> rfl) h) (fun x h => ff (by cases x <;> rfl) h) (fun b tg x h => ?_)
  cases x with
  | Call f xs ks p2 =>
    cases f with
    | Name x p =>
      cases xs with
      | nil => cases ks <;> cases h
      | cons y xs =>
      cases xs with
      | nil => cases ks <;> cases h
      | cons z xs =>
      cases xs with
      | cons _ _ => cases ks <;> cases h
      | nil =>
      cases ks with
      | cons _ _ => cases h
      | nil =>
      simp only [chkI, Bool.and_eq_true, Bool.not_eq_true'] at h
      obtain ⟨⟨⟨⟨⟨⟨h1, h2⟩, h3⟩, h4⟩, h5⟩, h6⟩, h7⟩ := h
      obtain rfl := eq_of_beq h1
      exact di_rng2 C h2 h3 h4 h5 (ha.be h6) (hc.be h7)
    | _ => cases h
  | _ => cases h
theorem sd_zip {a c : E} (C : CtxE g wrd cal ck lv X) (ha : Sd g wrd cal ck X W a) (hc : Sd g wrd cal ck X W c) : Sd g wrd cal ck X W (.zip a c) := by
  refine .part (fun b x => by cases x <;> rfl) (fun x => by cases x <;> rfl) (fun x h => ff (by cases x <;> rfl) h) (fun x h => ff (by cases x <;> rfl) h) (fun x h => ff (by cases x <;> rfl) h) (fun b tg x h => ?_)
  cases tg with
  | Tuple elts kk tpos =>
    cases x with
    | Call f xs ks p2 =>
      cases f with
      | Name x p =>
        cases xs with
        | nil => cases ks <;> cases h
        | cons y xs =>
        cases xs with
        | nil => cases ks <;> cases h
        | cons z xs =>
        cases xs with
        | cons _ _ => cases ks <;> cases h
        | nil =>
        cases ks with
        | cons _ _ => cases h
        | nil =>
        simp only [chkI, Bool.and_eq_true, Bool.not_eq_true'] at h
        obtain ⟨⟨⟨⟨⟨⟨h1, h2⟩, h3⟩, h4⟩, h5⟩, h6⟩, h7⟩ := h
        obtain rfl := eq_of_beq h1
        exact di_zip C h2 h3 h4 h5 (ha.e _ _ h6) (hc.e _ _ h7)
      | _ => cases h
    | _ => cases h
  | _ => cases x <;> cases h
theorem sd_enum {a : E} (C : CtxE g wrd cal ck lv X) (ha : Sd g wrd cal ck X W a) : Sd g wrd cal ck X W (.enum a) := by
  refine .part (fun b x => by cases x <;> rfl) (fun x => by cases x <;> rfl) (fun x h => ff (by cases x <;> rfl) h) (fun x h => ff (by cases x <;> rfl) h) (fun x h => ff (by cases x <;> rfl) h) (fun b tg x h => ?_)
  cases tg with
  | Tuple elts kk tpos =>
    cases x with
    | Call f xs ks p2 =>
      cases f with
      | Name x p =>
        cases xs with
        | nil => cases ks <;> cases h
        | cons y xs =>
        cases xs with
        | cons _ _ => cases ks <;> cases h
        | nil =>
        cases ks with
        | cons _ _ => cases h
        | nil =>
        simp only [chkI, Bool.and_eq_true, Bool.not_eq_true'] at h
        obtain ⟨⟨⟨⟨h1, h2⟩, h3⟩, h4⟩, h5⟩ := h
        obtain rfl := eq_of_beq h1
        exact di_enum C h2 h3 h4 (ha.e _ _ h5)
      | _ => cases h
    | _ => cases h
  | _ => cases x <;> cases h
theorem comps_lst {bind : D → Option Env} {cond elt : Env → Sto → Res D} : ∀ {its acc : List D} {S S' : Sto} {d : D}, comps bind cond elt its acc S = .ok d S' → ∃ l, d = .lst l
  | [], acc, S, S', d, h => by
    simp only [comps] at h
    cases h
    exact ⟨_, rfl⟩
  | x :: xs, acc, S, S', d, h => by
    simp only [comps] at h
    (repeat' split at h) <;> first | exact comps_lst h | cases h
theorem ev_comp_lst {own : List Nat} {gt : G} {it cond elt : E} {ρ : Env} {S S' : Sto} {d : D} (h : ev wrd cal (.comp own gt it cond elt) ρ S = .ok d S') : ∃ l, d = .lst l := by
  simp only [ev] at h
  cases e : evi wrd cal it ρ S with
  | ok a S1 => rw [e] at h; exact comps_lst h
  | exc j S1 => rw [e] at h; cases h
  | bad => rw [e] at h; cases h
structure CompOk (g : Gn) (wrd : Nat → Option Str) (cal : Nat → List D → Sto → Res D) (X : Cx) (W : WX) (own : List Nat) (gt : G) (it cond elt : E) (y tg iter : Expr) (ifs : List Expr) (scope : Scope) (wi : TI) (gg : TG) (tt : TT) (te : TE) : Prop where
  noset : isSetE iter = false
  pi : PI X tg iter wi
  blk : BlkOk X.N X.env.scope scope (ownOf X.N own)
  pg : ∀ (s : Shared) (H : Hp) (Ca : Addr) (cl : List (Str × Addr)) (fp : List Addr), PG (X.blk s H scope (compEnvC scope cl Ca X.env) fp) tg gg
  pt : ∀ (s : Shared) (H : Hp) (Ca : Addr) (cl : List (Str × Addr)) (fp : List Addr), PTs (X.blk s H scope (compEnvC scope cl Ca X.env) fp) ifs tt
  pe : ∀ (s : Shared) (H : Hp) (Ca : Addr) (cl : List (Str × Addr)) (fp : List Addr), PE (X.blk s H scope (compEnvC scope cl Ca X.env) fp) y te
  df : DFr g X W (tLc wi gg tt te ((ownOf X.N own).map (·.2))) (ev wrd cal (.comp own gt it cond elt))
theorem comp_parts {own : List Nat} {gt : G} {it cond elt : E} {b : Bool} {x : Expr} (C : CtxE g wrd cal ck lv X) (hit : Sd g wrd cal ck X W it) (hcond : ∀ {ck' : Ck} {X' : Cx} {W' : WX}, CtxE g wrd cal ck' lv X' → L2N.Takes X' W' → Sd g wrd cal ck' X' W' cond) (helt : ∀ {ck' : Ck} {X' : Cx} {W' : WX}, CtxE g wrd cal ck' lv X' → L2N.Takes X' W' → Sd g wrd cal ck' X' W' elt)
    (h : chk ck X.N X.env.scope b (.comp own gt it cond elt) x = true) : ∃ y tg iter ifs scope pos wi gg tt te, x = .ListComp y [⟨tg, iter, ifs, 0⟩] scope pos ∧ CompOk g wrd cal X W own gt it cond elt y tg iter ifs scope wi gg tt te := by
  cases x with
  | ListComp y gs scope pos =>
    cases gs with
    | nil => cases h
    | cons g1 gs =>
    obtain ⟨tg, iter, ifs, as⟩ := g1
    cases gs with
    | cons _ _ => simp [chk] at h
    | nil =>
    by_cases h0 : as = 0
    case neg => simp [chk, h0] at h
    subst h0
    have h : ((gSlots gt).all (fun i => own.contains i) && blkC X.N X.env.scope scope (ownOf X.N own) && !isSetE iter && chkI ck X.N X.env.scope true it tg iter && chkG X.N (asC scope X.env.scope) gt tg && (match (generalizing := false) ifs with
      | [] => (match (generalizing := false) cond with
        | .lit (.bl true) => true
        | _ => false)
      | [c] => chkT ck.noRf X.N (relS scope X.env.scope) cond c
      | _ => false) && chk ck.noRf X.N (relS scope X.env.scope) false elt y) = true := h
    simp only [Bool.and_eq_true, Bool.not_eq_true'] at h
    obtain ⟨⟨⟨⟨⟨⟨h1, h2⟩, h3⟩, h4⟩, h5⟩, h6⟩, h7⟩ := h
    obtain ⟨wi, gg, tt, te, ⟨pi, bo, pg, pt, pe⟩, hh⟩ := df_comp (y := y) (ifs := ifs) (cond := cond) (elt := elt) (gt := gt) (p := pos) C (fun i hi => by simpa using List.all_eq_true.mp h1 i hi) h2 h3 (hit.i _ tg _ h4)
      (fun s H Ca cl fp => (g_ok (g := g) (X := X.blk s H scope (compEnvC scope cl Ca X.env) fp) C.nd C.calm (asn_blk scope) gt).1 tg h5)
      (fun s H Ca cl fp => by
        have Cb := C.blk s H scope (compEnvC scope cl Ca X.env) fp
        cases ifs with
        | nil =>
          have h6 : (match (generalizing := false) cond with
            | .lit (.bl true) => true
            | _ => false) = true := h6
          split at h6
          · exact ⟨_, pts_nil, fun H0 F H γ S ρ σ Q s r q => by
              simp only [ev] at q
              exact q _ F H γ .refl s rfl⟩
          · cases h6
        | cons c ifs =>
          cases ifs with
          | cons _ _ => cases h6
          | nil =>
            obtain ⟨t, p, k⟩ := (hcond Cb takesN0).t c h6
            exact ⟨t, pts_one p, k⟩)
      (fun s H Ca cl fp => (helt (C.blk s H scope (compEnvC scope cl Ca X.env) fp) takesN0).de h7)
    exact ⟨y, tg, iter, ifs, scope, pos, wi, gg, tt, te, rfl, h3, pi, bo, pg, pt, pe, by rw [own_ix X.N own]; exact hh⟩
  | _ => cases h
theorem CompOk.pe_lc {own : List Nat} {gt : G} {it cond elt : E} {y tg iter : Expr} {ifs : List Expr} {scope : Scope} {pos : Pos} {wi : TI} {gg : TG} {tt : TT} {te : TE} (C : CtxE g wrd cal ck lv X) (c : CompOk g wrd cal X W own gt it cond elt y tg iter ifs scope wi gg tt te) :
    DF g wrd cal X W (.ListComp y [⟨tg, iter, ifs, 0⟩] scope pos) (.comp own gt it cond elt) := ⟨_, L2.pe_lc C.calm C.nd c.pi c.blk c.pg c.pt c.pe (noset_of c.noset), c.df⟩
theorem DF.de {e : Expr} {m : E} (h : DF g wrd cal X W e m) (hl : ∀ ρ S d S', ev wrd cal m ρ S = .ok d S' → ∃ l, d = .lst l) : DE g wrd cal X W e m := by
  obtain ⟨t, p, h⟩ := h
  exact ⟨t, p, h.der hl⟩
theorem sd_comp {own : List Nat} {gt : G} {it cond elt : E} (C : CtxE g wrd cal ck lv X) (hit : Sd g wrd cal ck X W it) (hcond : ∀ {ck' : Ck} {X' : Cx} {W' : WX}, CtxE g wrd cal ck' lv X' → L2N.Takes X' W' → Sd g wrd cal ck' X' W' cond) (helt : ∀ {ck' : Ck} {X' : Cx} {W' : WX}, CtxE g wrd cal ck' lv X' → L2N.Takes X' W' → Sd g wrd cal ck' X' W' elt) : Sd g wrd cal ck X W (.comp own gt it cond elt) := by
  refine .only (fun b x h => ?_) (fun b x => by cases x <;> rfl) (fun x => by cases x <;> rfl) (fun b tg x => by cases x <;> rfl) (fun x => by cases x <;> rfl)
  obtain ⟨y, tg, iter, ifs, scope, pos, wi, gg, tt, te, rfl, c⟩ := comp_parts C hit hcond helt h
  exact ((c.pe_lc C).de fun ρ S d S' e => ev_comp_lst e).xe
theorem sd_mth {m : Mth} {a c : E} : Sd g wrd cal ck X W (.mth m a c) := .no (fun b x => by cases x <;> rfl) (fun b x => by cases x <;> rfl) (fun x => by cases x <;> rfl) (fun b tg x => by cases x <;> rfl) (fun x => by cases x <;> rfl)
theorem sd_refused {m : E} (C : CtxE g wrd cal ck lv X) (hm : ∀ {ck' : Ck} {X' : Cx} {W' : WX}, CtxE g wrd cal ck' lv X' → L2N.Takes X' W' → Sd g wrd cal ck' X' W' m) : Sd g wrd cal ck X W (.refused m) := by
  refine .only (fun b x h => ?_) (fun b x => by cases x <;> rfl) (fun x => by cases x <;> rfl) (fun b tg x => by cases x <;> rfl) (fun x => by cases x <;> rfl)
  cases x with
  | Call f xs ks p2 =>
    cases f with
    | Name x p =>
      cases xs with
      | nil => cases ks <;> cases h
      | cons y xs =>
      cases xs with
      | cons _ _ => cases y <;> cases ks <;> cases h
      | nil =>
      cases ks with
      | cons _ _ => cases y <;> cases h
      | nil =>
      cases y with
      | Lambda params body scope lpos =>
        have h : ((match (generalizing := false) ck.rf with
          | some y => y == x
          | none => false) && glB X.env.scope x && plainName x && noPar params && LamX.lamSB X.env.scope scope && chk ck.noRf X.N scope false m body) = true := h
        simp only [Bool.and_eq_true] at h
        obtain ⟨⟨⟨⟨⟨h1, h2⟩, h3⟩, h4⟩, h5⟩, h6⟩ := h
        have hx : ck.rf = some x := by
          split at h1
          · rename_i y hy
            rw [hy, eq_of_beq h1]
          · cases h1
        exact DE.xe (de_refused C hx h2 h3 h4 h5 fun X' W' e1 e2 e3 C' tk' => (hm C' tk').de (by rw [e1, e3]; exact h6))
      | _ => cases h
    | _ => cases h
  | _ => cases h
theorem sd_lzip {a c : E} (C : CtxE g wrd cal ck lv X) (ha : Sd g wrd cal ck X W a) (hc : Sd g wrd cal ck X W c) : Sd g wrd cal ck X W (.lzip a c) := by
  refine .only (fun b x h => ?_) (fun b x => by cases x <;> rfl) (fun x => by cases x <;> rfl) (fun b tg x => by cases x <;> rfl) (fun x => by cases x <;> rfl)
  match x, h with
  | .Call (.Name x p) [.Call (.Name y _) [e, f] [] _] [] p2, h =>
    simp only [chk, Bool.and_eq_true, Bool.not_eq_true'] at h
    obtain ⟨⟨⟨⟨⟨⟨⟨⟨⟨h1, h2⟩, h3⟩, h4⟩, h5⟩, h6⟩, h7⟩, h8⟩, h9⟩, h10⟩ := h
    obtain rfl := eq_of_beq h1
    obtain rfl := eq_of_beq h2
    exact (de_lzip C h3 h4 h5 h6 h7 h8 (ha.be h9) (hc.be h10)).xe
theorem sd_sset {a : E} (C : CtxE g wrd cal ck lv X) (ha : Sd g wrd cal ck X W a) : Sd g wrd cal ck X W (.sset a) := by
  refine .only (fun b x h => ?_) (fun b x => by cases x <;> rfl) (fun x => by cases x <;> rfl) (fun b tg x => by cases x <;> rfl) (fun x => by cases x <;> rfl)
  match x, h with
  | .Call (.Name x p) [.Call (.Name y _) [e] [] _] [] p2, h =>
    simp only [chk, Bool.and_eq_true, Bool.not_eq_true'] at h
    obtain ⟨⟨⟨⟨⟨⟨⟨h1, h2⟩, h3⟩, h4⟩, h5⟩, h6⟩, h7⟩, h8⟩ := h
    obtain rfl := eq_of_beq h1
    obtain rfl := eq_of_beq h2
    exact (de_sset C h3 h4 h5 h6 h7 (ha.be h8)).xe
end
theorem snd {g : Gn} {wrd : Nat → Option Str} {cal : Nat → List D → Sto → Res D} {lv : Nat} : ∀ (m : E) {ck : Ck} {X : Cx} {W : WX}, CtxE g wrd cal ck lv X → L2N.Takes X W → Sd g wrd cal ck X W m := by
  intro m
  induction m with
  | nil => exact fun {ck X W} C tk => sd_nil
  | cons a c ha hc => exact fun {ck X W} C tk => sd_cons (ha C tk) (hc C tk)
  | non => exact fun {ck X W} C tk => sd_non
  | som a ha => exact fun {ck X W} C tk => sd_som (ha C tk)
  | var i => exact fun {ck X W} C tk => sd_var
  | bvar i => exact fun {ck X W} C tk => sd_bvar
  | lit d => exact fun {ck X W} C tk => sd_lit
  | glb x d => exact fun {ck X W} C tk => sd_glb C
  | bin op a c ha hc => exact fun {ck X W} C tk => sd_bin (ha C tk) (hc C tk)
  | neg a ha => exact fun {ck X W} C tk => sd_neg (ha C tk)
  | cmp op a c ha hc => exact fun {ck X W} C tk => sd_cmp C (ha C tk) (hc C tk)
  | chain op op' a c d ha hc hd => exact fun {ck X W} C tk => sd_chain C (ha C tk) (hc C tk) (hd C tk)
  | and a c ha hc => exact fun {ck X W} C tk => sd_and (ha C tk) (hc C tk)
  | or a c ha hc => exact fun {ck X W} C tk => sd_or (ha C tk) (hc C tk)
  | not a ha => exact fun {ck X W} C tk => sd_not (ha C tk)
  | ite a c d ha hc hd => exact fun {ck X W} C tk => sd_ite (ha C tk) (hc C tk) (hd C tk)
  | tup a ha => exact fun {ck X W} C tk => sd_tup (ha C tk)
  | lst a ha => exact fun {ck X W} C tk => sd_lst (ha C tk)
  | call k a ha => exact fun {ck X W} C tk => sd_call C tk (ha C tk)
  | callv k a ha => exact fun {ck X W} C tk => sd_callv C tk (ha C tk)
  | blt k a ha => exact fun {ck X W} C tk => sd_blt C (ha C tk)
  | mth k a c ha hc => exact fun {ck X W} C tk => sd_mth
  | ix a c ha hc => exact fun {ck X W} C tk => sd_ix (ha C tk) (hc C tk)
  | sl a c d ha hc hd => exact fun {ck X W} C tk => sd_sl (ha C tk) (hc C tk) (hd C tk)
  | comp own gt it cond elt h1 h2 h3 => exact fun {ck X W} C tk => sd_comp C (h1 C tk) h2 h3
  | walk a ha => exact fun {ck X W} C tk => sd_walk (ha C tk)
  | zip a c ha hc => exact fun {ck X W} C tk => sd_zip C (ha C tk) (hc C tk)
  | enum a ha => exact fun {ck X W} C tk => sd_enum C (ha C tk)
  | rng1 a ha => exact fun {ck X W} C tk => sd_rng1 C (ha C tk)
  | rng2 a c ha hc => exact fun {ck X W} C tk => sd_rng2 C (ha C tk) (hc C tk)
  | lzip a c ha hc => exact fun {ck X W} C tk => sd_lzip C (ha C tk) (hc C tk)
  | refused a ha => exact fun {ck X W} C tk => sd_refused C ha
  | sset a ha => exact fun {ck X W} C tk => sd_sset C (ha C tk)
  | newcell a ha => exact fun {ck X W} C tk => sd_newcell (ha C tk)
  | tst a ha => exact fun {ck X W} C tk => sd_tst (ha C tk)
/-- is it a new list? -/
def isFresh : E → Bool
  | .lst _ => true
  | .blt .list _ => true
  | .comp _ _ _ _ _ => true
  | .bin .add _ _ => true
  | _ => false
theorem df_of {g : Gn} {wrd : Nat → Option Str} {cal : Nat → List D → Sto → Res D} {lv : Nat} {ck : Ck} {X : Cx} {W : WX} {m : E} {x : Expr} (C : CtxE g wrd cal ck lv X) (tk : L2N.Takes X W) (hf : isFresh m = true) (h : chk ck X.N X.env.scope false m x = true) : DF g wrd cal X W x m := by
  cases m with
  | lst m =>
    cases x with
    | List xs p => exact df_lst ((snd m C tk).l _ h)
    | _ => cases h
  | bin op a c =>
    cases op with
    | add =>
      cases x with
      | BinOp x o y p =>
        simp only [chk, Bool.and_eq_true] at h
        rw [chkB_eq h.1.1]
        exact df_add ((snd a C tk).be h.1.2) ((snd c C tk).be h.2)
      | _ => cases h
    | _ => cases hf
  | blt b m =>
    cases b with
    | list =>
      cases x with
      | Call f xs ks p2 =>
        cases f with
        | Name x p =>
          cases ks with
          | nil =>
            simp only [chk, Bool.and_eq_true, Bool.not_eq_true'] at h
            obtain ⟨⟨⟨⟨h1, h2⟩, h3⟩, h4⟩, h5⟩ := h
            cases xs with
            | nil => cases h4
            | cons e es => exact df_list C (eq_of_beq h1) h2 h3 (all_plain h5) ((snd m C tk).lb _ h5)
          | cons _ _ => cases h
        | _ => cases h
      | _ => cases h
    | _ => cases hf
  | comp own gt it cond elt =>
    obtain ⟨y, tg, iter, ifs, scope, pos, wi, gg, tt, te, rfl, c⟩ := comp_parts C (snd it C tk) (fun C tk => snd cond C tk) (fun C tk => snd elt C tk) h
    exact c.pe_lc C
  | _ => cases hf
end Pv

/-! Pv12: statements: the checker, what is to be shown. -/
namespace Pv
open PySem PySem.Spec PyProof.Rows L2

/-! ### which form an assignment takes -/
def isCompE : Expr → Bool
  | .ListComp .. => true
  | .SetComp .. => true
  | .DictComp .. => true
  | _ => false
def isTupE : Expr → Bool
  | .Tuple .. => true
  | _ => false
theorem sw_none {e : Expr} {t : Option Expr} {l : Nat} {env : PySem.Env} (h : isCompE e = false) : swapsWith e t l env = pure false := by
  cases e <;> first | rfl | cases h
theorem sw_sub {o i e : Expr} {p : Pos} {l : Nat} {env : PySem.Env} : swapsWithSole [.Subscript o i p] e l env = pure false := by
  cases e <;> rfl
theorem sw_tup {es : List Expr} {k : Nat} {p : Pos} {e : Expr} {l : Nat} {env : PySem.Env} : swapsWithSole [.Tuple es k p] e l env = pure false := by
  cases e <;> rfl
theorem sst_sub {o i e : Expr} {p : Pos} {env : PySem.Env} : swappedStores [.Subscript o i p] e env = pure none := by
  cases e <;> rfl
theorem sst_val {tg e : Expr} {env : PySem.Env} (h : isTupE e = false) : swappedStores [tg] e env = pure none := by
  cases e <;> first | (cases tg <;> rfl) | cases h
theorem if_elim {α : Sort _} {c : Prop} [Decidable c] {a b : α} {motive : α → Prop} (h1 : c → motive a) (h2 : ¬c → motive b) : motive (if c then a else b) := by
  split
  · exact h1 (by assumption)
  · exact h2 (by assumption)
/-- a name that is no local: stored as it is written -/
theorem sw_cell {e : Expr} {y : Str} {p : Pos} {l : Nat} {env : PySem.Env} (h : env.scope.names.lookup y ≠ some .local) (hc : ∀ a b c, e ≠ .SetComp a b c p) : swapsWith e (some (.Name y p)) l env = pure false := by
  have k : (env.kindOf y == some .local) = false := by
    have : env.kindOf y = env.scope.names.lookup y := rfl
    rw [this]
    simpa using h
  cases e <;> first | rfl | (unfold swapsWith; simp [k])
def notLoc (sc : Scope) : Expr → Bool
  | .Name x _ => match sc.names.lookup x with
    | some .local => false
    | _ => true
  | _ => true
theorem fm_lt {f : Expr → Option Str} {q : Expr → Bool} (hf : ∀ t, q t = true → f t = none) : ∀ ts : List Expr, ts.any q = true → (ts.filterMap f).length < ts.length
  | [], h => by cases h
  | t :: ts, h => by
    rw [List.any_cons, Bool.or_eq_true] at h
    have le : (ts.filterMap f).length ≤ ts.length := List.length_filterMap_le _ _
    rcases h with h | h
    · rw [List.filterMap_cons_none (hf t h), List.length_cons]
      omega
    · have ih := fm_lt hf ts h
      cases e : f t with
      | none => rw [List.filterMap_cons_none e, List.length_cons]; omega
      | some z => rw [List.filterMap_cons_some e, List.length_cons, List.length_cons]; omega
theorem sst_cell {ts vs : List Expr} {k k2 : Nat} {p p2 : Pos} {env : PySem.Env} (h : ts.any (notLoc env.scope) = true) : swappedStores [.Tuple ts k p] (.Tuple vs k2 p2) env = pure none := by
  unfold swappedStores
  refine (if_elim (motive := fun z => z = pure none) (fun _ => rfl) fun _ => ?_)
  refine (if_elim (motive := fun z => z = pure none) (fun _ => rfl) fun _ => ?_)
  refine (if_pos ?_).trans rfl
  rw [Bool.or_eq_true]
  left
  refine bne_iff_ne.mpr (Nat.ne_of_lt (fm_lt (q := notLoc env.scope) (fun t ht => ?_) ts h))
  cases t with
  | Name id pos =>
    have e : env.kindOf id = env.scope.names.lookup id := rfl
    have kk : (env.kindOf id == some .local) = false := by
      rw [e]
      cases q : env.scope.names.lookup id with
      | none => rfl
      | some kd => cases kd <;> first | rfl | (exfalso; simp [notLoc, q] at ht)
    show (if (env.kindOf id == some NameKind.local && _) = true then some id else none) = none
    rw [kk, Bool.false_and]
    rfl
  | _ => rfl
theorem sst_fold {ts vs : List Expr} {k k2 : Nat} {p p2 : Pos} {env : PySem.Env} (h : vs.all (foldedForSure 8) = true) : swappedStores [.Tuple ts k p] (.Tuple vs k2 p2) env = pure none := by
  unfold swappedStores
  simp only [h]
  repeat' first | rfl | split
theorem block_fn {env : PySem.Env} (hk : env.scope.kind = .function) : env.blockKind = .function := by unfold PySem.Env.blockKind; rw [hk]; rfl
theorem sst_par {x y : Str} {px py pt pt2 : Pos} {a b : Expr} {kt k2 : Nat} {env : PySem.Env} (hk : env.scope.kind = .function) (hx : env.scope.names.lookup x = some .local) (hy : env.scope.names.lookup y = some .local) (hl : py.line = px.line) (hxy : (y == x) = false)
    (ha : isStar a = false) (hb : isStar b = false) (hf : [a, b].all (foldedForSure 8) = false) (hc : [a, b].all (constantsAlone 8) = false) :
    swappedStores [.Tuple [.Name x px, .Name y py] kt pt] (.Tuple [a, b] k2 pt2) env = pure (some [x, y]) := by
  have kx : env.kindOf x = some .local := hx
  have ky : env.kindOf y = some .local := hy
  have e1 : ([x, y].eraseDups.length) = 2 := by simp [List.eraseDups_cons, hxy]
  have nm : ([Expr.Name x px, Expr.Name y py].filterMap fun
      | .Name id pos => if env.kindOf id == some .local && pos.line == px.line then some id else none
      | _ => none) = [x, y] := by simp [kx, ky, hl]
  unfold swappedStores
  refine (if_neg ?_).trans ((if_neg ?_).trans ((if_neg ?_).trans ((if_neg ?_).trans ((if_neg ?_).trans ?_))))
  · simp [block_fn hk]
  · simp only [List.any_cons, List.any_nil, Bool.or_false, Bool.or_eq_true]
    rintro (h | h)
    · split at h
      · cases ha
      · cases h
    · split at h
      · cases hb
      · cases h
  · have z : (([Expr.Name x px, Expr.Name y py].head?.map (·.pos.line)).getD 0) = px.line := rfl
    rw [z]
    simp [kx, ky, hl, List.eraseDups_cons, hxy]
  · rw [hf]; exact Bool.false_ne_true
  · rw [hc]; exact Bool.false_ne_true
  · have z : (([Expr.Name x px, Expr.Name y py].head?.map (·.pos.line)).getD 0) = px.line := rfl
    rw [z]
    simp [kx, ky, hl]
end Pv

/-! Pv13: what is to be shown of a statement; slots. -/
namespace Pv
open PySem PySem.Spec PyProof.Rows L2

/-- a def's body under way: entered at F0 H0 γ0 -/
structure SI (K : PySem.W.Frag) (g : Gn) (F0 H0 : Hp) (γ0 : List Addr) (F H : Hp) (γ : List Addr) (S : Sto) (ρ : Env) (σ : L2.St) : Prop where
  s : SS K g F H γ S
  r : ER K g H0 F H γ ρ σ
  e : Ext F0 H0 γ0 F H γ
/-- frozen things and cells stay -/
structure Mo (F : Hp) (γ : List Addr) (F' : Hp) (γ' : List Addr) : Prop where
  f : ∀ a o, F a = some o → F' a = some o
  g : ∀ (k : Nat) (a : Addr), γ[k]? = some a → γ'[k]? = some a
theorem Mo.refl {F : Hp} {γ : List Addr} : Mo F γ F γ := ⟨fun _ _ h => h, fun _ _ h => h⟩
theorem Mo.trans {F F1 F2 : Hp} {γ γ1 γ2 : List Addr} (a : Mo F γ F1 γ1) (b : Mo F1 γ1 F2 γ2) : Mo F γ F2 γ2 := ⟨fun x o h => b.f x o (a.f x o h), fun k x h => b.g k x (a.g k x h)⟩
theorem Ext.mo {F H F1 H1 : Hp} {γ γ1 : List Addr} (e : Ext F H γ F1 H1 γ1) : Mo F γ F1 γ1 := ⟨e.f, e.gk⟩

section
variable (K : PySem.W.Frag) (g : Gn) (F0 H0 : Hp) (γ0 : List Addr)
def Pso (F : Hp) (γ : List Addr) (r : Out) (D : Ends) (W : WX) : Prop := match r with
  | .nx ρ S => ∀ σ F' H' γ', Mo F γ F' γ' → SI K g F0 H0 γ0 F' H' γ' S ρ σ → D.nx σ H'
  | .bk ρ S => ∀ σ F' H' γ', Mo F γ F' γ' → SI K g F0 H0 γ0 F' H' γ' S ρ σ → D.bk σ H'
  | .ct ρ S => ∀ σ F' H' γ', Mo F γ F' γ' → SI K g F0 H0 γ0 F' H' γ' S ρ σ → D.ct σ H'
  | .rt d S => ∀ v F' H' γ', Ext F0 H0 γ0 F' H' γ' → SS K g F' H' γ' S → Rep K g γ' F' v d → D.rt v H'
  | .exc j ρ S => ∀ σ F' H' γ', Mo F γ F' γ' → SI K g F0 H0 γ0 F' H' γ' S ρ σ → W (.ref (g.ca j)) none σ H'
  | .bad => False
/-- what a slot gets -/
def VO (Hb F H : Hp) (γ : List Addr) (v : V) (x : Sl) : Prop := match x with
  | .v d => Rep K g γ F v d
  | .own l => ∃ p xs, v = .ref p ∧ Nw Hb p ∧ H p = some (.lst xs) ∧ F p = none ∧ p ∉ γ ∧ Reps K g γ F xs l
  | .un => False
def Pvt (o : Bool) (F H : Hp) (γ : List Addr) (r : Res D) (Q : VK) (E : XK) : Prop := match r with
  | .ok d S => ∃ x, slV o d = some x ∧ ∀ v F' H' γ', Ext F H γ F' H' γ' → SS K g F' H' γ' S → VO K g H F' H' γ' v x → Q v H'
  | .exc j S => ∀ F' H' γ', Ext F H γ F' H' γ' → SS K g F' H' γ' S → E (.ref (g.ca j)) none H'
  | .bad => False
end
section
variable {K : PySem.W.Frag} {g : Gn} {F0 H0 : Hp} {γ0 : List Addr} {F H F1 H1 F' H' : Hp} {γ γ1 γ' : List Addr} {S S' : Sto} {ρ : Env} {σ : L2.St} {Dn : Ends} {W : WX}
theorem Pso.mo {r : Out} (h : Pso K g F0 H0 γ0 F γ r Dn W) (m : Mo F γ F1 γ1) : Pso K g F0 H0 γ0 F1 γ1 r Dn W := by
  cases r with
  | nx ρ S => exact fun σ F' H' γ' m' s => h σ F' H' γ' (m.trans m') s
  | bk ρ S => exact fun σ F' H' γ' m' s => h σ F' H' γ' (m.trans m') s
  | ct ρ S => exact fun σ F' H' γ' m' s => h σ F' H' γ' (m.trans m') s
  | rt d S => exact h
  | exc j ρ S => exact fun σ F' H' γ' m' s => h σ F' H' γ' (m.trans m') s
  | bad => exact h
theorem SI.ext (i : SI K g F0 H0 γ0 F H γ S ρ σ) (e : Ext F H γ F1 H1 γ1) (s : SS K g F1 H1 γ1 S') : SI K g F0 H0 γ0 F1 H1 γ1 S' ρ σ := ⟨s, i.r.ext e, i.e.trans e⟩
theorem Pso.out {α β : Type} {R : Hp → Hp → List Addr → β → α → Prop} {r : Res α} {f : α → Sto → Out} {Q1 : β → Hp → Prop} (h : Pso K g F0 H0 γ0 F γ (r.out ρ f) Dn W) (i : SI K g F0 H0 γ0 F H γ S ρ σ)
    (k : ∀ a S b F' H' γ', r = .ok a S → Ext F H γ F' H' γ' → SI K g F0 H0 γ0 F' H' γ' S ρ σ → R F' H' γ' b a → Pso K g F0 H0 γ0 F' γ' (f a S) Dn W → Q1 b H') : Pst K g R F H γ r Q1 (fun c dd H' => W c dd σ H') := by
  cases r with
  | ok a S => exact fun b F' H' γ' e s x => k a S b F' H' γ' rfl e (i.ext e s) x (Pso.mo h e.mo)
  | exc j S => exact fun F' H' γ' e s => h σ F' H' γ' e.mo (i.ext e s)
  | bad => exact h
theorem Pso.outV {o : Bool} {r : Res D} {f : D → Sto → Out} {Q1 : VK} (h : Pso K g F0 H0 γ0 F γ (r.out ρ f) Dn W) (i : SI K g F0 H0 γ0 F H γ S ρ σ) (hb : ∀ d S, slV o d = none → r = .ok d S → Pso K g F0 H0 γ0 F γ (f d S) Dn W → False)
    (k : ∀ d x S v F' H' γ', r = .ok d S → slV o d = some x → Ext F H γ F' H' γ' → SI K g F0 H0 γ0 F' H' γ' S ρ σ → VO K g H F' H' γ' v x → Pso K g F0 H0 γ0 F' γ' (f d S) Dn W → Q1 v H') : Pvt K g o F H γ r Q1 (fun c dd H' => W c dd σ H') := by
  cases r with
  | ok d S =>
    cases hx : slV o d with
    | none => exact (hb d S hx rfl h).elim
    | some x => exact ⟨x, hx, fun v F' H' γ' e s vo => k d x S v F' H' γ' rfl hx e (i.ext e s) vo (Pso.mo h e.mo)⟩
  | exc j S => exact fun F' H' γ' e s => h σ F' H' γ' e.mo (i.ext e s)
  | bad => exact h
theorem VO.ext {Hb : Hp} {v : V} {x : Sl} (h : VO K g Hb F H γ v x) (e : Ext F H γ F1 H1 γ1) : VO K g Hb F1 H1 γ1 v x := by
  cases x with
  | v d => exact e.rep h
  | own l =>
    obtain ⟨p, xs, rfl, a, b, c, d, r⟩ := h
    exact ⟨p, xs, rfl, a, e.h _ _ b (fun ps z => by cases z) d, e.fnone b c, e.notIn b d, e.reps r⟩
  | un => exact h
/-- a slot is set -/
theorem ER.setX {i : Nat} {v : V} {x : Sl} (r : ER K g H0 F H γ ρ σ) (e0 : Ext F0 H0 γ0 F H γ) (e : Ext F H γ F' H' γ') (hi : i < ρ.length) (h : VO K g H F' H' γ' v x) : ER K g H0 F' H' γ' (ρ.set i x) (σ.set i (some v)) := by
  have r' := r.ext e
  cases x with
  | v d => exact r'.set hi h
  | un => exact h.elim
  | own l =>
    obtain ⟨p, xs, rfl, nb, hp, fp, gp, rr⟩ := h
    have hl := r.len
    have ne : ∀ {j : Nat} {s : Sl}, (ρ.set i (.own l))[j]? = some s → j ≠ i → ρ[j]? = some s := fun {j s} h hj => by
      rw [List.getElem?_set_ne (Ne.symm hj)] at h
      exact h
    obtain ⟨oa, h1, h2⟩ := r.own
    refine ⟨by simp [r.len], fun j d h => ?_, fun j => if j = i then p else oa j, fun j m h => ?_, fun j k m m' a b => ?_⟩
    · by_cases hj : j = i
      · subst hj
        rw [List.getElem?_set_self hi] at h
        cases h
      · rw [List.getElem?_set_ne (Ne.symm hj)] at h ⊢
        exact r'.val j d h
    · by_cases hj : j = i
      · subst hj
        rw [List.getElem?_set_self hi] at h
        cases h
        dsimp only
        rw [if_pos rfl]
        exact ⟨xs, List.getElem?_set_self (by omega), hp, fp, gp, none_of e0 nb, rr⟩
      · have h := ne h hj
        dsimp only
        rw [if_neg hj, List.getElem?_set_ne (Ne.symm hj)]
        obtain ⟨ys, a1, a2, a3, a4, a5, a6⟩ := h1 j m h
        exact ⟨ys, a1, e.h _ _ a2 (fun ps z => by cases z) a4, e.fnone a2 a3, e.notIn a2 a4, a5, e.reps a6⟩
    · have old : ∀ {j : Nat} {m : List D}, ρ[j]? = some (.own m) → oa j ≠ p := fun {j m} h z => by
        obtain ⟨ys, a1, a2, _⟩ := h1 j m h
        rw [z] at a2
        exact nb.lst a2
      dsimp only
      by_cases hj : j = i
      · by_cases hk : k = i
        · intro _; rw [hj, hk]
        · rw [if_pos hj, if_neg hk]
          exact fun z => (old (ne b hk) z.symm).elim
      · by_cases hk : k = i
        · rw [if_neg hj, if_pos hk]
          exact fun z => (old (ne a hj) z).elim
        · rw [if_neg hj, if_neg hk]
          exact h2 j k m m' (ne a hj) (ne b hk)
theorem SI.setX {i : Nat} {v : V} {x : Sl} (i0 : SI K g F0 H0 γ0 F H γ S ρ σ) (e : Ext F H γ F' H' γ') (s : SS K g F' H' γ' S') (hi : i < ρ.length) (h : VO K g H F' H' γ' v x) : SI K g F0 H0 γ0 F' H' γ' S' (ρ.set i x) (σ.set i (some v)) :=
  ⟨s, i0.r.setX i0.e e hi h, i0.e.trans e⟩
/-- an own list is frozen -/
theorem SI.frz {i : Nat} {l : List D} (i0 : SI K g F0 H0 γ0 F H γ S ρ σ) (hi : ρ[i]? = some (.own l)) : ∃ F', Mo F γ F' γ ∧ SI K g F0 H0 γ0 F' H γ S (ρ.set i (.v (.lst l))) σ := by
  obtain ⟨oa, h1, h2⟩ := i0.r.own
  obtain ⟨xs, a1, a2, a3, a4, a5, a6⟩ := h1 i l hi
  have hlt : i < ρ.length := (List.getElem?_eq_some_iff.mp hi).1
  have hf : ∀ a u, F a = some u → L2.upd F (oa i) (.lst xs) a = some u := fun a u h => by rw [upd_ne (ne_of_none h a3)]; exact h
  have ne : ∀ {j : Nat} {m : List D}, (ρ.set i (.v (.lst l)))[j]? = some (.own m) → j ≠ i ∧ ρ[j]? = some (.own m) := fun {j m} h => by
    by_cases hj : j = i
    · subst hj
      rw [List.getElem?_set_self hlt] at h
      cases h
    · rw [List.getElem?_set_ne (Ne.symm hj)] at h
      exact ⟨hj, h⟩
  refine ⟨L2.upd F (oa i) (.lst xs), ⟨hf, fun _ _ h => h⟩, i0.s.freeze a2 a3 a4, ⟨by rw [List.length_set]; exact i0.r.len, fun j d h => ?_, oa, fun j m h => ?_, fun j k m m' a b => h2 j k m m' (ne a).2 (ne b).2⟩, i0.e.freeze a5 a3⟩
  · by_cases hj : j = i
    · subst hj
      rw [List.getElem?_set_self hlt] at h
      cases h
      exact ⟨_, a1, .lst upd_same (a6.mono hf fun _ _ h => h)⟩
    · rw [List.getElem?_set_ne (Ne.symm hj)] at h
      obtain ⟨v, b1, b2⟩ := i0.r.val j d h
      exact ⟨v, b1, b2.mono hf fun _ _ h => h⟩
  · obtain ⟨hj, h⟩ := ne h
    obtain ⟨ys, b1, b2, b3, b4, b5, b6⟩ := h1 j m h
    exact ⟨ys, b1, b2, by rw [upd_ne (fun z => hj (h2 j i m l h hi z))]; exact b3, b4, b5, b6.mono hf fun _ _ h => h⟩
/-- an own list is written -/
theorem SI.wr {i : Nat} {l l' : List D} (i0 : SI K g F0 H0 γ0 F H γ S ρ σ) (hi : ρ[i]? = some (.own l)) : ∃ p xs, σ[i]? = some (some (.ref p)) ∧ H p = some (.lst xs) ∧ Reps K g γ F xs l ∧
    ∀ xs', Reps K g γ F xs' l' → SI K g F0 H0 γ0 F (L2.upd H p (.lst xs')) γ S (ρ.set i (.own l')) σ := by
  obtain ⟨oa, h1, h2⟩ := i0.r.own
  obtain ⟨xs, a1, a2, a3, a4, a5, a6⟩ := h1 i l hi
  have hlt : i < ρ.length := (List.getElem?_eq_some_iff.mp hi).1
  refine ⟨oa i, xs, a1, a2, a6, fun xs' r' => ⟨i0.s.upd a2 a3 a4, ⟨by rw [List.length_set]; exact i0.r.len, fun j d h => ?_, oa, fun j m h => ?_, fun j k m m' a b => ?_⟩, i0.e.updNew a5⟩⟩
  · by_cases hj : j = i
    · subst hj
      rw [List.getElem?_set_self hlt] at h
      cases h
    · rw [List.getElem?_set_ne (Ne.symm hj)] at h
      exact i0.r.val j d h
  · by_cases hj : j = i
    · subst hj
      rw [List.getElem?_set_self hlt] at h
      cases h
      exact ⟨xs', a1, upd_same, a3, a4, a5, r'⟩
    · rw [List.getElem?_set_ne (Ne.symm hj)] at h
      obtain ⟨ys, b1, b2, b3, b4, b5, b6⟩ := h1 j m h
      exact ⟨ys, b1, by rw [upd_ne (fun z => hj (h2 j i m l h hi z))]; exact b2, b3, b4, b5, b6⟩
  · have old : ∀ {j : Nat} {m : List D}, (ρ.set i (.own l'))[j]? = some (.own m) → ∃ m, ρ[j]? = some (.own m) := fun {j m} h => by
      by_cases hj : j = i
      · rw [hj]; exact ⟨l, hi⟩
      · rw [List.getElem?_set_ne (Ne.symm hj)] at h; exact ⟨m, h⟩
    obtain ⟨m1, q1⟩ := old a
    obtain ⟨m2, q2⟩ := old b
    exact h2 j k m1 m2 q1 q2
/-- a cell is written -/
theorem SI.cell {c : Nat} {l l' : List D} (i0 : SI K g F0 H0 γ0 F H γ S ρ σ) (hc : S[c]? = some (.lst l)) : ∃ p xs, γ[c]? = some p ∧ H p = some (.lst xs) ∧ Reps K g γ F xs l ∧
    ∀ xs', Reps K g γ F xs' l' → SI K g F0 H0 γ0 F (L2.upd H p (.lst xs')) γ (S.set c (.lst l')) ρ σ := by
  obtain ⟨p, xs, h1, h2, h3⟩ := i0.s.cell c l hc
  have pg : p ∈ γ := List.mem_of_getElem? h1
  have fp : F p = none := i0.s.fr p pg
  have hlt : c < S.length := (List.getElem?_eq_some_iff.mp hc).1
  refine ⟨p, xs, h1, h2, h3, fun xs' r' => ⟨⟨fun a u h => by rw [upd_ne (ne_of_none h fp)]; exact i0.s.sub a u h, by rw [List.length_set]; exact i0.s.len, fun k m h => ?_, i0.s.nd, i0.s.fr, tabs_lst i0.s.tabs h2, i0.s.nt⟩, ⟨i0.r.len, i0.r.val, ?_⟩, ?_⟩⟩
  · by_cases hk : k = c
    · subst hk
      rw [List.getElem?_set_self hlt] at h
      cases h
      exact ⟨p, xs', h1, upd_same, r'⟩
    · rw [List.getElem?_set_ne (Ne.symm hk)] at h
      obtain ⟨a, ys, b1, b2, b3⟩ := i0.s.cell k m h
      refine ⟨a, ys, b1, ?_, b3⟩
      rw [upd_ne]
      · exact b2
      · intro z
        subst z
        exact hk ((List.getElem?_inj (List.getElem?_eq_some_iff.mp b1).1 i0.s.nd).mp (b1.trans h1.symm))
  · obtain ⟨oa, g1, g2⟩ := i0.r.own
    refine ⟨oa, fun j m h => ?_, g2⟩
    obtain ⟨ys, b1, b2, b3, b4, b5, b6⟩ := g1 j m h
    exact ⟨ys, b1, by rw [upd_ne (fun z => b4 (by rw [z]; exact pg))]; exact b2, b3, b4, b5, b6⟩
  · obtain ⟨δ, eg, hd⟩ := i0.e.g
    refine ⟨i0.e.f, i0.e.g, fun a u h n m => ?_, fun a h => ?_, i0.e.fn⟩
    · have hap : a ≠ p := fun z => by
        subst z
        rw [eg] at pg
        rcases List.mem_append.mp pg with z | z
        · exact m z
        · exact (hd a z).no h n
      rw [upd_ne hap]
      exact i0.e.h a u h n m
    · by_cases q : a = p
      · subst q; exact (Nw.lst h upd_same).elim
      · exact i0.e.n a fun u hu => h u (by rw [upd_ne q]; exact hu)
end
end Pv

/-! Pv14: the pieces of the soundness of statements. -/
namespace Pv
open PySem PySem.Spec PyProof.Rows L2

/-- what 'except ec as e: return er(e)' leans on -/
structure TwHyp (g : Gn) (wrd : Nat → Option Str) (P : Program) (w : World) (K : PySem.W.Frag) (mg : Str → Option Value) (base : Heap) (ec er : Str) : Prop where
  ex : ∃ (c : Value) (f : Addr) (fd : FuncData) (prm : Str), mg ec = some c ∧ (∀ k v, wrd k = some v → PySem.W.exmOne K (.ref (g.ca k)) c = some true) ∧
    FnX P w K mg base 1 f fd [prm] (spX K g wrd) ∧ Binds K fd [prm] [] ∧ mg er = some (.ref f) ∧ PySem.W.keepIn K (.ref f) = true
/-- the context of a def's body -/
structure CtxS (g : Gn) (wrd : Nat → Option Str) (cal : Nat → List D → Sto → Res D) (ck : Ck) (lv : Nat) (X : Cx) (W : WX) : Prop where
  c : CtxE g wrd cal ck lv X
  tk : L2N.Takes X W
  own : PassesOwn (model X.prog X.w) X.A X.env X.xe
  fn : X.env.scope.kind = .function
  fnc : ∀ x, X.fn x = true
  ex : ∀ x k, ck.ex.lookup x = some k → ∃ B newId initId bmB, ExcBaseFacts B newId initId bmB ∧ PySem.W.excIn X.K (g.ca k) bmB newId = true ∧ X.mg x = some (.ref (g.ca k)) ∧ PySem.W.keepIn X.K (.ref (g.ca k)) = true ∧ L2.Raises X (.ref (g.ca k))
  tw : ∀ ec er, ck.tw = some (ec, er) → X.stack = X.env :: X.outer ∧ X.env.frame = some X.env.locals ∧ L2H.RoomH 1 X.A ∧ TwHyp g wrd X.prog X.w X.K X.mg X.base ec er
section
variable (g : Gn) (wrd : Nat → Option Str) (cal : Nat → List D → Sto → Res D) (w : Option Nat) (X : Cx) (W : WX)
def SOk (t : TS) (f : Env → Sto → Out) : Prop := ∀ F0 H0 γ0 F H γ S ρ σ Dn, SI X.K g F0 H0 γ0 F H γ S ρ σ → Pso X.K g F0 H0 γ0 F γ (f ρ S) Dn W → t Dn σ H
def DS (st : Stmt) (m : T) : Prop := ∃ t, PS X st t ∧ SOk g X W t (exec wrd cal w m)
def DSs (st : List Stmt) (m : T) : Prop := ∃ t, PSs X st t ∧ SOk g X W t (exec wrd cal w m)
/-- a value for a slot -/
def DVr (o : Bool) (t : TE) (f : Env → Sto → Res D) : Prop := ∀ H0 F H γ S ρ σ Q, SS X.K g F H γ S → ER X.K g H0 F H γ ρ σ → Pvt X.K g o F H γ (f ρ S) Q (fun c dd H' => W c dd σ H') → t σ H Q
end
section
variable {g : Gn} {wrd : Nat → Option Str} {cal : Nat → List D → Sto → Res D} {w : Option Nat} {lv : Nat} {ck : Ck} {X : Cx} {W : WX}
theorem DEr.dv {t : TE} {f : Env → Sto → Res D} (h : DEr g X W (RR X.K g) t f) : DVr g X W false t f := fun H0 F H γ S ρ σ Q s r q => by
  refine h H0 F H γ S ρ σ Q s r ?_
  revert q
  cases e : f ρ S with
  | ok d S' =>
    rintro ⟨x, e1, q⟩
    cases e1
    exact fun v F' H' γ' e s r => q v F' H' γ' e s r
  | exc j S' => exact fun q => q
  | bad => exact fun q => q
theorem DFr.dv {t : TE} {f : Env → Sto → Res D} (h : DFr g X W t f) : DVr g X W true t f := fun H0 F H γ S ρ σ Q s r q => by
  refine h H0 F H γ S ρ σ Q s r ?_
  revert q
  cases e : f ρ S with
  | ok d S' =>
    rintro ⟨x, e1, q⟩
    cases d with
    | lst l =>
      cases e1
      exact fun p xs F' H' γ' e s a b c d r => q _ F' H' γ' e s ⟨p, xs, rfl, a, b, c, d, r⟩
    | _ => cases e1
  | exc j S' => exact fun q => q
  | bad => exact fun q => q
/-- may it be what a slot gets? -/
def chkV (ck : Ck) (N : List Str) (sc : Scope) (o : Bool) (m : E) (e : Expr) : Bool := (!o || isFresh m) && chk ck N sc false m e
theorem dv_of {o : Bool} {m : E} {e : Expr} (C : CtxS g wrd cal ck lv X W) (h : chkV ck X.N X.env.scope o m e = true) : ∃ t, PE X e t ∧ DVr g X W o t (ev wrd cal m) := by
  obtain ⟨h1, h2⟩ := Bool.and_eq_true_iff.mp h
  cases o with
  | false =>
    obtain ⟨t, p, k⟩ := (snd (wrd := wrd) m C.c C.tk).de h2
    exact ⟨t, p, k.dv⟩
  | true =>
    obtain ⟨t, p, k⟩ := df_of (wrd := wrd) C.c C.tk (by simpa using h1) h2
    exact ⟨t, p, k.dv⟩
/-- the name x is a local of the def at slot i -/
theorem CtxS.asn {g : Gn} {wrd : Nat → Option Str} {cal : Nat → List D → Sto → Res D} {lv : Nat} {ck : Ck} {X : Cx} {W : WX} (C : CtxS g wrd cal ck lv X W) : Asn X (asF X.env.scope) := fun x h => by
  unfold asF at h
  split at h
  · rename_i e; exact ⟨.inl e, .inr e⟩
  · rename_i e; exact ⟨.inr e, .inl (C.fnc x)⟩
  · cases h
/-- the name x stands at slot i and may be stored -/
def nameF (N : List Str) (sc : Scope) (i : Nat) (x : Str) : Bool := (match N[i]? with
  | some y => y == x
  | none => false) && asF sc x
def nameB (N : List Str) (sc : Scope) (i : Nat) (x : Str) : Bool := (match N[i]? with
  | some y => y == x
  | none => false) && locB sc x
theorem nameB_of {N : List Str} {sc : Scope} {i : Nat} {x : Str} (h : nameB N sc i x = true) : N[i]? = some x ∧ sc.names.lookup x = some .local := by
  obtain ⟨h1, h2⟩ := Bool.and_eq_true_iff.mp h
  refine ⟨?_, loc_of h2⟩
  split at h1
  · rename_i y hy; rw [hy, eq_of_beq h1]
  · cases h1
/-- a comprehension that is stored at once -/
def isCompM : E → Bool
  | .comp _ _ _ _ _ => true
  | _ => false
def locOnly (sc : Scope) (y : Str) : Bool := match sc.names.lookup y with
  | some .local => true
  | _ => false
def lcB (sc : Scope) (py : Pos) (y : Str) (m : E) : Expr → Bool
  | .ListComp _ _ scope pos => isCompM m && (if locOnly sc y then py.line == pos.line && !(scope.names.any fun (n, k) => n == y && (k == .local || k == .cell)) else true)
  | e => !isCompE e
/-- name = value -/
theorem ds_set {o : Bool} {i : Nat} {m : E} {y : Str} {py spos : Pos} {e : Expr} (C : CtxS g wrd cal ck lv X W) (hn : nameF X.N X.env.scope i y = true) (hv : chkV ck X.N X.env.scope o m e = true) (hl : lcB X.env.scope py y m e = true) :
    DS g wrd cal w X W (.Assign [.Name y py] e spos) (.set o i m) := by
  obtain ⟨n0, nas⟩ := Bool.and_eq_true_iff.mp hn
  have n1 : X.N[i]? = some y := by
    split at n0
    · rename_i z hz; rw [hz, eq_of_beq n0]
    · cases n0
  obtain ⟨m1, m2⟩ := C.asn y nas
  have fin : ∀ {te : TE}, PS X (.Assign [.Name y py] e spos) (tAsg te (gName i)) → DVr g X W o te (ev wrd cal m) → DS g wrd cal w X W (.Assign [.Name y py] e spos) (.set o i m) := fun {te} p k => by
    refine ⟨_, p, fun F0 H0 γ0 F H γ S ρ σ Dn i0 q => ?_⟩
    simp only [exec] at q
    refine k H0 F H γ S ρ σ _ i0.s i0.r (Pso.outV q i0 (fun d S1 hx _ q => by rw [hx] at q; exact q) fun d x S1 v F' H' γ' _ hx e1 i1 vo q => ?_)
    rw [hx] at q
    simp only at q
    split at q
    · rename_i hlt
      exact q _ _ _ _ .refl (i0.setX e1 i1.s hlt vo)
    · exact q.elim
  by_cases hc : isCompE e = true
  · cases e with
    | ListComp elt gs scope pos =>
      have hl : (isCompM m && (if locOnly X.env.scope y then py.line == pos.line && !(scope.names.any fun (n, k) => n == y && (k == .local || k == .cell)) else true)) = true := hl
      obtain ⟨hm, hl⟩ := Bool.and_eq_true_iff.mp hl
      by_cases hlo : locOnly X.env.scope y = true
      case neg =>
        obtain ⟨t, p, k⟩ := dv_of (wrd := wrd) C hv
        refine fin (ps_set C.c.nd n1 m1 p (sw_cell (fun z => hlo ?_) fun a b c z => by cases z) m2) k
        unfold locOnly
        rw [z]
      rw [if_pos hlo] at hl
      have n2 : X.env.scope.names.lookup y = some .local := by
        unfold locOnly at hlo
        split at hlo
        · assumption
        · cases hlo
      simp only [Bool.and_eq_true, Bool.not_eq_true'] at hl
      obtain ⟨h1, h2⟩ := Bool.and_eq_true_iff.mp hv
      have hsw := fun l => sw_true (elt := elt) (gs := gs) (l := l) (env := X.env) C.fn n2 hl.1 hl.2
      cases m with
      | comp own gt it cond elt' =>
        obtain ⟨y', tg, iter, ifs, scope', pos', wi, gg, tt, te, e1, c⟩ := comp_parts C.c (snd it C.c C.tk) (fun C tk => snd cond C tk) (fun C tk => snd elt' C tk) h2
        cases e1
        refine fin (ps_setLc C.c.calm C.c.nd n1 n2 (hsw _) c.pi c.blk c.pg c.pt c.pe (noset_of c.noset)) ?_
        cases o with
        | false => exact (c.df.der fun ρ S d S' e => ev_comp_lst e).dv
        | true => exact c.df.dv
      | _ => cases hm
    | SetComp _ _ _ _ => cases hl
    | DictComp _ _ _ _ _ => cases hl
    | _ => cases hc
  · have hc : isCompE e = false := by simpa using hc
    obtain ⟨t, p, k⟩ := dv_of (wrd := wrd) C hv
    exact fin (ps_set C.c.nd n1 m1 p (sw_none hc) m2) k
/-- a tuple of names takes a value -/
theorem ds_setG {gt : G} {m : E} {es : List Expr} {k : Nat} {tp spos : Pos} {e : Expr} (C : CtxS g wrd cal ck lv X W) (hg : chkG X.N (asF X.env.scope) gt (.Tuple es k tp) = true) (hv : chk ck X.N X.env.scope false m e = true) (hw : swappedStores [.Tuple es k tp] e X.env = pure none) :
    DS g wrd cal w X W (.Assign [.Tuple es k tp] e spos) (.setG gt m) := by
  obtain ⟨t, p, kk⟩ := (snd (wrd := wrd) m C.c C.tk).de hv
  obtain ⟨tg, pg, kg⟩ := (g_ok (g := g) C.c.nd C.c.calm C.asn gt).1 _ hg
  refine ⟨_, ps_asg p pg sw_tup hw, fun F0 H0 γ0 F H γ S ρ σ Dn i0 q => ?_⟩
  simp only [exec] at q
  refine kk H0 F H γ S ρ σ _ i0.s i0.r (Pso.out q i0 fun d S1 v F' H' γ' _ e1 i1 r1 q => ?_)
  split at q
  · rename_i ρ' e2
    exact kg H0 F' H' γ' S1 ρ σ v d ρ' _ i1.s i1.r r1 e2 fun σ' r2 _ => q σ' F' H' γ' .refl ⟨i1.s, r2, i1.e⟩
  · exact q.elim
theorem pa2 {a b : Expr} {ta tb : TE} (hsa : isStar a = false) (hsb : isStar b = false) (pa : PE X a ta) (pb : PE X b tb) : PA X [a, b] (tCons ta (tCons tb tNil)) := pa_cons pa (pa_cons pb pa_nil (star_cons hsb)) (star_cons hsa)
/-- x, y = a, b where one of both is captured: by way of a tuple -/
theorem ds_parT {o o' : Bool} {i j : Nat} {a b : E} {x y : Str} {px py pt pt2 spos : Pos} {kt k2 : Nat} {ea eb : Expr} (C : CtxS g wrd cal ck lv X W) (hx : nameF X.N X.env.scope i x = true) (hy : nameF X.N X.env.scope j y = true) (hij : i ≠ j)
    (hsa : isStar ea = false) (hsb : isStar eb = false) (hnl : [Expr.Name x px, Expr.Name y py].any (notLoc X.env.scope) = true) (ha : chkV ck X.N X.env.scope o a ea = true) (hb : chkV ck X.N X.env.scope o' b eb = true) :
    DS g wrd cal w X W (.Assign [.Tuple [.Name x px, .Name y py] kt pt] (.Tuple [ea, eb] k2 pt2) spos) (.par o o' i j a b) := by
  have nf : ∀ {i : Nat} {x : Str}, nameF X.N X.env.scope i x = true → X.N[i]? = some x ∧ Loc X.env.scope x ∧ (X.fn x = true ∨ X.env.scope.names.lookup x = some .local) := fun {i x} h => by
    obtain ⟨n0, nas⟩ := Bool.and_eq_true_iff.mp h
    obtain ⟨m1, m2⟩ := C.asn x nas
    refine ⟨?_, m1, m2⟩
    split at n0
    · rename_i z hz; rw [hz, eq_of_beq n0]
    · cases n0
  obtain ⟨x1, x2, x3⟩ := nf hx
  obtain ⟨y1, y2, y3⟩ := nf hy
  obtain ⟨ta, pa, ka⟩ := dv_of (wrd := wrd) C ha
  obtain ⟨tb, pb, kb⟩ := dv_of (wrd := wrd) C hb
  refine ⟨_, ps_asg (pe_tup (pa2 hsa hsb pa pb)) (pg_tup C.c.calm (pgs_cons (pg_name C.c.nd x1 x2 x3) (pgs_cons (pg_name C.c.nd y1 y2 y3) pgs_nil)) rfl rfl) sw_tup (sst_cell hnl), fun F0 H0 γ0 F H γ S ρ σ Dn i0 q => ?_⟩
  simp only [exec] at q
  refine ka H0 F H γ S ρ σ _ i0.s i0.r (Pso.outV q i0 (fun d S1 hd _ q => by rw [hd] at q; exact q) fun d sx S1 v F1 H1 γ1 _ hd e1 i1 vo q => ?_)
  rw [hd] at q
  refine kb H0 F1 H1 γ1 S1 ρ σ _ i1.s i1.r (Pso.outV q i1 (fun d' S2 hd' _ q => by rw [hd'] at q; exact q) fun d' sy S2 v' F2 H2 γ2 _ hd' e2 i2 vo' q => ?_)
  rw [hd'] at q
  simp only at q
  split at q
  · rename_i hlt
    refine ⟨by show 2 ≤ sizeLine; decide, fun T hT => ?_⟩
    obtain ⟨s3, fT, gT⟩ := i2.s.newU (o := .tup [v, v']) hT
    have e3 : Ext F2 H2 γ2 F2 (L2.upd H2 T (.tup [v, v'])) γ2 := Ext.refl.updNew (.of hT)
    have iA := i0.setX e1 i1.s hlt.1 vo
    have iB := iA.setX e2 i2.s (by rw [List.length_set]; exact hlt.2) vo'
    exact ⟨T, [v, v'], rfl, .inl (.inl upd_same), rfl, v, [v'], rfl, v', [], rfl, rfl, q _ _ _ _ .refl (iB.ext e3 s3)⟩
  · exact q.elim
/-- x, y = a, b -/
theorem ds_par {o o' : Bool} {i j : Nat} {a b : E} {x y : Str} {px py pt pt2 spos : Pos} {kt k2 : Nat} {ea eb : Expr} (C : CtxS g wrd cal ck lv X W) (hx : nameB X.N X.env.scope i x = true) (hy : nameB X.N X.env.scope j y = true) (hij : i ≠ j) (hxy : (y == x) = false) (hl : py.line = px.line)
    (hsa : isStar ea = false) (hsb : isStar eb = false) (hf : [ea, eb].all (foldedForSure 8) = false) (hc : [ea, eb].all (constantsAlone 8) = false) (ha : chkV ck X.N X.env.scope o a ea = true) (hb : chkV ck X.N X.env.scope o' b eb = true) :
    DS g wrd cal w X W (.Assign [.Tuple [.Name x px, .Name y py] kt pt] (.Tuple [ea, eb] k2 pt2) spos) (.par o o' i j a b) := by
  obtain ⟨x1, x2⟩ := nameB_of hx
  obtain ⟨y1, y2⟩ := nameB_of hy
  obtain ⟨ta, pa, ka⟩ := dv_of (wrd := wrd) C ha
  obtain ⟨tb, pb, kb⟩ := dv_of (wrd := wrd) C hb
  refine ⟨_, ps_par C.c.calm C.c.nd x1 y1 hij x2 y2 (pa2 hsa hsb pa pb) (sst_par C.fn x2 y2 hl hxy hsa hsb hf hc) sw_tup, fun F0 H0 γ0 F H γ S ρ σ Dn i0 q => ?_⟩
  simp only [exec] at q
  refine ka H0 F H γ S ρ σ _ i0.s i0.r (Pso.outV q i0 (fun d S1 hd _ q => by rw [hd] at q; exact q) fun d sx S1 v F1 H1 γ1 _ hd e1 i1 vo q => ?_)
  rw [hd] at q
  refine kb H0 F1 H1 γ1 S1 ρ σ _ i1.s i1.r (Pso.outV q i1 (fun d' S2 hd' _ q => by rw [hd'] at q; exact q) fun d' sy S2 v' F2 H2 γ2 _ hd' e2 i2 vo' q => ?_)
  rw [hd'] at q
  simp only at q
  split at q
  · rename_i hlt
    refine ⟨v, v', rfl, q _ _ _ _ .refl ?_⟩
    have iA := i0.setX e1 i1.s hlt.1 vo
    exact iA.setX e2 i2.s (by rw [List.length_set]; exact hlt.2) vo'
  · exact q.elim
end
end Pv

/-! Pv15: the soundness of statements. -/
namespace Pv
open PySem PySem.Spec PyProof.Rows L2

section
variable {g : Gn} {wrd : Nat → Option Str} {cal : Nat → List D → Sto → Res D} {w : Option Nat} {lv : Nat} {ck : Ck} {X : Cx} {W : WX}
theorem Reps.ixs {K : PySem.W.Frag} {F : Hp} {γ : List Addr} {xs : List V} {l : List D} (r : Reps K g γ F xs l) {y : Int} {k : Nat} (e : Pv.ixN l.length y = some k) : L2.ixN xs.length y = some k := by
  rw [r.length]
  exact e
/-- name[j] = value, name a list of the def's own -/
theorem ds_setIx {i : Nat} {j m : E} {y : Str} {py sp spos : Pos} {x e : Expr} (C : CtxS g wrd cal ck lv X W) (hs : slotB X.N X.env.scope i y = true) (hj : chk ck X.N X.env.scope true j x = true) (hsl : isSlice x = false) (hv : chk ck X.N X.env.scope false m e = true) :
    DS g wrd cal w X W (.Assign [.Subscript (.Name y py) x sp] e spos) (.setIx i j m) := by
  obtain ⟨s1, s2, s3, s4⟩ := slotB_of hs
  obtain ⟨t, p, k⟩ := (snd (wrd := wrd) m C.c C.tk).de hv
  obtain ⟨tj, pj, kj⟩ := (snd (wrd := wrd) j C.c C.tk).be hj
  refine ⟨_, ps_asg p (pg_sub (pe_var s1 s2 s3 s4) pj set_list (fun v => by cases x <;> first | rfl | cases hsl)) sw_sub sst_sub, fun F0 H0 γ0 F H γ S ρ σ Dn i0 q => ?_⟩
  simp only [exec] at q
  refine k H0 F H γ S ρ σ _ i0.s i0.r (Pso.out q i0 fun d S1 v F1 H1 γ1 _ e1 i1 r1 q => ?_)
  split at q
  · rename_i l ho
    have ho := getO_eq ho
    obtain ⟨p0, xs0, a0, _⟩ := i1.wr (l' := l) ho
    refine ⟨_, a0, ?_⟩
    refine kj H0 F1 H1 γ1 S1 ρ σ _ i1.s i1.r (Pso.out q i1 fun dj S2 vj F2 H2 γ2 _ e2 i2 r2 q => ?_)
    split at q
    · rename_i y'
      obtain rfl := Top.int r2
      split at q
      · rename_i k' hk
        obtain ⟨p, xs, b1, b2, b3, b4⟩ := i2.wr (l' := l.set k' d) ho
        rw [a0] at b1
        cases b1
        exact ⟨p0, xs, _, k', rfl, rfl, b2, b3.ixs hk, q _ _ _ _ .refl (b4 _ (b3.set (e2.rep r1) k'))⟩
      · exact q.elim
    · exact q.elim
  · exact q.elim
/-- name.append(value) -/
theorem ds_app {i : Nat} {m : E} {y nm : Str} {py apos cpos spos : Pos} {e : Expr} (C : CtxS g wrd cal ck lv X W) (hnm : nm = ("append" : Str)) (hs : slotB X.N X.env.scope i y = true) (hl : (apos.endLine == cpos.line) = true) (hst : isStar e = false) (hv : chk ck X.N X.env.scope false m e = true) :
    DS g wrd cal w X W (.Expr (.Call (.Attribute (.Name y py) nm apos) [e] [] cpos) spos) (.app i m) := by
  subst hnm
  obtain ⟨s1, s2, s3, s4⟩ := slotB_of hs
  obtain ⟨t, p, k⟩ := (snd (wrd := wrd) m C.c C.tk).de hv
  have sc : starEach [e] X.env = [(false, eval e X.env)] := star_cons hst
  refine ⟨_, ps_expr (pe_bm PySem.F.plainAttrs_list PySem.F.slot_list_append PySem.F.type_list_append mt_append (pe_var s1 s2 s3 s4) (pa_cons p pa_nil (star_cons hst)) rfl (by rw [sc]; rfl) hl (star_cons hst) rfl), fun F0 H0 γ0 F H γ S ρ σ Dn i0 q => ?_⟩
  simp only [exec] at q
  split at q
  · rename_i l ho
    have ho := getO_eq ho
    obtain ⟨p0, xs0, a0, a1, _⟩ := i0.wr (l' := l) ho
    refine ⟨_, a0, .inl ⟨rfl, _, SqL.of a1⟩, ?_⟩
    refine k H0 F H γ S ρ σ _ i0.s i0.r (Pso.out q i0 fun d S1 v F1 H1 γ1 _ e1 i1 r1 q => ?_)
    split at q
    · rename_i hlen
      obtain ⟨p, xs, b1, b2, b3, b4⟩ := i1.wr (l' := l ++ [d]) ho
      rw [a0] at b1
      cases b1
      refine ⟨p0, xs, v, rfl, rfl, b2, ?_, q _ _ _ _ .refl (b4 _ (b3.append (.cons r1 .nil)))⟩
      have := lenOk_le hlen
      rw [b3.length]
      omega
    · exact q.elim
  · exact q.elim
/-- cell[j] = value -/
theorem ds_setCell {o j m : E} {sp spos : Pos} {eo x e : Expr} (C : CtxS g wrd cal ck lv X W) (ho : chk ck X.N X.env.scope false o eo = true) (hj : chk ck X.N X.env.scope true j x = true) (hsl : isSlice x = false) (hv : chk ck X.N X.env.scope false m e = true) :
    DS g wrd cal w X W (.Assign [.Subscript eo x sp] e spos) (.setCell o j m) := by
  obtain ⟨t, p, k⟩ := (snd (wrd := wrd) m C.c C.tk).de hv
  obtain ⟨to, po, ko⟩ := (snd (wrd := wrd) o C.c C.tk).de ho
  obtain ⟨tj, pj, kj⟩ := (snd (wrd := wrd) j C.c C.tk).be hj
  refine ⟨_, ps_asg p (pg_sub po pj set_list (fun v => by cases x <;> first | rfl | cases hsl)) sw_sub sst_sub, fun F0 H0 γ0 F H γ S ρ σ Dn i0 q => ?_⟩
  simp only [exec] at q
  refine k H0 F H γ S ρ σ _ i0.s i0.r (Pso.out q i0 fun d S1 v F1 H1 γ1 _ e1 i1 r1 q => ?_)
  refine ko H0 F1 H1 γ1 S1 ρ σ _ i1.s i1.r (Pso.out q i1 fun x S2 vo F2 H2 γ2 _ e2 i2 r2 q => ?_)
  refine kj H0 F2 H2 γ2 S2 ρ σ _ i2.s i2.r (Pso.out q i2 fun dj S3 vj F3 H3 γ3 _ e3 i3 r3 q => ?_)
  split at q
  · rename_i c y'
    obtain rfl := Top.int r3
    split at q
    · rename_i l hc
      split at q
      · rename_i k' hk
        obtain ⟨p, xs, b1, b2, b3, b4⟩ := i3.cell (l' := l.set k' d) hc
        cases r2 with
        | cell hg =>
          have hg := e3.gk _ _ hg
          rw [b1] at hg
          cases hg
          exact ⟨p, xs, _, k', rfl, rfl, b2, b3.ixs hk, q _ _ _ _ .refl (b4 _ (b3.set (e3.rep (e2.rep r1)) k'))⟩
      · exact q.elim
    · exact q.elim
  · exact q.elim
theorem ds_drop {m : E} {e : Expr} {spos : Pos} (C : CtxS g wrd cal ck lv X W) (hc : isCompE e = false) (hv : chk ck X.N X.env.scope false m e = true) : DS g wrd cal w X W (.Expr e spos) (.drop m) := by
  obtain ⟨t, p, k⟩ := (snd (wrd := wrd) m C.c C.tk).de hv
  refine ⟨_, ps_expr p (sw_none hc), fun F0 H0 γ0 F H γ S ρ σ Dn i0 q => ?_⟩
  simp only [exec] at q
  exact k H0 F H γ S ρ σ _ i0.s i0.r (Pso.out q i0 fun d S1 v F1 H1 γ1 _ e1 i1 r1 q => q _ _ _ _ .refl i1)
theorem ds_ret {m : E} {e : Expr} {spos : Pos} (C : CtxS g wrd cal ck lv X W) (hv : chk ck X.N X.env.scope false m e = true) : DS g wrd cal w X W (.Return (some e) spos) (.ret m) := by
  obtain ⟨t, p, k⟩ := (snd (wrd := wrd) m C.c C.tk).de hv
  refine ⟨_, ps_ret p, fun F0 H0 γ0 F H γ S ρ σ Dn i0 q => ?_⟩
  simp only [exec] at q
  exact k H0 F H γ S ρ σ _ i0.s i0.r (Pso.out q i0 fun d S1 v F1 H1 γ1 _ e1 i1 r1 q => q _ _ _ _ i1.e i1.s r1)
theorem ds_retN {spos : Pos} : DS g wrd cal w X W (.Return none spos) .retN := ⟨_, ps_retN, fun F0 H0 γ0 F H γ S ρ σ Dn i0 q => by
  simp only [exec] at q
  exact q _ _ _ _ i0.e i0.s .non⟩
theorem ds_pass {spos : Pos} : DS g wrd cal w X W (.Pass spos) .skip := ⟨_, ps_pass, fun F0 H0 γ0 F H γ S ρ σ Dn i0 q => by
  simp only [exec] at q
  exact q _ _ _ _ .refl i0⟩
theorem ds_brk {spos : Pos} : DS g wrd cal w X W (.Break spos) .brk := ⟨_, ps_break, fun F0 H0 γ0 F H γ S ρ σ Dn i0 q => by
  simp only [exec] at q
  exact q _ _ _ _ .refl i0⟩
theorem ds_cont {spos : Pos} : DS g wrd cal w X W (.Continue spos) .cont := ⟨_, ps_continue, fun F0 H0 γ0 F H γ S ρ σ Dn i0 q => by
  simp only [exec] at q
  exact q _ _ _ _ .refl i0⟩
theorem dss_nil : DSs g wrd cal w X W [] .skip := ⟨_, pss_nil, fun F0 H0 γ0 F H γ S ρ σ Dn i0 q => by
  simp only [exec] at q
  exact q _ _ _ _ .refl i0⟩
/-- raise X('..') -/
theorem ds_rais {k j : Nat} {x m : Str} {p p2 pos spos : Pos} (C : CtxS g wrd cal ck lv X W) (hx : ck.ex.lookup x = some k) (hg : glB X.env.scope x = true) (hn : plainName x = true) :
    DS g wrd cal w X W (.Raise (some (.Call (.Name x p) [.Constant (.str m) j p2] [] pos)) none spos) (.rais k) := by
  obtain ⟨B, n1, n2, bm, F1, h1, h2, h3, h4⟩ := C.ex x k hx
  refine ⟨_, L2N.ps_raise C.c.calm C.tk (L2N.pmk_own F1 h1 h2 h3 h4 (gl_of hg) (plainName_of hn).1), fun F0 H0 γ0 F H γ S ρ σ Dn i0 q => ?_⟩
  simp only [exec] at q
  exact q σ F H γ .refl i0
/-- one after another -/
theorem dss_cons {s t : T} {st : Stmt} {r : List Stmt} (h1 : DS g wrd cal w X W st s) (h2 : DSs g wrd cal w X W r t) : DSs g wrd cal w X W (st :: r) (.seq s t) := by
  obtain ⟨t1, p1, k1⟩ := h1
  obtain ⟨t2, p2, k2⟩ := h2
  refine ⟨_, pss_cons p1 p2, fun F0 H0 γ0 F H γ S ρ σ Dn i0 q => ?_⟩
  simp only [exec] at q
  refine k1 F0 H0 γ0 F H γ S ρ σ _ i0 ?_
  revert q
  cases e : exec wrd cal w s ρ S with
  | nx ρ1 S1 => exact fun q σ' F' H' γ' mo i1 => k2 F0 H0 γ0 F' H' γ' S1 ρ1 σ' Dn i1 (Pso.mo q mo)
  | rt d S1 => exact fun q => q
  | bk ρ1 S1 => exact fun q => q
  | ct ρ1 S1 => exact fun q => q
  | exc j ρ1 S1 => exact fun q => q
  | bad => exact fun q => q
theorem dss_frz {i : Nat} {t : T} {r : List Stmt} (h2 : DSs g wrd cal w X W r t) : DSs g wrd cal w X W r (.seq (.frz i) t) := by
  obtain ⟨t2, p2, k2⟩ := h2
  refine ⟨_, p2, fun F0 H0 γ0 F H γ S ρ σ Dn i0 q => ?_⟩
  simp only [exec] at q
  revert q
  cases e : getO ρ i with
  | none => exact fun q => q.elim
  | some l =>
    intro q
    obtain ⟨F', mo, i1⟩ := i0.frz (getO_eq e)
    exact k2 F0 H0 γ0 F' H γ S _ σ Dn i1 (Pso.mo q mo)
theorem ds_ite {c : E} {s t : T} {e : Expr} {a b : List Stmt} {spos : Pos} (C : CtxS g wrd cal ck lv X W) (hc : chkT ck X.N X.env.scope c e = true) (h1 : DSs g wrd cal w X W a s) (h2 : DSs g wrd cal w X W b t) : DS g wrd cal w X W (.If e a b spos) (.ite c s t) := by
  obtain ⟨tc, pc, kc⟩ := (snd (wrd := wrd) c C.c C.tk).t _ hc
  obtain ⟨t1, p1, k1⟩ := h1
  obtain ⟨t2, p2, k2⟩ := h2
  refine ⟨_, ps_if pc p1 p2, fun F0 H0 γ0 F H γ S ρ σ Dn i0 q => ?_⟩
  simp only [exec] at q
  refine kc H0 F H γ S ρ σ _ i0.s i0.r (Pso.out q i0 fun d S1 v F1 H1 γ1 _ e1 i1 r1 q => ?_)
  cases r1
  cases v with
  | true => exact iteT (k1 F0 H0 γ0 F1 H1 γ1 S1 ρ σ Dn i1 q)
  | false => exact iteF (k2 F0 H0 γ0 F1 H1 γ1 S1 ρ σ Dn i1 q)
/-- while -/
theorem ds_whil {c : E} {s : T} {e : Expr} {a : List Stmt} {spos : Pos} (C : CtxS g wrd cal ck lv X W) (hc : chkT ck X.N X.env.scope c e = true) (h1 : DSs g wrd cal w X W a s) : DS g wrd cal w X W (.While e a [] spos) (.whil c s) := by
  obtain ⟨tc, pc, kc⟩ := (snd (wrd := wrd) c C.c C.tk).t _ hc
  obtain ⟨t1, p1, k1⟩ := h1
  refine ⟨_, ps_while C.own pc p1, fun F0 H0 γ0 F H γ S ρ σ Dn i0 q => ?_⟩
  simp only [exec] at q
  have hn : ∃ n, Pso X.K g F0 H0 γ0 F γ (whN (ev wrd cal c) (exec wrd cal w s) n ρ S) Dn W := by
    unfold whR at q
    cases w with
    | some n => exact ⟨n, q⟩
    | none =>
      simp only at q
      unfold whA at q
      split at q
      · exact ⟨_, q⟩
      · exact q.elim
  obtain ⟨n, q⟩ := hn
  refine ⟨fun m σ H => ∃ F1 γ1 S1 ρ1, Mo F γ F1 γ1 ∧ SI X.K g F0 H0 γ0 F1 H γ1 S1 ρ1 σ ∧ Pso X.K g F0 H0 γ0 F1 γ1 (whN (ev wrd cal c) (exec wrd cal w s) m ρ1 S1) Dn W, ⟨n, F, γ, S, ρ, .refl, i0, q⟩, ?_⟩
  rintro m σ1 H1 ⟨F1, γ1, S1, ρ1, mo, i1, q⟩
  cases m with
  | zero => exact q.elim
  | succ m =>
    simp only [whN] at q
    refine kc H0 F1 H1 γ1 S1 ρ1 σ1 _ i1.s i1.r ?_
    revert q
    cases ec : ev wrd cal c ρ1 S1 with
    | bad => exact fun q => q
    | exc j S2 => exact fun q F' H' γ' e s => q σ1 F' H' γ' e.mo (i1.ext e s)
    | ok d S2 =>
      intro q bb F2 H2 γ2 e2 s2 r2
      cases r2
      have i2 := i1.ext e2 s2
      cases bb with
      | false => exact iteF (q _ _ _ _ e2.mo i2)
      | true =>
        refine iteT ⟨fun σ' H' => ∃ F' γ' S' ρ', Mo F γ F' γ' ∧ SI X.K g F0 H0 γ0 F' H' γ' S' ρ' σ' ∧ Pso X.K g F0 H0 γ0 F' γ' (whN (ev wrd cal c) (exec wrd cal w s) m ρ' S') Dn W, fun σ' H' h => ⟨m, Nat.lt_succ_self m, h⟩, ?_⟩
        refine k1 F0 H0 γ0 F2 H2 γ2 S2 ρ1 σ1 _ i2 ?_
        have q := Pso.mo q e2.mo
        revert q
        simp only
        have mo2 := mo.trans e2.mo
        cases exec wrd cal w s ρ1 S2 with
        | nx ρ3 S3 => exact fun q σ' F' H' γ' m' i' => ⟨F', γ', S3, ρ3, mo2.trans m', i', Pso.mo q m'⟩
        | ct ρ3 S3 => exact fun q σ' F' H' γ' m' i' => ⟨F', γ', S3, ρ3, mo2.trans m', i', Pso.mo q m'⟩
        | bk ρ3 S3 => exact fun q => q
        | rt d S3 => exact fun q => q
        | exc j ρ3 S3 => exact fun q => q
        | bad => exact fun q => q
/-- for -/
theorem ds_forr {gt : G} {it : E} {s : T} {tg iter : Expr} {a : List Stmt} {spos : Pos} (C : CtxS g wrd cal ck lv X W) (hset : isSetE iter = false) (hi : chkI ck X.N X.env.scope false it tg iter = true) (hg : chkG X.N (asF X.env.scope) gt tg = true) (h1 : DSs g wrd cal w X W a s) :
    DS g wrd cal w X W (.For tg iter a [] spos) (.forr gt it s) := by
  obtain ⟨wi, pi, ki⟩ := (snd (wrd := wrd) it C.c C.tk).i _ _ _ hi
  obtain ⟨tt, pg, kg⟩ := (g_ok (g := g) C.c.nd C.c.calm C.asn gt).1 _ hg
  obtain ⟨t1, p1, k1⟩ := h1
  refine ⟨_, ps_for C.own C.c.calm pi pg p1 (noset_of hset), fun F0 H0 γ0 F H γ S ρ σ Dn i0 q => ?_⟩
  simp only [exec] at q
  refine ki H0 F H γ S ρ σ _ i0.s i0.r (Pso.out q i0 fun its S1 J F1 H1 γ1 _ e1 i1 r1 q => ?_)
  obtain ⟨B, wd, hB, hnil⟩ := r1
  obtain rfl := hnil rfl
  refine ⟨fun i m σ H => m = its.length - i ∧ i ≤ its.length ∧ ∃ Fc γc Sc ρc, Mo F1 γ1 Fc γc ∧ SI X.K g F0 H0 γ0 Fc H γc Sc ρc σ ∧ Pso X.K g F0 H0 γ0 Fc γc (fors (asg gt) (exec wrd cal w s) (its.drop i) ρc Sc) Dn W, ⟨its.length, by simp, Nat.zero_le _, F1, γ1, S1, ρ, .refl, i1, q⟩, ?_⟩
  rintro i m σc Hc ⟨rfl, hi', Fc, γc, Sc, ρc, mo, ic, qc⟩
  have gb : GB F1 [] Hc := ⟨fun a o h => ic.s.sub a o (mo.f a o h), fun p hp => by simp at hp⟩
  by_cases hlt : i < its.length
  · refine .inr ⟨wd.goes i Hc hlt gb, fun σ' H' => ∃ F' γ' S' ρ', Mo F1 γ1 F' γ' ∧ SI X.K g F0 H0 γ0 F' H' γ' S' ρ' σ' ∧ Pso X.K g F0 H0 γ0 F' γ' (fors (asg gt) (exec wrd cal w s) (its.drop (i + 1)) ρ' S') Dn W, fun σ' H' h' => ⟨its.length - (i + 1), by omega, rfl, hlt, h'⟩, fun x Hy yl => ?_⟩
    obtain ⟨d, hd, hy⟩ := wd.yields i Hc x Hy hlt gb yl
    have hdrop : its.drop i = d :: its.drop (i + 1) := by
      obtain ⟨h1, h2⟩ := List.getElem?_eq_some_iff.mp hd
      rw [← h2]
      exact List.drop_eq_getElem_cons h1
    rw [hdrop] at qc
    simp only [fors] at qc
    have item : ∃ Fy, Ext Fc Hc γc Fy Hy γc ∧ SS X.K g Fy Hy γc Sc ∧ Rep X.K g γc Fy x d := by
      have mr : ∀ {v : V} {d : D}, Rep X.K g γ1 F1 v d → Rep X.K g γc Fc v d := fun r => r.mono mo.f mo.g
      rcases hy with ⟨rfl, hr⟩ | ⟨T, u, v, du, dv, rfl, nT, rfl, ru, rv, rfl⟩
      · exact ⟨Fc, .refl, ic.s, mr hr⟩
      · exact ⟨L2.upd Fc T (.tup [u, v]), Ext.new ic.s.sub nT, ic.s.new nT, .tup (.inl (.inl upd_same)) (reps_new ic.s nT (.cons (mr ru) (.cons (mr rv) .nil)))⟩
    obtain ⟨Fy, ey, sy, ry⟩ := item
    have iy := ic.ext ey sy
    cases hρ : asg gt d ρc with
    | none => rw [hρ] at qc; exact qc.elim
    | some ρ2 =>
      rw [hρ] at qc
      simp only at qc
      refine kg H0 Fy Hy γc Sc ρc σc x d ρ2 _ sy iy.r ry hρ fun σ2 r2 _ => ?_
      refine k1 F0 H0 γ0 Fy Hy γc Sc ρ2 σ2 _ ⟨sy, r2, iy.e⟩ ?_
      have qc := Pso.mo qc ey.mo
      have mo2 := mo.trans ey.mo
      revert qc
      cases exec wrd cal w s ρ2 Sc with
      | nx ρ3 S3 => exact fun q σ' F' H' γ' m' i' => ⟨F', γ', S3, ρ3, mo2.trans m', i', Pso.mo q m'⟩
      | ct ρ3 S3 => exact fun q σ' F' H' γ' m' i' => ⟨F', γ', S3, ρ3, mo2.trans m', i', Pso.mo q m'⟩
      | bk ρ3 S3 => exact fun q => q
      | rt d S3 => exact fun q => q
      | exc j ρ3 S3 => exact fun q => q
      | bad => exact fun q => q
  · have ei : i = its.length := by omega
    subst ei
    refine .inl ⟨wd.stops Hc gb, ?_⟩
    rw [List.drop_length] at qc
    simp only [fors] at qc
    exact qc _ _ _ _ .refl ic
theorem CtxS.tr {pn : List (Addr × Obj)} {xe : Value → Shared → Prop} {W' : WX} (C : CtxS g wrd cal ck lv X W) (tk : L2N.Takes (X.tr pn xe) W') (po : PassesOwn (model X.prog X.w) X.A X.env xe) : CtxS g wrd cal ck lv (X.tr pn xe) W' :=
  ⟨⟨C.c.nd, C.c.calm, C.c.room, C.c.gl, C.c.fr, C.c.fns, C.c.rf⟩, tk, po, C.fn, C.fnc, C.ex, C.tw⟩
/-- try: .. except ec as e: return er(e) -/
theorem ds_tryW {i : Nat} {m : T} {body : List Stmt} {ec e er : Str} {np p5 p6 p7 p8 p9 pos : Pos} (C : CtxS g wrd cal ck lv X W) (ht : ck.tw = some (ec, er)) (hn : nameB X.N X.env.scope i e = true) (pe : plainName e = true) (ge : glB X.env.scope ec = true) (pec : plainName ec = true)
    (gr : glB X.env.scope er = true) (per : plainName er = true) (hm : ∀ (pn : List (Addr × Obj)) (xe : Value → Shared → Prop) (W' : WX), L2N.Takes (X.tr pn xe) W' → PassesOwn (model X.prog X.w) X.A X.env xe → DSs g wrd cal w (X.tr pn xe) W' body m) :
    DS g wrd cal w X W (.Try body [.ExceptHandler (some (.Name ec np)) (some e) [.Return (some (.Call (.Name er p5) [.Name e p6] [] p7)) p8] p9] [] [] pos) (.tryW i m) := by
  obtain ⟨hs, hf, hroom, ⟨c, f, fd, prm, mec, hexm, Fx, hbx, mer, ker⟩⟩ := C.tw ec er ht
  obtain ⟨n1, n2⟩ := nameB_of hn
  generalize hts : tErr X.K g wrd i = ts
  let TB : WX → TS := fun W' D σ H => ∀ (pn : List (Addr × Obj)) (xe : Value → Shared → Prop) (tk : L2N.Takes (X.tr pn xe) W') (po : PassesOwn (model X.prog X.w) X.A X.env xe), Classical.choose (hm pn xe W' tk po) D σ H
  refine ⟨_, L2N.ps_try_as (i := i) (c := c) (Wout := W) (ts := ts) (tb := TB) hs hf C.c.nd n1 n2 ⟨gl_of ge, (plainName_of pec).1, .inl mec⟩ C.tk
    (fun W' pn xe tk po => ⟨fun pins s σ H D I h => (Classical.choose_spec (hm pn xe W' tk po)).1.run pins s σ H D I (h pn xe tk po)⟩)
    (fun a oe cls d pn hz hfd => by
      rw [← hts]
      exact err_suite (Z := X) hroom n1 (Bool.and_eq_true_iff.mp hn).2 pe gr per Fx hbx mer ker a oe cls d pn hz hfd), fun F0 H0 γ0 F H γ S ρ σ Dn i0 q => ?_⟩
  intro pn xe tk po
  refine (Classical.choose_spec (hm pn xe _ tk po)).2 F0 H0 γ0 F H γ S ρ σ Dn i0 ?_
  simp only [exec] at q
  revert q
  cases exec wrd cal w m ρ S with
  | nx ρ1 S1 => exact fun q => q
  | rt d S1 => exact fun q => q
  | bk ρ1 S1 => exact fun q => q
  | ct ρ1 S1 => exact fun q => q
  | bad => exact fun q => q
  | exc k ρ1 S1 =>
    intro q σ1 F1 H1 γ1 mo i1
    simp only at q
    split at q
    · rename_i v hw
      split at q
      · rename_i hlt
        refine ⟨true, hexm k v hw, fun _ a ha => ?_, fun z => by cases z⟩
        rw [← hts]
        refine ⟨List.getElem?_set_self (by rw [← i1.r.len]; exact hlt), k, v, hw, rfl, rfl, F1, γ1, S1, i1.s, fun F2 H2 γ2 e2 s2 => ?_⟩
        exact q _ _ _ _ (i1.e.trans e2) s2 (.str _)
      · exact q.elim
    · exact q.elim
end
end Pv

/-! Pv16: while an exception is handled: a list walked to its end, a tuple taken apart, a list comprehension. -/
namespace PvH
open PySem PySem.Spec PyProof.Rows L2 HotX

section
variable {prog : Program} {w : World} {A : Around} {E : Value → Shared → Prop} {s : Shared} {x1 : Addr}
theorem endList {it l : Addr} {i : Nat} {items : Array Value} {Q : Option Value → Shared → Prop} (hot : HotAt A x1 s.heap) (hi : s.heap.IsListIter it l i) (hl : s.heap.IsList l items) (hn : items[i]? = none) (hne : x1 ≠ it)
    (hQ : ∀ h2 : Heap, Heap.ExtBut it s.heap h2 → Q none { s with heap := h2 }) : wpAny (model prog w) A (pyNext (.ref it)) Q E s := by
  obtain ⟨hh, o1, vs1, g1, d1, c1⟩ := hot
  obtain ⟨oi, gi, ci, di⟩ := id hi
  obtain ⟨ol, gl, _, nl, dl⟩ := hl
  unfold pyNext
  refine wpAny_bind (wpAny_attempt (wpAny_callSpecial?_slot (name := Str.ofString "__next__") hi.typeIs slot_listiter_next (wpAny_call_entry slot_listiter_next hi.typeIs entry_listiter_next ?_ (args_listiter_next _))))
  show wpAny _ _ (field (.ref it) 0 >>= _) _ _ _
  refine wpAny_bind (wpAny_field gi di (x := Value.ref l) rfl ?_)
  show wpAny _ _ (if (Value.ref l == Value.none) = true then _ else _) _ _ _
  rw [if_neg (show ¬ ((Value.ref l == Value.none) = true) from fun z => Bool.false_ne_true z)]
  show wpAny _ _ (field (.ref it) 1 >>= _) _ _ _
  refine wpAny_bind (wpAny_field gi di (x := Value.int i 0) rfl ?_)
  show wpAny _ _ (seqItems? (.ref l) >>= _) _ _ _
  refine wpAny_bind (wpAny_seqItems gl dl ?_)
  simp only [Int.toNat_natCast, hn]
  refine wpAny_bind (wpAny_rule (wpAny_bind (wpAny_setField gi di (by simp) ?_)))
  generalize hs2 : s.heap.update it (Obj.mapFields (·.setIfInBounds 0 Value.none)) = hA
  have g2 : hA.get? x1 = some o1 := by rw [← hs2, Heap.get?_update_other _ _ (Ne.symm hne)]; exact g1
  have kA : Heap.ExtBut it s.heap hA := by rw [← hs2]; exact (Heap.SameBut.update ..).extBut
  show wpAny _ _ (newExc (.type "StopIteration") [] >>= _) _ _ _
  refine wpAny_bind ?_
  simp only [newExc, newTuple]
  refine wpAny_bind (wpAny_newObj_type ?_ (by size_fits))
  refine wpAny_bind (m := firstArgMember _ _) (wpAny_of_eq (a := Value.none) (by first | rfl | (simp only [firstArgMember]; rfl)) ?_)
  refine wpAny_newObj_type ?_ (by size_fits)
  have g3 := Heap.get?_push_of_some { cls := .type "tuple", data := .seq ([] : List Value).toArray } g2
  refine raiseNew_hot ⟨hh, o1, vs1, Heap.get?_push_of_some _ g3, d1, c1⟩ (Nat.ne_of_lt (Heap.lt_size g3)) (Heap.get?_push_size _ rfl) rfl (by first | (simp; done) | (simp; omega) | (simp only [Array.size_append]; simp; omega)) ?_
  refine wpAny_bind (wpAny_isInstance (T := "StopIteration") (b := true) ⟨_, Heap.get?_update_self _ (Heap.get?_push_size _ rfl) rfl, rfl⟩ isSubtype_stop ?_)
  refine wpAny_pure (hQ _ fun b o hb e => ?_)
  have e2 := Heap.get?_push_of_some { cls := .type "tuple", data := .seq ([] : List Value).toArray } (kA b o hb e)
  rw [Heap.get?_update_other _ _ (Nat.ne_of_gt (Heap.lt_size e2))]
  exact Heap.get?_push_of_some _ e2
theorem endTup {it l : Addr} {i : Nat} {items : Array Value} {Q : Option Value → Shared → Prop} (hot : HotAt A x1 s.heap) (hi : IsTupIter s.heap it l i) (hl : IsTup s.heap l items) (hn : items[i]? = none) (hne : x1 ≠ it)
    (hQ : ∀ h2 : Heap, Heap.ExtBut it s.heap h2 → Q none { s with heap := h2 }) : wpAny (model prog w) A (pyNext (.ref it)) Q E s := by
  obtain ⟨hh, o1, vs1, g1, d1, c1⟩ := hot
  obtain ⟨oi, gi, ci, di⟩ := id hi
  obtain ⟨ol, gl, _, nl, dl⟩ := hl
  unfold pyNext
  refine wpAny_bind (wpAny_attempt (wpAny_callSpecial?_slot (name := Str.ofString "__next__") hi.typeIs slot_tupleiter_next (wpAny_call_entry slot_tupleiter_next hi.typeIs entry_tupleiter_next ?_ (args_tupleiter_next _))))
  show wpAny _ _ (field (.ref it) 0 >>= _) _ _ _
  refine wpAny_bind (wpAny_field gi di (x := Value.ref l) rfl ?_)
  show wpAny _ _ (if (Value.ref l == Value.none) = true then _ else _) _ _ _
  rw [if_neg (show ¬ ((Value.ref l == Value.none) = true) from fun z => Bool.false_ne_true z)]
  show wpAny _ _ (field (.ref it) 1 >>= _) _ _ _
  refine wpAny_bind (wpAny_field gi di (x := Value.int i 0) rfl ?_)
  show wpAny _ _ (seqItems? (.ref l) >>= _) _ _ _
  refine wpAny_bind (wpAny_seqItems gl dl ?_)
  simp only [Int.toNat_natCast, hn]
  refine wpAny_bind (wpAny_rule (wpAny_bind (wpAny_setField gi di (by simp) ?_)))
  generalize hs2 : s.heap.update it (Obj.mapFields (·.setIfInBounds 0 Value.none)) = hA
  have g2 : hA.get? x1 = some o1 := by rw [← hs2, Heap.get?_update_other _ _ (Ne.symm hne)]; exact g1
  have kA : Heap.ExtBut it s.heap hA := by rw [← hs2]; exact (Heap.SameBut.update ..).extBut
  show wpAny _ _ (newExc (.type "StopIteration") [] >>= _) _ _ _
  refine wpAny_bind ?_
  simp only [newExc, newTuple]
  refine wpAny_bind (wpAny_newObj_type ?_ (by size_fits))
  refine wpAny_bind (m := firstArgMember _ _) (wpAny_of_eq (a := Value.none) (by first | rfl | (simp only [firstArgMember]; rfl)) ?_)
  refine wpAny_newObj_type ?_ (by size_fits)
  have g3 := Heap.get?_push_of_some { cls := .type "tuple", data := .seq ([] : List Value).toArray } g2
  refine raiseNew_hot ⟨hh, o1, vs1, Heap.get?_push_of_some _ g3, d1, c1⟩ (Nat.ne_of_lt (Heap.lt_size g3)) (Heap.get?_push_size _ rfl) rfl (by first | (simp; done) | (simp; omega) | (simp only [Array.size_append]; simp; omega)) ?_
  refine wpAny_bind (wpAny_isInstance (T := "StopIteration") (b := true) ⟨_, Heap.get?_update_self _ (Heap.get?_push_size _ rfl) rfl, rfl⟩ isSubtype_stop ?_)
  refine wpAny_pure (hQ _ fun b o hb e => ?_)
  have e2 := Heap.get?_push_of_some { cls := .type "tuple", data := .seq ([] : List Value).toArray } (kA b o hb e)
  rw [Heap.get?_update_other _ _ (Nat.ne_of_gt (Heap.lt_size e2))]
  exact Heap.get?_push_of_some _ e2
theorem HotAt.kept {h h2 : Heap} (hot : HotAt A x1 h) (k : ∀ o, h.get? x1 = some o → h2.get? x1 = some o) : HotAt A x1 h2 := by
  obtain ⟨hh, o1, vs1, g1, d1, c1⟩ := hot
  exact ⟨hh, o1, vs1, k _ g1, d1, c1⟩
theorem HotAt.lt {h : Heap} (hot : HotAt A x1 h) : x1 < h.objs.size := by
  obtain ⟨hh, o1, vs1, g1, d1, c1⟩ := hot
  exact Heap.lt_size g1
theorem takeTup {t : Addr} {items : Array Value} {Q : List Value → Shared → Prop} (hot : HotAt A x1 s.heap) (ht : IsTup s.heap t items)
    (hQ : ∀ h2 : Heap, Heap.ExtBut s.heap.objs.size s.heap h2 → Q items.toList { s with heap := h2 }) : wpAny (model prog w) A (unpackItems (.ref t) items.size none) Q E s := by
  have tlt : t < s.heap.objs.size := by obtain ⟨o, ho, _⟩ := ht; exact Heap.lt_size ho
  have x1lt : x1 ≠ s.heap.objs.size := Nat.ne_of_lt (HotAt.lt hot)
  unfold unpackItems
  refine wpAny_bind ?_
  unfold notIterableAtAll
  refine wpAny_bind (wpAny_specialOf ht.typeIs slot_tuple_iter.lookup (wpAny_pure ?_))
  simp only [Bool.false_eq_true, if_false]
  refine wpAny_bind (wpAny_holding (iter_tuple ht (wpAny_bind (wpAny_holding (draw_tuple (Nat.ne_of_lt tlt) items.size 0 _ _ ⟨_, Heap.get?_push_size _ rfl, rfl, rfl⟩ (ht.push _) (by omega) fun hB itB sbB => ?_)))))
  rw [show List.take items.size (List.drop 0 items.toList) = items.toList from by rw [List.drop_zero]; exact List.take_of_length_le (by simp)]
  rw [if_neg (by simp)]
  refine wpAny_bind (wpAny_holding (endTup (HotAt.kept (HotAt.kept hot fun o e => Heap.get?_push_of_some _ e) fun o e => sbB.extBut x1 o x1lt e) itB ((ht.push _).extBut sbB.extBut (Nat.ne_of_lt tlt)) (by simp) x1lt fun hC ebC => ?_))
  simp only [Option.isSome_none, Bool.false_eq_true, if_false]
  exact wpAny_pure (hQ hC fun b o hb e => ebC b o hb (sbB.extBut b o hb (Heap.get?_push_of_some _ e)))
theorem setTup {env : Env} {elts : List Expr} {k : Nat} {pos : Pos} {t : Addr} {items : Array Value} {Q : Unit → Shared → Prop} (hot : HotAt A x1 s.heap) (ht : IsTup s.heap t items) (hn : (assignEach elts env).length = items.size) (hs : (assignEach elts env).findIdx? (·.1) = none)
    (h : ∀ h2 : Heap, Heap.ExtBut s.heap.objs.size s.heap h2 → wpAny (model prog w) A (assignInOrder ((assignEach elts env).map (·.2)) items.toList) Q E { s with heap := h2 }) : wpAny (model prog w) A (assign (.Tuple elts k pos) env (.ref t)) Q E s := by
  rw [assign_Tuple]
  refine wpAny_bind (wpAny_standAt ?_)
  unfold unpack
  rw [hn, hs]
  exact wpAny_bind (wpAny_holding (takeTup hot ht h))
end
/-- the context's handled exception stands in every state -/
def HotI (X : Cx) : Prop := ∃ y1, ∀ (pins : List (Addr × Obj)) (σ : L2.St) (H : Hp) (s : Shared), Inv X pins σ H s → HotAt X.A y1 s.heap ∧ H y1 = none
theorem hotI_of {X : Cx} (c : L2H.HotC X) : HotI X := by
  obtain ⟨p, ⟨hh, v1, e1, c1⟩, hp⟩ := c
  refine ⟨p.1, fun pins σ H s I => ?_⟩
  have z := I.pin p (List.mem_append_left _ hp)
  exact ⟨⟨hh, p.2, v1, z.1, e1, c1⟩, z.2.1⟩
section
variable {X : Cx}
theorem pg_tupH {es : List Expr} {k : Nat} {pos : Pos} {t : TGs} {n : Nat} (hot : HotI X) (h : PGs X es t) (hn : (assignEach es X.env).length = n) (hst : (assignEach es X.env).findIdx? (·.1) = none) : PG X (.Tuple es k pos) (gTup X.K n t) := by
  obtain ⟨y1, hot⟩ := hot
  refine ⟨fun pins s σ H v u Q I r hw => ?_⟩
  obtain ⟨a, xs, rfl, hq, hl, hw⟩ := hw
  cases r
  obtain ⟨its, rv, ht, hz⟩ := I.tuple hq
  refine setTup (hot _ _ _ _ I).1 ht (by simp [hn, ← hl, rv.length]) hst fun h2 hx => ?_
  exact h.run pins _ σ H xs _ Q (I.kept (t' := s.toks) fun b o e => hx b o (Nat.ne_of_lt (Heap.lt_size e)) e) (by simpa using rv) hw
/-- a list comprehension over a list -/
theorem pe_lcH {elt tg iter : Expr} {ifs : List Expr} {scope : Scope} {own : List (Str × Nat)} {pos : Pos} {tl : TE} {g : TG} {tt : TT} {te : TE} (hot : L2H.HotC X) (hN : X.N.Nodup) (hi : PE X iter tl) (ok : BlkOk X.N X.env.scope scope own)
    (hg : ∀ (s : Shared) (H : Hp) (Ca : Addr) (cl : List (Str × Addr)) (fp : List Addr), HotI (X.blk s H scope (compEnvC scope cl Ca X.env) fp) → PG (X.blk s H scope (compEnvC scope cl Ca X.env) fp) tg g)
    (ht : ∀ (s : Shared) (H : Hp) (Ca : Addr) (cl : List (Str × Addr)) (fp : List Addr), PTs (X.blk s H scope (compEnvC scope cl Ca X.env) fp) ifs tt) (he : ∀ (s : Shared) (H : Hp) (Ca : Addr) (cl : List (Str × Addr)) (fp : List Addr), PE (X.blk s H scope (compEnvC scope cl Ca X.env) fp) elt te)
    (hs : ∀ x, foldedSetIterable iter X.env x = pure x) : PE X (.ListComp elt [⟨tg, iter, ifs, 0⟩] scope pos) (tLc (iList X.K tl) g tt te (own.map (·.2))) := by
  refine ⟨fun pins s σ H Q I h => ?_⟩
  rw [eval_ListComp]
  have frees : ∀ y ∈ scope.names, y.2 = .free → ∃ c, X.env.cells.lookup y.1 = some c := fun y hy e => (ok.free y hy e).elim (fun k => I.ok.has _ (.inl k)) fun k => I.ok.has _ (.inr k)
  refine wpAny_comprehension_free (use := none) rfl hs (closure_ok frees) ok.kind (fun y hy e => by rw [ok.uniq y hy, e]) (thn (hi.run pins s σ H _ I h) fun v s1 ⟨x, H2, I1, r1, la, ex, ⟨lxs, hq⟩, q⟩ => ?_)
  subst ex
  cases r1
  obtain ⟨its, rv, isl, hz⟩ := I1.list hq
  refine wpAny_pyIter_list isl.isList ?_
  generalize hit : s1.heap.objs.size = it
  have f1 : FpOk X pins H2 it := I1.fpOk (Nat.le_of_eq hit) (I1.hok.fresh (Nat.le_of_eq hit))
  generalize hs2 : ({ s1 with heap := s1.heap.push { cls := .type "list_iterator", data := .fields #[.ref la, .int 0 0] } } : Shared) = s2
  have I2 : Inv X pins σ H2 s2 := by rw [← hs2]; exact I1.kept (t' := s1.toks) fun b o e => Heap.get?_push_of_some _ e
  have st2 : s2.heap.IsListIter it la 0 := by rw [← hs2, ← hit]; exact ⟨_, Heap.get?_push_size _ rfl, rfl, rfl⟩
  have lt2 : it < s2.heap.objs.size := by rw [← hs2, ← hit, Heap.size_push]; exact Nat.lt_succ_self _
  refine wpAny_newObj_type (newEnv_comp ?_) (by show 0 ≤ sizeLine; decide)
  generalize hD : s2.heap.objs.size = Dn
  have Dnone : H2 Dn = none := I2.hok.fresh (Nat.le_of_eq hD)
  obtain ⟨Wv, ⟨m0, w0⟩, turn⟩ := q Dn Dnone
  generalize hs3 : ({ s2 with heap := s2.heap.push { cls := .type "list", data := .seq ([] : List Value).toArray } } : Shared) = s3
  have e3 : s3.heap = s2.heap.push { cls := .type "list", data := .seq ([] : List Value).toArray } := by rw [← hs3]
  have I3 : Inv X pins σ (upd H2 Dn (.lst [])) s3 := by
    rw [← hs3]
    refine I2.laid (t' := s2.toks) (fun b o e => Heap.get?_push_of_some _ e) (Nat.le_of_eq hD) ⟨Nat.zero_le _, [], 0, .nil, ?_⟩
    rw [← hD]; exact Heap.get?_push_size _ rfl
  have itD : it ≠ Dn := by rw [← hD]; exact Nat.ne_of_lt lt2
  have f3 : ∀ b ∈ [it], FpOk X pins (upd H2 Dn (.lst [])) b ∧ b < s3.heap.objs.size := fun b hb => by
    obtain rfl : b = it := by simpa using hb
    exact ⟨⟨by rw [upd_ne itD]; exact f1.1, f1.2⟩, by rw [e3, Heap.size_push]; exact Nat.lt_succ_of_lt lt2⟩
  have st3 : s3.heap.IsListIter it la 0 := st2.at fun o e => by rw [e3]; exact Heap.get?_push_of_some _ e
  have I4 := block_start I3 ok hN f3
  have hot3 : HotI (X.blk s3 (upd H2 Dn (.lst [])) scope (compEnvC scope (cellsFrom (s3.heap.objs.size + 1) scope.names (cloFrom X.env.cells scope.names [])) s3.heap.objs.size X.env) [it]) := by
    obtain ⟨p, ⟨hh, v1, ed, ec⟩, hp⟩ := hot
    have z := I3.pin p (List.mem_append_left _ hp)
    have nfr : p.1 ∉ frs X.stack := fun hm => (List.mem_cons.mp (I3.stkSub p.1 hm)).elim z.2.2.1 z.2.2.2.1
    have nit : p.1 ∉ [it] := fun hm => by
      have e : p.1 = it := by simpa using hm
      have z1 := I1.pin p (List.mem_append_left _ hp)
      have lt := Heap.lt_size z1.1
      rw [e, hit] at lt
      exact Nat.lt_irrefl _ lt
    exact ⟨p.1, fun pins' σ' H' s' J => ⟨⟨hh, p.2, v1, J.base.keep p.1 p.2 z.1 z.2.1 nfr nit, ed, ec⟩, J.base.free p.1 p.2 z.1 z.2.1 nit⟩⟩
  have pg := hg s3 (upd H2 Dn (.lst [])) s3.heap.objs.size (cellsFrom (s3.heap.objs.size + 1) scope.names (cloFrom X.env.cells scope.names [])) [it] hot3
  have pt := ht s3 (upd H2 Dn (.lst [])) s3.heap.objs.size (cellsFrom (s3.heap.objs.size + 1) scope.names (cloFrom X.env.cells scope.names [])) [it]
  have pe := he s3 (upd H2 Dn (.lst [])) s3.heap.objs.size (cellsFrom (s3.heap.objs.size + 1) scope.names (cloFrom X.env.cells scope.names [])) [it]
  show codeAny _ _ (.compStart (.ListComp elt [⟨tg, iter, ifs, 0⟩] scope pos) 0 (.ref it) (.ref Dn) (compEnvC scope (cellsFrom (s3.heap.objs.size + 1) scope.names (cloFrom X.env.cells scope.names [])) s3.heap.objs.size X.env)) (compPost (model X.prog X.w) X.A X.xe none _ (.ref Dn) s3.heap.objs.size) { s3 with heap := pushCells (s3.heap.push { cls := .type "dict", data := .dict #[] }) scope.names }
  generalize hce : compEnvC scope (cellsFrom (s3.heap.objs.size + 1) scope.names (cloFrom X.env.cells scope.names [])) s3.heap.objs.size X.env = ce at I4 pg pt pe hot3 ⊢
  have cloc : ce.locals = s3.heap.objs.size := by rw [← hce]; rfl
  have nit3 : (upd H2 Dn (.lst [])) it = none := (f3 it (by simp)).1.1
  generalize hH3 : upd H2 Dn (.lst []) = H3 at I3 I4 pg pt pe w0 f3 hot3 nit3
  generalize hs4 : ({ s3 with heap := pushCells (s3.heap.push { cls := .type "dict", data := .dict #[] }) scope.names } : Shared) = s4 at I4 ⊢
  have st4 : s4.heap.IsListIter it la 0 := st3.at fun o e => by rw [← hs4]; exact pushCells_keeps _ _ _ _ (Heap.get?_push_of_some _ e)
  obtain ⟨y1, hotS⟩ := hot3
  -- the iterator's place, whenever
  have place : ∀ {σ' : L2.St} {H' : Hp} {s' : Shared}, Inv (X.blk s3 H3 scope ce [it]) [] σ' H' s' → H' it = none → FpOk (X.blk s3 H3 scope ce [it]) [] H' it := fun {σ' H' s'} J hn =>
    ⟨hn, (J.ok.exf it (by simp)).1, J.ok.exfs it (by simp), .inl (by simp), fun x c e => (J.ok.exf it (by simp)).2 x c e, fun p hp => absurd (show p ∈ ([] : List (Addr × Obj)) ++ [] from hp) (by simp)⟩
  have ends : ∀ {s' : Shared} {σ' : L2.St} {H' : Hp}, Inv (X.blk s3 H3 scope ce [it]) [] σ' H' s' → s'.heap.IsListIter it la 0 → wpAny (model X.prog X.w) X.A (pyIter (.ref it)) (fun v s'' => v = .ref it ∧ s'' = s') (fun _ _ => False) s' := fun J st => wpAny_pyIter_listiter st ⟨rfl, rfl⟩
  have loop : codeAny (model X.prog X.w) X.A (.compLoop (.ListComp elt [⟨tg, iter, ifs, 0⟩] scope pos) 0 (.ref it) (.ref Dn) ce) (compPost (model X.prog X.w) X.A X.xe none (EP X pins σ Q) (.ref Dn) s3.heap.objs.size) s4 := by
    refine compLoop_any (fun n s' => ∃ i H', Inv (X.blk s3 H3 scope ce [it]) [] (wipe σ (own.map (·.2))) H' s' ∧ s'.heap.IsListIter it la i ∧ H' it = none ∧ Wv i n H') ?_ m0 ⟨0, H3, I4, st4, nit3, w0⟩
    rintro n s5 ⟨i, H5, I5, st5, n5, w5⟩
    obtain ⟨g0, g1, g2, g3, g4, g5⟩ := place I5 n5
    rcases turn i n H5 w5 with ⟨⟨ys, hy, hlen⟩, qq⟩ | ⟨⟨ys, yx, hy, hyx⟩, Nx, hNx, step⟩
    · obtain ⟨vs5, rv5, il5, hz5⟩ := I5.list hy
      have hl5 := rv5.length
      have hh := hotS _ _ _ _ I5
      have ne5 : y1 ≠ it := fun z => by
        have h1 := g2
        have lt := HotAt.lt hh.1
        obtain ⟨_, o1, vs1, e1, d1, c1⟩ := hh.1
        obtain ⟨o2, e2, c2, d2⟩ := id st5
        rw [z, e2] at e1
        cases e1
        rw [d2] at d1
        cases d1
        cases c1
      refine endList hh.1 st5 il5.isList (by simp; omega) ne5 fun h6 eb => ?_
      have I6 : Inv (X.blk s3 H3 scope ce [it]) [] (wipe σ (own.map (·.2))) H5 { s5 with heap := h6 } := I5.turned (t' := s5.toks) (fun b o hb e => eb b o hb e) g0 g1 g3 g4 g5
      have I7 : Inv X pins σ H5 { s5 with heap := h6 } := I3.call' (ch := [it]) I6.os I6.base I6.hok I6.bare fun b hb => ⟨(f3 b hb).1.2.2.2.1, (f3 b hb).1.2.1, (f3 b hb).1.2.2.2.2.1, (f3 b hb).1.2.2.2.2.2⟩
      have nCe : H5 s3.heap.objs.size = none := by rw [← cloc]; exact I6.free
      obtain ⟨m, hns, _⟩ := I6.loc
      have hns : h6.Ns s3.heap.objs.size m := by rw [← cloc]; exact hns
      obtain ⟨k0, k1, k2, k3, k4, k5⟩ := I3.fpOk (Nat.le_refl _) nCe
      exact ⟨m, hns, fun h7 sb => ⟨.ref Dn, H5, I7.turned (t' := s5.toks) (fun b o hb e => (sb.2 b hb).trans e) k0 k1 k3 k4 k5, rfl, qq⟩⟩
    · obtain ⟨vs5, rv5, il5, hz5⟩ := I5.list hy
      obtain ⟨u, hu, ru⟩ := rv5.get hyx
      refine wpAny_pyNext_list_item st5 il5.isList (x := u) (by simpa using hu) fun h6 st6 sb6 => ?_
      have I6 : Inv (X.blk s3 H3 scope ce [it]) [] (wipe σ (own.map (·.2))) H5 { s5 with heap := h6 } := I5.turned (t' := s5.toks) (fun b o hb e => (sb6.2 b hb).trans e) g0 g1 g3 g4 g5
      obtain ⟨oi, ei, ci, di⟩ := id st6
      refine go_of (s := { s5 with heap := h6 }) ei ci di (by decide) ?_
      have I7 := I6.pinned (fp := [it]) (fun b hb => (show b = it from by simpa using hb) ▸ place I6 n5) fun b hb => by
        have eb : b = it := by simpa using hb
        subst eb
        exact ⟨oi, ei, fun v z => by rw [di] at z; cases z⟩
      refine thnF (pg.run _ { s5 with heap := h6 } _ H5 yx u _ I7 ru (step yx H5 ⟨rfl, fun zs hzs => by rw [I5.list_inj hzs hy]; exact hyx⟩)) fun _ s8 ⟨σ8, H8, I8, hw8, q8⟩ => ?_
      refine thnF (pt.run _ s8 σ8 H8 _ I8 q8) fun b s9 ⟨H9, I9, q9⟩ => ?_
      have fin : ∀ {s' : Shared} {H' : Hp}, Inv (X.blk s3 H3 scope ce [it]) ([] ++ pinsAt [it] h6) σ8 H' s' → Nx H' → ∃ m, m < n ∧ ∃ i H', Inv (X.blk s3 H3 scope ce [it]) [] (wipe σ (own.map (·.2))) H' s' ∧ s'.heap.IsListIter it la i ∧ H' it = none ∧ Wv i m H' := fun {s' H'} J nx => by
        obtain ⟨m', hm, w'⟩ := hNx H' nx
        have z := J.pin (it, oi) (List.mem_append_right _ (List.mem_append_right _ (mem_pinsAt (by simp) ei)))
        refine ⟨m', hm, i + 1, H', (J.unpinned (pins := [])).weak (by rw [← hw8, wipe_length]) (fun j v e => ?_), st6.at fun o e => ?_, z.2.1, w'⟩
        · rw [← hw8] at e
          exact (wipe_some e).1
        · have e : h6.get? it = some o := e
          rw [ei] at e
          cases e
          exact z.1
      cases b with
      | false =>
        simp only [Bool.false_eq_true, if_false] at q9 ⊢
        exact fin I9 q9
      | true =>
        simp only [if_true] at q9 ⊢
        refine thnF (pe.run _ s9 σ8 H9 _ I9 q9) fun z s10 ⟨yv, H10, I10, r10, acc, hDx, hzx, nx⟩ => ?_
        exact app_ok (X := X.blk s3 H3 scope ce [it]) I10 hDx hzx r10 fun s11 I11 => fin I11 nx
  exact codeAny_compStart_list loop (wpAny_pyIter_listiter st4 loop)
end
end PvH

/-! Pv17: the def that names the handled exception, called where it is handled. -/
namespace Pv
open PySem PySem.Spec PyProof.Rows L2

section
variable {X : Cx} {a D1 : Addr} {oe : Obj}
/-- isinstance of the pinned exception -/
theorem isE_pin (C : L2.ExcC X.K D1) (hz : L2.Zc (.ref D1) none oe) (hf : ∃ vs, oe.data = .fields vs) (hp : (a, oe) ∈ X.pn) : CallR X (.builtin "isinstance") (L2.rIsE X.K D1 a) := by
  intro pins s σ H xs us Q I r h
  obtain ⟨c, cv, b, rfl, hcv, e, q⟩ := h
  cases r with
  | cons rx rr =>
    cases rr with
    | cons rt rr =>
      cases rr
      cases rx
      obtain rfl := hcv _ rt
      have hget := (I.pin (a, oe) (List.mem_append.mpr (.inl hp))).1
      obtain ⟨vs, hv⟩ := hf
      have J : PySem.W.InstAt s.heap a oe D1 none := by
        obtain ⟨oc, od, oda, osl⟩ := oe
        obtain ⟨z1, z2⟩ := hz
        dsimp only at z1 z2 hv
        subst z1 z2 hv
        exact ⟨hget, rfl, rfl, trivial⟩
      exact PySem.W.kia_one (PySem.W.handS_kitx_exc C.hg C.hk C.hs C.hd C.ha C.hn C.ht C.hm) I.kIn J e (fun z => nomatch z) fun tk => ⟨.bl b, H, I.kept (t' := tk) fun _ _ z => z, rfl, q⟩
end

/-! ### what the def's text says -/
/-- ('word', isinstance(e, C)) -/
def errPair (sc : Scope) (e0 : Str) : Expr → Option (Str × Str)
  | .Tuple [.Constant (.str w) _ _, .Call (.Name i _) [.Name e _, .Name c _] [] _] _ _ =>
    if i == ("isinstance" : Str) && glB sc i && e == e0 && visB sc e && plainName e && glB sc c && plainName c then some (w, c) else none
  | _ => none
def errPairs (sc : Scope) (e0 : Str) : List Expr → Option (List (Str × Str))
  | [] => some []
  | x :: xs => if isStar x then none else (errPair sc e0 x).bind fun p => (errPairs sc e0 xs).map fun l => p :: l
section
variable (g : Gn) (X : Cx) (σP : L2.St → Prop)
/-- a reading where the slots are as σP says -/
def RdS {β α : Type} (R : Hp → Hp → List Addr → β → α → Prop) (t : L2.St → Hp → (β → Hp → Prop) → Prop) (x : α) : Prop :=
  ∀ F H γ S σ Q, SS X.K g F H γ S → σP σ → (∀ b F' H' γ', Ext F H γ F' H' γ' → SS X.K g F' H' γ' S → R F' H' γ' b x → Q b H') → t σ H Q
end
/-- the class's name tells whether the handled exception is of it -/
def Isa (K : PySem.W.Frag) (mg : Str → Option Value) (D1 : Addr) (c : Str) (b : Bool) : Prop := ∃ C, mg c = some (.ref C) ∧ PySem.W.kitOne K (.ref D1) (.ref C) = some b
structure ErrX (X : Cx) (a : Addr) (oe : Obj) (D1 : Addr) : Prop where
  pin : (a, oe) ∈ X.pn
  hot : L2H.Hot1 X.A (a, oe)
  ec : L2.ExcC X.K D1
  hz : L2.Zc (.ref D1) none oe
  fl : ∃ vs, oe.data = .fields vs
  isi : X.mg ("isinstance" : Str) = none
  nd : X.N.Nodup
section
variable {g : Gn} {X : Cx} {a D1 : Addr} {oe : Obj}
def pairD (p : Str × Bool) : D := .tup [.str p.1, .bl p.2]
theorem err_pair {e0 : Str} {x : Expr} {w c : Str} {b : Bool} (C : ErrX X a oe D1) (hN : X.N[0]? = some e0) (h : errPair X.env.scope e0 x = some (w, c)) (hb : Isa X.K X.mg D1 c b) :
    ∃ t, PE X x t ∧ RdS g X (fun σ => σ[0]? = some (some (.ref a))) (RR X.K g) t (pairD (w, b)) := by
  cases x with
  | Tuple es k p =>
    match es, h with
    | [.Constant (.str w') _ _, .Call (.Name i _) [.Name e _, .Name c' _] [] _], h =>
      simp only [errPair] at h
      split at h
      · rename_i hc
        cases h
        simp only [Bool.and_eq_true] at hc
        obtain ⟨⟨⟨⟨⟨⟨h1, h2⟩, h3⟩, h4⟩, h5⟩, h6⟩, h7⟩ := hc
        obtain rfl := eq_of_beq h1
        obtain rfl := eq_of_beq h3
        obtain ⟨Cc, hm, hk⟩ := hb
        obtain ⟨n1, n2, n3⟩ := plainName_of h5
        refine ⟨_, pe_tup (pa_cons pe_str (pa_cons (pe_callB (isE_pin C.ec C.hz C.fl C.pin) (gl_of h2) C.isi (boot_blt .isinst) (pa_cons (pe_var hN (vis_of h4) n1 n2) (pa_cons (pe_glob (v := .ref Cc) (gl_of h6) hm rfl (plainName_of h7).1) pa_nil))) pa_nil)), fun F H γ S σ Q s hσ q => ?_⟩
        refine ⟨_, hσ, _, _, b, rfl, fun u r => r, hk, by show 2 ≤ sizeLine; decide, ?_⟩
        exact VP.tup (S := S) (ds := [.str w, .bl b]) (fun v F' H' γ' e s r => q v F' H' γ' e s r) s (.cons (.str w) (.cons (.bl b) .nil))
      · cases h
  | _ => cases h
theorem err_pairs {e0 : Str} : ∀ {xs : List Expr} {l : List (Str × Str)} {bs : List (Str × Bool)} (C : ErrX X a oe D1) (hN : X.N[0]? = some e0) (h : errPairs X.env.scope e0 xs = some l) (hb : l.length = bs.length ∧ ∀ p ∈ l.zip bs, p.1.1 = p.2.1 ∧ Isa X.K X.mg D1 p.1.2 p.2.2),
    ∃ t, PA X xs t ∧ RdS g X (fun σ => σ[0]? = some (some (.ref a))) (RRs X.K g) t (bs.map pairD)
  | [], l, bs, C, hN, h, hb => by
    cases h
    cases bs with
    | nil => exact ⟨tNil, pa_nil, fun F H γ S σ Q s hσ q => q _ F H γ .refl s .nil⟩
    | cons _ _ => cases hb.1
  | x :: xs, l, bs, C, hN, h, hb => by
    simp only [errPairs] at h
    split at h
    · cases h
    · rename_i hst
      obtain ⟨p, h1, h2⟩ := Option.bind_eq_some_iff.mp h
      obtain ⟨l', h3, rfl⟩ := Option.map_eq_some_iff.mp h2
      cases bs with
      | nil => cases hb.1
      | cons b bs =>
        obtain ⟨hl, hb⟩ := hb
        have h0 := hb (p, b) (by simp)
        obtain ⟨w, c⟩ := p
        obtain ⟨w', b⟩ := b
        obtain ⟨e1, h0⟩ := h0
        cases e1
        obtain ⟨t1, p1, k1⟩ := err_pair (g := g) C hN h1 h0
        obtain ⟨t2, p2, k2⟩ := err_pairs (bs := bs) C hN h3 ⟨by simpa using hl, fun q hq => hb q (by simp [hq])⟩
        refine ⟨_, pa_cons p1 p2 (star_cons (by simpa using hst)), fun F H γ S σ Q s hσ q => ?_⟩
        exact k1 F H γ S σ _ s hσ fun v1 F1 H1 γ1 e1 s1 r1 => k2 F1 H1 γ1 S σ _ s1 hσ fun v2 F2 H2 γ2 e2 s2 r2 => q _ F2 H2 γ2 (e1.trans e2) s2 (.cons (e2.rep r1) r2)
end

/-! ### its statements -/
def nameIs (N : List Str) (sc : Scope) (i : Nat) : Expr → Bool
  | .Name x _ => slotB N sc i x
  | _ => false
def errFirst (N : List Str) (sc : Scope) (e0 : Str) : Stmt → Option (List (Str × Str))
  | .Assign [.Name y _] (.List xs _) _ => if nameB N sc 1 y then errPairs sc e0 xs else none
  | _ => none
def errMid (N : List Str) (sc : Scope) (e0 : Str) : Stmt → Option (List (Str × Str))
  | .Assign [.Name y _] (.BinOp z .Add (.List xs _) _) _ => if nameB N sc 1 y && nameIs N sc 1 z then errPairs sc e0 xs else none
  | _ => none
def errLast (N : List Str) (sc : Scope) : Stmt → Bool
  | .Return (some (.Call (.Attribute (.Constant (.str sp) _ _) jn apos) [.ListComp w1 [⟨.Tuple [.Name w2 _, .Name g2 _] _ _, z, [g1], 0⟩] scope _] [] cpos)) _ =>
    sp == (" " : Str) && jn == ("join" : Str) && apos.endLine == cpos.line && nameIs N sc 1 z && nameIs N (relS scope sc) 2 w1 && nameIs N (relS scope sc) 3 g1 && nameB N (relS scope sc) 2 w2 && nameB N (relS scope sc) 3 g2 && blkC N sc scope (ownOf N [2, 3])
  | _ => false
def errRest (N : List Str) (sc : Scope) (e0 : Str) : List Stmt → Option (List (Str × Str))
  | [] => none
  | st :: r => if errLast N sc st && r.isEmpty then some [] else (errMid N sc e0 st).bind fun l => (errRest N sc e0 r).map fun l' => l ++ l'
def errBody (N : List Str) (sc : Scope) (e0 : Str) : List Stmt → Option (List (Str × Str))
  | [] => none
  | st :: r => (errFirst N sc e0 st).bind fun l => (errRest N sc e0 r).map fun l' => l ++ l'
/-- the words of the classes that fit -/
def errWords (l : List (Str × Bool)) : List Str := (l.filter (·.2)).map (·.1)
def errSay (l : List (Str × Bool)) : Str := Txt.join " " (errWords l)
def errFits (l : List (Str × Bool)) : Prop := ((errWords l).map (·.length)).sum + (errWords l).length * (" " : Str).length ≤ 16777216
section
variable {g : Gn} {X : Cx} {a D1 : Addr} {oe : Obj}
theorem nameIs_of {N : List Str} {sc : Scope} {i : Nat} {z : Expr} (h : nameIs N sc i z = true) : ∃ x p, z = .Name x p ∧ slotB N sc i x = true := by
  cases z with
  | Name x p => exact ⟨x, p, rfl, h⟩
  | _ => cases h
/-- where the list stands at slot 1 -/
def RdE (g : Gn) (X : Cx) (a : Addr) (t : TS) (bs : List (Str × Bool)) : Prop := ∀ F H γ S σ v l0 (Dn : Ends), SS X.K g F H γ S → σ.length = 4 → σ[0]? = some (some (.ref a)) → σ[1]? = some (some v) → Rep X.K g γ F v (.lst (l0.map pairD)) → errFits (l0 ++ bs) → (l0 ++ bs).length ≤ 1000 →
  (∀ F' H' γ', Ext F H γ F' H' γ' → SS X.K g F' H' γ' S → Dn.rt (.str (errSay (l0 ++ bs))) H') → t Dn σ H
theorem err_last {st : Stmt} (C : ErrX X a oe D1) (h : errLast X.N X.env.scope st = true) : ∃ t, PS X st t ∧ RdE g X a t [] := by
  unfold errLast at h
  split at h
  · rename_i sp q1 q2 jn apos w1 w2 pw g2 pg kt pt z g1 scope lp cpos sps
    simp only [Bool.and_eq_true] at h
    obtain ⟨⟨⟨⟨⟨⟨⟨⟨h1, h2⟩, h3⟩, h4⟩, h5⟩, h6⟩, h7⟩, h8⟩, h9⟩ := h
    obtain rfl := eq_of_beq h1
    obtain rfl := eq_of_beq h2
    obtain ⟨zx, zp, rfl, hz⟩ := nameIs_of h4
    obtain ⟨wx, wp, rfl, hw⟩ := nameIs_of h5
    obtain ⟨gx, gp, rfl, hg⟩ := nameIs_of h6
    obtain ⟨z1, z2, z3, z4⟩ := slotB_of hz
    obtain ⟨w1, w2', w3, w4⟩ := slotB_of hw
    obtain ⟨g1, g2', g3, g4⟩ := slotB_of hg
    obtain ⟨a1, a2⟩ := nameB_of h7
    obtain ⟨b1, b2⟩ := nameB_of h8
    have pl : PE X (.ListComp (.Name wx wp) [⟨.Tuple [.Name w2 pw, .Name g2 pg] kt pt, .Name zx zp, [.Name gx gp], 0⟩] scope lp) (tLc (iList X.K (tVar 1)) (gTup X.K 2 (gCons (gName 2) (gCons (gName 3) gNil))) (fun σ H Q => tVar 3 σ H fun x H' => ∃ k, TruV X.K x H' k ∧ Q k H') (tVar 2) ((ownOf X.N [2, 3]).map (·.2))) :=
      PvH.pe_lcH ⟨_, C.hot, C.pin⟩ C.nd (pe_var z1 z2 z3 z4) (blkOk_by h9)
        (fun s H Ca cl fp hot => PvH.pg_tupH hot (pgs_cons (pg_name (X := X.blk s H scope (compEnvC scope cl Ca X.env) fp) C.nd a1 (.inl a2) (.inr a2)) (pgs_cons (pg_name (X := X.blk s H scope (compEnvC scope cl Ca X.env) fp) C.nd b1 (.inl b2) (.inr b2)) pgs_nil)) rfl rfl)
        (fun s H Ca cl fp => pts_one (pt_truth (pe_var (X := X.blk s H scope (compEnvC scope cl Ca X.env) fp) g1 g2' g3 g4) (head_of rfl)))
        (fun s H Ca cl fp => pe_var (X := X.blk s H scope (compEnvC scope cl Ca X.env) fp) w1 w2' w3 w4) (fun _ => rfl)
    refine ⟨_, ps_ret (pe_join pe_str pl rfl rfl h3), fun F H γ S σ v l0 Dn s hl hσ hv rv hf hlen q => ?_⟩
    rw [List.append_nil] at hf hlen q
    refine ⟨⟨_, rfl⟩, v, hv, ?_⟩
    cases rv with
    | @lst la xs ds hF rr =>
    refine ⟨la, rfl, ⟨_, SqL.of (s.sub _ _ hF)⟩, fun Dl hD => ?_⟩
    obtain ⟨sD, fD, gD⟩ := s.newU (o := .lst []) hD
    have own : (ownOf X.N [2, 3]).map (·.2) = [2, 3] := own_ix X.N [2, 3]
    rw [own]
    have hrl := rr.length
    rw [List.length_map] at hrl
    have at_ : ∀ ws : List V, ∀ b o, F b = some o → (L2.upd H Dl (.lst ws)) b = some o := fun ws b o e => by rw [upd_ne (ne_of_none e fD)]; exact s.sub b o e
    have hla : ∀ ws : List V, SqL X.K (L2.upd H Dl (.lst ws)) la xs := fun ws => SqL.of (at_ ws _ _ hF)
    refine ⟨fun i m Hc => m = l0.length - i ∧ i ≤ l0.length ∧ Hc = L2.upd H Dl (.lst ((errWords (l0.take i)).map V.str)), ⟨l0.length, by simp, Nat.zero_le _, by simp [errWords]⟩, ?_⟩
    rintro i m Hc ⟨rfl, hi, rfl⟩
    by_cases hlt : i < l0.length
    · have hix : i < xs.length := by omega
      refine .inr ⟨⟨xs, xs[i], hla _, by simp [hix]⟩, fun H' => H' = L2.upd H Dl (.lst ((errWords (l0.take (i + 1))).map V.str)), fun H' h' => ⟨l0.length - (i + 1), by omega, rfl, hlt, h'⟩, ?_⟩
      rintro x Hx ⟨rfl, hx⟩
      have hx := hx xs (hla _)
      obtain ⟨u, hu, ru⟩ := rr.get (i := i) (d := pairD l0[i]) (by simp [hlt])
      rw [hx] at hu
      cases hu
      have htk : l0.take (i + 1) = l0.take i ++ [l0[i]] := by rw [List.take_add_one]; simp [hlt]
      generalize l0[i] = p at ru htk
      obtain ⟨w, b⟩ := p
      unfold pairD at ru
      cases ru with
      | tup hT hr =>
      cases hr with
      | cons r1 hr =>
      cases hr with
      | cons r2 hr =>
      cases hr
      cases r1
      cases r2
      refine ⟨_, _, rfl, sqT_mono (at_ _) hT, rfl, _, _, rfl, _, _, rfl, ⟨rfl, ?_⟩⟩
      have e2 : (((L2.wipe σ [2, 3]).set 2 (some (V.str w))).set 3 (some (V.bl b)))[2]? = some (some (V.str w)) := by
        rw [List.getElem?_set_ne (by decide), List.getElem?_set_self]
        show 2 < (L2.wipe σ [2, 3]).length
        rw [wipe_length, hl]; decide
      have e3 : (((L2.wipe σ [2, 3]).set 2 (some (V.str w))).set 3 (some (V.bl b)))[3]? = some (some (V.bl b)) := by
        rw [List.getElem?_set_self]
        rw [List.length_set, wipe_length, hl]; decide
      refine ⟨?_, _, e3, b, rfl, ?_⟩
      · rw [wipe_set (by simp), wipe_set (by simp), wipe_wipe (fun i h => h)]
      · cases b with
        | false =>
          refine iteF ?_
          rw [htk]
          simp [errWords]
        | true =>
          refine iteT ⟨_, e2, _, upd_same, ?_, ?_⟩
          · have h1 : (errWords (l0.take i)).length ≤ (l0.take i).length := by unfold errWords; rw [List.length_map]; exact List.length_filter_le _ _
            rw [List.length_take] at h1
            rw [List.length_map]
            show _ < 16777216
            omega
          · rw [upd_upd, htk]
            simp [errWords]
    · have ei : i = l0.length := by omega
      subst ei
      refine .inl ⟨⟨xs, hla _, by omega⟩, ?_⟩
      rw [List.take_length]
      refine ⟨_, Dl, errWords l0, rfl, rfl, .inl (SqL.of upd_same), hf, ?_⟩
      exact q F _ γ (Ext.refl.updNew (.of hD)) (by
        obtain ⟨s', _, _⟩ := s.newU (o := .lst ((errWords l0).map V.str)) hD
        exact s')
  · cases h
end
end Pv

/-! Pv18: that def's promise; its call in an except suite. -/
namespace Pv
open PySem PySem.Spec PyProof.Rows L2

section
variable {g : Gn} {X : Cx} {a D1 : Addr} {oe : Obj}
/-- the words and the answers of isinstance agree -/
def Fit (X : Cx) (D1 : Addr) (l : List (Str × Str)) (bs : List (Str × Bool)) : Prop := l.length = bs.length ∧ ∀ p ∈ l.zip bs, p.1.1 = p.2.1 ∧ Isa X.K X.mg D1 p.1.2 p.2.2
theorem Fit.split {l l' : List (Str × Str)} {bs : List (Str × Bool)} (h : Fit X D1 (l ++ l') bs) : Fit X D1 l (bs.take l.length) ∧ Fit X D1 l' (bs.drop l.length) := by
  obtain ⟨h1, h2⟩ := h
  rw [List.length_append] at h1
  have hz : (l ++ l').zip bs = l.zip (bs.take l.length) ++ l'.zip (bs.drop l.length) := by
    conv => lhs; rw [← List.take_append_drop l.length bs]
    rw [List.zip_append (by rw [List.length_take]; omega)]
  refine ⟨⟨by rw [List.length_take]; omega, fun p hp => h2 p (by rw [hz]; exact List.mem_append_left _ hp)⟩, ⟨by rw [List.length_drop]; omega, fun p hp => h2 p (by rw [hz]; exact List.mem_append_right _ hp)⟩⟩
theorem err_rest {e0 : Str} : ∀ {sts : List Stmt} {l : List (Str × Str)} {bs : List (Str × Bool)} (C : ErrX X a oe D1) (hN : X.N[0]? = some e0) (h : errRest X.N X.env.scope e0 sts = some l) (hb : Fit X D1 l bs), ∃ t, PSs X sts t ∧ RdE g X a t bs
  | [], l, bs, C, hN, h, hb => by cases h
  | st :: r, l, bs, C, hN, h, hb => by
    simp only [errRest] at h
    split at h
    · rename_i hc
      obtain ⟨h1, h2⟩ := Bool.and_eq_true_iff.mp hc
      cases h
      cases r with
      | cons _ _ => cases h2
      | nil =>
        obtain ⟨t, p, k⟩ := err_last (g := g) C h1
        have eb : bs = [] := List.eq_nil_of_length_eq_zero hb.1.symm
        subst eb
        exact ⟨t, pss_one p, k⟩
    · obtain ⟨l1, h1, h2⟩ := Option.bind_eq_some_iff.mp h
      obtain ⟨l2, h3, rfl⟩ := Option.map_eq_some_iff.mp h2
      obtain ⟨f1, f2⟩ := hb.split
      obtain ⟨t2, p2, k2⟩ := err_rest C hN h3 f2
      unfold errMid at h1
      split at h1
      · rename_i y py z xs lp bp sp
        split at h1
        · rename_i hc
          obtain ⟨n1, n2⟩ := Bool.and_eq_true_iff.mp hc
          obtain ⟨y1, y2⟩ := nameB_of n1
          obtain ⟨zx, zp, rfl, hz⟩ := nameIs_of n2
          obtain ⟨z1, z2, z3, z4⟩ := slotB_of hz
          obtain ⟨t1, p1, k1⟩ := err_pairs (g := g) C hN h1 f1
          refine ⟨_, pss_cons (ps_set C.nd y1 (.inl y2) (pe_op (op_bin .add) (pe_var z1 z2 z3 z4) (pe_lst p1)) rfl (.inr y2)) p2, fun F H γ S σ v l0 Dn s hl hσ hv rv hf hlen q => ?_⟩
          have hdec : bs = bs.take l1.length ++ bs.drop l1.length := (List.take_append_drop _ _).symm
          refine ⟨v, hv, ?_⟩
          refine k1 F H γ S σ _ s hσ fun vs F1 H1 γ1 e1 s1 r1 => ?_
          have hlb := r1.length
          rw [List.length_map] at hlb
          have hb1 : (bs.take l1.length).length ≤ bs.length := by rw [List.length_take]; omega
          rw [List.length_append] at hlen
          refine ⟨by rw [hlb]; show _ ≤ 16777216; omega, fun p hp => ?_⟩
          have s2 := s1.new (o := .lst vs) hp
          have e2 := Ext.new (γ := γ1) (o := .lst vs) s1.sub hp
          refine rBin_ok (d := .lst ((l0 ++ bs.take l1.length).map pairD)) s2 (.inl (e2.rep (e1.rep rv))) (.inl (.lst (ds := (bs.take l1.length).map pairD) upd_same (e2.reps r1))) ?_ fun v2 F3 H3 γ3 e3 s3 r3 => ?_
          · simp only [binD]
            rw [if_pos (by unfold lenOk maxLen; rw [List.length_map, List.length_map]; exact decide_eq_true (by omega)), ← List.map_append]
          · refine k2 F3 H3 γ3 S _ v2 (l0 ++ bs.take l1.length) Dn s3 (by rw [List.length_set]; exact hl) (by rw [List.getElem?_set_ne (by decide)]; exact hσ) (List.getElem?_set_self (by omega)) r3 ?_ ?_ fun F4 H4 γ4 e4 s4 => ?_
            · rw [List.append_assoc, ← hdec]; exact hf
            · rw [List.append_assoc, ← hdec, List.length_append]; exact hlen
            · rw [List.append_assoc, ← hdec]
              exact q F4 H4 γ4 (e1.trans (e2.trans (e3.trans e4))) s4
        · cases h1
      · cases h1
theorem err_body {e0 : Str} {sts : List Stmt} {l : List (Str × Str)} {bs : List (Str × Bool)} (C : ErrX X a oe D1) (hN : X.N[0]? = some e0) (h : errBody X.N X.env.scope e0 sts = some l) (hb : Fit X D1 l bs) (hf : errFits bs) (hlen : bs.length ≤ 1000) :
    ∃ t, PSs X sts t ∧ ∀ F H γ S σ (Dn : Ends), SS X.K g F H γ S → σ.length = 4 → σ[0]? = some (some (.ref a)) → (∀ F' H' γ', Ext F H γ F' H' γ' → SS X.K g F' H' γ' S → Dn.rt (.str (errSay bs)) H') → t Dn σ H := by
  cases sts with
  | nil => cases h
  | cons st r =>
    simp only [errBody] at h
    obtain ⟨l1, h1, h2⟩ := Option.bind_eq_some_iff.mp h
    obtain ⟨l2, h3, rfl⟩ := Option.map_eq_some_iff.mp h2
    obtain ⟨f1, f2⟩ := hb.split
    obtain ⟨t2, p2, k2⟩ := err_rest (g := g) C hN h3 f2
    have hdec : bs = bs.take l1.length ++ bs.drop l1.length := (List.take_append_drop _ _).symm
    unfold errFirst at h1
    split at h1
    · split at h1
      · rename_i n1
        obtain ⟨y1, y2⟩ := nameB_of n1
        obtain ⟨t1, p1, k1⟩ := err_pairs (g := g) C hN h1 f1
        refine ⟨_, pss_cons (ps_set C.nd y1 (.inl y2) (pe_lst p1) rfl (.inr y2)) p2, fun F H γ S σ Dn s hl hσ q => ?_⟩
        refine k1 F H γ S σ _ s hσ fun vs F1 H1 γ1 e1 s1 r1 => ?_
        have hlb := r1.length
        rw [List.length_map] at hlb
        have hb1 : (bs.take l1.length).length ≤ bs.length := by rw [List.length_take]; omega
        refine ⟨by rw [hlb]; show _ ≤ 16777216; omega, fun p hp => ?_⟩
        have s2 := s1.new (o := .lst vs) hp
        have e2 := Ext.new (γ := γ1) (o := .lst vs) s1.sub hp
        refine k2 _ _ γ1 S _ (.ref p) (bs.take l1.length) Dn s2 (by rw [List.length_set]; exact hl) (by rw [List.getElem?_set_ne (by decide)]; exact hσ) (List.getElem?_set_self (by omega)) (.lst upd_same (e2.reps r1)) ?_ ?_ fun F4 H4 γ4 e4 s4 => ?_
        · rw [← hdec]; exact hf
        · rw [← hdec]; exact hlen
        · rw [← hdec]
          exact q F4 H4 γ4 (e1.trans (e2.trans e4)) s4
      · cases h1
    · cases h1
end

end Pv

/-! Pv19: the checker of statements, the soundness of statements. -/
namespace Pv
open PySem PySem.Spec PyProof.Rows L2

/-- try: body except ec as e: return er(e) -/
def tryParts : Stmt → Option (List Stmt × Str × Str × Str)
  | .Try body hds els fin _ => (match hds with
    | [.ExceptHandler (some t) (some e) suite _] => (match t with
      | .Name ec _ => (match suite with
        | [.Return (some r) _] => (match r with
          | .Call f args [] _ => (match f, args with
            | .Name er _, [.Name e2 _] => if e2 == e && els.isEmpty && fin.isEmpty then some (body, ec, e, er) else none
            | _, _ => none)
          | _ => none)
        | _ => none)
      | _ => none)
    | _ => none)
  | _ => none
theorem tryParts_of {st : Stmt} {body : List Stmt} {ec e er : Str} (h : tryParts st = some (body, ec, e, er)) : ∃ np p5 p6 p7 p8 p9 pos : Pos, st = .Try body [.ExceptHandler (some (.Name ec np)) (some e) [.Return (some (.Call (.Name er p5) [.Name e p6] [] p7)) p8] p9] [] [] pos := by
  unfold tryParts at h
  split at h
  · split at h
    · split at h
      · split at h
        · split at h
          · split at h
            · split at h
              · rename_i hc
                simp only [Bool.and_eq_true, List.isEmpty_iff] at hc
                obtain ⟨⟨h1, h2⟩, h3⟩ := hc
                obtain rfl := eq_of_beq h1
                subst h2 h3
                cases h
                exact ⟨_, _, _, _, _, _, _, rfl⟩
              · cases h
            · cases h
          · cases h
        · cases h
      · cases h
    · cases h
  · cases h
def twB (ck : Ck) (ec er : Str) : Bool := match ck.tw with
  | some (c, r) => c == ec && r == er
  | none => false
theorem twB_of {ck : Ck} {ec er : Str} (h : twB ck ec er = true) : ck.tw = some (ec, er) := by
  unfold twB at h
  split at h
  · rename_i c r hc
    obtain ⟨z1, z2⟩ := Bool.and_eq_true_iff.mp h
    rw [hc, eq_of_beq z1, eq_of_beq z2]
  · cases h
def frzB : T → Bool
  | .frz _ => true
  | _ => false
mutual
def chkS (ck : Ck) (N : List Str) (sc : Scope) : T → Stmt → Bool
  | .set o i m, .Assign [.Name y py] e _ => nameF N sc i y && chkV ck N sc o m e && lcB sc py y m e
  | .setG gt m, .Assign [.Tuple es k p] e _ => chkG N (asF sc) gt (.Tuple es k p) && chk ck N sc false m e && (match e with
    | .Tuple vs _ _ => vs.all (foldedForSure 8) || es.any (notLoc sc)
    | _ => true)
  | .par o o' i j a b, .Assign [.Tuple [.Name x px, .Name y py] _ _] (.Tuple [ea, eb] _ _) _ => nameB N sc i x && nameB N sc j y && !(i == j) && !(y == x) && py.line == px.line && !isStar ea && !isStar eb &&
    ![ea, eb].all (foldedForSure 8) && ![ea, eb].all (constantsAlone 8) && chkV ck N sc o a ea && chkV ck N sc o' b eb ||
    (nameF N sc i x && nameF N sc j y && !(i == j) && !isStar ea && !isStar eb && [Expr.Name x px, Expr.Name y py].any (notLoc sc) && chkV ck N sc o a ea && chkV ck N sc o' b eb)
  | .setIx i j m, .Assign [.Subscript (.Name y _) x _] e _ => slotB N sc i y && chk ck N sc true j x && !isSlice x && chk ck N sc false m e
  | .setCell o j m, .Assign [.Subscript eo x _] e _ => chk ck N sc false o eo && chk ck N sc true j x && !isSlice x && chk ck N sc false m e
  | .app i m, .Expr (.Call (.Attribute (.Name y _) nm apos) [e] [] cpos) _ => nm == ("append" : Str) && slotB N sc i y && apos.endLine == cpos.line && !isStar e && chk ck N sc false m e
  | .drop m, .Expr e _ => !isCompE e && chk ck N sc false m e
  | .ite c s t, .If e a b _ => chkT ck N sc c e && chkSs ck N sc s a && chkSs ck N sc t b
  | .forr gt it s, .For tg iter a [] _ => !isSetE iter && chkI ck N sc false it tg iter && chkG N (asF sc) gt tg && chkSs ck N sc s a
  | .whil c s, .While e a [] _ => chkT ck N sc c e && chkSs ck N sc s a
  | .ret m, .Return (some e) _ => chk ck N sc false m e
  | .retN, .Return none _ => true
  | .skip, .Pass _ => true
  | .brk, .Break _ => true
  | .cont, .Continue _ => true
  | .rais k, .Raise (some (.Call (.Name x _) [.Constant (.str _) _ _] [] _)) none _ => (match ck.ex.lookup x with
    | some k' => k' == k
    | none => false) && glB sc x && plainName x
  | .tryW i s, st => (match tryParts st with
    | some (body, ec, e, er) => twB ck ec er && nameB N sc i e && plainName e && glB sc ec && plainName ec && glB sc er && plainName er && chkSs ck N sc s body
    | none => false)
  | _, _ => false
def chkSs (ck : Ck) (N : List Str) (sc : Scope) : T → List Stmt → Bool
  | .skip, [] => true
  | .seq s t, l => if frzB s then chkSs ck N sc t l else (match l with
    | st :: r => chkS ck N sc s st && chkSs ck N sc t r
    | [] => false)
  | _, _ => false
end
structure Ss (g : Gn) (wrd : Nat → Option Str) (cal : Nat → List D → Sto → Res D) (w : Option Nat) (ck : Ck) (X : Cx) (W : WX) (m : T) : Prop where
  one : ∀ st, chkS ck X.N X.env.scope m st = true → DS g wrd cal w X W st m
  all : ∀ sts, chkSs ck X.N X.env.scope m sts = true → DSs g wrd cal w X W sts m
section
variable {g : Gn} {wrd : Nat → Option Str} {cal : Nat → List D → Sto → Res D} {w : Option Nat} {lv : Nat} {ck : Ck} {X : Cx} {W : WX}
theorem Ss.only {m : T} (h : ∀ st, chkS ck X.N X.env.scope m st = true → DS g wrd cal w X W st m) (n : ∀ sts, chkSs ck X.N X.env.scope m sts = false) : Ss g wrd cal w ck X W m := ⟨h, fun sts h => ff (n sts) h⟩
theorem lk_of {l : List (Str × Nat)} {x : Str} {k : Nat} (h : (match l.lookup x with
    | some k' => k' == k
    | none => false) = true) : l.lookup x = some k := by
  split at h
  · rename_i k' e
    rw [e, eq_of_beq h]
  · cases h
theorem ss_set {o : Bool} {i : Nat} {m : E} (C : CtxS g wrd cal ck lv X W) : Ss g wrd cal w ck X W (.set o i m) := by
  refine .only (fun st h => ?_) fun sts => by cases sts <;> rfl
  cases st with
  | Assign ts e p =>
    match ts, h with
    | [.Name y py], h =>
      simp only [chkS, Bool.and_eq_true] at h
      exact ds_set C h.1.1 h.1.2 h.2
  | _ => cases h
theorem ss_setG {gt : G} {m : E} (C : CtxS g wrd cal ck lv X W) : Ss g wrd cal w ck X W (.setG gt m) := by
  refine .only (fun st h => ?_) fun sts => by cases sts <;> rfl
  cases st with
  | Assign ts e p =>
    match ts, h with
    | [.Tuple es k tp], h =>
      have h : (chkG X.N (asF X.env.scope) gt (.Tuple es k tp) && chk ck X.N X.env.scope false m e && (match (generalizing := false) e with
        | .Tuple vs _ _ => vs.all (foldedForSure 8) || es.any (notLoc X.env.scope)
        | _ => true)) = true := h
      simp only [Bool.and_eq_true] at h
      refine ds_setG C h.1.1 h.1.2 ?_
      cases e with
      | Tuple vs k2 p2 =>
        rcases Bool.or_eq_true _ _ ▸ h.2 with z | z
        · exact sst_fold z
        · exact sst_cell z
      | _ => exact sst_val rfl
  | _ => cases h
theorem ss_par {o o' : Bool} {i j : Nat} {a b : E} (C : CtxS g wrd cal ck lv X W) : Ss g wrd cal w ck X W (.par o o' i j a b) := by
  refine .only (fun st h => ?_) fun sts => by cases sts <;> rfl
  cases st with
  | Assign ts e p =>
    match ts, e, h with
    | [.Tuple [.Name x px, .Name y py] kt pt], .Tuple [ea, eb] k2 pt2, h =>
      simp only [chkS, Bool.or_eq_true] at h
      rcases h with h | h
      · simp only [Bool.and_eq_true, Bool.not_eq_true'] at h
        obtain ⟨⟨⟨⟨⟨⟨⟨⟨⟨⟨h1, h2⟩, h3⟩, h4⟩, h5⟩, h6⟩, h7⟩, h8⟩, h9⟩, h10⟩, h11⟩ := h
        exact ds_par C h1 h2 (fun z => by subst z; simp at h3) h4 (eq_of_beq h5) h6 h7 h8 h9 h10 h11
      · simp only [Bool.and_eq_true, Bool.not_eq_true'] at h
        obtain ⟨⟨⟨⟨⟨⟨⟨h1, h2⟩, h3⟩, h6⟩, h7⟩, h8⟩, h10⟩, h11⟩ := h
        exact ds_parT C h1 h2 (fun z => by subst z; simp at h3) h6 h7 h8 h10 h11
  | _ => cases h
theorem ss_setIx {i : Nat} {j m : E} (C : CtxS g wrd cal ck lv X W) : Ss g wrd cal w ck X W (.setIx i j m) := by
  refine .only (fun st h => ?_) fun sts => by cases sts <;> rfl
  cases st with
  | Assign ts e p =>
    match ts, h with
    | [.Subscript (.Name y py) x sp], h =>
      simp only [chkS, Bool.and_eq_true, Bool.not_eq_true'] at h
      exact ds_setIx C h.1.1.1 h.1.1.2 h.1.2 h.2
  | _ => cases h
theorem ss_setCell {o j m : E} (C : CtxS g wrd cal ck lv X W) : Ss g wrd cal w ck X W (.setCell o j m) := by
  refine .only (fun st h => ?_) fun sts => by cases sts <;> rfl
  cases st with
  | Assign ts e p =>
    match ts, h with
    | [.Subscript eo x sp], h =>
      simp only [chkS, Bool.and_eq_true, Bool.not_eq_true'] at h
      exact ds_setCell C h.1.1.1 h.1.1.2 h.1.2 h.2
  | _ => cases h
theorem ss_app {i : Nat} {m : E} (C : CtxS g wrd cal ck lv X W) : Ss g wrd cal w ck X W (.app i m) := by
  refine .only (fun st h => ?_) fun sts => by cases sts <;> rfl
  cases st with
  | Expr e p =>
    match e, h with
    | .Call (.Attribute (.Name y py) nm apos) [e] [] cpos, h =>
      simp only [chkS, Bool.and_eq_true, Bool.not_eq_true'] at h
      exact ds_app C (eq_of_beq h.1.1.1.1) h.1.1.1.2 h.1.1.2 h.1.2 h.2
  | _ => cases h
theorem ss_drop {m : E} (C : CtxS g wrd cal ck lv X W) : Ss g wrd cal w ck X W (.drop m) := by
  refine .only (fun st h => ?_) fun sts => by cases sts <;> rfl
  cases st with
  | Expr e p =>
    simp only [chkS, Bool.and_eq_true, Bool.not_eq_true'] at h
    exact ds_drop C h.1 h.2
  | _ => cases h
theorem ss_ret {m : E} (C : CtxS g wrd cal ck lv X W) : Ss g wrd cal w ck X W (.ret m) := by
  refine .only (fun st h => ?_) fun sts => by cases sts <;> rfl
  cases st with
  | Return e p =>
    cases e with
    | some e => exact ds_ret C h
    | none => cases h
  | _ => cases h
theorem ss_retN : Ss g wrd cal w ck X W .retN := by
  refine .only (fun st h => ?_) fun sts => by cases sts <;> rfl
  cases st with
  | Return e p =>
    cases e with
    | some e => cases h
    | none => exact ds_retN
  | _ => cases h
theorem ss_brk : Ss g wrd cal w ck X W .brk := by
  refine .only (fun st h => ?_) fun sts => by cases sts <;> rfl
  cases st with
  | Break p => exact ds_brk
  | _ => cases h
theorem ss_cont : Ss g wrd cal w ck X W .cont := by
  refine .only (fun st h => ?_) fun sts => by cases sts <;> rfl
  cases st with
  | Continue p => exact ds_cont
  | _ => cases h
theorem ss_rais {k : Nat} (C : CtxS g wrd cal ck lv X W) : Ss g wrd cal w ck X W (.rais k) := by
  refine .only (fun st h => ?_) fun sts => by cases sts <;> rfl
  cases st with
  | Raise e c p =>
    match e, c, h with
    | some (.Call (.Name x q) [.Constant (.str m) j p2] [] pos), none, h =>
      have h : ((match (generalizing := false) ck.ex.lookup x with
        | some k' => k' == k
        | none => false) && glB X.env.scope x && plainName x) = true := h
      simp only [Bool.and_eq_true] at h
      exact ds_rais C (lk_of h.1.1) h.1.2 h.2
  | _ => cases h
theorem ss_skip : Ss g wrd cal w ck X W .skip := by
  refine ⟨fun st h => ?_, fun sts h => ?_⟩
  · cases st with
    | Pass p => exact ds_pass
    | _ => cases h
  · cases sts with
    | nil => exact dss_nil
    | cons _ _ => cases h
theorem ss_ite {c : E} {s t : T} (C : CtxS g wrd cal ck lv X W) (hs : Ss g wrd cal w ck X W s) (ht : Ss g wrd cal w ck X W t) : Ss g wrd cal w ck X W (.ite c s t) := by
  refine .only (fun st h => ?_) fun sts => by cases sts <;> rfl
  cases st with
  | If e a b p =>
    simp only [chkS, Bool.and_eq_true] at h
    exact ds_ite C h.1.1 (hs.all _ h.1.2) (ht.all _ h.2)
  | _ => cases h
theorem ss_forr {gt : G} {it : E} {s : T} (C : CtxS g wrd cal ck lv X W) (hs : Ss g wrd cal w ck X W s) : Ss g wrd cal w ck X W (.forr gt it s) := by
  refine .only (fun st h => ?_) fun sts => by cases sts <;> rfl
  cases st with
  | For tg iter a b p =>
    cases b with
    | cons _ _ => cases h
    | nil =>
      simp only [chkS, Bool.and_eq_true, Bool.not_eq_true'] at h
      exact ds_forr C h.1.1.1 h.1.1.2 h.1.2 (hs.all _ h.2)
  | _ => cases h
theorem ss_whil {c : E} {s : T} (C : CtxS g wrd cal ck lv X W) (hs : Ss g wrd cal w ck X W s) : Ss g wrd cal w ck X W (.whil c s) := by
  refine .only (fun st h => ?_) fun sts => by cases sts <;> rfl
  cases st with
  | While e a b p =>
    cases b with
    | cons _ _ => cases h
    | nil =>
      simp only [chkS, Bool.and_eq_true] at h
      exact ds_whil C h.1 (hs.all _ h.2)
  | _ => cases h
theorem ss_seq {s t : T} (hs : Ss g wrd cal w ck X W s) (ht : Ss g wrd cal w ck X W t) : Ss g wrd cal w ck X W (.seq s t) := by
  refine ⟨fun st h => ff (by cases st <;> rfl) h, fun sts h => ?_⟩
  simp only [chkSs] at h
  split at h
  · rename_i hf
    cases s with
    | frz i => exact dss_frz (ht.all _ h)
    | _ => cases hf
  · cases sts with
    | nil => cases h
    | cons st r =>
      obtain ⟨h1, h2⟩ := Bool.and_eq_true_iff.mp h
      exact dss_cons (hs.one _ h1) (ht.all _ h2)
theorem ss_tryW {i : Nat} {s : T} (C : CtxS g wrd cal ck lv X W) (hs : ∀ (X' : Cx) (W' : WX), CtxS g wrd cal ck lv X' W' → Ss g wrd cal w ck X' W' s) : Ss g wrd cal w ck X W (.tryW i s) := by
  refine .only (fun st h => ?_) fun sts => by cases sts <;> rfl
  simp only [chkS] at h
  split at h
  · rename_i body ec e er hp
    obtain ⟨np, p5, p6, p7, p8, p9, pos, rfl⟩ := tryParts_of hp
    simp only [Bool.and_eq_true] at h
    obtain ⟨⟨⟨⟨⟨⟨⟨h1, h3⟩, h4⟩, h5⟩, h6⟩, h7⟩, h8⟩, h9⟩ := h
    exact ds_tryW C (twB_of h1) h3 h4 h5 h6 h7 h8 fun pn xe W' tk po => (hs _ W' (C.tr tk po)).all _ h9
  · cases h
theorem ss_no {m : T} (h1 : ∀ st, chkS ck X.N X.env.scope m st = false) (h2 : ∀ sts, chkSs ck X.N X.env.scope m sts = false) : Ss g wrd cal w ck X W m := ⟨fun st h => ff (h1 st) h, fun sts h => ff (h2 sts) h⟩
theorem ssnd' : ∀ (m : T) (X : Cx) (W : WX), CtxS g wrd cal ck lv X W → Ss g wrd cal w ck X W m := by
  intro m
  induction m with
  | skip => exact fun X W C => ss_skip
  | seq s t hs ht => exact fun X W C => ss_seq (hs X W C) (ht X W C)
  | set o i m => exact fun X W C => ss_set C
  | setG gt m => exact fun X W C => ss_setG C
  | par o o' i j a b => exact fun X W C => ss_par C
  | par3 o o' o'' i j k a b c => exact fun X W C => ss_no (fun st => by cases st <;> rfl) fun sts => by cases sts <;> rfl
  | frz i => exact fun X W C => ss_no (fun st => by cases st <;> rfl) fun sts => by cases sts <;> rfl
  | setIx i j m => exact fun X W C => ss_setIx C
  | app i m => exact fun X W C => ss_app C
  | setCell o j m => exact fun X W C => ss_setCell C
  | drop m => exact fun X W C => ss_drop C
  | ite c s t hs ht => exact fun X W C => ss_ite C (hs X W C) (ht X W C)
  | forr gt it s hs => exact fun X W C => ss_forr C (hs X W C)
  | whil c s hs => exact fun X W C => ss_whil C (hs X W C)
  | ret m => exact fun X W C => ss_ret C
  | retN => exact fun X W C => ss_retN
  | brk => exact fun X W C => ss_brk
  | cont => exact fun X W C => ss_cont
  | rais k => exact fun X W C => ss_rais C
  | raisT k e => exact fun X W C => ss_no (fun st => by cases st <;> rfl) fun sts => by cases sts <;> rfl
  | tryW i s hs => exact fun X W C => ss_tryW C hs
  | tryN ks s d hs => exact fun X W C => ss_no (fun st => by cases st <;> rfl) fun sts => by cases sts <;> rfl
theorem ssnd (C : CtxS g wrd cal ck lv X W) (m : T) : Ss g wrd cal w ck X W m := ssnd' m X W C
end
end Pv

/-! Pv20: defs. -/
namespace Pv
open PySem PySem.Spec PyProof.Rows L2

/-- a def's text and its small form; lam: it makes lambdas -/
structure DefOk (ck : Ck) (f : Fn) (name qual : Str) (params : Arguments) (body : List Stmt) (scope : Scope) (N ps : List Str) (lam : Bool) : Prop where
  sc : FnScope N ps scope
  nl : N.length = f.nl
  np : ps.length = f.np
  le : f.np ≤ f.nl
  chk : chkSs (if lam then ck else ck.noRf) N scope f.body body = true
  bind : ∀ (kV doc pm : Value) (an : Option Addr) (cdv ct : Value) (us : List Value), us.length = ps.length → bindArgs (PySem.W.fnOf name qual params body scope .none kV doc pm an cdv ct) ⟨us, []⟩ = pure (ps.zip us)
def fnScB (N ps : List Str) (sc : Scope) : Bool :=
  (match sc.kind with
    | .function => true
    | _ => false) && !sc.isCoroutine && !sc.isGenerator && decide N.Nodup && N.take ps.length == ps && (ps.all fun x => match sc.names.lookup x with
    | some .local => true
    | some .cell => true
    | _ => false) && sc.names.all fun y => match y.2 with
    | .free => false
    | _ => true
theorem fnScB_of {N ps : List Str} {sc : Scope} (h : fnScB N ps sc = true) : FnScope N ps sc := by
  unfold fnScB at h
  simp only [Bool.and_eq_true, Bool.not_eq_true', decide_eq_true_eq, beq_iff_eq, List.all_eq_true] at h
  obtain ⟨⟨⟨⟨⟨⟨h1, h2⟩, h3⟩, h4⟩, h5⟩, h6⟩, h7⟩ := h
  refine ⟨?_, h2, h3, h4, h5, fun x hx => ?_, fun y hy e => ?_⟩
  · split at h1
    · assumption
    · cases h1
  · have := h6 x hx
    split at this
    · exact .inl (by assumption)
    · exact .inr (by assumption)
    · cases this
  · have := h7 y hy
    rw [e] at this
    cases this
section
variable {K : PySem.W.Frag} {g : Gn} {F H : Hp} {γ : List Addr}
theorem ER.start {N : List Str} {vs : List V} {ds : List D} (r : Reps K g γ F vs ds) (hl : vs.length ≤ N.length) : ER K g H F H γ (ds.map .v ++ List.replicate (N.length - ds.length) .un) (L2.start N vs) := by
  have hlen := r.length
  refine ⟨by unfold L2.start; simp [hlen], fun i d h => ?_, fun _ => 0, fun i l h => ?_, fun i j l m h => ?_⟩
  · by_cases hi : i < ds.length
    · rw [List.getElem?_append_left (by simpa using hi)] at h
      rw [List.getElem?_map] at h
      obtain ⟨d', h1, h2⟩ := Option.map_eq_some_iff.mp h
      cases h2
      obtain ⟨v, h3, h4⟩ := r.get h1
      refine ⟨v, ?_, h4⟩
      unfold L2.start
      rw [List.getElem?_append_left (by rw [List.length_map]; omega), List.getElem?_map, h3]
      rfl
    · rw [List.getElem?_append_right (by simpa using hi), List.getElem?_replicate] at h
      split at h <;> cases h
  · by_cases hi : i < ds.length
    · rw [List.getElem?_append_left (by simpa using hi), List.getElem?_map] at h
      obtain ⟨d', h1, h2⟩ := Option.map_eq_some_iff.mp h
      cases h2
    · rw [List.getElem?_append_right (by simpa using hi), List.getElem?_replicate] at h
      split at h <;> cases h
  · by_cases hi : i < ds.length
    · rw [List.getElem?_append_left (by simpa using hi), List.getElem?_map] at h
      obtain ⟨d', h1, h2⟩ := Option.map_eq_some_iff.mp h
      cases h2
    · rw [List.getElem?_append_right (by simpa using hi), List.getElem?_replicate] at h
      split at h <;> cases h
end
/-- what the defs lean on: the module's names -/
structure ModOk (g : Gn) (wrd : Nat → Option Str) (ck : Ck) (P : Program) (w : World) (K : PySem.W.Frag) (mg : Str → Option Value) (base : Heap) : Prop where
  gl : ∀ x d, ck.gl.lookup x = some d → ∃ v u, (mg x = some u ∨ (mg x = none ∧ bootBuiltins x = some u)) ∧ RelV v u ∧ ∀ γ F, Rep K g γ F v d
  fr : ∀ x, ck.fr.contains x = true → mg x = none
  ex : ∀ x k, ck.ex.lookup x = some k → ∃ B newId initId bmB, ExcBaseFacts B newId initId bmB ∧ PySem.W.excIn K (g.ca k) bmB newId = true ∧ mg x = some (.ref (g.ca k)) ∧ PySem.W.keepIn K (.ref (g.ca k)) = true ∧ PySem.W.subIn K (.ref (g.ca k)) (.type "BaseException") = some true ∧ PySem.W.typeIn K (.ref (g.ca k)) = some (.type "type")
  rf : ∀ x, ck.rf = some x → RfHyp g wrd P w K mg base x
  tw : ∀ ec er, ck.tw = some (ec, er) → TwHyp g wrd P w K mg base ec er
/-- a def of the table -/
structure EntOk (g : Gn) (ck : Ck) (tab : List Fn) (K : PySem.W.Frag) (mg : Str → Option Value) (base : Heap) (k : Nat) : Prop where
  ex : ∃ (f : Fn) (name qual : Str) (params : Arguments) (body : List Stmt) (scope : Scope) (N ps : List Str) (lam : Bool) (fd : FuncData), tab[k]? = some f ∧ DefOk ck f name qual params body scope N ps lam ∧ FunD K name qual params body scope [] [] (g.fa k) fd ∧
    (lam = true → ∃ c P, fd.code = .ref c ∧ LamX.TabB base mg c P ∧ (P, qual ++ (".<locals>." : Str) ++ ("<lambda>" : Str)) ∈ g.T ∧ ∀ p ∈ g.T, p.1 = P → p.2 = qual ++ (".<locals>." : Str) ++ ("<lambda>" : Str))
section
variable {g : Gn} {wrd : Nat → Option Str} {ck : Ck} {w' : Option Nat} {tab : List Fn} {P : Program} {w : World} {K : PySem.W.Frag} {mg : Str → Option Value} {base : Heap}
theorem fn_step (M : ModOk g wrd ck P w K mg base) (n : Nat) (ih : ∀ k, k < g.nf → FnHyp g (run w' wrd tab n) (3 * n + 1) P w K mg base k) {k : Nat} {f : Fn} {name qual : Str} {params : Arguments} {body : List Stmt} {scope : Scope} {N ps : List Str} {lam : Bool} {fd : FuncData}
    (ht : tab[k]? = some f) (hd : DefOk ck f name qual params body scope N ps lam) (hF : FunD K name qual params body scope [] [] (g.fa k) fd)
    (hl : lam = true → ∃ c P, fd.code = .ref c ∧ LamX.TabB base mg c P ∧ (P, qual ++ (".<locals>." : Str) ++ ("<lambda>" : Str)) ∈ g.T ∧ ∀ p ∈ g.T, p.1 = P → p.2 = qual ++ (".<locals>." : Str) ++ ("<lambda>" : Str)) :
    FnOk P w K mg base (L2N.CX P w) (3 * (n + 1) + 1) (g.fa k) fd ps (spF K g (run w' wrd tab (n + 1)) k ps.length) := by
  obtain ⟨oc, od, dV, kV, doc, pm, an, cdv, ct, osl, rfl, lk, hcd, _, _⟩ := hF.ex
  refine fn_of (k := 3 * n + 3) lk hcd hd.sc (fun vs H Q E h => h.1) fun A outer s H vs Q E hr h => ?_
  obtain ⟨hvl, F, γ, S, ds, s0, r0, q⟩ := h
  generalize hX : cxOf (L2N.CX P w) P w K mg base N qual scope (g.fa k) cdv A outer s H E = X
  have ctx : CtxS g wrd (run w' wrd tab n) (if lam then ck else ck.noRf) (3 * n + 1) X (fun cls d _ H => E cls d H) := by
    subst hX
    refine ⟨⟨hd.sc.nd, rfl, hr.mono (by omega), fun x d h => M.gl x d (by split at h <;> exact h), fun x h => M.fr x (by split at h <;> exact h), ih, fun x h => ?_⟩, L2N.takes_of rfl rfl rfl rfl, L2.passes_of rfl, hd.sc.kind, fun _ => rfl, fun x k h => ?_, fun ec er h => ⟨rfl, rfl, L2H.roomH_of (hr.mono (by omega)), M.tw ec er (by split at h <;> exact h)⟩⟩
    · cases lam with
      | false => cases h
      | true =>
        obtain ⟨c, P', e1, e2, e3, e4⟩ := hl rfl
        exact ⟨hr.mono (by omega), ⟨c, P', e2, e1, e3, e4⟩, M.rf x h⟩
    · obtain ⟨B, n1, n2, bm, a1, a2, a3, a4, a5, a6⟩ := M.ex x k (by split at h <;> exact h)
      exact ⟨B, n1, n2, bm, a1, a2, a3, a4, L2.raises_own a5 a6⟩
  have hchk : chkSs (if lam then ck else ck.noRf) X.N X.env.scope f.body body = true := by subst hX; exact hd.chk
  obtain ⟨t, pt, kt⟩ := (ssnd (w := w') ctx f.body).all body hchk
  refine ⟨t, pt, ?_⟩
  have hlds := r0.length
  have hlen : ds.length = f.np := by rw [← hlds, hvl]; exact hd.np
  have KX : X.K = K := by subst hX; rfl
  refine kt F H γ F H γ S _ _ _ ⟨by rw [KX]; exact s0, by rw [KX]; exact ER.start r0 (by rw [hvl, hd.np, hd.nl]; exact hd.le), .refl⟩ ?_
  rw [KX, hd.nl, hlen]
  simp only [run, ht] at q
  rw [if_pos hlen] at q
  revert q
  cases exec wrd (run w' wrd tab n) w' f.body (ds.map .v ++ List.replicate (f.nl - f.np) .un) S with
  | rt d S1 => exact fun q v F' H' γ' e s r => q v F' H' γ' e s r
  | nx ρ S1 => exact fun q σ F' H' γ' mo i => q .non F' H' γ' i.e i.s .non
  | exc j ρ S1 => exact fun q σ F' H' γ' mo i => q F' H' γ' i.e i.s
  | bk ρ S1 => exact fun q => q.elim
  | ct ρ S1 => exact fun q => q.elim
  | bad => exact fun q => q.elim
theorem fns_ok (M : ModOk g wrd ck P w K mg base) (E : ∀ k, k < g.nf → EntOk g ck tab K mg base k) : ∀ n k, k < g.nf → FnHyp g (run w' wrd tab n) (3 * n + 1) P w K mg base k := by
  intro n
  induction n with
  | zero =>
    intro k hk
    obtain ⟨f, name, qual, params, body, scope, N, ps, lam, fd, ht, hd, hF, hl⟩ := (E k hk).ex
    refine ⟨⟨fd, ps, ?_, hF.bindsN hd.bind, fun ds S h => (h rfl).elim⟩, hF.kp⟩
    exact hF.ok (k := 0) hd.sc (fun vs H Q E h => h.1) fun cdv A outer s H vs Q E hr h => by
      obtain ⟨_, F, γ, S, ds, _, _, z⟩ := h
      exact z.elim
  | succ n ih =>
    intro k hk
    obtain ⟨f, name, qual, params, body, scope, N, ps, lam, fd, ht, hd, hF, hl⟩ := (E k hk).ex
    refine ⟨⟨_, ps, fn_step M n ih ht hd hF hl, hF.bindsN hd.bind, fun ds S h => ?_⟩, hF.kp⟩
    simp only [run, ht] at h
    split at h
    · rename_i hh; rw [hh]; exact hd.np.symm
    · exact (h rfl).elim
end
end Pv

/-! Pv21: a row's facts put together. -/
namespace Pv
open PySem PySem.Spec PyProof.Rows L2

theorem excCB_of {K : PySem.W.Frag} {a : Addr} (h : excCB K a = true) : L2.ExcC K a := by
  unfold excCB at h
  simp only [Bool.and_eq_true, decide_eq_true_eq] at h
  obtain ⟨⟨⟨⟨⟨⟨⟨h1, h2⟩, h3⟩, h4⟩, h5⟩, h6⟩, h7⟩, h8⟩ := h
  exact ⟨h1, h2, h3, h4, h5, h6, h7, h8⟩
namespace Row
variable (r : Row)
def sayB : Bool := r.rais.all fun k => (match r.wrd k with
  | some w => errSay (r.bits k) == w
  | none => false) && decide (((errWords (r.bits k)).map (·.length)).sum + (errWords (r.bits k)).length * (" " : Str).length ≤ 16777216) && decide (r.words.length ≤ 1000)
def gn (T : List (Addr × Str)) (K : PySem.W.Frag) : Gn := ⟨r.names.length, fun k => He.ga K (r.fnm k), fun k => He.ga K (r.cn k), T⟩
end Row
section
variable {r : Row} {T : List (Addr × Str)} {P : Program} {w : World} {K : PySem.W.Frag} {mg : Str → Option Value} {base : Heap}
theorem wrd_in {k : Nat} {v : Str} (h : r.wrd k = some v) : k ∈ r.rais := by
  unfold Row.wrd at h
  split at h
  · rename_i hc; simpa using hc
  · cases h
/-- the def that names the error -/
theorem fnX_row {name qual e0 s0 w0 g0 : Str} {params : Arguments} {body : List Stmt} {scope : Scope} {f : Addr} {fd : FuncData} (F : FunD K name qual params body scope [] [] f fd) (hsc : fnScB [e0, s0, w0, g0] [e0] scope = true) (hb : errBody [e0, s0, w0, g0] scope e0 body = some r.words)
    (hex : r.exB K = true) (hsay : r.sayB = true) (hmg : ∀ p ∈ r.words, mg p.2 = some (.ref (He.ga K p.2))) (hisi : mg ("isinstance" : Str) = none) : FnX P w K mg base 1 f fd [e0] (spX K (r.gn T K) r.wrd) := by
  obtain ⟨oc, od, dV, kV, doc, pm, an, cdv, ct, osl, rfl, lk, hcd, _, _⟩ := F.ex
  have Sc := fnScB_of hsc
  refine fnX_of lk hcd Sc (fun p vs H Q h => by rw [h.1]; rfl) fun A outer s H vs Q p hot hr h => ?_
  obtain ⟨rfl, hf, k, v, hw, hz, F0, γ, S, ss, q⟩ := h
  have hk := wrd_in hw
  have x1 := List.all_eq_true.mp hex k hk
  have x2 := List.all_eq_true.mp hsay k hk
  simp only [Bool.and_eq_true, decide_eq_true_eq] at x1 x2
  obtain ⟨⟨c1, c2⟩, c3⟩ := x1
  obtain ⟨⟨y1, y2⟩, y3⟩ := x2
  rw [hw] at y1
  have y1 : errSay (r.bits k) = v := eq_of_beq y1
  have C : ErrX (L2H.cxH C8.CX0 P w K mg base [e0, s0, w0, g0] qual scope f cdv A outer s H C8.E0 p) p.1 p.2 (He.ga K (r.cn k)) := ⟨List.mem_cons_self, hot, excCB_of c1, hz, hf, hisi, Sc.nd⟩
  have fit : Fit (L2H.cxH C8.CX0 P w K mg base [e0, s0, w0, g0] qual scope f cdv A outer s H C8.E0 p) (He.ga K (r.cn k)) r.words (r.bits k) := by
    refine ⟨by unfold Row.bits; rw [List.length_map], fun p hp => ?_⟩
    unfold Row.bits at hp
    obtain ⟨i, hi, e⟩ := List.mem_iff_getElem.mp hp
    rw [List.getElem_zip, List.getElem_map] at e
    have hm : r.words[i]'(by simpa using hi) ∈ r.words := List.getElem_mem _
    rw [← e]
    exact ⟨rfl, _, hmg _ hm, of_decide_eq_true (List.all_eq_true.mp c2 _ hm)⟩
  obtain ⟨t, pt, kt⟩ := err_body (g := r.gn T K) (bs := r.bits k) C rfl hb fit y2 (by unfold Row.bits; rw [List.length_map]; exact y3)
  refine ⟨t, pt, kt F0 H γ S _ _ ss rfl rfl fun F' H' γ' e s' => ?_⟩
  rw [y1]
  exact q F' H' γ' e s'
/-- the text of the def that calls what it gets -/
def rfB (a e ec er : Str) : List Stmt → Bool
  | [.Try [.Expr (.Call (.Name a1 _) [] [] _) _] [.ExceptHandler (some (.Name ec1 _)) (some e1) [.Return (some (.Call (.Name er1 _) [.Name e2 _] [] _)) _] _] [] [] p1, .Return (some (.Constant (.str z) _ _)) p2] =>
    a1 == a && ec1 == ec && e1 == e && er1 == er && e2 == e && z == ⟨#[]⟩
  | _ => false
theorem rfB_of {a e ec er : Str} {body : List Stmt} (h : rfB a e ec er body = true) : ∃ (j : Nat) (p1 p2 p3 p4 p5 p6 p7 p8 p9 pa pb pc : Pos),
    body = [.Try [.Expr (.Call (.Name a p1) [] [] p2) p3] [.ExceptHandler (some (.Name ec p4)) (some e) [.Return (some (.Call (.Name er p5) [.Name e p6] [] p7)) p8] p9] [] [] pa, .Return (some (.Constant (.str ⟨#[]⟩) j pb)) pc] := by
  unfold rfB at h
  split at h
  · simp only [Bool.and_eq_true] at h
    obtain ⟨⟨⟨⟨⟨h1, h2⟩, h3⟩, h4⟩, h5⟩, h6⟩ := h
    obtain rfl := eq_of_beq h1
    obtain rfl := eq_of_beq h2
    obtain rfl := eq_of_beq h3
    obtain rfl := eq_of_beq h4
    obtain rfl := eq_of_beq h5
    obtain rfl := eq_of_beq h6
    exact ⟨_, _, _, _, _, _, _, _, _, _, _, _, _, rfl⟩
  · cases h
theorem rf_row {x qual a e ec er : Str} {params : Arguments} {body : List Stmt} {scope : Scope} {fd : FuncData} (F : FunD K x qual params body scope [] [] (He.ga K x) fd) (hmx : mg x = some (.ref (He.ga K x))) (hsc : fnScB [a, e] [a] scope = true) (hb : rfB a e ec er body = true)
    (hbind : ∀ (kV doc pm : Value) (an : Option Addr) (cdv ct : Value) (us : List Value), us.length = [a].length → bindArgs (PySem.W.fnOf x qual params body scope .none kV doc pm an cdv ct) ⟨us, []⟩ = pure ([a].zip us))
    (l1 : (locB scope a && locB scope e && plainName a && plainName e && glB scope ec && plainName ec && glB scope er && plainName er) = true) (hec : ec = r.shelf) (mec : mg ec = some (.ref (He.ga K ec))) (hex : r.exB K = true)
    {fd2 : FuncData} {prm : Str} (Fx : FnX P w K mg base 1 (He.ga K er) fd2 [prm] (spX K (r.gn T K) r.wrd)) (hbx : Binds K fd2 [prm] []) (mer : mg er = some (.ref (He.ga K er))) (ker : PySem.W.keepIn K (.ref (He.ga K er)) = true) : RfHyp (r.gn T K) r.wrd P w K mg base x := by
  have hbd := F.bindsN hbind
  have kp := F.kp
  obtain ⟨oc, od, dV, kV, doc, pm, an, cdv, ct, osl, rfl, lk, hcd, _, _⟩ := F.ex
  obtain ⟨j, p1, p2, p3, p4, p5, p6, p7, p8, p9, pa, pb, pc, rfl⟩ := rfB_of hb
  simp only [Bool.and_eq_true] at l1
  obtain ⟨⟨⟨⟨⟨⟨⟨b1, b2⟩, b3⟩, b4⟩, b5⟩, b6⟩, b7⟩, b8⟩ := l1
  refine ⟨_, _, _, _, _, _, _, _, _, _, _, _, _, _, _, a, e, ec, er, j, p1, p2, p3, p4, p5, p6, p7, p8, p9, pa, pb, pc, _, _, fd2, prm, hmx, kp, lk, hcd, hbd, fnScB_of hsc, b1, b2, b3, b4, b5, b6, b7, b8, mec, fun k v hw => ?_, Fx, hbx, mer, ker⟩
  have x1 := List.all_eq_true.mp hex k (wrd_in hw)
  simp only [Bool.and_eq_true, decide_eq_true_eq] at x1
  rw [hec]
  exact x1.2
end
/-- try .. except in any def -/
theorem tw_row {r : Row} {T : List (Addr × Str)} {P : Program} {w : World} {K : PySem.W.Frag} {mg : Str → Option Value} {base : Heap} {ec er : Str} (hec : ec = r.shelf) (mec : mg ec = some (.ref (He.ga K ec))) (hex : r.exB K = true)
    {fd2 : FuncData} {prm : Str} (Fx : FnX P w K mg base 1 (He.ga K er) fd2 [prm] (spX K (r.gn T K) r.wrd)) (hbx : Binds K fd2 [prm] []) (mer : mg er = some (.ref (He.ga K er))) (ker : PySem.W.keepIn K (.ref (He.ga K er)) = true) : TwHyp (r.gn T K) r.wrd P w K mg base ec er := by
  refine ⟨_, _, fd2, prm, mec, fun k v hw => ?_, Fx, hbx, mer, ker⟩
  have x1 := List.all_eq_true.mp hex k (wrd_in hw)
  simp only [Bool.and_eq_true, decide_eq_true_eq] at x1
  rw [hec]
  exact x1.2
/-- what the checker wants of a def -/
structure Ent where
  f : Fn
  st : Stmt
  name : Str
  N : List Str
  ps : List Str
  lam : Bool
def Ent.ok (ck : Ck) (e : Ent) : Bool := fnScB e.N e.ps (defScope e.st) && decide (e.N.length = e.f.nl) && decide (e.ps.length = e.f.np) && decide (e.f.np ≤ e.f.nl) && chkSs (if e.lam then ck else ck.noRf) e.N (defScope e.st) e.f.body (defBody e.st)
def Ent.binds (e : Ent) : Prop := ∀ (kV doc pm : Value) (an : Option Addr) (cdv ct : Value) (us : List Value), us.length = e.ps.length → bindArgs (PySem.W.fnOf e.name e.name (defArgs e.st) (defBody e.st) (defScope e.st) .none kV doc pm an cdv ct) ⟨us, []⟩ = pure (e.ps.zip us)
theorem Ent.defOk {ck : Ck} {e : Ent} (h : e.ok ck = true) (b : e.binds) : DefOk ck e.f e.name e.name (defArgs e.st) (defBody e.st) (defScope e.st) e.N e.ps e.lam := by
  unfold Ent.ok at h
  simp only [Bool.and_eq_true, decide_eq_true_eq] at h
  obtain ⟨⟨⟨⟨h1, h2⟩, h3⟩, h4⟩, h5⟩ := h
  exact ⟨fnScB_of h1, h2, h3, h4, h5, b⟩
/-- the start: the script alone, the tables empty -/
def F_of (H : Hp) (a : Addr) : Hp := fun b => if b = a then (match H a with
  | some (.tbl _) => none
  | o => o) else none
theorem start_ok {K : PySem.W.Frag} {g : Gn} {H : Hp} {a : Addr} {ns : List Int} (hS : SqL K H a (ns.map V.int)) (hT : ∀ p ∈ g.T, H p.1 = some (.tbl #[])) : SS K g (F_of H a) H [] [] ∧ Reps K g [] (F_of H a) [.ref a] [.scr ns] := by
  have at_ : ∀ {o : HO}, H a = some o → (∀ ps, o ≠ .tbl ps) → F_of H a a = some o := fun {o} e n => by
    unfold F_of
    rw [if_pos rfl, e]
    cases o with
    | tbl ps => exact (n ps rfl).elim
    | _ => rfl
  refine ⟨⟨fun b o h => ?_, rfl, fun k l h => by simp at h, List.nodup_nil, fun b h => by simp at h, fun p hp => LamX.TabS.nil (hT p hp), fun b ps h => ?_⟩, .cons (.scr ?_) .nil⟩
  · unfold F_of at h
    split at h
    · rename_i e
      subst e
      split at h
      · cases h
      · exact h
    · cases h
  · unfold F_of at h
    split at h
    · split at h
      · cases h
      · rename_i q
        exact q ps h
    · cases h
  · rcases hS with (h | ⟨o, h⟩) | h
    · exact .inl (.inl (at_ h fun ps z => by cases z))
    · exact .inl (.inr ⟨o, at_ h fun ps z => by cases z⟩)
    · exact .inr h
/-- the law's promise at its depth -/
theorem law_sp {K : PySem.W.Frag} {g : Gn} {wrd : Nat → Option Str} {tab : List Fn} {w' : Option Nat} {n kl : Nat} {H : Hp} {a : Addr} {ns : List Int} {S : Sto} (hS : SqL K H a (ns.map V.int)) (hT : ∀ p ∈ g.T, H p.1 = some (.tbl #[])) (hr : run w' wrd tab n kl [.scr ns] [] = .ok (.bl true) S) :
    spF K g (run w' wrd tab n) kl 1 [.ref a] H (fun v _ => v = .bl true) fun _ _ _ => False := by
  obtain ⟨h1, h2⟩ := start_ok (g := g) hS hT
  refine ⟨rfl, _, [], [], [.scr ns], h1, h2, ?_⟩
  rw [hr]
  intro b F' H' γ' e s' rb
  have rb : Rep K g γ' F' b (.bl true) := rb
  cases rb
  rfl
end Pv

/-! Pv22: a row's data, its facts. -/
namespace Pv
open PySem PySem.Spec PyProof.Rows L2
theorem strsAre_ok : ∀ {vs : List Value} {zs : List Str}, strsAre vs zs = true → Vals (zs.map V.str) vs
  | [], [], _ => .nil
  | .str y t :: vs, z :: zs, h => by
    have h' : (decide (y = z) && strsAre vs zs) = true := by simpa [strsAre] using h
    obtain ⟨h1, h2⟩ := Bool.and_eq_true_iff.mp h'
    have e : y = z := of_decide_eq_true h1
    subst e
    exact .cons ⟨t, rfl⟩ (strsAre_ok h2)
  | [], _ :: _, h => by simp [strsAre] at h
  | v :: vs, [], h => by cases v <;> simp [strsAre] at h
  | .none :: vs, _ :: _, h => by simp [strsAre] at h
  | .bool _ :: vs, _ :: _, h => by simp [strsAre] at h
  | .int _ _ :: vs, _ :: _, h => by simp [strsAre] at h
  | .bytes _ _ :: vs, _ :: _, h => by simp [strsAre] at h
  | .float _ _ :: vs, _ :: _, h => by simp [strsAre] at h
  | .ref _ :: vs, _ :: _, h => by simp [strsAre] at h
  | .type _ :: vs, _ :: _, h => by simp [strsAre] at h
  | .builtin _ :: vs, _ :: _, h => by simp [strsAre] at h
theorem tupB_ok {K : PySem.W.Frag} {x : Str} {zs : List Str} (h : tupB K x zs = true) (F : Hp) : SqT K F (He.ga K x) (zs.map V.str) := by
  unfold tupB at h
  split at h
  · rename_i o ho
    obtain ⟨h1, h2⟩ := Bool.and_eq_true_iff.mp h
    split at h2
    · rename_i its n hd
      obtain ⟨h3, h4⟩ := Bool.and_eq_true_iff.mp h2
      have h3 : its.size ≤ 1000 := of_decide_eq_true h3
      exact .inr ⟨o, its, n, ho, of_decide_eq_true h1, hd, by rw [sizeLine_eq]; omega, strsAre_ok h4⟩
    · cases h2
  · cases h
theorem reps_strs {K : PySem.W.Frag} {g : Gn} {γ : List Addr} {F : Hp} : ∀ zs : List Str, Reps K g γ F (zs.map V.str) (zs.map D.str)
  | [] => .nil
  | z :: zs => .cons (.str z) (reps_strs zs)
namespace Data
variable (d : Data)
def gl : List (Str × D) := d.names.zipIdx.map (fun p => (p.1, D.fn p.2)) ++ (d.nums.map (fun p => (p.1, D.int p.2)) ++ (d.tys.map (fun b => (bltName b, D.ty ((bltTy b).getD ""))) ++ d.tups.map fun p => (p.1, D.tup (p.2.map D.str))))
def exs : List (Str × Nat) := d.rais.map fun k => (d.cn k, k)
def ck : Ck := ⟨d.gl, d.free, d.exs, some d.refused, d.tw⟩
def okB : Bool := d.tys.all (fun b => (bltTy b).isSome && d.free.contains (bltName b)) && d.rais.all (fun k => decide (k < d.cls.length))
end Data
theorem lk_mem {α : Type} {x : Str} {v : α} : ∀ {l : List (Str × α)}, l.lookup x = some v → (x, v) ∈ l
  | [], h => by cases h
  | (y, u) :: l, h => by
    rw [List.lookup_cons] at h
    split at h
    · rename_i e
      cases h
      rw [eq_of_beq e]
      exact List.mem_cons_self
    · exact List.mem_cons_of_mem _ (lk_mem h)
section
variable {d : Data} {T : List (Addr × Str)} {P : Program} {w : World} {K : PySem.W.Frag} {mg : Str → Option Value} {base h : Heap}
theorem mg_def (c : ∀ f ∈ d.fa, f.ok K = true) (KX : K.In h) (G : h.Ns mainGlobals mg) {x : Str} (hx : x ∈ d.names ++ d.more) : mg x = some (.ref (He.ga K x)) :=
  He.glo_ok KX G (c _ (List.mem_append_left _ (List.mem_map.mpr ⟨x, hx, rfl⟩)))
theorem mg_cls (c : ∀ f ∈ d.fa, f.ok K = true) (KX : K.In h) (G : h.Ns mainGlobals mg) {x : Str} (hx : x ∈ d.cls) : mg x = some (.ref (He.ga K x)) :=
  He.glo_ok KX G (c _ (List.mem_append_right _ (List.mem_append_left _ (List.mem_map.mpr ⟨x, hx, rfl⟩))))
theorem mg_free (c : ∀ f ∈ d.fa, f.ok K = true) (KX : K.In h) (G : h.Ns mainGlobals mg) {x : Str} (hx : x ∈ d.free) : mg x = none :=
  He.free_ok KX G (c _ (List.mem_append_right _ (List.mem_append_right _ (List.mem_append_left _ (List.mem_map.mpr ⟨x, hx, rfl⟩)))))
theorem exT_ex (h : d.exT K = true) : d.exB K = true := (Bool.and_eq_true_iff.mp (Bool.and_eq_true_iff.mp h).1).1
theorem nodup_inj {α β : Type} {f : α → β} : ∀ {l : List α}, (l.map f).Nodup → ∀ x ∈ l, ∀ y ∈ l, f x = f y → x = y
  | [], _, x, hx, _, _, _ => by cases hx
  | a :: l, h, x, hx, y, hy, e => by
    rw [List.map_cons, List.nodup_cons] at h
    rcases List.mem_cons.mp hx with h1 | h1
    · rcases List.mem_cons.mp hy with h2 | h2
      · rw [h1, h2]
      · exact (h.1 (by rw [← h1, e]; exact List.mem_map.mpr ⟨y, h2, rfl⟩)).elim
    · rcases List.mem_cons.mp hy with h2 | h2
      · exact (h.1 (by rw [← h2, ← e]; exact List.mem_map.mpr ⟨x, h1, rfl⟩)).elim
      · exact nodup_inj h.2 x h1 y h2 e
theorem exT_lam (h : d.exT K = true) : ∀ p ∈ d.tf, ∀ q ∈ d.tf, (He.cT K p).2 = (He.cT K q).2 → p = q := nodup_inj (of_decide_eq_true (Bool.and_eq_true_iff.mp h).2)
theorem mod_ok (ok : d.okB = true) (tp : d.exT K = true) (c : ∀ f ∈ d.fa, f.ok K = true) (KX : K.In h) (G : h.Ns mainGlobals mg) (rf : RfHyp (d.gn T K) d.wrd P w K mg base d.refused) (tw : ∀ ec er, d.tw = some (ec, er) → TwHyp (d.gn T K) d.wrd P w K mg base ec er) : ModOk (d.gn T K) d.wrd d.ck P w K mg base := by
  obtain ⟨o1, o2⟩ := Bool.and_eq_true_iff.mp ok
  refine ⟨fun x v hl => ?_, fun x hx => mg_free c KX G (by simpa [Data.ck] using hx), fun x k hl => ?_, fun x hx => by cases hx; exact rf, tw⟩
  · have hm := lk_mem hl
    have hm : (x, v) ∈ d.gl := hm
    unfold Data.gl at hm
    rcases List.mem_append.mp hm with hm | hm
    · obtain ⟨⟨n, k⟩, hp, e⟩ := List.mem_map.mp hm
      obtain ⟨hk, e2⟩ := List.mem_zipIdx' hp
      cases e
      have hn : d.names.getD k Str.empty = n := by rw [List.getD_eq_getElem?_getD, List.getElem?_eq_getElem hk]; exact e2.symm
      have hx : n ∈ d.names := by
        have e3 : n = d.names[k] := e2
        rw [e3]; exact List.getElem_mem _
      refine ⟨.ref (He.ga K n), _, .inl (mg_def c KX G (List.mem_append_left _ hx)), rfl, fun γ F => ?_⟩
      have hr : Rep K (d.gn T K) γ F (.ref ((d.gn T K).fa k)) (.fn k) := .fn k hk
      have e4 : (d.gn T K).fa k = He.ga K n := by
        show He.ga K (d.toRow.fnm k) = _
        unfold Row.fnm
        rw [hn]
      rw [e4] at hr
      exact hr
    · rcases List.mem_append.mp hm with hm | hm
      · obtain ⟨⟨n, i⟩, hp, e⟩ := List.mem_map.mp hm
        cases e
        obtain ⟨t, ht⟩ := He.int_ok KX G (c (.int n i) (List.mem_append_right _ (List.mem_append_right _ (List.mem_append_right _ (List.mem_append_right _ (List.mem_append_left _ (List.mem_map.mpr ⟨_, hp, rfl⟩)))))))
        exact ⟨.int i, _, .inl ht, ⟨t, rfl⟩, fun γ F => .int i⟩
      · rcases List.mem_append.mp hm with hm | hm
        rotate_left
        · obtain ⟨⟨n, zs⟩, hp, e⟩ := List.mem_map.mp hm
          cases e
          have tb : tupB K n zs = true := List.all_eq_true.mp (Bool.and_eq_true_iff.mp (Bool.and_eq_true_iff.mp tp).1).2 _ hp
          have mg1 : mg n = some (.ref (He.ga K n)) := He.glo_ok KX G (c (.glo n) (List.mem_append_right _ (List.mem_append_right _ (List.mem_append_right _ (List.mem_append_right _ (List.mem_append_right _ (List.mem_map.mpr ⟨_, hp, rfl⟩)))))))
          exact ⟨.ref (He.ga K n), _, .inl mg1, rfl, fun γ F => .tup (tupB_ok tb F) (reps_strs zs)⟩
        obtain ⟨b, hp, e⟩ := List.mem_map.mp hm
        have o := List.all_eq_true.mp o1 b hp
        simp only [Bool.and_eq_true] at o
        obtain ⟨t, ht⟩ := Option.isSome_iff_exists.mp o.1
        cases e
        have hb := boot_blt b
        unfold bltV at hb
        rw [ht] at hb ⊢
        exact ⟨.ty t, _, .inr ⟨mg_free c KX G (by simpa using o.2), hb⟩, rfl, fun γ F => .ty t⟩
  · have hm := lk_mem hl
    have hm : (x, k) ∈ d.exs := hm
    obtain ⟨k', hk, e⟩ := List.mem_map.mp hm
    cases e
    obtain ⟨e1, e2, e3, e4⟩ := He.exc_ok (c (.exc (d.cn k)) (List.mem_append_right _ (List.mem_append_right _ (List.mem_append_right _ (List.mem_append_left _ (List.mem_map.mpr ⟨k, hk, rfl⟩))))))
    have hlt : k < d.cls.length := of_decide_eq_true (List.all_eq_true.mp o2 k hk)
    have hc : d.cn k ∈ d.cls := by
      unfold Row.cn
      rw [List.getD_eq_getElem?_getD, List.getElem?_eq_getElem hlt]
      exact List.getElem_mem _
    exact ⟨"ValueError", "ValueError.__new__", "ValueError.__init__", He.veBase, PySem.F.excBase_ValueError, e1, mg_cls c KX G hc, e2, e3, e4⟩
end
end Pv

/-! the small forms -/
namespace My
open Pv
open PySem (Str)
def i_moves_of : Nat := 0
def i_ways_from : Nat := 1
def i_cheapest_flow : Nat := 2
def i_shifted : Nat := 3
def i_with_part : Nat := 4
def i_cost_of : Nat := 5
def i_is_int : Nat := 6
def i_are_dated : Nat := 7
def i_is_right_ledger : Nat := 8
def i_credit_of : Nat := 9
def i_stretches_of : Nat := 10
def i_bought_in : Nat := 11
def i_numbers_of : Nat := 12
def i_has_truth : Nat := 13
def i_need_ledger : Nat := 14
def i_need_word : Nat := 15
def i_day_in : Nat := 16
def i_can_be_sold : Nat := 17
def i_worth_in : Nat := 18
def i_worths_of : Nat := 19
def i_costs_for : Nat := 20
def i_best_flow : Nat := 21
def i_best_sum : Nat := 22
def i_bound_of : Nat := 23
def i_sales_of : Nat := 24
def i_both_bounds : Nat := 25
def i_spread_of : Nat := 26
def i_bound : Nat := 27
def i_truth_with : Nat := 28
def i_spread : Nat := 29
def i_law_source : Nat := 30
def i_law_pick : Nat := 31
def i_law_chosen : Nat := 32
def i_law_whole : Nat := 33
def i_law_by_two : Nat := 34
def i_law_days : Nat := 35
def i_law_drawn : Nat := 36
def i_law_spans : Nat := 37
def i_law_numbers : Nat := 38
def i_law_gain : Nat := 39
def i_law_sum : Nat := 40
def i_law_is_truth : Nat := 41
def i_law_flows : Nat := 42
def i_law_sold : Nat := 43
def i_law_end : Nat := 44
def i_law_times : Nat := 45
def i_law_sales : Nat := 46
def i_law_all_ends : Nat := 47
def i_law_right : Nat := 48
def i_law_flow_ends : Nat := 49
def i_law_refusals : Nat := 50
def i_law_written : Nat := 51
def i_law : Nat := 52
def c_ShelfError : Nat := 0
def c_InvalidLedger : Nat := 1
def c_InvalidWord : Nat := 2
def c_InvalidIndex : Nat := 3
def c_InvalidDay : Nat := 4
def c_InvalidTruth : Nat := 5
def c_InvalidPaper : Nat := 6
def c_InvalidNumber : Nat := 7
def c_InvalidNotes : Nat := 8
def c_InvalidText : Nat := 9
def c_NoTruth : Nat := 10
def c_Unlike : Nat := 11
def c_NothingToUndo : Nat := 12
def c_TooMany : Nat := 13
def t_moves_of_b2 : T := (.seq (.ite (.cmp .gt (.ix (.ix (.var 1) (.var 3)) (.var 5)) (.lit (.int 0))) (.seq (.set false 2 (.bin .add (.var 2) (.comp [7, 8] (.tup (.cons (.nm 7) (.cons (.nm 8) .nil))) (.enum (.var 4)) (.and (.cmp .ne (.var 7) (.var 5)) (.cmp .isnt (.var 8) (.lit .non))) (.tup (.cons (.var 5) (.cons (.var 7) (.cons (.bin .sub (.var 8) (.var 6)) (.cons (.var 3) .nil)))))))) .skip) .skip) .skip)
def t_moves_of_b1 : T := (.seq (.forr (.tup (.cons (.nm 5) (.cons (.nm 6) .nil))) (.enum (.var 4)) t_moves_of_b2) .skip)
def t_moves_of : T := (.seq (.set false 2 (.lst .nil)) (.seq (.forr (.tup (.cons (.nm 3) (.cons (.nm 4) .nil))) (.enum (.var 0)) t_moves_of_b1) (.seq (.ret (.var 2)) .skip)))
def f_moves_of : Fn := ⟨9, 2, t_moves_of⟩
def t_ways_from_b2 : T := (.seq (.ite (.cmp .isnt (.ix (.bvar 3) (.var 7)) (.lit .non)) (.seq (.set false 11 (.tup (.cons (.bin .add (.ix (.ix (.bvar 3) (.var 7)) (.lit (.int 0))) (.var 9)) (.cons (.bin .add (.ix (.ix (.bvar 3) (.var 7)) (.lit (.int 1))) (.lit (.int 1))) (.cons (.bin .add (.ix (.ix (.bvar 3) (.var 7)) (.lit (.int 2))) (.lst (.cons (.tup (.cons (.var 7) (.cons (.var 10) .nil))) .nil))) .nil))))) (.seq (.ite (.or (.cmp .is (.ix (.bvar 3) (.var 8)) (.lit .non)) (.cmp .lt (.sl (.var 11) .non (.som (.lit (.int 2)))) (.sl (.ix (.bvar 3) (.var 8)) .non (.som (.lit (.int 2)))))) (.seq (.setIx 3 (.var 8) (.var 11)) (.seq (.set false 5 (.lit (.bl true))) .skip)) .skip) .skip)) .skip) .skip)
def t_ways_from_b1 : T := (.seq (.set false 5 (.lit (.bl false))) (.seq (.forr (.tup (.cons (.nm 7) (.cons (.nm 8) (.cons (.nm 9) (.cons (.nm 10) .nil))))) (.walk (.var 4)) t_ways_from_b2) .skip))
def t_ways_from : T := (.seq (.set true 3 (.comp [6] (.nm 6) (.walk (.ix (.var 0) (.var 2))) (.lit (.bl true)) (.ite (.cmp .is (.var 6) (.lit .non)) (.lit .non) (.tup (.cons (.var 6) (.cons (.lit (.int 0)) (.cons (.lst .nil) .nil))))))) (.seq (.set false 4 (.call i_moves_of (.cons (.var 0) (.cons (.var 1) .nil)))) (.seq (.set false 5 (.lit (.bl true))) (.seq (.whil (.tst (.var 5)) t_ways_from_b1) (.seq (.frz 3) (.seq (.ret (.var 3)) .skip))))))
def f_ways_from : Fn := ⟨12, 3, t_ways_from⟩
def t_cheapest_flow_b2 : T := (.seq (.set false 8 (.comp [11, 13] (.tup (.cons (.nm 11) (.cons (.nm 13) .nil))) (.enum (.call i_ways_from (.cons (.var 0) (.cons (.var 3) (.cons (.var 5) .nil))))) (.and (.cmp .isnt (.var 13) (.lit .non)) (.cmp .gt (.ix (.bvar 4) (.var 11)) (.lit (.int 0)))) (.tup (.cons (.sl (.var 13) .non (.som (.lit (.int 2)))) (.cons (.var 11) (.cons (.ix (.var 13) (.lit (.int 2))) .nil)))))) (.seq (.setG (.tup (.cons (.nm 10) (.cons (.nm 11) (.cons (.nm 12) .nil)))) (.blt .min (.cons (.var 8) .nil))) (.seq (.set false 9 (.blt .min (.cons (.bin .add (.lst (.cons (.var 6) (.cons (.ix (.bvar 4) (.var 11)) .nil))) (.comp [14, 15] (.tup (.cons (.nm 14) (.cons (.nm 15) .nil))) (.walk (.var 12)) (.lit (.bl true)) (.ix (.ix (.var 3) (.var 15)) (.var 14)))) .nil))) (.seq (.set false 3 (.call i_shifted (.cons (.var 3) (.cons (.var 5) (.cons (.var 12) (.cons (.var 11) (.cons (.var 9) .nil))))))) (.seq (.setIx 4 (.var 11) (.bin .sub (.ix (.bvar 4) (.var 11)) (.var 9))) (.seq (.set false 6 (.bin .sub (.var 6) (.var 9))) .skip))))))
def t_cheapest_flow_b1 : T := (.seq (.set false 6 (.ix (.var 1) (.var 5))) (.seq (.whil (.cmp .gt (.var 6) (.lit (.int 0))) t_cheapest_flow_b2) .skip))
def t_cheapest_flow : T := (.seq (.set false 3 (.comp [7] (.nm 7) (.walk (.var 0)) (.lit (.bl true)) (.bin .mul (.lst (.cons (.lit (.int 0)) .nil)) (.blt .len (.cons (.var 2) .nil))))) (.seq (.set true 4 (.blt .list (.cons (.var 2) .nil))) (.seq (.forr (.nm 5) (.rng1 (.blt .len (.cons (.var 1) .nil))) t_cheapest_flow_b1) (.seq (.ret (.var 3)) .skip))))
def f_cheapest_flow : Fn := ⟨16, 3, t_cheapest_flow⟩
def t_shifted_b1 : T := (.seq (.set false 5 (.call i_with_part (.cons (.call i_with_part (.cons (.var 5) (.cons (.var 6) (.cons (.var 7) (.cons (.var 4) .nil))))) (.cons (.var 8) (.cons (.var 7) (.cons (.bin .sub (.lit (.int 0)) (.var 4)) .nil)))))) (.seq (.set false 6 (.var 8)) .skip))
def t_shifted : T := (.seq (.par false false 5 6 (.var 0) (.var 1)) (.seq (.forr (.tup (.cons (.nm 7) (.cons (.nm 8) .nil))) (.walk (.var 2)) t_shifted_b1) (.seq (.ret (.call i_with_part (.cons (.var 5) (.cons (.var 6) (.cons (.var 3) (.cons (.var 4) .nil)))))) .skip)))
def f_shifted : Fn := ⟨9, 5, t_shifted⟩
def t_with_part : T := (.seq (.set false 4 (.bin .add (.bin .add (.sl (.ix (.var 0) (.var 1)) .non (.som (.var 2))) (.lst (.cons (.bin .add (.ix (.ix (.var 0) (.var 1)) (.var 2)) (.var 3)) .nil))) (.sl (.ix (.var 0) (.var 1)) (.som (.bin .add (.var 2) (.lit (.int 1)))) .non))) (.seq (.ret (.bin .add (.bin .add (.sl (.var 0) .non (.som (.var 1))) (.lst (.cons (.var 4) .nil))) (.sl (.var 0) (.som (.bin .add (.var 1) (.lit (.int 1)))) .non))) .skip))
def f_with_part : Fn := ⟨5, 4, t_with_part⟩
def t_cost_of : T := (.seq (.set false 2 (.lzip (.var 1) (.var 0))) (.seq (.ret (.blt .sum (.cons (.comp [3, 4] (.tup (.cons (.nm 3) (.cons (.nm 4) .nil))) (.walk (.var 2)) (.lit (.bl true)) (.blt .sum (.cons (.comp [5, 6] (.tup (.cons (.nm 5) (.cons (.nm 6) .nil))) (.zip (.var 3) (.var 4)) (.cmp .isnt (.var 6) (.lit .non)) (.bin .mul (.var 5) (.var 6))) .nil))) .nil))) .skip))
def f_cost_of : Fn := ⟨7, 2, t_cost_of⟩
def t_is_int : T := (.seq (.ret (.and (.blt .isinst (.cons (.var 0) (.cons (.glb "int" (.ty "int")) .nil))) (.and (.not (.blt .isinst (.cons (.var 0) (.cons (.glb "bool" (.ty "bool")) .nil)))) (.chain .le .le (.var 1) (.var 0) (.var 2))))) .skip)
def f_is_int : Fn := ⟨3, 3, t_is_int⟩
def t_are_dated_b1 : T := (.seq (.ite (.or (.not (.tst (.blt .isinst (.cons (.var 4) (.cons (.glb "tuple" (.ty "tuple")) .nil))))) (.cmp .ne (.blt .len (.cons (.var 4) .nil)) (.lit (.int 2)))) (.seq (.ret (.lit (.bl false))) .skip) .skip) (.seq (.ite (.or (.not (.tst (.call i_is_int (.cons (.ix (.var 4) (.lit (.int 0))) (.cons (.lit (.int 0)) (.cons (.glb "LAST_DAY" (.int 1000000000)) .nil)))))) (.not (.tst (.call i_is_int (.cons (.ix (.var 4) (.lit (.int 1))) (.cons (.var 2) (.cons (.var 3) .nil))))))) (.seq (.ret (.lit (.bl false))) .skip) .skip) .skip))
def t_are_dated : T := (.seq (.ite (.or (.not (.tst (.blt .isinst (.cons (.var 0) (.cons (.glb "tuple" (.ty "tuple")) .nil))))) (.cmp .gt (.blt .len (.cons (.var 0) .nil)) (.var 1))) (.seq (.ret (.lit (.bl false))) .skip) .skip) (.seq (.forr (.nm 4) (.walk (.var 0)) t_are_dated_b1) (.seq (.ret (.blt .all (.cons (.comp [5, 6] (.tup (.cons (.nm 5) (.cons (.nm 6) .nil))) (.zip (.var 0) (.sl (.var 0) (.som (.lit (.int 1))) .non)) (.lit (.bl true)) (.cmp .lt (.ix (.var 5) (.lit (.int 0))) (.ix (.var 6) (.lit (.int 0))))) .nil))) .skip)))
def f_are_dated : Fn := ⟨7, 4, t_are_dated⟩
def t_is_right_ledger : T := (.seq (.ite (.or (.not (.tst (.blt .isinst (.cons (.var 0) (.cons (.glb "tuple" (.ty "tuple")) .nil))))) (.or (.cmp .ne (.blt .len (.cons (.var 0) .nil)) (.lit (.int 4))) (.not (.tst (.call i_is_int (.cons (.ix (.var 0) (.lit (.int 3))) (.cons (.lit (.int 0)) (.cons (.glb "LAST_DAY" (.int 1000000000)) .nil)))))))) (.seq (.ret (.lit (.bl false))) .skip) .skip) (.seq (.ite (.or (.not (.tst (.call i_are_dated (.cons (.ix (.var 0) (.lit (.int 0))) (.cons (.glb "MOST_LOTS" (.int 5)) (.cons (.lit (.int 1)) (.cons (.glb "MOST_PIECES" (.int 1000000000000000000000000000000)) .nil))))))) (.not (.tst (.call i_are_dated (.cons (.ix (.var 0) (.lit (.int 1))) (.cons (.glb "MOST_COUNTS" (.int 4)) (.cons (.lit (.int 0)) (.cons (.glb "MOST_COUNT" (.int 10000000000000000000000000000000)) .nil)))))))) (.seq (.ret (.lit (.bl false))) .skip) .skip) (.seq (.ret (.call i_are_dated (.cons (.ix (.var 0) (.lit (.int 2))) (.cons (.glb "MOST_FALLS" (.int 4)) (.cons (.lit (.int 1)) (.cons (.glb "MOST_AMOUNT" (.int 1000000)) .nil)))))) .skip)))
def f_is_right_ledger : Fn := ⟨1, 1, t_is_right_ledger⟩
def t_credit_of : T := (.seq (.ret (.blt .sum (.cons (.comp [3, 4] (.tup (.cons (.nm 3) (.cons (.nm 4) .nil))) (.walk (.ix (.var 0) (.lit (.int 2)))) (.and (.chain .le .le (.var 1) (.var 3) (.bin .add (.var 1) (.ix (.var 0) (.lit (.int 3))))) (.or (.cmp .is (.var 2) (.lit .non)) (.cmp .lt (.var 3) (.var 2)))) (.var 4)) .nil))) .skip)
def f_credit_of : Fn := ⟨5, 3, t_credit_of⟩
def t_stretches_of : T := (.seq (.set false 1 (.comp [3, 4] (.tup (.cons (.nm 3) (.cons (.nm 4) .nil))) (.walk (.ix (.var 0) (.lit (.int 1)))) (.lit (.bl true)) (.var 3))) (.seq (.set false 2 (.bin .add (.lst (.cons (.lit (.int 0)) .nil)) (.comp [3] (.nm 3) (.walk (.var 1)) (.lit (.bl true)) (.bin .add (.var 3) (.lit (.int 1)))))) (.seq (.ret (.lzip (.var 2) (.bin .add (.var 1) (.lst (.cons (.lit .non) .nil))))) .skip)))
def f_stretches_of : Fn := ⟨5, 1, t_stretches_of⟩
def t_bought_in : T := (.seq (.setG (.tup (.cons (.nm 2) (.cons (.nm 3) .nil))) (.var 1)) (.seq (.ret (.blt .sum (.cons (.comp [4, 5] (.tup (.cons (.nm 4) (.cons (.nm 5) .nil))) (.walk (.ix (.var 0) (.lit (.int 0)))) (.and (.cmp .le (.var 2) (.var 4)) (.or (.cmp .is (.var 3) (.lit .non)) (.cmp .le (.var 4) (.var 3)))) (.var 5)) .nil))) .skip))
def f_bought_in : Fn := ⟨6, 2, t_bought_in⟩
def t_numbers_of_b1 : T := (.seq (.set false 2 (.bin .add (.var 2) (.lst (.cons (.bin .sub (.bin .add (.var 1) (.call i_bought_in (.cons (.var 0) (.cons (.var 3) .nil)))) (.var 4)) .nil)))) (.seq (.set false 1 (.var 4)) .skip))
def t_numbers_of : T := (.seq (.par false false 1 2 (.lit (.int 0)) (.lst .nil)) (.seq (.forr (.tup (.cons (.nm 3) (.cons (.nm 4) .nil))) (.zip (.call i_stretches_of (.cons (.var 0) .nil)) (.bin .add (.comp [5, 6] (.tup (.cons (.nm 5) (.cons (.nm 6) .nil))) (.walk (.ix (.var 0) (.lit (.int 1)))) (.lit (.bl true)) (.var 6)) (.lst (.cons (.lit (.int 0)) .nil)))) t_numbers_of_b1) (.seq (.ret (.var 2)) .skip)))
def f_numbers_of : Fn := ⟨7, 1, t_numbers_of⟩
def t_has_truth : T := (.seq (.ret (.blt .all (.cons (.comp [1] (.nm 1) (.walk (.call i_numbers_of (.cons (.var 0) .nil))) (.lit (.bl true)) (.cmp .ge (.var 1) (.lit (.int 0)))) .nil))) .skip)
def f_has_truth : Fn := ⟨2, 1, t_has_truth⟩
def t_need_ledger : T := (.seq (.ite (.not (.tst (.call i_is_right_ledger (.cons (.var 0) .nil)))) (.seq (.rais c_InvalidLedger) .skip) .skip) .skip)
def f_need_ledger : Fn := ⟨1, 1, t_need_ledger⟩
def t_need_word : T := (.seq (.ite (.or (.not (.tst (.blt .isinst (.cons (.var 0) (.cons (.glb "str" (.ty "str")) .nil))))) (.cmp .notin (.var 0) (.glb "WORDS" (.tup [(.str "least"), (.str "most")])))) (.seq (.rais c_InvalidWord) .skip) .skip) .skip)
def f_need_word : Fn := ⟨1, 1, t_need_word⟩
def t_day_in : T := (.seq (.ret (.ite (.cmp .eq (.var 2) (.lit (.str "most"))) (.ix (.var 0) (.lit (.int 1))) (.blt .max (.cons (.ix (.var 0) (.lit (.int 0))) (.cons (.var 1) .nil))))) .skip)
def f_day_in : Fn := ⟨3, 3, t_day_in⟩
def t_can_be_sold : T := (.seq (.ret (.or (.cmp .is (.ix (.var 0) (.lit (.int 1))) (.lit .non)) (.cmp .le (.var 1) (.ix (.var 0) (.lit (.int 1)))))) .skip)
def f_can_be_sold : Fn := ⟨2, 2, t_can_be_sold⟩
def t_worth_in : T := (.seq (.ite (.not (.tst (.call i_can_be_sold (.cons (.var 3) (.cons (.ix (.var 2) (.lit (.int 0))) .nil))))) (.seq (.ret (.lit .non)) .skip) .skip) (.seq (.ret (.call i_credit_of (.cons (.var 0) (.cons (.ix (.var 2) (.lit (.int 0))) (.cons (.call i_day_in (.cons (.var 3) (.cons (.ix (.var 2) (.lit (.int 0))) (.cons (.var 1) .nil)))) .nil))))) .skip))
def f_worth_in : Fn := ⟨4, 4, t_worth_in⟩
def t_worths_of : T := (.seq (.ret (.comp [2] (.nm 2) (.walk (.ix (.var 0) (.lit (.int 0)))) (.lit (.bl true)) (.comp [3] (.nm 3) (.walk (.call i_stretches_of (.cons (.var 0) .nil))) (.lit (.bl true)) (.call i_worth_in (.cons (.var 0) (.cons (.var 1) (.cons (.var 2) (.cons (.var 3) .nil)))))))) .skip)
def f_worths_of : Fn := ⟨4, 2, t_worths_of⟩
def t_costs_for : T := (.seq (.set false 2 (.ite (.cmp .eq (.var 1) (.lit (.str "most"))) (.neg (.lit (.int 1))) (.lit (.int 1)))) (.seq (.ret (.comp [3] (.nm 3) (.walk (.var 0)) (.lit (.bl true)) (.comp [4] (.nm 4) (.walk (.var 3)) (.lit (.bl true)) (.ite (.cmp .is (.var 4) (.lit .non)) (.lit .non) (.bin .mul (.var 2) (.var 4)))))) .skip))
def f_costs_for : Fn := ⟨5, 2, t_costs_for⟩
def t_best_flow : T := (.seq (.ret (.call i_cheapest_flow (.cons (.call i_costs_for (.cons (.var 1) (.cons (.var 2) .nil))) (.cons (.comp [3] (.nm 3) (.walk (.ix (.var 0) (.lit (.int 0)))) (.lit (.bl true)) (.ix (.var 3) (.lit (.int 1)))) (.cons (.call i_numbers_of (.cons (.var 0) .nil)) .nil))))) .skip)
def f_best_flow : Fn := ⟨4, 3, t_best_flow⟩
def t_best_sum : T := (.seq (.ret (.call i_cost_of (.cons (.var 1) (.cons (.call i_best_flow (.cons (.var 0) (.cons (.var 1) (.cons (.var 2) .nil)))) .nil)))) .skip)
def f_best_sum : Fn := ⟨3, 3, t_best_sum⟩
def t_bound_of : T := (.seq (.ret (.call i_best_sum (.cons (.var 0) (.cons (.call i_worths_of (.cons (.var 0) (.cons (.var 1) .nil))) (.cons (.var 1) .nil))))) .skip)
def f_bound_of : Fn := ⟨2, 2, t_bound_of⟩
def t_sales_of_b1 : T := (.seq (.set false 6 (.comp [7, 8] (.tup (.cons (.nm 7) (.cons (.nm 8) .nil))) (.zip (.call i_stretches_of (.cons (.var 0) .nil)) (.var 5)) (.cmp .gt (.var 8) (.lit (.int 0))) (.tup (.cons (.call i_day_in (.cons (.var 7) (.cons (.ix (.var 4) (.lit (.int 0))) (.cons (.var 1) .nil)))) (.cons (.var 8) .nil))))) (.seq (.set false 3 (.bin .add (.var 3) (.tup (.cons (.blt .tuple (.cons (.comp [9, 8] (.tup (.cons (.nm 9) (.cons (.nm 8) .nil))) (.walk (.var 6)) (.cmp .isnt (.var 9) (.lit .non)) (.tup (.cons (.var 9) (.cons (.var 8) .nil)))) .nil)) .nil)))) .skip))
def t_sales_of : T := (.seq (.set false 3 (.tup .nil)) (.seq (.forr (.tup (.cons (.nm 4) (.cons (.nm 5) .nil))) (.zip (.ix (.var 0) (.lit (.int 0))) (.var 2)) t_sales_of_b1) (.seq (.ret (.var 3)) .skip)))
def f_sales_of : Fn := ⟨10, 3, t_sales_of⟩
def t_both_bounds : T := (.seq (.ite (.not (.tst (.call i_has_truth (.cons (.var 0) .nil)))) (.seq (.ret (.lit .non)) .skip) .skip) (.seq (.ret (.tup (.cons (.call i_bound_of (.cons (.var 0) (.cons (.lit (.str "least")) .nil))) (.cons (.call i_bound_of (.cons (.var 0) (.cons (.lit (.str "most")) .nil))) .nil)))) .skip))
def f_both_bounds : Fn := ⟨1, 1, t_both_bounds⟩
def t_spread_of : T := (.seq (.set false 1 (.call i_both_bounds (.cons (.var 0) .nil))) (.seq (.ret (.ite (.cmp .is (.var 1) (.lit .non)) (.lit .non) (.bin .sub (.ix (.var 1) (.lit (.int 1))) (.ix (.var 1) (.lit (.int 0)))))) .skip))
def f_spread_of : Fn := ⟨2, 1, t_spread_of⟩
def t_bound : T := (.seq (.drop (.call i_need_ledger (.cons (.var 0) .nil))) (.seq (.drop (.call i_need_word (.cons (.var 1) .nil))) (.seq (.ret (.ite (.tst (.call i_has_truth (.cons (.var 0) .nil))) (.call i_bound_of (.cons (.var 0) (.cons (.var 1) .nil))) (.lit .non))) .skip)))
def f_bound : Fn := ⟨2, 2, t_bound⟩
def t_truth_with : T := (.seq (.drop (.call i_need_ledger (.cons (.var 0) .nil))) (.seq (.drop (.call i_need_word (.cons (.var 1) .nil))) (.seq (.ite (.not (.tst (.call i_has_truth (.cons (.var 0) .nil)))) (.seq (.ret (.lit .non)) .skip) .skip) (.seq (.ret (.call i_sales_of (.cons (.var 0) (.cons (.var 1) (.cons (.call i_best_flow (.cons (.var 0) (.cons (.call i_worths_of (.cons (.var 0) (.cons (.var 1) .nil))) (.cons (.var 1) .nil)))) .nil))))) .skip))))
def f_truth_with : Fn := ⟨2, 2, t_truth_with⟩
def t_spread : T := (.seq (.drop (.call i_need_ledger (.cons (.var 0) .nil))) (.seq (.ret (.call i_spread_of (.cons (.var 0) .nil))) .skip))
def f_spread : Fn := ⟨1, 1, t_spread⟩
def t_law_source : T := (.seq (.set false 2 (.lit (.int 0))) (.seq (.ite (.cmp .gt (.blt .len (.cons (.var 0) .nil)) (.var 1)) (.seq (.set false 2 (.blt .int (.cons (.ix (.var 0) (.var 1)) .nil))) .skip) .skip) (.seq (.set false 3 (.bin .mod (.bin .add (.bin .add (.bin .mul (.var 2) (.lit (.int 16807))) (.bin .mul (.lit (.int 60919)) (.var 1))) (.lit (.int 31))) (.lit (.int 2147481173)))) (.seq (.set false 3 (.bin .add (.bin .add (.bin .mod (.bin .mul (.var 3) (.var 3)) (.lit (.int 2147481151))) (.bin .mul (.lit (.int 2)) (.var 1))) (.lit (.int 5)))) (.seq (.ret (.newcell (.cons (.ite (.cmp .ge (.var 2) (.bin .pow (.lit (.int 10)) (.lit (.int 18)))) (.var 2) (.lit (.int 0))) (.cons (.var 3) .nil)))) .skip)))))
def f_law_source : Fn := ⟨4, 2, t_law_source⟩
def t_law_pick : T := (.seq (.ite (.cmp .gt (.ix (.var 0) (.lit (.int 0))) (.lit (.int 0))) (.seq (.set false 2 (.bin .mod (.blt .int (.cons (.ix (.var 0) (.lit (.int 0))) .nil)) (.var 1))) (.seq (.setCell (.var 0) (.lit (.int 0)) (.bin .fdiv (.blt .int (.cons (.ix (.var 0) (.lit (.int 0))) .nil)) (.var 1))) (.seq (.ret (.var 2)) .skip))) .skip) (.seq (.setCell (.var 0) (.lit (.int 1)) (.bin .mod (.blt .int (.cons (.bin .add (.bin .mul (.ix (.var 0) (.lit (.int 1))) (.lit (.int 44497))) (.lit (.int 9973))) .nil)) (.lit (.int 2147483647)))) (.seq (.ret (.bin .mod (.bin .fdiv (.bin .mod (.blt .int (.cons (.bin .mul (.ix (.var 0) (.lit (.int 1))) (.ix (.var 0) (.lit (.int 1)))) .nil)) (.lit (.int 2147483399))) (.lit (.int 11))) (.var 1))) .skip)))
def f_law_pick : Fn := ⟨3, 2, t_law_pick⟩
def t_law_chosen : T := (.seq (.ret (.ix (.var 1) (.call i_law_pick (.cons (.var 0) (.cons (.blt .len (.cons (.var 1) .nil)) .nil))))) .skip)
def f_law_chosen : Fn := ⟨2, 2, t_law_chosen⟩
def t_law_whole : T := (.seq (.ret (.and (.blt .isinst (.cons (.var 0) (.cons (.glb "int" (.ty "int")) .nil))) (.and (.not (.blt .isinst (.cons (.var 0) (.cons (.glb "bool" (.ty "bool")) .nil)))) (.chain .le .le (.var 1) (.var 0) (.var 2))))) .skip)
def f_law_whole : Fn := ⟨3, 3, t_law_whole⟩
def t_law_by_two : T := (.seq (.ret (.refused (.callv 0 (.cons (.var 1) (.cons (.var 2) .nil))))) .skip)
def f_law_by_two : Fn := ⟨3, 3, t_law_by_two⟩
def t_law_days : T := (.seq (.ret (.sset (.comp [3] (.nm 3) (.rng1 (.var 1)) (.lit (.bl true)) (.call i_law_pick (.cons (.var 0) (.cons (.var 2) .nil)))))) .skip)
def f_law_days : Fn := ⟨4, 3, t_law_days⟩
def t_law_drawn_b1 : T := (.seq (.set false 7 (.bin .add (.var 7) (.blt .sum (.cons (.comp [9, 10] (.tup (.cons (.nm 9) (.cons (.nm 10) .nil))) (.walk (.var 3)) (.chain .lt .le (.var 8) (.var 9) (.var 4)) (.var 10)) .nil)))) (.seq (.set false 7 (.bin .sub (.var 7) (.call i_law_pick (.cons (.var 0) (.cons (.bin .add (.var 7) (.lit (.int 1))) .nil))))) (.seq (.setG (.tup (.cons (.nm 6) (.cons (.nm 8) .nil))) (.tup (.cons (.bin .add (.var 6) (.tup (.cons (.tup (.cons (.var 4) (.cons (.var 7) .nil))) .nil))) (.cons (.var 4) .nil)))) .skip)))
def t_law_drawn_s6 : T := (.ret (.tup (.cons (.var 3) (.cons (.var 6) (.cons (.var 5) (.cons (.call i_law_chosen (.cons (.var 0) (.cons (.lst (.cons (.lit (.int 2)) (.cons (.lit (.int 4)) (.cons (.lit (.int 9)) (.cons (.call i_law_pick (.cons (.var 0) (.cons (.lit (.int 9)) .nil))) .nil))))) .nil))) .nil))))))
def t_law_drawn_s5 : T := (.set false 5 (.blt .tuple (.cons (.comp [4] (.nm 4) (.walk (.call i_law_days (.cons (.var 0) (.cons (.call i_law_pick (.cons (.var 0) (.cons (.lit (.int 5)) .nil))) (.cons (.lit (.int 9)) .nil))))) (.lit (.bl true)) (.tup (.cons (.var 4) (.cons (.bin .add (.lit (.int 1)) (.call i_law_pick (.cons (.var 0) (.cons (.lit (.int 9)) .nil)))) .nil)))) .nil)))
def t_law_drawn_s4 : T := (.ite (.and (.cmp .ne (.var 6) (.tup .nil)) (.cmp .eq (.call i_law_pick (.cons (.var 0) (.cons (.lit (.int 12)) .nil))) (.lit (.int 0)))) (.seq (.set false 6 (.bin .add (.sl (.var 6) .non (.som (.neg (.lit (.int 1))))) (.tup (.cons (.tup (.cons (.ix (.ix (.var 6) (.neg (.lit (.int 1)))) (.lit (.int 0))) (.cons (.bin .add (.ix (.ix (.var 6) (.neg (.lit (.int 1)))) (.lit (.int 1))) (.lit (.int 5))) .nil))) .nil)))) .skip) .skip)
def t_law_drawn_s3 : T := (.forr (.nm 4) (.walk (.call i_law_days (.cons (.var 0) (.cons (.call i_law_pick (.cons (.var 0) (.cons (.lit (.int 4)) .nil))) (.cons (.lit (.int 8)) .nil))))) t_law_drawn_b1)
def t_law_drawn_s2 : T := (.setG (.tup (.cons (.nm 6) (.cons (.nm 7) (.cons (.nm 8) .nil)))) (.tup (.cons (.tup .nil) (.cons (.lit (.int 0)) (.cons (.neg (.lit (.int 1))) .nil)))))
def t_law_drawn_s1 : T := (.set false 3 (.blt .tuple (.cons (.comp [4] (.nm 4) (.walk (.call i_law_days (.cons (.var 0) (.cons (.var 1) (.cons (.lit (.int 7)) .nil))))) (.lit (.bl true)) (.tup (.cons (.var 4) (.cons (.bin .add (.lit (.int 1)) (.call i_law_pick (.cons (.var 0) (.cons (.var 2) .nil)))) .nil)))) .nil)))
def t_law_drawn : T := (.seq t_law_drawn_s1 (.seq t_law_drawn_s2 (.seq t_law_drawn_s3 (.seq t_law_drawn_s4 (.seq t_law_drawn_s5 (.seq t_law_drawn_s6 .skip))))))
def f_law_drawn : Fn := ⟨11, 3, t_law_drawn⟩
def t_law_spans_b1 : T := (.seq (.app 2 (.tup (.cons (.var 1) (.cons (.var 3) .nil)))) (.seq (.set false 1 (.bin .add (.var 3) (.lit (.int 1)))) .skip))
def t_law_spans : T := (.seq (.par false true 1 2 (.lit (.int 0)) (.lst .nil)) (.seq (.forr (.tup (.cons (.nm 3) (.cons (.nm 4) .nil))) (.walk (.ix (.var 0) (.lit (.int 1)))) t_law_spans_b1) (.seq (.ret (.bin .add (.bvar 2) (.lst (.cons (.tup (.cons (.var 1) (.cons (.lit .non) .nil))) .nil)))) .skip)))
def f_law_spans : Fn := ⟨5, 1, t_law_spans⟩
def t_law_numbers_b1 : T := (.seq (.set false 5 (.comp [7, 8] (.tup (.cons (.nm 7) (.cons (.nm 8) .nil))) (.walk (.ix (.var 0) (.lit (.int 0)))) (.and (.cmp .le (.ix (.var 4) (.lit (.int 0))) (.var 7)) (.or (.cmp .is (.ix (.var 4) (.lit (.int 1))) (.lit .non)) (.cmp .le (.var 7) (.ix (.var 4) (.lit (.int 1)))))) (.var 8))) (.seq (.set false 6 (.ite (.cmp .lt (.var 3) (.blt .len (.cons (.ix (.var 0) (.lit (.int 1))) .nil))) (.ix (.ix (.ix (.var 0) (.lit (.int 1))) (.var 3)) (.lit (.int 1))) (.lit (.int 0)))) (.seq (.app 2 (.bin .sub (.bin .add (.var 1) (.blt .sum (.cons (.var 5) .nil))) (.var 6))) (.seq (.set false 1 (.var 6)) .skip))))
def t_law_numbers : T := (.seq (.par false true 1 2 (.lit (.int 0)) (.lst .nil)) (.seq (.forr (.tup (.cons (.nm 3) (.cons (.nm 4) .nil))) (.enum (.call i_law_spans (.cons (.var 0) .nil))) t_law_numbers_b1) (.seq (.frz 2) (.seq (.ret (.var 2)) .skip))))
def f_law_numbers : Fn := ⟨9, 1, t_law_numbers⟩
def t_law_gain_b1 : T := (.seq (.ite (.and (.cmp .le (.var 1) (.var 4)) (.and (.cmp .le (.bin .sub (.var 4) (.var 1)) (.ix (.var 0) (.lit (.int 3)))) (.or (.cmp .is (.var 2) (.lit .non)) (.cmp .gt (.var 2) (.var 4))))) (.seq (.set false 3 (.bin .add (.var 3) (.var 5))) .skip) .skip) .skip)
def t_law_gain : T := (.seq (.set false 3 (.lit (.int 0))) (.seq (.forr (.tup (.cons (.nm 4) (.cons (.nm 5) .nil))) (.walk (.ix (.var 0) (.lit (.int 2)))) t_law_gain_b1) (.seq (.ret (.var 3)) .skip)))
def f_law_gain : Fn := ⟨6, 3, t_law_gain⟩
def t_law_sum_b2 : T := (.seq (.par false false 2 5 (.bin .add (.var 2) (.bin .mul (.var 7) (.call i_law_gain (.cons (.var 0) (.cons (.ix (.var 3) (.lit (.int 0))) (.cons (.var 6) .nil)))))) (.bin .sub (.var 5) (.var 7))) .skip)
def t_law_sum_b1 : T := (.seq (.set false 5 (.ix (.var 3) (.lit (.int 1)))) (.seq (.forr (.tup (.cons (.nm 6) (.cons (.nm 7) .nil))) (.walk (.var 4)) t_law_sum_b2) (.seq (.set false 2 (.bin .add (.var 2) (.bin .mul (.var 5) (.call i_law_gain (.cons (.var 0) (.cons (.ix (.var 3) (.lit (.int 0))) (.cons (.lit .non) .nil))))))) .skip)))
def t_law_sum : T := (.seq (.set false 2 (.lit (.int 0))) (.seq (.forr (.tup (.cons (.nm 3) (.cons (.nm 4) .nil))) (.zip (.ix (.var 0) (.lit (.int 0))) (.var 1)) t_law_sum_b1) (.seq (.ret (.var 2)) .skip)))
def f_law_sum : Fn := ⟨8, 2, t_law_sum⟩
def t_law_is_truth_b2 : T := (.seq (.ite (.or (.not (.tst (.blt .isinst (.cons (.var 4) (.cons (.glb "tuple" (.ty "tuple")) .nil))))) (.cmp .ne (.blt .len (.cons (.var 4) .nil)) (.lit (.int 2)))) (.seq (.ret (.lit (.bl false))) .skip) .skip) (.seq (.ite (.not (.tst (.call i_law_whole (.cons (.ix (.var 4) (.lit (.int 0))) (.cons (.bin .add (.var 8) (.lit (.int 1))) (.cons (.bin .mul (.lit (.int 2)) (.bin .pow (.lit (.int 10)) (.lit (.int 9)))) .nil)))))) (.seq (.ret (.lit (.bl false))) .skip) .skip) (.seq (.ite (.not (.tst (.call i_law_whole (.cons (.ix (.var 4) (.lit (.int 1))) (.cons (.lit (.int 1)) (.cons (.var 9) .nil)))))) (.seq (.ret (.lit (.bl false))) .skip) .skip) (.seq (.par false false 8 9 (.ix (.var 4) (.lit (.int 0))) (.bin .sub (.var 9) (.ix (.var 4) (.lit (.int 1))))) .skip))))
def t_law_is_truth_b1 : T := (.seq (.ite (.or (.not (.tst (.blt .isinst (.cons (.var 3) (.cons (.glb "tuple" (.ty "tuple")) .nil))))) (.cmp .gt (.blt .len (.cons (.var 3) .nil)) (.lit (.int 20)))) (.seq (.ret (.lit (.bl false))) .skip) .skip) (.seq (.par false false 8 9 (.bin .sub (.ix (.var 2) (.lit (.int 0))) (.lit (.int 1))) (.ix (.var 2) (.lit (.int 1)))) (.seq (.forr (.nm 4) (.walk (.var 3)) t_law_is_truth_b2) .skip)))
def t_law_is_truth_b4 : T := (.seq (.ite (.cmp .le (.ix (.var 2) (.lit (.int 0))) (.var 5)) (.seq (.set false 7 (.bin .sub (.bin .add (.var 7) (.ix (.var 2) (.lit (.int 1)))) (.blt .sum (.cons (.comp [10, 11] (.tup (.cons (.nm 10) (.cons (.nm 11) .nil))) (.walk (.var 3)) (.cmp .le (.var 10) (.var 5)) (.var 11)) .nil)))) .skip) .skip) .skip)
def t_law_is_truth_b3 : T := (.seq (.set false 7 (.lit (.int 0))) (.seq (.forr (.tup (.cons (.nm 2) (.cons (.nm 3) .nil))) (.zip (.ix (.var 0) (.lit (.int 0))) (.var 1)) t_law_is_truth_b4) (.seq (.ite (.cmp .ne (.var 7) (.var 6)) (.seq (.ret (.lit (.bl false))) .skip) .skip) .skip)))
def t_law_is_truth : T := (.seq (.ite (.or (.not (.tst (.blt .isinst (.cons (.var 1) (.cons (.glb "tuple" (.ty "tuple")) .nil))))) (.cmp .ne (.blt .len (.cons (.var 1) .nil)) (.blt .len (.cons (.ix (.var 0) (.lit (.int 0))) .nil)))) (.seq (.ret (.lit (.bl false))) .skip) .skip) (.seq (.forr (.tup (.cons (.nm 2) (.cons (.nm 3) .nil))) (.zip (.ix (.var 0) (.lit (.int 0))) (.var 1)) t_law_is_truth_b1) (.seq (.forr (.tup (.cons (.nm 5) (.cons (.nm 6) .nil))) (.walk (.ix (.var 0) (.lit (.int 1)))) t_law_is_truth_b3) (.seq (.ret (.lit (.bl true))) .skip))))
def f_law_is_truth : Fn := ⟨12, 2, t_law_is_truth⟩
def t_law_flows_b3 : T := (.seq (.set false 13 (.ite (.or (.cmp .is (.var 8) (.lit .non)) (.cmp .le (.var 3) (.var 8))) (.bin .sub (.var 4) (.blt .sum (.cons (.var 10) .nil))) (.lit (.int 0)))) (.seq (.set false 9 (.bin .add (.var 9) (.comp [15] (.nm 15) (.rng1 (.bin .add (.var 13) (.lit (.int 1)))) (.lit (.bl true)) (.bin .add (.var 10) (.tup (.cons (.var 15) .nil)))))) .skip))
def t_law_flows_b2 : T := (.seq (.set false 9 (.lst .nil)) (.seq (.forr (.nm 10) (.walk (.var 5)) t_law_flows_b3) (.seq (.set false 5 (.var 9)) .skip)))
def t_law_flows_b5 : T := (.seq (.set false 14 (.blt .tuple (.cons (.comp [16, 17] (.tup (.cons (.nm 16) (.cons (.nm 17) .nil))) (.zip (.var 12) (.var 10)) (.lit (.bl true)) (.bin .sub (.var 16) (.var 17))) .nil))) (.seq (.ite (.and (.cmp .eq (.blt .sum (.cons (.var 10) .nil)) (.var 4)) (.cmp .ge (.blt .min (.cons (.var 14) .nil)) (.lit (.int 0)))) (.seq (.app 6 (.tup (.cons (.bin .add (.var 11) (.tup (.cons (.var 10) .nil))) (.cons (.var 14) .nil)))) .skip) .skip) .skip))
def t_law_flows_b4 : T := (.seq (.forr (.nm 10) (.walk (.var 5)) t_law_flows_b5) .skip)
def t_law_flows_b1 : T := (.seq (.set false 5 (.lst (.cons (.tup .nil) .nil))) (.seq (.forr (.tup (.cons (.nm 7) (.cons (.nm 8) .nil))) (.walk (.var 1)) t_law_flows_b2) (.seq (.set true 6 (.lst .nil)) (.seq (.forr (.tup (.cons (.nm 11) (.cons (.nm 12) .nil))) (.walk (.var 2)) t_law_flows_b4) (.seq (.frz 6) (.seq (.set false 2 (.var 6)) .skip))))))
def t_law_flows : T := (.seq (.par false false 1 2 (.call i_law_spans (.cons (.var 0) .nil)) (.lst (.cons (.tup (.cons (.tup .nil) (.cons (.blt .tuple (.cons (.call i_law_numbers (.cons (.var 0) .nil)) .nil)) .nil))) .nil))) (.seq (.forr (.tup (.cons (.nm 3) (.cons (.nm 4) .nil))) (.walk (.ix (.var 0) (.lit (.int 0)))) t_law_flows_b1) (.seq (.ret (.comp [11, 12] (.tup (.cons (.nm 11) (.cons (.nm 12) .nil))) (.walk (.var 2)) (.and (.cmp .eq (.blt .max (.cons (.var 12) .nil)) (.lit (.int 0))) (.cmp .eq (.blt .min (.cons (.var 12) .nil)) (.lit (.int 0)))) (.var 11))) .skip)))
def f_law_flows : Fn := ⟨18, 1, t_law_flows⟩
def t_law_sold : T := (.seq (.ret (.ite (.cmp .eq (.var 2) (.lit (.str "most"))) (.ix (.var 0) (.lit (.int 1))) (.blt .max (.cons (.ix (.var 0) (.lit (.int 0))) (.cons (.var 1) .nil))))) .skip)
def f_law_sold : Fn := ⟨3, 3, t_law_sold⟩
def t_law_end_b3 : T := (.seq (.set false 4 (.bin .add (.var 4) (.bin .mul (.var 8) (.call i_law_gain (.cons (.var 0) (.cons (.ix (.var 5) (.lit (.int 0))) (.cons (.call i_law_sold (.cons (.var 7) (.cons (.ix (.var 5) (.lit (.int 0))) (.cons (.var 1) .nil)))) .nil))))))) .skip)
def t_law_end_b2 : T := (.seq (.forr (.tup (.cons (.nm 7) (.cons (.nm 8) .nil))) (.zip (.call i_law_spans (.cons (.var 0) .nil)) (.var 6)) t_law_end_b3) .skip)
def t_law_end_b1 : T := (.seq (.set false 4 (.lit (.int 0))) (.seq (.forr (.tup (.cons (.nm 5) (.cons (.nm 6) .nil))) (.zip (.ix (.var 0) (.lit (.int 0))) (.var 3)) t_law_end_b2) (.seq (.app 2 (.var 4)) .skip)))
def t_law_end : T := (.seq (.set true 2 (.lst .nil)) (.seq (.forr (.nm 3) (.walk (.call i_law_flows (.cons (.var 0) .nil))) t_law_end_b1) (.seq (.ite (.cmp .eq (.bvar 2) (.lst .nil)) (.seq (.ret (.lit .non)) .skip) .skip) (.seq (.ret (.ite (.cmp .eq (.var 1) (.lit (.str "most"))) (.blt .max (.cons (.bvar 2) .nil)) (.blt .min (.cons (.bvar 2) .nil)))) .skip))))
def f_law_end : Fn := ⟨9, 2, t_law_end⟩
def t_law_times : T := (.seq (.setG (.tup (.cons (.nm 2) (.cons (.nm 3) (.cons (.nm 4) (.cons (.nm 5) .nil))))) (.var 0)) (.seq (.set false 2 (.blt .tuple (.cons (.comp [6, 7] (.tup (.cons (.nm 6) (.cons (.nm 7) .nil))) (.walk (.var 2)) (.lit (.bl true)) (.tup (.cons (.var 6) (.cons (.bin .mul (.var 7) (.var 1)) .nil)))) .nil))) (.seq (.ret (.tup (.cons (.var 2) (.cons (.blt .tuple (.cons (.comp [6, 7] (.tup (.cons (.nm 6) (.cons (.nm 7) .nil))) (.walk (.var 3)) (.lit (.bl true)) (.tup (.cons (.var 6) (.cons (.bin .mul (.var 7) (.var 1)) .nil)))) .nil)) (.cons (.var 4) (.cons (.var 5) .nil)))))) .skip)))
def f_law_times : Fn := ⟨8, 2, t_law_times⟩
def t_law_sales_b3 : T := (.seq (.app 3 (.tup (.cons (.bin .add (.var 4) (.tup (.cons (.tup (.cons (.var 2) (.cons (.var 6) .nil))) .nil))) (.cons (.bin .sub (.var 5) (.var 6)) .nil)))) .skip)
def t_law_sales_b2 : T := (.seq (.app 3 (.tup (.cons (.var 4) (.cons (.var 5) .nil)))) (.seq (.forr (.nm 6) (.rng2 (.lit (.int 1)) (.bin .add (.var 5) (.lit (.int 1)))) t_law_sales_b3) .skip))
def t_law_sales_b1 : T := (.seq (.set true 3 (.lst .nil)) (.seq (.forr (.tup (.cons (.nm 4) (.cons (.nm 5) .nil))) (.walk (.var 1)) t_law_sales_b2) (.seq (.frz 3) (.seq (.set false 1 (.var 3)) .skip))))
def t_law_sales : T := (.seq (.set false 1 (.lst (.cons (.tup (.cons (.tup .nil) (.cons (.ix (.var 0) (.lit (.int 1))) .nil))) .nil))) (.seq (.forr (.nm 2) (.rng2 (.ix (.var 0) (.lit (.int 0))) (.lit (.int 10))) t_law_sales_b1) (.seq (.ret (.comp [4, 5] (.tup (.cons (.nm 4) (.cons (.nm 5) .nil))) (.walk (.var 1)) (.lit (.bl true)) (.var 4))) .skip)))
def f_law_sales : Fn := ⟨7, 1, t_law_sales⟩
def t_law_all_ends_b2 : T := (.seq (.set false 5 (.bin .add (.var 5) (.comp [7] (.nm 7) (.walk (.call i_law_sales (.cons (.var 1) .nil))) (.lit (.bl true)) (.bin .add (.var 6) (.tup (.cons (.var 7) .nil)))))) .skip)
def t_law_all_ends_b1 : T := (.seq (.set false 5 (.lst .nil)) (.seq (.forr (.nm 6) (.walk (.var 4)) t_law_all_ends_b2) (.seq (.set false 4 (.var 5)) .skip)))
def t_law_all_ends_b3 : T := (.seq (.ite (.tst (.call i_law_is_truth (.cons (.var 0) (.cons (.var 2) .nil)))) (.seq (.app 3 (.call i_law_sum (.cons (.var 0) (.cons (.var 2) .nil)))) .skip) .skip) .skip)
def t_law_all_ends : T := (.seq (.par true false 3 4 (.lst .nil) (.lst (.cons (.tup .nil) .nil))) (.seq (.forr (.nm 1) (.walk (.ix (.var 0) (.lit (.int 0)))) t_law_all_ends_b1) (.seq (.forr (.nm 2) (.walk (.var 4)) t_law_all_ends_b3) (.seq (.ret (.ite (.cmp .ne (.bvar 3) (.lst .nil)) (.tup (.cons (.blt .min (.cons (.bvar 3) .nil)) (.cons (.blt .max (.cons (.bvar 3) .nil)) .nil))) (.lit .non))) .skip))))
def f_law_all_ends : Fn := ⟨8, 1, t_law_all_ends⟩
def t_law_right_b1 : T := (.seq (.ite (.cmp .ne (.call i_bound (.cons (.var 0) (.cons (.var 3) .nil))) (.var 4)) (.seq (.ret (.lit (.bl false))) .skip) .skip) (.seq (.set false 5 (.call i_truth_with (.cons (.var 0) (.cons (.var 3) .nil)))) (.seq (.ite (.or (.not (.tst (.call i_law_is_truth (.cons (.var 0) (.cons (.var 5) .nil))))) (.cmp .ne (.call i_law_sum (.cons (.var 0) (.cons (.var 5) .nil))) (.var 4))) (.seq (.ret (.lit (.bl false))) .skip) .skip) .skip)))
def t_law_right_s3 : T := (.ret (.cmp .eq (.call i_spread (.cons (.var 0) .nil)) (.bin .sub (.ix (.var 1) (.lit (.int 1))) (.ix (.var 1) (.lit (.int 0))))))
def t_law_right_s2 : T := (.forr (.tup (.cons (.nm 3) (.cons (.nm 4) .nil))) (.zip (.tup (.cons (.lit (.str "least")) (.cons (.lit (.str "most")) .nil))) (.var 1)) t_law_right_b1)
def t_law_right_s1 : T := (.ite (.cmp .is (.var 1) (.lit .non)) (.seq (.set false 2 (.comp [3] (.nm 3) (.walk (.tup (.cons (.lit (.str "least")) (.cons (.lit (.str "most")) .nil)))) (.lit (.bl true)) (.call i_bound (.cons (.var 0) (.cons (.var 3) .nil))))) (.seq (.set false 2 (.bin .add (.var 2) (.comp [3] (.nm 3) (.walk (.tup (.cons (.lit (.str "least")) (.cons (.lit (.str "most")) .nil)))) (.lit (.bl true)) (.call i_truth_with (.cons (.var 0) (.cons (.var 3) .nil)))))) (.seq (.ret (.and (.cmp .eq (.var 2) (.bin .mul (.lst (.cons (.lit .non) .nil)) (.lit (.int 4)))) (.cmp .is (.call i_spread (.cons (.var 0) .nil)) (.lit .non)))) .skip))) .skip)
def t_law_right : T := (.seq t_law_right_s1 (.seq t_law_right_s2 (.seq t_law_right_s3 .skip)))
def f_law_right : Fn := ⟨6, 2, t_law_right⟩
def t_law_flow_ends : T := (.seq (.set false 1 (.call i_law_end (.cons (.var 0) (.cons (.lit (.str "least")) .nil)))) (.seq (.ret (.ite (.cmp .is (.var 1) (.lit .non)) (.lit .non) (.tup (.cons (.var 1) (.cons (.call i_law_end (.cons (.var 0) (.cons (.lit (.str "most")) .nil))) .nil))))) .skip))
def f_law_flow_ends : Fn := ⟨2, 1, t_law_flow_ends⟩
def t_law_refusals_b1 : T := (.seq (.ite (.cmp .ne (.comp [3] (.nm 3) (.walk (.tup (.cons (.glb "bound" (.fn i_bound)) (.cons (.glb "truth_with" (.fn i_truth_with)) .nil)))) (.lit (.bl true)) (.call i_law_by_two (.cons (.var 3) (.cons (.var 0) (.cons (.var 1) .nil))))) (.bin .mul (.lst (.cons (.lit (.str "word")) .nil)) (.lit (.int 2)))) (.seq (.ret (.lit (.bl false))) .skip) .skip) .skip)
def t_law_refusals_b2 : T := (.seq (.set false 2 (.comp [3] (.nm 3) (.walk (.tup (.cons (.glb "bound" (.fn i_bound)) (.cons (.glb "truth_with" (.fn i_truth_with)) .nil)))) (.lit (.bl true)) (.call i_law_by_two (.cons (.var 3) (.cons (.var 1) (.cons (.lit .non) .nil)))))) (.seq (.ite (.cmp .ne (.bin .add (.var 2) (.lst (.cons (.refused (.call i_spread (.cons (.var 1) .nil))) .nil))) (.bin .mul (.lst (.cons (.lit (.str "ledger")) .nil)) (.lit (.int 3)))) (.seq (.ret (.lit (.bl false))) .skip) .skip) .skip))
def t_law_refusals : T := (.seq (.forr (.nm 1) (.walk (.lst (.cons (.lit .non) (.cons (.lit (.str "")) (.cons (.lit (.str "Least")) (.cons (.lit (.str "greatest")) (.cons (.lit (.int 0)) (.cons (.tup (.cons (.lit (.str "least")) .nil)) .nil)))))))) t_law_refusals_b1) (.seq (.forr (.nm 1) (.walk (.lst (.cons (.lit .non) (.cons (.tup .nil) (.cons (.sl (.var 0) .non (.som (.lit (.int 3)))) (.cons (.blt .list (.cons (.var 0) .nil)) .nil)))))) t_law_refusals_b2) (.seq (.ret (.lit (.bl true))) .skip)))
def f_law_refusals : Fn := ⟨4, 1, t_law_refusals⟩
def t_law_written : T := (.seq (.set false 0 (.tup (.cons (.tup (.cons (.tup (.cons (.lit (.int 0)) (.cons (.lit (.int 10)) .nil))) (.cons (.tup (.cons (.lit (.int 5)) (.cons (.lit (.int 4)) .nil))) .nil))) (.cons (.tup (.cons (.tup (.cons (.lit (.int 8)) (.cons (.lit (.int 6)) .nil))) .nil)) (.cons (.tup (.cons (.tup (.cons (.lit (.int 3)) (.cons (.lit (.int 2)) .nil))) (.cons (.tup (.cons (.lit (.int 9)) (.cons (.lit (.int 5)) .nil))) .nil))) (.cons (.lit (.int 7)) .nil)))))) (.seq (.set false 1 (.tup (.cons (.tup (.cons (.tup (.cons (.lit (.int 0)) (.cons (.lit (.int 6)) .nil))) (.cons (.tup (.cons (.lit (.int 2)) (.cons (.lit (.int 6)) .nil))) .nil))) (.cons (.tup (.cons (.tup (.cons (.lit (.int 1)) (.cons (.lit (.int 4)) .nil))) (.cons (.tup (.cons (.lit (.int 4)) (.cons (.lit (.int 5)) .nil))) .nil))) (.cons (.tup (.cons (.tup (.cons (.lit (.int 1)) (.cons (.lit (.int 1)) .nil))) (.cons (.tup (.cons (.lit (.int 3)) (.cons (.lit (.int 2)) .nil))) (.cons (.tup (.cons (.lit (.int 4)) (.cons (.lit (.int 4)) .nil))) .nil)))) (.cons (.lit (.int 3)) .nil)))))) (.seq (.setG (.tup (.cons (.nm 4) (.cons (.nm 5) .nil))) (.tup (.cons (.tup (.cons (.tup (.cons (.tup (.cons (.lit (.int 0)) (.cons (.lit (.int 5)) .nil))) .nil)) (.cons (.tup .nil) (.cons (.tup (.cons (.tup (.cons (.lit (.int 2)) (.cons (.lit (.int 3)) .nil))) .nil)) (.cons (.lit (.int 2)) .nil))))) (.cons (.tup (.cons (.tup (.cons (.tup (.cons (.lit (.int 0)) (.cons (.lit (.int 5)) .nil))) .nil)) (.cons (.tup (.cons (.tup (.cons (.lit (.int 1)) (.cons (.lit (.int 3)) .nil))) (.cons (.tup (.cons (.lit (.int 2)) (.cons (.lit (.int 4)) .nil))) .nil))) (.cons (.tup .nil) (.cons (.lit (.int 0)) .nil))))) .nil)))) (.seq (.ite (.or (.not (.tst (.call i_law_right (.cons (.var 0) (.cons (.tup (.cons (.lit (.int 4)) (.cons (.lit (.int 40)) .nil))) .nil))))) (.or (.not (.tst (.call i_law_right (.cons (.var 1) (.cons (.tup (.cons (.lit (.int 18)) (.cons (.lit (.int 44)) .nil))) .nil))))) (.not (.tst (.call i_law_right (.cons (.var 4) (.cons (.tup (.cons (.lit (.int 0)) (.cons (.lit (.int 15)) .nil))) .nil))))))) (.seq (.ret (.lit (.bl false))) .skip) .skip) (.seq (.ite (.or (.not (.tst (.call i_law_right (.cons (.var 5) (.cons (.lit .non) .nil))))) (.not (.tst (.call i_law_right (.cons (.tup (.cons (.tup .nil) (.cons (.tup .nil) (.cons (.tup (.cons (.tup (.cons (.lit (.int 1)) (.cons (.lit (.int 5)) .nil))) .nil)) (.cons (.lit (.int 3)) .nil))))) (.cons (.tup (.cons (.lit (.int 0)) (.cons (.lit (.int 0)) .nil))) .nil)))))) (.seq (.ret (.lit (.bl false))) .skip) .skip) (.seq (.ite (.not (.tst (.call i_law_right (.cons (.tup (.cons (.tup .nil) (.cons (.tup (.cons (.tup (.cons (.lit (.int 1)) (.cons (.lit (.int 0)) .nil))) (.cons (.tup (.cons (.lit (.int 4)) (.cons (.lit (.int 0)) .nil))) .nil))) (.cons (.tup .nil) (.cons (.lit (.int 3)) .nil))))) (.cons (.tup (.cons (.lit (.int 0)) (.cons (.lit (.int 0)) .nil))) .nil))))) (.seq (.ret (.lit (.bl false))) .skip) .skip) (.seq (.ite (.not (.tst (.call i_law_right (.cons (.tup (.cons (.tup .nil) (.cons (.tup (.cons (.tup (.cons (.lit (.int 1)) (.cons (.lit (.int 1)) .nil))) .nil)) (.cons (.tup .nil) (.cons (.lit (.int 3)) .nil))))) (.cons (.lit .non) .nil))))) (.seq (.ret (.lit (.bl false))) .skip) .skip) (.seq (.ite (.not (.tst (.call i_law_right (.cons (.tup (.cons (.tup (.cons (.tup (.cons (.lit (.int 2)) (.cons (.lit (.int 3)) .nil))) .nil)) (.cons (.tup .nil) (.cons (.tup (.cons (.tup (.cons (.lit (.int 5)) (.cons (.lit (.int 1)) .nil))) .nil)) (.cons (.lit (.int 9)) .nil))))) (.cons (.tup (.cons (.lit (.int 0)) (.cons (.lit (.int 3)) .nil))) .nil))))) (.seq (.ret (.lit (.bl false))) .skip) .skip) (.seq (.set false 2 (.bin .sub (.bin .pow (.lit (.int 10)) (.lit (.int 29))) (.lit (.int 7)))) (.seq (.ite (.not (.tst (.call i_law_right (.cons (.call i_law_times (.cons (.var 0) (.cons (.var 2) .nil))) (.cons (.tup (.cons (.bin .mul (.lit (.int 4)) (.var 2)) (.cons (.bin .mul (.lit (.int 40)) (.var 2)) .nil))) .nil))))) (.seq (.ret (.lit (.bl false))) .skip) .skip) (.seq (.set false 3 (.tup (.cons (.tup (.cons (.tup (.cons (.lit (.int 0)) (.cons (.lit (.int 3)) .nil))) (.cons (.tup (.cons (.lit (.int 3)) (.cons (.lit (.int 3)) .nil))) .nil))) (.cons (.tup (.cons (.tup (.cons (.lit (.int 2)) (.cons (.lit (.int 3)) .nil))) (.cons (.tup (.cons (.lit (.int 5)) (.cons (.lit (.int 3)) .nil))) .nil))) (.cons (.tup (.cons (.tup (.cons (.lit (.int 2)) (.cons (.lit (.int 1)) .nil))) (.cons (.tup (.cons (.lit (.int 4)) (.cons (.lit (.int 7)) .nil))) .nil))) (.cons (.lit (.int 9)) .nil)))))) (.seq (.ret (.and (.call i_law_right (.cons (.var 3) (.cons (.tup (.cons (.lit (.int 24)) (.cons (.bin .add (.lit (.int 24)) (.lit (.int 21))) .nil))) .nil))) (.call i_law_right (.cons (.call i_law_times (.cons (.var 3) (.cons (.bin .pow (.lit (.int 10)) (.lit (.int 29))) .nil))) (.cons (.tup (.cons (.bin .mul (.lit (.int 24)) (.bin .pow (.lit (.int 10)) (.lit (.int 29)))) (.cons (.bin .mul (.lit (.int 45)) (.bin .pow (.lit (.int 10)) (.lit (.int 29)))) .nil))) .nil))))) .skip))))))))))))
def f_law_written : Fn := ⟨6, 0, t_law_written⟩
def t_law_b2 : T := (.seq (.set false 3 (.call i_law_drawn (.cons (.var 2) (.cons (.lit (.int 3)) (.cons (.lit (.int 3)) .nil))))) (.seq (.par false false 6 7 (.call i_law_flow_ends (.cons (.var 3) .nil)) (.bin .add (.lit (.int 1)) (.call i_law_pick (.cons (.var 2) (.cons (.bin .pow (.lit (.int 10)) (.lit (.int 29))) .nil))))) (.seq (.ite (.or (.not (.tst (.call i_law_right (.cons (.var 3) (.cons (.var 6) .nil))))) (.not (.tst (.call i_law_refusals (.cons (.var 3) .nil))))) (.seq (.ret (.lit (.bl false))) .skip) .skip) (.seq (.set false 5 (.ite (.cmp .is (.var 6) (.lit .non)) (.lit .non) (.tup (.cons (.bin .mul (.ix (.var 6) (.lit (.int 0))) (.var 7)) (.cons (.bin .mul (.ix (.var 6) (.lit (.int 1))) (.var 7)) .nil))))) (.seq (.ite (.not (.tst (.call i_law_right (.cons (.call i_law_times (.cons (.var 3) (.cons (.var 7) .nil))) (.cons (.var 5) .nil))))) (.seq (.ret (.lit (.bl false))) .skip) .skip) .skip)))))
def t_law_b1 : T := (.seq (.set false 2 (.call i_law_source (.cons (.var 0) (.cons (.var 1) .nil)))) (.seq (.set false 3 (.call i_law_drawn (.cons (.var 2) (.cons (.lit (.int 2)) (.cons (.lit (.int 2)) .nil))))) (.seq (.ite (.not (.tst (.call i_law_right (.cons (.var 3) (.cons (.call i_law_all_ends (.cons (.var 3) .nil)) .nil))))) (.seq (.ret (.lit (.bl false))) .skip) .skip) (.seq (.forr (.nm 4) (.rng1 (.lit (.int 3))) t_law_b2) .skip))))
def t_law_s2 : T := (.ret (.call i_law_written .nil))
def t_law_s1 : T := (.forr (.nm 1) (.rng1 (.blt .max (.cons (.lit (.int 3)) (.cons (.blt .min (.cons (.lit (.int 7)) (.cons (.blt .len (.cons (.var 0) .nil)) .nil))) .nil)))) t_law_b1)
def t_law : T := (.seq t_law_s1 (.seq t_law_s2 .skip))
def f_law : Fn := ⟨8, 1, t_law⟩
def tab : List Fn := [f_moves_of, f_ways_from, f_cheapest_flow, f_shifted, f_with_part, f_cost_of, f_is_int, f_are_dated, f_is_right_ledger, f_credit_of, f_stretches_of, f_bought_in, f_numbers_of, f_has_truth, f_need_ledger, f_need_word, f_day_in, f_can_be_sold, f_worth_in, f_worths_of, f_costs_for, f_best_flow, f_best_sum, f_bound_of, f_sales_of, f_both_bounds, f_spread_of, f_bound, f_truth_with, f_spread, f_law_source, f_law_pick, f_law_chosen, f_law_whole, f_law_by_two, f_law_days, f_law_drawn, f_law_spans, f_law_numbers, f_law_gain, f_law_sum, f_law_is_truth, f_law_flows, f_law_sold, f_law_end, f_law_times, f_law_sales, f_law_all_ends, f_law_right, f_law_flow_ends, f_law_refusals, f_law_written, f_law]
def wrd : Nat → Option Str
  | 1 => some (Str.ofString "ledger")
  | 2 => some (Str.ofString "word")
  | _ => none
theorem e_moves_of : tab[i_moves_of]? = some f_moves_of := rfl
theorem e_ways_from : tab[i_ways_from]? = some f_ways_from := rfl
theorem e_cheapest_flow : tab[i_cheapest_flow]? = some f_cheapest_flow := rfl
theorem e_shifted : tab[i_shifted]? = some f_shifted := rfl
theorem e_with_part : tab[i_with_part]? = some f_with_part := rfl
theorem e_cost_of : tab[i_cost_of]? = some f_cost_of := rfl
theorem e_is_int : tab[i_is_int]? = some f_is_int := rfl
theorem e_are_dated : tab[i_are_dated]? = some f_are_dated := rfl
theorem e_is_right_ledger : tab[i_is_right_ledger]? = some f_is_right_ledger := rfl
theorem e_credit_of : tab[i_credit_of]? = some f_credit_of := rfl
theorem e_stretches_of : tab[i_stretches_of]? = some f_stretches_of := rfl
theorem e_bought_in : tab[i_bought_in]? = some f_bought_in := rfl
theorem e_numbers_of : tab[i_numbers_of]? = some f_numbers_of := rfl
theorem e_has_truth : tab[i_has_truth]? = some f_has_truth := rfl
theorem e_need_ledger : tab[i_need_ledger]? = some f_need_ledger := rfl
theorem e_need_word : tab[i_need_word]? = some f_need_word := rfl
theorem e_day_in : tab[i_day_in]? = some f_day_in := rfl
theorem e_can_be_sold : tab[i_can_be_sold]? = some f_can_be_sold := rfl
theorem e_worth_in : tab[i_worth_in]? = some f_worth_in := rfl
theorem e_worths_of : tab[i_worths_of]? = some f_worths_of := rfl
theorem e_costs_for : tab[i_costs_for]? = some f_costs_for := rfl
theorem e_best_flow : tab[i_best_flow]? = some f_best_flow := rfl
theorem e_best_sum : tab[i_best_sum]? = some f_best_sum := rfl
theorem e_bound_of : tab[i_bound_of]? = some f_bound_of := rfl
theorem e_sales_of : tab[i_sales_of]? = some f_sales_of := rfl
theorem e_both_bounds : tab[i_both_bounds]? = some f_both_bounds := rfl
theorem e_spread_of : tab[i_spread_of]? = some f_spread_of := rfl
theorem e_bound : tab[i_bound]? = some f_bound := rfl
theorem e_truth_with : tab[i_truth_with]? = some f_truth_with := rfl
theorem e_spread : tab[i_spread]? = some f_spread := rfl
theorem e_law_source : tab[i_law_source]? = some f_law_source := rfl
theorem e_law_pick : tab[i_law_pick]? = some f_law_pick := rfl
theorem e_law_chosen : tab[i_law_chosen]? = some f_law_chosen := rfl
theorem e_law_whole : tab[i_law_whole]? = some f_law_whole := rfl
theorem e_law_by_two : tab[i_law_by_two]? = some f_law_by_two := rfl
theorem e_law_days : tab[i_law_days]? = some f_law_days := rfl
theorem e_law_drawn : tab[i_law_drawn]? = some f_law_drawn := rfl
theorem e_law_spans : tab[i_law_spans]? = some f_law_spans := rfl
theorem e_law_numbers : tab[i_law_numbers]? = some f_law_numbers := rfl
theorem e_law_gain : tab[i_law_gain]? = some f_law_gain := rfl
theorem e_law_sum : tab[i_law_sum]? = some f_law_sum := rfl
theorem e_law_is_truth : tab[i_law_is_truth]? = some f_law_is_truth := rfl
theorem e_law_flows : tab[i_law_flows]? = some f_law_flows := rfl
theorem e_law_sold : tab[i_law_sold]? = some f_law_sold := rfl
theorem e_law_end : tab[i_law_end]? = some f_law_end := rfl
theorem e_law_times : tab[i_law_times]? = some f_law_times := rfl
theorem e_law_sales : tab[i_law_sales]? = some f_law_sales := rfl
theorem e_law_all_ends : tab[i_law_all_ends]? = some f_law_all_ends := rfl
theorem e_law_right : tab[i_law_right]? = some f_law_right := rfl
theorem e_law_flow_ends : tab[i_law_flow_ends]? = some f_law_flow_ends := rfl
theorem e_law_refusals : tab[i_law_refusals]? = some f_law_refusals := rfl
theorem e_law_written : tab[i_law_written]? = some f_law_written := rfl
theorem e_law : tab[i_law]? = some f_law := rfl
theorem w_InvalidLedger : wrd c_InvalidLedger = some (Str.ofString "ledger") := rfl
theorem w_InvalidWord : wrd c_InvalidWord = some (Str.ofString "word") := rfl
end My

/-! N0: the small language's steps as equations. -/
namespace My
open Pv
open PySem (Str)
section
variable {wrd : Nat → Option Str} {cal : Nat → List D → Sto → Res D} {ρ : Env} {S : Sto} {a b c e es : E} {i k : Nat}
@[simp] theorem v_var : ev wrd cal (.var i) ρ S = .lift S (getS ρ i) := by rw [ev]
@[simp] theorem v_bvar : ev wrd cal (.bvar i) ρ S = .lift S ((getO ρ i).map .lst) := by rw [ev]
@[simp] theorem v_lit {d : D} : ev wrd cal (.lit d) ρ S = .ok d S := by rw [ev]
@[simp] theorem v_glb {x : Str} {d : D} : ev wrd cal (.glb x d) ρ S = .ok d S := by rw [ev]
@[simp] theorem v_bin {op : Bop} : ev wrd cal (.bin op a b) ρ S = (ev wrd cal a ρ S).bind fun x S1 => (ev wrd cal b ρ S1).bind fun y S2 => .lift S2 (binD op x y) := by rw [ev]
def negR : D → Sto → Res D
  | .int i, S => .ok (.int (-i)) S
  | _, _ => .bad
@[simp] theorem v_neg : ev wrd cal (.neg a) ρ S = (ev wrd cal a ρ S).bind negR := by
  rw [ev]
  congr 1
  funext x S
  cases x <;> rfl
@[simp] theorem negR_int {j : Int} : negR (.int j) S = .ok (.int (-j)) S := rfl
@[simp] theorem v_cmp {op : Cop} : ev wrd cal (.cmp op a b) ρ S = (ev wrd cal a ρ S).bind fun x S1 => (ev wrd cal b ρ S1).bind fun y S2 => .lift S2 (cmpD op x y) := by rw [ev]
def thR (f : Sto → Res D) (g : Sto → Res D) : Option D → Sto → Res D
  | some (.bl true), S => f S
  | some (.bl false), S => g S
  | _, _ => .bad
@[simp] theorem thR_t {f g : Sto → Res D} : thR f g (some (.bl true)) S = f S := rfl
@[simp] theorem thR_f {f g : Sto → Res D} : thR f g (some (.bl false)) S = g S := rfl
theorem thR_bl {f g : Sto → Res D} {p : Bool} : thR f g (some (.bl p)) S = if p = true then f S else g S := by cases p <;> rfl
@[simp] theorem v_chain {op op' : Cop} : ev wrd cal (.chain op op' a b c) ρ S = (ev wrd cal a ρ S).bind fun x S1 => (ev wrd cal b ρ S1).bind fun y S2 => thR (fun S => (ev wrd cal c ρ S).bind fun z S3 => .lift S3 (cmpD op' y z)) (fun S => .ok (.bl false) S) (cmpD op x y) S2 := by
  rw [ev]
  congr 1
  funext x S1
  congr 1
  funext y S2
  unfold thR
  split <;> simp_all
@[simp] theorem v_and : ev wrd cal (.and a b) ρ S = (ev wrd cal a ρ S).bind fun x S1 => thR (fun S => ev wrd cal b ρ S) (fun S => .ok (.bl false) S) (some x) S1 := by
  rw [ev]
  congr 1
  funext x S1
  unfold thR
  split <;> simp_all
@[simp] theorem v_or : ev wrd cal (.or a b) ρ S = (ev wrd cal a ρ S).bind fun x S1 => thR (fun S => .ok (.bl true) S) (fun S => ev wrd cal b ρ S) (some x) S1 := by
  rw [ev]
  congr 1
  funext x S1
  unfold thR
  split <;> simp_all
@[simp] theorem v_not : ev wrd cal (.not a) ρ S = (ev wrd cal a ρ S).bind fun x S1 => thR (fun S => .ok (.bl false) S) (fun S => .ok (.bl true) S) (some x) S1 := by
  rw [ev]
  congr 1
  funext x S1
  unfold thR
  cases x <;> first | rfl | (rename_i c; cases c <;> rfl)
@[simp] theorem v_ite : ev wrd cal (.ite c a b) ρ S = (ev wrd cal c ρ S).bind fun x S1 => thR (fun S => ev wrd cal a ρ S) (fun S => ev wrd cal b ρ S) (some x) S1 := by
  rw [ev]
  congr 1
  funext x S1
  unfold thR
  split <;> simp_all
@[simp] theorem v_tup : ev wrd cal (.tup es) ρ S = (evs wrd cal es ρ S).bind fun xs S1 => if lenOk xs.length then .ok (.tup xs) S1 else .bad := by rw [ev]
@[simp] theorem v_lst : ev wrd cal (.lst es) ρ S = (evs wrd cal es ρ S).bind fun xs S1 => if lenOk xs.length then .ok (.lst xs) S1 else .bad := by rw [ev]
@[simp] theorem v_call : ev wrd cal (.call k es) ρ S = (evs wrd cal es ρ S).bind fun xs S1 => cal k xs S1 := by rw [ev]
def fnR (f : Nat → Res D) : Option D → Res D
  | some (.fn k) => f k
  | _ => .bad
@[simp] theorem fnR_fn {f : Nat → Res D} : fnR f (some (.fn k)) = f k := rfl
@[simp] theorem v_callv : ev wrd cal (.callv i es) ρ S = fnR (fun k => (evs wrd cal es ρ S).bind fun xs S1 => cal k xs S1) (getS ρ i) := by
  rw [ev]
  unfold fnR
  split <;> simp_all
@[simp] theorem v_blt {b : Blt} : ev wrd cal (.blt b es) ρ S = (evs wrd cal es ρ S).bind fun xs S1 => .lift S1 (bltD b S1 xs) := by rw [ev]
@[simp] theorem v_ix : ev wrd cal (.ix a b) ρ S = (ev wrd cal a ρ S).bind fun x S1 => (ev wrd cal b ρ S1).bind fun y S2 => .lift S2 (ixD S2 x y) := by rw [ev]
@[simp] theorem v_sl : ev wrd cal (.sl a b c) ρ S = (ev wrd cal a ρ S).bind fun x S1 => (evo wrd cal b ρ S1).bind fun l S2 => (evo wrd cal c ρ S2).bind fun h S3 => .lift S3 (slD S3 x l h) := by rw [ev]
@[simp] theorem v_comp {own : List Nat} {g : G} : ev wrd cal (.comp own g a b c) ρ S = (evi wrd cal a ρ S).bind fun its S1 => comps (fun x => asg g x (wipes ρ own)) (ev wrd cal b) (ev wrd cal c) its [] S1 := by rw [ev]
def zipD (xs ys : List D) : List D := List.zipWith (fun a b => .tup [a, b]) xs ys
def enumD (xs : List D) : List D := xs.zipIdx.map fun p => .tup [.int p.2, p.1]
def lzR : D → D → Sto → Res D
  | .lst xs, .lst ys, S => .ok (.lst (List.zipWith (fun a b => .tup [a, b]) xs ys)) S
  | _, _, _ => .bad
@[simp] theorem lzR_ok {xs ys : List D} : lzR (.lst xs) (.lst ys) S = .ok (.lst (zipD xs ys)) S := rfl
@[simp] theorem v_lzip : ev wrd cal (.lzip a b) ρ S = (ev wrd cal a ρ S).bind fun x S1 => (ev wrd cal b ρ S1).bind fun y S2 => lzR x y S2 := by
  rw [ev]
  congr 1
  funext x S1
  congr 1
  funext y S2
  unfold lzR
  split <;> simp_all
def ssR : Option (List Int) → Sto → Res D
  | some ns, S => if decide (ns.length < 60) then .ok (.lst ((ssort ns).map .int)) S else .bad
  | none, _ => .bad
@[simp] theorem ssR_ok {ns : List Int} : ssR (some ns) S = if decide (ns.length < 60) then .ok (.lst ((ssort ns).map .int)) S else .bad := rfl
@[simp] theorem v_sset : ev wrd cal (.sset a) ρ S = (ev wrd cal a ρ S).bind fun x S1 => ssR ((seqL S1 x).bind (allSome D.int?)) S1 := by
  rw [ev]
  congr 1
  funext x S1
  unfold ssR
  cases (seqL S1 x).bind (allSome D.int?) <;> rfl
def rfR (wrd : Nat → Option Str) : Res D → Res D
  | .ok _ S1 => .ok (.str ⟨#[]⟩) S1
  | .exc k S1 => (match wrd k with
    | some w => .ok (.str w) S1
    | none => .bad)
  | .bad => .bad
@[simp] theorem rfR_ok {d : D} : rfR wrd (.ok d S) = .ok (.str ⟨#[]⟩) S := rfl
theorem rfR_exc {w : Str} (h : wrd k = some w) : rfR wrd (.exc k S) = .ok (.str w) S := by simp [rfR, h]
@[simp] theorem v_refused : ev wrd cal (.refused a) ρ S = rfR wrd (ev wrd cal a ρ S) := by
  rw [ev]
  rfl
@[simp] theorem v_tst : ev wrd cal (.tst a) ρ S = (ev wrd cal a ρ S).bind fun x S1 => thR (fun S => .ok (.bl true) S) (fun S => .ok (.bl false) S) (some x) S1 := by
  rw [ev]
  congr 1
  funext x S1
  unfold thR
  cases x <;> first | rfl | (rename_i c; cases c <;> rfl)
@[simp] theorem v_newcell : ev wrd cal (.newcell es) ρ S = (evs wrd cal es ρ S).bind fun xs S1 => if lenOk xs.length then .ok (.cell S1.length) (S1 ++ [.lst xs]) else .bad := by rw [ev]
@[simp] theorem vs_nil : evs wrd cal .nil ρ S = .ok [] S := by rw [evs]
@[simp] theorem vs_cons : evs wrd cal (.cons e es) ρ S = (ev wrd cal e ρ S).bind fun d S1 => (evs wrd cal es ρ S1).bind fun ds S2 => .ok (d :: ds) S2 := by rw [evs]
def someI : D → Sto → Res (Option Int)
  | .int i, S => .ok (some i) S
  | _, _ => .bad
@[simp] theorem someI_int {j : Int} : someI (.int j) S = .ok (some j) S := rfl
@[simp] theorem vo_non : evo wrd cal .non ρ S = .ok none S := by rw [evo]
@[simp] theorem vo_som : evo wrd cal (.som e) ρ S = (ev wrd cal e ρ S).bind someI := by
  rw [evo]
  congr 1
  funext x S
  cases x <;> rfl
@[simp] theorem vi_walk : evi wrd cal (.walk a) ρ S = (ev wrd cal a ρ S).bind fun x S1 => .lift S1 (seqW x) := by rw [evi]
def zR : Option (List D) → Option (List D) → Sto → Res (List D)
  | some xs, some ys, S => .ok (List.zipWith (fun a b => .tup [a, b]) xs ys) S
  | _, _, _ => .bad
@[simp] theorem zR_ok {xs ys : List D} : zR (some xs) (some ys) S = .ok (zipD xs ys) S := rfl
@[simp] theorem vi_zip : evi wrd cal (.zip a b) ρ S = (ev wrd cal a ρ S).bind fun x S1 => (ev wrd cal b ρ S1).bind fun y S2 => zR (seqW x) (seqW y) S2 := by
  rw [evi]
  congr 1
  funext x S1
  congr 1
  funext y S2
  unfold zR
  split <;> simp_all
def enR : Option (List D) → Sto → Res (List D)
  | some xs, S => .ok (xs.zipIdx.map fun p => .tup [.int p.2, p.1]) S
  | _, _ => .bad
@[simp] theorem enR_ok {xs : List D} : enR (some xs) S = .ok (enumD xs) S := rfl
@[simp] theorem vi_enum : evi wrd cal (.enum a) ρ S = (ev wrd cal a ρ S).bind fun x S1 => enR (seqW x) S1 := by
  rw [evi]
  congr 1
  funext x S1
  unfold enR
  split <;> simp_all
def rg1 : D → Sto → Res (List D)
  | .int n, S => if rngB n then .ok ((List.range n.toNat).map fun (i : Nat) => .int (i : Int)) S else .bad
  | _, _ => .bad
theorem rngB_of {n : Int} (h : n.natAbs < 1000000) : rngB n = true := decide_eq_true h
theorem rg1_ok {n : Nat} (h : n < 1000000) : rg1 (.int n) S = .ok ((List.range n).map fun (i : Nat) => .int (i : Int)) S := by
  have h1 : rngB (n : Int) = true := rngB_of (by omega)
  simp only [rg1, h1]
  simp
@[simp] theorem vi_rng1 : evi wrd cal (.rng1 a) ρ S = (ev wrd cal a ρ S).bind rg1 := by
  rw [evi]
  congr 1
  funext x S1
  cases x <;> rfl
def rg2 : D → D → Sto → Res (List D)
  | .int m, .int n, S => if rngB m && rngB n then .ok ((List.range (n - m).toNat).map fun (i : Nat) => .int (m + (i : Int))) S else .bad
  | _, _, _ => .bad
theorem rg2_ok {m n : Int} (h : m.natAbs < 1000000) (h2 : n.natAbs < 1000000) : rg2 (.int m) (.int n) S = .ok ((List.range (n - m).toNat).map fun (i : Nat) => .int (m + (i : Int))) S := by
  simp only [rg2, rngB_of h, rngB_of h2]
  simp
@[simp] theorem vi_rng2 : evi wrd cal (.rng2 a b) ρ S = (ev wrd cal a ρ S).bind fun x S1 => (ev wrd cal b ρ S1).bind fun y S2 => rg2 x y S2 := by
  rw [evi]
  congr 1
  funext x S1
  congr 1
  funext y S2
  cases x <;> cases y <;> rfl
/-! statements -/
variable {w : Option Nat} {s t : T} {g : G}
def thO (f g : Sto → Out) : D → Sto → Out
  | .bl true, S => f S
  | .bl false, S => g S
  | _, _ => .bad
@[simp] theorem thO_t {f g : Sto → Out} : thO f g (.bl true) S = f S := rfl
@[simp] theorem thO_f {f g : Sto → Out} : thO f g (.bl false) S = g S := rfl
theorem thO_bl {f g : Sto → Out} {p : Bool} : thO f g (.bl p) S = if p = true then f S else g S := by cases p <;> rfl
def sqO (f : Env → Sto → Out) : Out → Out
  | .nx ρ1 S1 => f ρ1 S1
  | r => r
@[simp] theorem sqO_nx {f : Env → Sto → Out} : sqO f (.nx ρ S) = f ρ S := rfl
@[simp] theorem sqO_rt {f : Env → Sto → Out} {d : D} : sqO f (.rt d S) = .rt d S := rfl
@[simp] theorem sqO_exc {f : Env → Sto → Out} : sqO f (.exc k ρ S) = .exc k ρ S := rfl
@[simp] theorem sqO_bk {f : Env → Sto → Out} : sqO f (.bk ρ S) = .bk ρ S := rfl
@[simp] theorem sqO_ct {f : Env → Sto → Out} : sqO f (.ct ρ S) = .ct ρ S := rfl
@[simp] theorem x_skip : exec wrd cal w .skip ρ S = .nx ρ S := by rw [exec]
@[simp] theorem x_seq : exec wrd cal w (.seq s t) ρ S = sqO (exec wrd cal w t) (exec wrd cal w s ρ S) := by
  rw [exec]
  unfold sqO
  split <;> simp_all
def oB {α : Type} (o : Option α) (f : α → Out) : Out := match o with
  | some a => f a
  | none => .bad
@[simp] theorem oB_some {α : Type} {x : α} {f : α → Out} : oB (some x) f = f x := rfl
@[simp] theorem x_set {o : Bool} : exec wrd cal w (.set o i e) ρ S = (ev wrd cal e ρ S).out ρ fun d S1 => oB (slV o d) fun x => if i < ρ.length then .nx (ρ.set i x) S1 else .bad := by
  rw [exec]
  congr 1
  funext d S1
  cases slV o d <;> rfl
@[simp] theorem x_setG : exec wrd cal w (.setG g e) ρ S = (ev wrd cal e ρ S).out ρ fun d S1 => oB (asg g d ρ) fun ρ' => .nx ρ' S1 := by
  rw [exec]
  congr 1
  funext d S1
  cases asg g d ρ <;> rfl
@[simp] theorem x_par {o o' : Bool} {j : Nat} : exec wrd cal w (.par o o' i j a b) ρ S = (ev wrd cal a ρ S).out ρ fun x S1 => oB (slV o x) fun x => (ev wrd cal b ρ S1).out ρ fun y S2 => oB (slV o' y) fun y => if i < ρ.length ∧ j < ρ.length then .nx ((ρ.set i x).set j y) S2 else .bad := by
  rw [exec]
  congr 1
  funext d S1
  cases slV o d
  · rfl
  · simp only [oB]
    congr 1
    funext y S2
    cases slV o' y <;> rfl
@[simp] theorem x_frz : exec wrd cal w (.frz i) ρ S = oB (getO ρ i) fun l => .nx (ρ.set i (.v (.lst l))) S := by
  rw [exec]
  cases getO ρ i <;> rfl
def intO (y : D) (f : Int → Out) : Out := match y with
  | .int i => f i
  | _ => .bad
@[simp] theorem intO_int {j : Int} {f : Int → Out} : intO (.int j) f = f j := rfl
@[simp] theorem x_setIx {j : E} : exec wrd cal w (.setIx i j e) ρ S = (ev wrd cal e ρ S).out ρ fun d S1 => oB (getO ρ i) fun l => (ev wrd cal j ρ S1).out ρ fun y S2 => intO y fun y => oB (ixN l.length y) fun k => .nx (ρ.set i (.own (l.set k d))) S2 := by
  rw [exec]
  congr 1
  funext d S1
  cases getO ρ i with
  | none => rfl
  | some l =>
    simp only [oB]
    congr 1
    funext y S2
    cases y <;> try rfl
    rename_i v
    simp only [intO]
    cases ixN l.length v <;> rfl
@[simp] theorem x_app : exec wrd cal w (.app i e) ρ S = oB (getO ρ i) fun l => (ev wrd cal e ρ S).out ρ fun d S1 => if lenOk (l.length + 1) then .nx (ρ.set i (.own (l ++ [d]))) S1 else .bad := by
  rw [exec]
  cases getO ρ i <;> rfl
def scO (ρ : Env) (d : D) : D → D → Sto → Out
  | .cell c, .int y, S3 => (match S3[c]? with
      | some (.lst l) => (match ixN l.length y with
        | some k => .nx ρ (S3.set c (.lst (l.set k d)))
        | none => .bad)
      | none => .bad)
  | _, _, _ => .bad
@[simp] theorem x_setCell {o j : E} : exec wrd cal w (.setCell o j e) ρ S = (ev wrd cal e ρ S).out ρ fun d S1 => (ev wrd cal o ρ S1).out ρ fun x S2 => (ev wrd cal j ρ S2).out ρ fun y S3 => scO ρ d x y S3 := by
  rw [exec]
  congr 1
  funext d S1
  congr 1
  funext x S2
  congr 1
  funext y S3
  unfold scO
  cases x <;> cases y <;> rfl
@[simp] theorem x_drop : exec wrd cal w (.drop e) ρ S = (ev wrd cal e ρ S).out ρ fun _ S1 => .nx ρ S1 := by rw [exec]
@[simp] theorem x_ite : exec wrd cal w (.ite c s t) ρ S = (ev wrd cal c ρ S).out ρ fun d S1 => thO (fun S => exec wrd cal w s ρ S) (fun S => exec wrd cal w t ρ S) d S1 := by
  rw [exec]
  congr 1
  funext x S1
  unfold thO
  split <;> simp_all
@[simp] theorem x_forr : exec wrd cal w (.forr g e s) ρ S = (evi wrd cal e ρ S).out ρ fun its S1 => fors (asg g) (exec wrd cal w s) its ρ S1 := by rw [exec]
@[simp] theorem x_whil : exec wrd cal w (.whil c s) ρ S = whR w (ev wrd cal c) (exec wrd cal w s) ρ S := by rw [exec]
@[simp] theorem x_ret : exec wrd cal w (.ret e) ρ S = (ev wrd cal e ρ S).out ρ fun d S1 => .rt d S1 := by rw [exec]
@[simp] theorem x_retN : exec wrd cal w .retN ρ S = .rt .non S := by rw [exec]
@[simp] theorem x_brk : exec wrd cal w .brk ρ S = .bk ρ S := by rw [exec]
@[simp] theorem x_cont : exec wrd cal w .cont ρ S = .ct ρ S := by rw [exec]
@[simp] theorem x_rais : exec wrd cal w (.rais k) ρ S = .exc k ρ S := by rw [exec]
end
/-! slots -/
section
variable {x : Sl} {ρ : Env} {d : D} {i : Nat} {l : List D}
@[simp] theorem getS_0 : getS (.v d :: ρ) 0 = some d := rfl
@[simp] theorem getS_s : getS (x :: ρ) (i + 1) = getS ρ i := rfl
@[simp] theorem getO_0 : getO (.own l :: ρ) 0 = some l := rfl
@[simp] theorem getO_s : getO (x :: ρ) (i + 1) = getO ρ i := rfl
end
/-! built-ins and comparisons -/
def isTup : D → Bool
  | .tup _ => true
  | _ => false
def isLst : D → Bool
  | .lst _ => true
  | _ => false
def isBl : D → Bool
  | .bl _ => true
  | _ => false
def isIn : D → Bool
  | .int _ => true
  | .bl _ => true
  | _ => false
def isSt : D → Bool
  | .str _ => true
  | _ => false
/-- data without cells and functions -/
def dat0 : D → Bool
  | .fn _ => false | .cls _ => false | .ty _ => false | .cell _ => false | .scr _ => false
  | _ => true
section
variable {S : Sto} {x y : D} {i j : Int} {b c : Bool} {l m : List D}
theorem blt_isinst {n : String} : bltD .isinst S [x, .ty n] = if tyKnown n then (tyOf S x).map fun t => .bl (isTy t n) else none := rfl
@[simp] theorem dat0_int : dat0 (.int i) = true := by simp only [dat0]
@[simp] theorem dat0_bl : dat0 (.bl b) = true := by simp only [dat0]
@[simp] theorem dat0_non : dat0 .non = true := by simp only [dat0]
@[simp] theorem dat0_tup : dat0 (.tup l) = true := by simp only [dat0]
@[simp] theorem dat0_lst : dat0 (.lst l) = true := by simp only [dat0]
@[simp] theorem dat0_str {s : Str} : dat0 (.str s) = true := by simp only [dat0]
@[simp] theorem isTup_tup : isTup (.tup l) = true := rfl
@[simp] theorem isTup_lst : isTup (.lst l) = false := rfl
@[simp] theorem isTup_int : isTup (.int i) = false := rfl
@[simp] theorem isTup_bl : isTup (.bl b) = false := rfl
@[simp] theorem isTup_non : isTup .non = false := rfl
@[simp] theorem isTup_str {s : Str} : isTup (.str s) = false := rfl
@[simp] theorem isBl_bl : isBl (.bl b) = true := rfl
@[simp] theorem isBl_int : isBl (.int i) = false := rfl
@[simp] theorem isBl_non : isBl .non = false := rfl
@[simp] theorem isIn_int : isIn (.int i) = true := rfl
@[simp] theorem isIn_bl : isIn (.bl b) = true := rfl
@[simp] theorem isIn_non : isIn .non = false := rfl
@[simp] theorem isIn_str {s : Str} : isIn (.str s) = false := rfl
@[simp] theorem isIn_tup : isIn (.tup l) = false := rfl
@[simp] theorem isIn_lst : isIn (.lst l) = false := rfl
@[simp] theorem isBl_str {s : Str} : isBl (.str s) = false := rfl
@[simp] theorem isBl_tup : isBl (.tup l) = false := rfl
@[simp] theorem isBl_lst : isBl (.lst l) = false := rfl
@[simp] theorem isSt_str {s : Str} : isSt (.str s) = true := rfl
@[simp] theorem isSt_int : isSt (.int i) = false := rfl
@[simp] theorem isSt_bl : isSt (.bl b) = false := rfl
@[simp] theorem isSt_non : isSt .non = false := rfl
@[simp] theorem isSt_tup : isSt (.tup l) = false := rfl
@[simp] theorem isSt_lst : isSt (.lst l) = false := rfl
@[simp] theorem isLst_lst : isLst (.lst l) = true := rfl
@[simp] theorem isLst_tup : isLst (.tup l) = false := rfl
@[simp] theorem blt_tup (h : dat0 x = true) : bltD .isinst S [x, .ty "tuple"] = some (.bl (isTup x)) := by
  rw [blt_isinst, if_pos (by decide)]
  cases x <;> first | (simp [dat0] at h; done) | (simp only [tyOf, Option.map]; congr 2)
@[simp] theorem blt_lst (h : dat0 x = true) : bltD .isinst S [x, .ty "list"] = some (.bl (isLst x)) := by
  rw [blt_isinst, if_pos (by decide)]
  cases x <;> first | (simp [dat0] at h; done) | (simp only [tyOf, Option.map]; congr 2)
@[simp] theorem blt_isbl (h : dat0 x = true) : bltD .isinst S [x, .ty "bool"] = some (.bl (isBl x)) := by
  rw [blt_isinst, if_pos (by decide)]
  cases x <;> first | (simp [dat0] at h; done) | (simp only [tyOf, Option.map]; congr 2)
@[simp] theorem blt_isin (h : dat0 x = true) : bltD .isinst S [x, .ty "int"] = some (.bl (isIn x)) := by
  rw [blt_isinst, if_pos (by decide)]
  cases x <;> first | (simp [dat0] at h; done) | (simp only [tyOf, Option.map]; congr 2)
@[simp] theorem blt_isst (h : dat0 x = true) : bltD .isinst S [x, .ty "str"] = some (.bl (isSt x)) := by
  rw [blt_isinst, if_pos (by decide)]
  cases x <;> first | (simp [dat0] at h; done) | (simp only [tyOf, Option.map]; congr 2)
@[simp] theorem blt_len : bltD .len S [x] = (seqOf S x).map fun l => .int l.length := rfl
def sumO : Option (List Int) → Option D
  | some ns => some (.int ns.sum)
  | none => none
@[simp] theorem sumO_some {ns : List Int} : sumO (some ns) = some (.int ns.sum) := rfl
@[simp] theorem blt_sum : bltD .sum S [x] = sumO ((seqI S x).bind (allSome D.int?)) := by
  unfold sumO
  show (match (seqI S x).bind (allSome D.int?) with | some ns => some (D.int ns.sum) | none => none) = _
  cases (seqI S x).bind (allSome D.int?) <;> rfl
def allO : Option (List Bool) → Option D
  | some ns => some (.bl (ns.all id))
  | none => none
@[simp] theorem allO_some {ns : List Bool} : allO (some ns) = some (.bl (ns.all id)) := rfl
@[simp] theorem blt_all : bltD .all S [x] = allO ((seqL S x).bind (allSome D.bl?)) := by
  show (match (seqL S x).bind (allSome D.bl?) with | some ns => some (D.bl (ns.all id)) | none => none) = _
  cases (seqL S x).bind (allSome D.bl?) <;> rfl
def anyO : Option (List Bool) → Option D
  | some ns => some (.bl (ns.any id))
  | none => none
@[simp] theorem anyO_some {ns : List Bool} : anyO (some ns) = some (.bl (ns.any id)) := rfl
@[simp] theorem blt_any : bltD .any S [x] = anyO ((seqL S x).bind (allSome D.bl?)) := by
  show (match (seqL S x).bind (allSome D.bl?) with | some ns => some (D.bl (ns.any id)) | none => none) = _
  cases (seqL S x).bind (allSome D.bl?) <;> rfl
@[simp] theorem blt_max2 : bltD .max S [.int i, .int j] = some (.int (if i < j then j else i)) := rfl
@[simp] theorem blt_min2 : bltD .min S [.int i, .int j] = some (.int (if j < i then j else i)) := rfl
@[simp] theorem blt_list : bltD .list S [x] = (seqOf S x).map .lst := rfl
@[simp] theorem blt_tuple : bltD .tuple S [x] = (seqOf S x).map .tup := rfl
@[simp] theorem blt_int : bltD .int S [.int i] = some (.int i) := rfl
@[simp] theorem blt_intb : bltD .int S [.bl b] = some (.int (if b then 1 else 0)) := rfl
@[simp] theorem blt_bool : bltD .bool S [.bl b] = some (.bl b) := rfl
@[simp] theorem cmp_lt : cmpD .lt (.int i) (.int j) = some (.bl (decide (i < j))) := rfl
@[simp] theorem cmp_le : cmpD .le (.int i) (.int j) = some (.bl (decide (i ≤ j))) := rfl
@[simp] theorem cmp_gt : cmpD .gt (.int i) (.int j) = some (.bl (decide (j < i))) := rfl
@[simp] theorem cmp_ge : cmpD .ge (.int i) (.int j) = some (.bl (decide (j ≤ i))) := rfl
theorem cmp_eq (hx : plainD x = true) (hy : plainD y = true) : cmpD .eq x y = some (.bl (deq x y)) := by
  show (if twoStr x y || (plainD x && plainD y) then some (D.bl (deq x y)) else none) = _
  rw [hx, hy]
  simp
theorem cmp_ne (hx : plainD x = true) (hy : plainD y = true) : cmpD .ne x y = some (.bl (!deq x y)) := by
  show (if twoStr x y || (plainD x && plainD y) then some (D.bl (!deq x y)) else none) = _
  rw [hx, hy]
  simp
theorem plainD_int : plainD (.int i) = true := by unfold plainD plain; rfl
theorem plainD_bl : plainD (.bl b) = true := by unfold plainD plain; rfl
theorem plainD_non : plainD .non = true := by unfold plainD plain; rfl
@[simp] theorem cmp_eqi : cmpD .eq (.int i) (.int j) = some (.bl (decide (i = j))) := by
  rw [cmp_eq plainD_int plainD_int]
  simp only [deq]
  rfl
@[simp] theorem cmp_nei : cmpD .ne (.int i) (.int j) = some (.bl (!decide (i = j))) := by
  rw [cmp_ne plainD_int plainD_int]
  simp only [deq]
  rfl
@[simp] theorem cmp_eqs {s t : Str} : cmpD .eq (.str s) (.str t) = some (.bl (decide (s = t))) := by
  show (if twoStr (.str s) (.str t) || (plainD (.str s) && plainD (.str t)) then some (D.bl (deq (.str s) (.str t))) else none) = _
  simp only [deq]
  rfl
@[simp] theorem cmp_nes {s t : Str} : cmpD .ne (.str s) (.str t) = some (.bl (!decide (s = t))) := by
  show (if twoStr (.str s) (.str t) || (plainD (.str s) && plainD (.str t)) then some (D.bl (!deq (.str s) (.str t))) else none) = _
  simp only [deq]
  rfl
@[simp] theorem isNon_non : isNon .non = true := rfl
@[simp] theorem isNon_int : isNon (.int i) = false := rfl
@[simp] theorem isNon_bl : isNon (.bl b) = false := rfl
@[simp] theorem isNon_tup : isNon (.tup l) = false := rfl
@[simp] theorem isNon_lst : isNon (.lst l) = false := rfl
@[simp] theorem cmp_isn : cmpD .is x .non = some (.bl (isNon x)) := rfl
@[simp] theorem cmp_isntn : cmpD .isnt x .non = some (.bl (!isNon x)) := rfl
@[simp] theorem cmp_isb : cmpD .is (.bl c) (.bl b) = some (.bl (c == b)) := rfl
@[simp] theorem cmp_isntb : cmpD .isnt (.bl c) (.bl b) = some (.bl (!(c == b))) := rfl
@[simp] theorem bin_add : binD .add (.int i) (.int j) = some (.int (i + j)) := rfl
@[simp] theorem bin_sub : binD .sub (.int i) (.int j) = some (.int (i - j)) := rfl
theorem mulOk_r (h : j.natAbs < 2 ^ 64) : mulOk i j = true := by
  unfold mulOk
  rw [decide_eq_true h, Bool.or_true, Bool.true_or]
theorem mulOk_l (h : i.natAbs < 2 ^ 64) : mulOk i j = true := by
  unfold mulOk
  rw [decide_eq_true h, Bool.true_or, Bool.true_or]
theorem bin_mul (h : mulOk i j = true) : binD .mul (.int i) (.int j) = some (.int (i * j)) := by
  show (if mulOk i j then some (D.int (i * j)) else none) = _
  rw [if_pos h]
theorem bin_mod (h : 0 < j) : binD .mod (.int i) (.int j) = some (.int (i % j)) := by
  show (if decide (0 < j) then some (D.int (i % j)) else none) = _
  rw [if_pos (decide_eq_true h)]
theorem bin_fdiv (h : 0 < j) (h2 : j.natAbs < 2 ^ 9000) : binD .fdiv (.int i) (.int j) = some (.int (i / j)) := by
  show (if decide (0 < j) && decide (j.natAbs < 2 ^ 9000) then some (D.int (i / j)) else none) = _
  rw [decide_eq_true h, decide_eq_true h2]
  rfl
theorem bin_pow {k : Nat} (hk : (k : Int) ≤ 1000000) (h : i.natAbs < 2 ^ 64) : binD .pow (.int i) (.int (k : Int)) = some (.int (i ^ k)) := by
  show (if decide ((0 : Int) ≤ k) && decide ((k : Int) ≤ 1000000) && decide (i.natAbs < 2 ^ 64) then some (D.int (i ^ (k : Int).toNat)) else none) = _
  rw [decide_eq_true (show (0 : Int) ≤ k by omega), decide_eq_true hk, decide_eq_true h]
  rfl
@[simp] theorem bin_pow6 : binD .pow (.int 10) (.int 6) = some (.int 1000000) := bin_pow (k := 6) (by decide) (by decide)
@[simp] theorem bin_pow9 : binD .pow (.int 10) (.int 9) = some (.int 1000000000) := bin_pow (k := 9) (by decide) (by decide)
@[simp] theorem bin_pow18 : binD .pow (.int 10) (.int 18) = some (.int 1000000000000000000) := bin_pow (k := 18) (by decide) (by decide)
@[simp] theorem bin_pow19 : binD .pow (.int 10) (.int 19) = some (.int 10000000000000000000) := bin_pow (k := 19) (by decide) (by decide)
@[simp] theorem bin_pow20 : binD .pow (.int 10) (.int 20) = some (.int 100000000000000000000) := bin_pow (k := 20) (by decide) (by decide)
@[simp] theorem bin_pow29 : binD .pow (.int 10) (.int 29) = some (.int 100000000000000000000000000000) := bin_pow (k := 29) (by decide) (by decide)
@[simp] theorem bin_pow30 : binD .pow (.int 10) (.int 30) = some (.int 1000000000000000000000000000000) := bin_pow (k := 30) (by decide) (by decide)
@[simp] theorem bin_pow31 : binD .pow (.int 10) (.int 31) = some (.int 10000000000000000000000000000000) := bin_pow (k := 31) (by decide) (by decide)
theorem lenOk_of {n : Nat} (h : n ≤ maxLen) : lenOk n = true := decide_eq_true h
@[simp] theorem lenOk_0 : lenOk 0 = true := by simp [lenOk, maxLen]
@[simp] theorem lenOk_1 : lenOk 1 = true := by simp [lenOk, maxLen]
@[simp] theorem lenOk_2 : lenOk 2 = true := by simp [lenOk, maxLen]
@[simp] theorem lenOk_3 : lenOk 3 = true := by simp [lenOk, maxLen]
@[simp] theorem lenOk_4 : lenOk 4 = true := by simp [lenOk, maxLen]
@[simp] theorem lenOk_5 : lenOk 5 = true := by simp [lenOk, maxLen]
@[simp] theorem lenOk_6 : lenOk 6 = true := by simp [lenOk, maxLen]
@[simp] theorem lenOk_7 : lenOk 7 = true := by simp [lenOk, maxLen]
@[simp] theorem lenOk_8 : lenOk 8 = true := by simp [lenOk, maxLen]
@[simp] theorem lenOk_9 : lenOk 9 = true := by simp [lenOk, maxLen]
@[simp] theorem lenOk_10 : lenOk 10 = true := by simp [lenOk, maxLen]
@[simp] theorem lenOk_11 : lenOk 11 = true := by simp [lenOk, maxLen]
@[simp] theorem lenOk_12 : lenOk 12 = true := by simp [lenOk, maxLen]
@[simp] theorem lenOk_13 : lenOk 13 = true := by simp [lenOk, maxLen]
@[simp] theorem lenOk_14 : lenOk 14 = true := by simp [lenOk, maxLen]
@[simp] theorem lenOk_15 : lenOk 15 = true := by simp [lenOk, maxLen]
@[simp] theorem lenOk_16 : lenOk 16 = true := by simp [lenOk, maxLen]
@[simp] theorem lenOk_17 : lenOk 17 = true := by simp [lenOk, maxLen]
@[simp] theorem lenOk_18 : lenOk 18 = true := by simp [lenOk, maxLen]
@[simp] theorem lenOk_19 : lenOk 19 = true := by simp [lenOk, maxLen]
@[simp] theorem lenOk_20 : lenOk 20 = true := by simp [lenOk, maxLen]
@[simp] theorem lenOk_21 : lenOk 21 = true := by simp [lenOk, maxLen]
@[simp] theorem lenOk_22 : lenOk 22 = true := by simp [lenOk, maxLen]
@[simp] theorem lenOk_23 : lenOk 23 = true := by simp [lenOk, maxLen]
@[simp] theorem bin_addl : binD .add (.lst l) (.lst m) = if lenOk (l.length + m.length) then some (.lst (l ++ m)) else none := rfl
@[simp] theorem bin_addt : binD .add (.tup l) (.tup m) = if lenOk (l.length + m.length) then some (.tup (l ++ m)) else none := rfl
end
end My

/-! N1: steps of the small language, once and for all. -/
namespace My
open Pv
open PySem (Str)
/-- a call at a depth -/
noncomputable def go (n k : Nat) (ds : List D) (S : Sto) : Res D := run none wrd tab n k ds S
/-- what a body's end is worth -/
def oR : Out → Res D
  | .rt d S => .ok d S
  | .nx _ S => .ok .non S
  | .exc j _ S => .exc j S
  | _ => .bad
theorem go_step {n k : Nat} {f : Fn} {ds : List D} {S : Sto} (ht : tab[k]? = some f) (hl : ds.length = f.np) :
    go (n + 1) k ds S = oR (exec wrd (go n) none f.body (ds.map .v ++ List.replicate (f.nl - f.np) .un) S) := by
  have e : run none wrd tab n = go n := rfl
  show run none wrd tab (n + 1) k ds S = _
  simp only [run, ht, if_pos hl, e]
  cases exec wrd (go n) none f.body (ds.map .v ++ List.replicate (f.nl - f.np) .un) S <;> rfl

/-! encodings -/
def ePr (p : Int × Int) : D := .tup [.int p.1, .int p.2]
def eP (l : List (Int × Int)) : D := .tup (l.map ePr)
def eO : Option Int → D
  | none => .non
  | some i => .int i
def eI (l : List Int) : D := .lst (l.map .int)
structure L where
  lots : List (Int × Int)
  counts : List (Int × Int)
  falls : List (Int × Int)
  win : Int
def eL (l : L) : D := .tup [eP l.lots, eP l.counts, eP l.falls, .int l.win]
def eT (t : List (List (Int × Int))) : D := .tup (t.map eP)
/-- a stretch -/
def eS (s : Int × Option Int) : D := .tup [.int s.1, eO s.2]

@[simp] theorem seqW_eP {l : List (Int × Int)} : seqW (eP l) = some (l.map ePr) := rfl
@[simp] theorem seqOf_eP {l : List (Int × Int)} {S : Sto} : seqOf S (eP l) = some (l.map ePr) := rfl
@[simp] theorem seqW_eT {l : List (List (Int × Int))} : seqW (eT l) = some (l.map eP) := rfl
@[simp] theorem seqOf_eT {l : List (List (Int × Int))} {S : Sto} : seqOf S (eT l) = some (l.map eP) := rfl
@[simp] theorem seqW_tup {l : List D} : seqW (.tup l) = some l := rfl
@[simp] theorem seqW_lst {l : List D} : seqW (.lst l) = some l := rfl
@[simp] theorem seqOf_tup {l : List D} {S : Sto} : seqOf S (.tup l) = some l := rfl
@[simp] theorem seqOf_lst {l : List D} {S : Sto} : seqOf S (.lst l) = some l := rfl
@[simp] theorem seqL_lst {l : List D} {S : Sto} : seqL S (.lst l) = some l := rfl
@[simp] theorem seqI_lst {l : List D} {S : Sto} : seqI S (.lst l) = some l := rfl
@[simp] theorem seqI_tup {l : List D} {S : Sto} : seqI S (.tup l) = some l := rfl
@[simp] theorem seqI_cell {k : Nat} {S : Sto} : seqI S (.cell k) = seqL S (.cell k) := rfl
@[simp] theorem ix_L0 {l : L} {S : Sto} : ixD S (eL l) (.int 0) = some (eP l.lots) := rfl
@[simp] theorem ix_L1 {l : L} {S : Sto} : ixD S (eL l) (.int 1) = some (eP l.counts) := rfl
@[simp] theorem ix_L2 {l : L} {S : Sto} : ixD S (eL l) (.int 2) = some (eP l.falls) := rfl
@[simp] theorem ix_L3 {l : L} {S : Sto} : ixD S (eL l) (.int 3) = some (.int l.win) := rfl
@[simp] theorem ix_P0 {p : Int × Int} {S : Sto} : ixD S (ePr p) (.int 0) = some (.int p.1) := rfl
@[simp] theorem ix_P1 {p : Int × Int} {S : Sto} : ixD S (ePr p) (.int 1) = some (.int p.2) := rfl
@[simp] theorem ix_S0 {p : Int × Option Int} {S : Sto} : ixD S (eS p) (.int 0) = some (.int p.1) := rfl
@[simp] theorem ix_S1 {p : Int × Option Int} {S : Sto} : ixD S (eS p) (.int 1) = some (eO p.2) := rfl
@[simp] theorem asg_nm {i : Nat} {d : D} {ρ : Env} : asg (.nm i) d ρ = if i < ρ.length then some (ρ.set i (.v d)) else none := rfl
@[simp] theorem asg_tup {gs : G} {l : List D} {ρ : Env} : asg (.tup gs) (.tup l) ρ = asg.asgs gs l ρ := rfl
@[simp] theorem asg_pr {gs : G} {p : Int × Int} {ρ : Env} : asg (.tup gs) (ePr p) ρ = asg.asgs gs [.int p.1, .int p.2] ρ := rfl
@[simp] theorem asg_st {gs : G} {p : Int × Option Int} {ρ : Env} : asg (.tup gs) (eS p) ρ = asg.asgs gs [.int p.1, eO p.2] ρ := rfl
@[simp] theorem asgs_nil {ρ : Env} : asg.asgs .nil [] ρ = some ρ := rfl
@[simp] theorem asgs_cons {g gs : G} {x : D} {xs : List D} {ρ : Env} : asg.asgs (.cons g gs) (x :: xs) ρ = (asg g x ρ).bind (asg.asgs gs xs) := by
  show (match asg g x ρ with | some ρ' => asg.asgs gs xs ρ' | none => none) = _
  cases asg g x ρ <;> rfl
@[simp] theorem wipes_nil {ρ : Env} : wipes ρ [] = ρ := rfl
@[simp] theorem wipes_cons {ρ : Env} {v : Nat} {vs : List Nat} : wipes ρ (v :: vs) = (wipes ρ vs).set v .un := rfl
@[simp] theorem slV_f {d : D} : slV false d = some (.v d) := rfl
@[simp] theorem slV_t {l : List D} : slV true (.lst l) = some (.own l) := rfl
@[simp] theorem bind_ok {α β : Type} {a : α} {S : Sto} {f : α → Sto → Res β} : Res.bind (.ok a S) f = f a S := rfl
@[simp] theorem bind_exc {α β : Type} {k : Nat} {S : Sto} {f : α → Sto → Res β} : Res.bind (.exc k S : Res α) f = .exc k S := rfl
@[simp] theorem lift_some {α : Type} {a : α} {S : Sto} : Res.lift S (some a) = .ok a S := rfl
@[simp] theorem out_ok {α : Type} {a : α} {S : Sto} {ρ : Env} {f : α → Sto → Out} : Res.out (.ok a S) ρ f = f a S := rfl
@[simp] theorem out_exc {α : Type} {k : Nat} {S : Sto} {ρ : Env} {f : α → Sto → Out} : Res.out (.exc k S : Res α) ρ f = .exc k ρ S := rfl
@[simp] theorem oR_rt {d : D} {S : Sto} : oR (.rt d S) = .ok d S := rfl
@[simp] theorem oR_nx {ρ : Env} {S : Sto} : oR (.nx ρ S) = .ok .non S := rfl
@[simp] theorem oR_exc {k : Nat} {ρ : Env} {S : Sto} : oR (.exc k ρ S) = .exc k S := rfl
@[simp] theorem zipE {α β : Type} {e1 : α → D} {e2 : β → D} {l : List α} {m : List β} : zipD (l.map e1) (m.map e2) = (l.zip m).map fun p => D.tup [e1 p.1, e2 p.2] := by
  unfold zipD
  rw [List.zipWith_map]
  simp [List.zip, List.map_zipWith]
@[simp] theorem enumE {α : Type} {e : α → D} {l : List α} : enumD (l.map e) = l.zipIdx.map fun p => D.tup [.int p.2, e p.1] := by
  unfold enumD
  rw [List.zipIdx_map]
  simp
@[simp] theorem allSome_int {α : Type} {f : α → Int} {l : List α} : allSome D.int? (l.map fun x => D.int (f x)) = some (l.map f) := by
  induction l with
  | nil => rfl
  | cons x xs ih => simp [allSome, D.int?, ih]
@[simp] theorem allSome_int' {l : List Int} : allSome D.int? (l.map D.int) = some l := by
  simpa using allSome_int (f := fun x : Int => x) (l := l)
@[simp] theorem allSome_bl {α : Type} {f : α → Bool} {l : List α} : allSome D.bl? (l.map fun x => D.bl (f x)) = some (l.map f) := by
  induction l with
  | nil => rfl
  | cons x xs ih => simp [allSome, D.bl?, ih]

/-! comprehensions and loops -/
/-- a comprehension that changes nothing -/
theorem comps_pure {α : Type} {bind : D → Option Env} {cond elt : Env → Sto → Res D} {enc : α → D} {p : α → Bool} {f : α → D} {S : Sto} :
    ∀ {xs : List α} {acc : List D}, (∀ x ∈ xs, ∃ ρ, bind (enc x) = some ρ ∧ cond ρ S = .ok (.bl (p x)) S ∧ (p x = true → elt ρ S = .ok (f x) S)) → acc.length + xs.length ≤ maxLen → comps bind cond elt (xs.map enc) acc S = .ok (.lst (acc ++ (xs.filter p).map f)) S
  | [], acc, _, _ => by simp [comps]
  | x :: xs, acc, h, hl => by
    obtain ⟨ρ, h1, h2, h3⟩ := h x (by simp)
    have ih := fun acc => comps_pure (bind := bind) (cond := cond) (elt := elt) (enc := enc) (p := p) (f := f) (S := S) (xs := xs) (acc := acc) (fun y hy => h y (by simp [hy]))
    simp only [List.length_cons] at hl
    cases hp : p x with
    | true =>
      have l1 : lenOk (acc.length + 1) = true := decide_eq_true (by omega)
      simp only [List.map_cons, comps, h1, h2, hp, h3 hp, l1, if_true, List.filter_cons]
      rw [ih (acc ++ [f x]) (by simp; omega)]
      simp
    | false =>
      simp only [List.map_cons, comps, h1, h2, hp, List.filter_cons]
      rw [ih acc (by omega)]
      simp
/-- without a condition -/
theorem comps_all {α : Type} {bind : D → Option Env} {cond elt : Env → Sto → Res D} {enc : α → D} {f : α → D} {S : Sto} {xs : List α} (h : ∀ x ∈ xs, ∃ ρ, bind (enc x) = some ρ ∧ cond ρ S = .ok (.bl true) S ∧ elt ρ S = .ok (f x) S) (hl : xs.length ≤ maxLen) : comps bind cond elt (xs.map enc) [] S = .ok (.lst (xs.map f)) S := by
  rw [comps_pure (p := fun _ => true) (f := f) (fun x hx => by
    obtain ⟨ρ, h1, h2, h3⟩ := h x hx
    exact ⟨ρ, h1, h2, fun _ => h3⟩) (by simpa using hl)]
  rw [List.filter_eq_self.2 (fun _ _ => rfl)]
  rfl
theorem comps_fil {α : Type} {bind : D → Option Env} {cond elt : Env → Sto → Res D} {enc : α → D} {p : α → Bool} {f : α → D} {S : Sto} {xs : List α} (h : ∀ x ∈ xs, ∃ ρ, bind (enc x) = some ρ ∧ cond ρ S = .ok (.bl (p x)) S ∧ elt ρ S = .ok (f x) S) (hl : xs.length ≤ maxLen) : comps bind cond elt (xs.map enc) [] S = .ok (.lst ((xs.filter p).map f)) S := by
  rw [comps_pure (p := p) (f := f) (fun x hx => by
    obtain ⟨ρ, h1, h2, h3⟩ := h x hx
    exact ⟨ρ, h1, h2, fun _ => h3⟩) (by simpa using hl)]
  simp
/-- a loop that carries s (beside names of no weight) and may end with .rt d -/
def foldO {σ α : Type} (st : σ → α → Option σ) : σ → List α → Option σ
  | s, [] => some s
  | s, x :: xs => (st s x).bind fun s' => foldO st s' xs
theorem fors_opt {α σ β : Type} {bind : D → Env → Option Env} {body : Env → Sto → Out} {enc : α → D} {mk : σ → β → Env} {st : σ → α → Option σ} {d : D} {S : Sto} :
    ∀ {xs : List α} (s : σ) (j : β), (∀ s j x, x ∈ xs → ∃ ρ, bind (enc x) (mk s j) = some ρ ∧ match st s x with
      | some s' => ∃ j', body ρ S = .nx (mk s' j') S
      | none => body ρ S = .rt d S) →
    match foldO st s xs with
      | some s' => ∃ j', fors bind body (xs.map enc) (mk s j) S = .nx (mk s' j') S
      | none => fors bind body (xs.map enc) (mk s j) S = .rt d S
  | [], s, j, _ => ⟨j, rfl⟩
  | x :: xs, s, j, h => by
    obtain ⟨ρ, h1, h2⟩ := h s j x (by simp)
    have ih := fun s j => fors_opt (bind := bind) (body := body) (enc := enc) (mk := mk) (st := st) (d := d) (S := S) (xs := xs) s j (fun s j y hy => h s j y (by simp [hy]))
    simp only [foldO, List.map_cons, fors, h1]
    cases hs : st s x with
    | none => rw [hs] at h2; simp only [h2, Option.bind_none]
    | some s' =>
      rw [hs] at h2
      obtain ⟨j', h2⟩ := h2
      simp only [h2, Option.bind_some]
      exact ih s' j'
/-- a loop without an early end -/
theorem fors_fold {α σ β : Type} {bind : D → Env → Option Env} {body : Env → Sto → Out} {enc : α → D} (mk : σ → β → Env) (st : σ → α → σ) {S : Sto} :
    ∀ {xs : List α} (s : σ) (j : β), (∀ s j x, x ∈ xs → ∃ ρ, bind (enc x) (mk s j) = some ρ ∧ ∃ j', body ρ S = .nx (mk (st s x) j') S) →
    ∃ j', fors bind body (xs.map enc) (mk s j) S = .nx (mk (xs.foldl st s) j') S
  | [], s, j, _ => ⟨j, rfl⟩
  | x :: xs, s, j, h => by
    obtain ⟨ρ, h1, j1, h2⟩ := h s j x (by simp)
    obtain ⟨j2, ih⟩ := fors_fold (bind := bind) (body := body) (enc := enc) mk st (S := S) (xs := xs) (st s x) j1 (fun s j y hy => h s j y (by simp [hy]))
    refine ⟨j2, ?_⟩
    simp only [List.map_cons, fors, h1, h2, List.foldl_cons]
    exact ih
/-- a loop that carries s, of which I holds, k turns being left -/
theorem fors_foldI {α σ β : Type} {bind : D → Env → Option Env} {body : Env → Sto → Out} {enc : α → D} (mk : σ → β → Env) (st : σ → α → σ) (I : σ → Nat → Prop) {S : Sto} :
    ∀ {xs : List α} (s : σ) (j : β), I s xs.length → (∀ s j x k, x ∈ xs → I s (k + 1) → ∃ ρ, bind (enc x) (mk s j) = some ρ ∧ I (st s x) k ∧ ∃ j', body ρ S = .nx (mk (st s x) j') S) →
    ∃ j', fors bind body (xs.map enc) (mk s j) S = .nx (mk (xs.foldl st s) j') S
  | [], s, j, _, _ => ⟨j, rfl⟩
  | x :: xs, s, j, hi, h => by
    obtain ⟨ρ, h1, h3, j1, h2⟩ := h s j x xs.length (by simp) hi
    obtain ⟨j2, ih⟩ := fors_foldI (bind := bind) (body := body) (enc := enc) mk st I (S := S) (xs := xs) (st s x) j1 h3 (fun s j y k hy => h s j y k (by simp [hy]))
    refine ⟨j2, ?_⟩
    simp only [List.map_cons, fors, h1, h2, List.foldl_cons]
    exact ih
theorem fors_optD {σ β : Type} {bind : D → Env → Option Env} {body : Env → Sto → Out} (mk : σ → β → Env) (st : σ → D → Option σ) (d : D) {S : Sto} {xs : List D} (s : σ) (j : β) (h : ∀ s j x, x ∈ xs → ∃ ρ, bind x (mk s j) = some ρ ∧ match st s x with
      | some s' => ∃ j', body ρ S = .nx (mk s' j') S
      | none => body ρ S = .rt d S) :
    match foldO st s xs with
      | some s' => ∃ j', fors bind body xs (mk s j) S = .nx (mk s' j') S
      | none => fors bind body xs (mk s j) S = .rt d S := by
  have := fors_opt (enc := id) (xs := xs) (mk := mk) (st := st) (d := d) (S := S) (bind := bind) (body := body) s j h
  simpa using this
/-- no state: the first item that P does not like ends it -/
theorem foldO_all {α : Type} {P : α → Bool} : ∀ {l : List α}, foldO (fun (_ : Unit) x => if P x then some () else none) () l = if l.all P then some () else none
  | [] => rfl
  | x :: xs => by
    have ih := foldO_all (P := P) (l := xs)
    cases h : P x
    · simp [foldO, h]
    · simp only [foldO, h, if_true, Option.bind_some, List.all_cons, Bool.true_and]
      exact ih
theorem foldO_search {α : Type} {P : α → Bool} : ∀ {l : List α}, foldO (fun (_ : Unit) x => if P x then none else some ()) () l = if l.any P then none else some ()
  | [] => rfl
  | x :: xs => by
    have ih := foldO_search (P := P) (l := xs)
    cases h : P x
    · simp only [foldO, h, Bool.false_eq_true, if_false, Option.bind_some, List.any_cons, Bool.false_or]
      exact ih
    · simp [foldO, h]
/-! plain data -/
theorem plains_mem {n : Nat} : ∀ {l : List D}, plains n l = true → ∀ x ∈ l, plain n x = true
  | [], _, x, hx => by simp at hx
  | y :: ys, h, x, hx => by
    simp only [plains, Bool.and_eq_true] at h
    rcases List.mem_cons.mp hx with e | e
    · rw [e]; exact h.1
    · exact plains_mem h.2 x e
theorem plains_of {n : Nat} : ∀ {l : List D}, (∀ x ∈ l, plain n x = true) → plains n l = true
  | [], _ => by unfold plains; rfl
  | y :: ys, h => by
    unfold plains
    rw [h y (by simp), plains_of fun x hx => h x (by simp [hx])]
    rfl
theorem plain_dat0 {n : Nat} {d : D} (h : plain n d = true) : dat0 d = true := by
  cases d <;> first | rfl | (cases n <;> simp [plain] at h)
theorem plain_tup {n : Nat} {l : List D} (h : plain n (.tup l) = true) : ∃ m, n = m + 1 ∧ ∀ x ∈ l, plain m x = true := by
  cases n with
  | zero => simp [plain] at h
  | succ m => exact ⟨m, rfl, plains_mem (by simpa [plain] using h)⟩
theorem plain_lst {n : Nat} {l : List D} (h : plain n (.lst l) = true) : ∃ m, n = m + 1 ∧ ∀ x ∈ l, plain m x = true := by
  cases n with
  | zero => simp [plain] at h
  | succ m => exact ⟨m, rfl, plains_mem (by simpa [plain] using h)⟩
theorem plain_tup_of {n : Nat} {l : List D} (h : ∀ x ∈ l, plain n x = true) : plain (n + 1) (.tup l) = true := by
  unfold plain
  exact plains_of h
theorem plain_lst_of {n : Nat} {l : List D} (h : ∀ x ∈ l, plain n x = true) : plain (n + 1) (.lst l) = true := by
  unfold plain
  exact plains_of h
@[simp] theorem plain_int {n : Nat} {i : Int} : plain n (.int i) = true := by cases n <;> (unfold plain; rfl)
@[simp] theorem plain_bl {n : Nat} {i : Bool} : plain n (.bl i) = true := by cases n <;> (unfold plain; rfl)
@[simp] theorem plain_non {n : Nat} : plain n .non = true := by cases n <;> (unfold plain; rfl)
mutual
theorem plain_up : ∀ {n : Nat} {d : D}, plain n d = true → plain (n + 1) d = true
  | n, .non, _ => plain_non
  | n, .bl _, _ => plain_bl
  | n, .int _, _ => plain_int
  | 0, .str s, h => by unfold plain at h ⊢; exact h
  | n + 1, .str s, h => by unfold plain at h ⊢; exact h
  | 0, .lst xs, h => by simp [plain] at h
  | 0, .tup xs, h => by simp [plain] at h
  | n + 1, .lst xs, h => by unfold plain at h ⊢; exact plains_up h
  | n + 1, .tup xs, h => by unfold plain at h ⊢; exact plains_up h
  | n, .fn _, h => by cases n <;> simp [plain] at h
  | n, .cls _, h => by cases n <;> simp [plain] at h
  | n, .ty _, h => by cases n <;> simp [plain] at h
  | n, .cell _, h => by cases n <;> simp [plain] at h
  | n, .scr _, h => by cases n <;> simp [plain] at h
theorem plains_up : ∀ {n : Nat} {l : List D}, plains n l = true → plains (n + 1) l = true
  | _, [], _ => by unfold plains; rfl
  | n, x :: xs, h => by
    unfold plains at h ⊢
    simp only [Bool.and_eq_true] at h ⊢
    exact ⟨plain_up h.1, plains_up h.2⟩
end
theorem plain_le {m n : Nat} {d : D} (h : m ≤ n) (hp : plain m d = true) : plain n d = true := by
  induction h with
  | refl => exact hp
  | step _ ih => exact plain_up ih
theorem plainD_of {m : Nat} {d : D} (hp : plain m d = true) (h : m ≤ 64) : plainD d = true := plain_le h hp
theorem plain_ePr {n : Nat} {p : Int × Int} : plain (n + 1) (ePr p) = true := plain_tup_of (by simp)
theorem plain_eP {n : Nat} {l : List (Int × Int)} : plain (n + 2) (eP l) = true := plain_tup_of fun x hx => by
  obtain ⟨p, _, rfl⟩ := List.mem_map.mp hx
  exact plain_ePr
theorem plain_eL {n : Nat} {l : L} : plain (n + 3) (eL l) = true := plain_tup_of fun x hx => by
  simp at hx
  rcases hx with rfl | rfl | rfl | rfl
  · exact plain_eP
  · exact plain_eP
  · exact plain_eP
  · exact plain_int
theorem plain_eT {n : Nat} {t : List (List (Int × Int))} : plain (n + 3) (eT t) = true := plain_tup_of fun x hx => by
  obtain ⟨p, _, rfl⟩ := List.mem_map.mp hx
  exact plain_eP
@[simp] theorem dat0_eP {l : List (Int × Int)} : dat0 (eP l) = true := by unfold eP; exact dat0_tup
@[simp] theorem dat0_ePr {l : Int × Int} : dat0 (ePr l) = true := by unfold ePr; exact dat0_tup
@[simp] theorem dat0_eL {l : L} : dat0 (eL l) = true := by unfold eL; exact dat0_tup
@[simp] theorem dat0_eT {l : List (List (Int × Int))} : dat0 (eT l) = true := by unfold eT; exact dat0_tup
@[simp] theorem isTup_eP {l : List (Int × Int)} : isTup (eP l) = true := rfl
@[simp] theorem isTup_ePr {l : Int × Int} : isTup (ePr l) = true := rfl
@[simp] theorem isTup_eL {l : L} : isTup (eL l) = true := rfl
@[simp] theorem isTup_eT {l : List (List (Int × Int))} : isTup (eT l) = true := rfl
@[simp] theorem seqOf_ePr {l : Int × Int} {S : Sto} : seqOf S (ePr l) = some [.int l.1, .int l.2] := rfl
theorem ixN_in {n k : Nat} (h : k < n) : ixN n (k : Int) = some k := by
  unfold ixN
  rw [if_pos (by omega), if_pos (by omega)]
  simp
theorem ixD_tup {l : List D} {k : Nat} {S : Sto} (h : k < l.length) : ixD S (.tup l) (.int k) = some l[k] := by
  show ((ixN l.length (k : Int)).bind fun j => l[j]?) = _
  rw [ixN_in h]
  simp
theorem ixD_lst {l : List D} {k : Nat} {S : Sto} (h : k < l.length) : ixD S (.lst l) (.int k) = some l[k] := by
  show ((ixN l.length (k : Int)).bind fun j => l[j]?) = _
  rw [ixN_in h]
  simp
theorem sl_tail {l : List D} {S : Sto} : slD S (.tup l) (some 1) none = some (.tup l.tail) := by
  show some (D.tup (cut l (some 1) none)) = _
  congr 2
  unfold cut sIx
  cases l with
  | nil => rfl
  | cons x xs => simp
@[simp] theorem sl_tailP {l : List (Int × Int)} {S : Sto} : slD S (eP l) (some 1) none = some (eP l.tail) := by
  show slD S (.tup (l.map ePr)) (some 1) none = some (.tup (l.tail.map ePr))
  rw [sl_tail, List.map_tail]
end My

/-! N2: ledgers. -/
namespace My
open Pv
open PySem (Str)
/-- is_int -/
def isInt (d : D) (lo hi : Int) : Bool := match d with
  | .int i => decide (lo ≤ i) && decide (i ≤ hi)
  | _ => false
theorem r_is_int {n : Nat} {d : D} {lo hi : Int} {S : Sto} (hd : dat0 d = true) : go (n + 1) i_is_int [d, .int lo, .int hi] S = .ok (.bl (isInt d lo hi)) S := by
  rw [go_step e_is_int rfl]
  cases d with
  | int i =>
    by_cases h1 : lo ≤ i <;> by_cases h2 : i ≤ hi <;>
      simp [f_is_int, t_is_int, isInt, h1, h2]
  | _ => first | (simp [dat0] at hd; done) | simp [f_is_int, t_is_int, isInt]
def pairOk (lo1 hi1 lo hi : Int) : D → Bool
  | .tup [a, b] => isInt a lo1 hi1 && isInt b lo hi
  | _ => false
def fstI : D → Int
  | .tup (.int a :: _) => a
  | _ => 0
def sndI : D → Int
  | .tup [_, .int a] => a
  | _ => 0
/-- ascending days -/
def ascB (l : List (Int × Int)) : Bool := (l.zip l.tail).all fun q => decide (q.1.1 < q.2.1)
def ascD (l : List D) : Bool := (l.zip l.tail).all fun q => decide (fstI q.1 < fstI q.2)
/-- pairs of ascending days and numbers -/
def datedG (most lo1 hi1 lo hi : Int) : D → Bool
  | .tup l => decide ((l.length : Int) ≤ most) && (l.all (pairOk lo1 hi1 lo hi) && ascD l)
  | _ => false
def dated (most lo hi : Int) (d : D) : Bool := datedG most 0 1000000000 lo hi d
theorem isInt_of {d : D} {lo hi : Int} (h : isInt d lo hi = true) : ∃ i, d = .int i ∧ lo ≤ i ∧ i ≤ hi := by
  unfold isInt at h
  split at h
  · rename_i i
    simp only [Bool.and_eq_true, decide_eq_true_eq] at h
    exact ⟨i, rfl, h.1, h.2⟩
  · cases h
theorem isInt_mk {i lo hi : Int} (h1 : lo ≤ i) (h2 : i ≤ hi) : isInt (.int i) lo hi = true := by
  show (decide (lo ≤ i) && decide (i ≤ hi)) = true
  rw [decide_eq_true h1, decide_eq_true h2]
  rfl
theorem pairOk_of {lo1 hi1 lo hi : Int} {d : D} (h : pairOk lo1 hi1 lo hi d = true) : ∃ p : Int × Int, d = ePr p ∧ lo1 ≤ p.1 ∧ p.1 ≤ hi1 ∧ lo ≤ p.2 ∧ p.2 ≤ hi := by
  unfold pairOk at h
  split at h
  · simp only [Bool.and_eq_true] at h
    obtain ⟨a, rfl, a1, a2⟩ := isInt_of h.1
    obtain ⟨b, rfl, b1, b2⟩ := isInt_of h.2
    exact ⟨(a, b), rfl, a1, a2, b1, b2⟩
  · cases h
theorem pairs_of {lo1 hi1 lo hi : Int} : ∀ {l : List D}, l.all (pairOk lo1 hi1 lo hi) = true → ∃ ps : List (Int × Int), l = ps.map ePr ∧ ∀ p ∈ ps, lo1 ≤ p.1 ∧ p.1 ≤ hi1 ∧ lo ≤ p.2 ∧ p.2 ≤ hi
  | [], _ => ⟨[], rfl, by simp⟩
  | x :: xs, h => by
    simp only [List.all_cons, Bool.and_eq_true] at h
    obtain ⟨p, rfl, hp⟩ := pairOk_of h.1
    obtain ⟨ps, rfl, hps⟩ := pairs_of h.2
    exact ⟨p :: ps, rfl, fun q hq => by
      rcases List.mem_cons.mp hq with e | e
      · rw [e]; exact hp
      · exact hps q e⟩
theorem pairOk_pr {lo1 hi1 lo hi : Int} {p : Int × Int} : pairOk lo1 hi1 lo hi (ePr p) = (decide (lo1 ≤ p.1) && decide (p.1 ≤ hi1) && (decide (lo ≤ p.2) && decide (p.2 ≤ hi))) := rfl
theorem ascD_eP {ps : List (Int × Int)} : ascD (ps.map ePr) = ascB ps := by
  unfold ascD ascB
  rw [← List.map_tail, List.zip_map, List.all_map]
  rfl
structure Dt (most lo1 hi1 lo hi : Int) (ps : List (Int × Int)) : Prop where
  len : (ps.length : Int) ≤ most
  rng : ∀ p ∈ ps, lo1 ≤ p.1 ∧ p.1 ≤ hi1 ∧ lo ≤ p.2 ∧ p.2 ≤ hi
  asc : ascB ps = true
theorem datedG_iff {most lo1 hi1 lo hi : Int} {d : D} : datedG most lo1 hi1 lo hi d = true ↔ ∃ ps, d = eP ps ∧ Dt most lo1 hi1 lo hi ps := by
  constructor
  · intro h
    unfold datedG at h
    split at h
    · rename_i l
      simp only [Bool.and_eq_true, decide_eq_true_eq] at h
      obtain ⟨h1, h2, h3⟩ := h
      obtain ⟨ps, rfl, hps⟩ := pairs_of h2
      rw [ascD_eP] at h3
      exact ⟨ps, rfl, by simpa using h1, hps, h3⟩
    · cases h
  · rintro ⟨ps, rfl, h⟩
    unfold eP datedG
    simp only [Bool.and_eq_true, decide_eq_true_eq]
    refine ⟨by simpa using h.len, List.all_eq_true.mpr fun x hx => ?_, by rw [ascD_eP]; exact h.asc⟩
    obtain ⟨p, hp, rfl⟩ := List.mem_map.mp hx
    rw [pairOk_pr]
    have := h.rng p hp
    simp [this]
theorem b_are_dated {n m : Nat} {v x : D} {most lo hi : Int} {S : Sto} (hx : plain m x = true) : exec wrd (go (n + 1)) none t_are_dated_b1 [.v v, .v (.int most), .v (.int lo), .v (.int hi), .v x, .un, .un] S = if pairOk 0 1000000000 lo hi x then .nx [.v v, .v (.int most), .v (.int lo), .v (.int hi), .v x, .un, .un] S else .rt (.bl false) S := by
  have h0 := plain_dat0 hx
  cases x with
  | tup l =>
    obtain ⟨m', rfl, hl⟩ := plain_tup hx
    match l, hl with
    | [], _ => simp [t_are_dated_b1, pairOk]
    | [a], _ => simp [t_are_dated_b1, pairOk]
    | [a, b], hl =>
      have r1 := fun S => r_is_int (n := n) (lo := 0) (hi := 1000000000) (S := S) (plain_dat0 (hl a (by simp)))
      have r2 := fun S => r_is_int (n := n) (lo := lo) (hi := hi) (S := S) (plain_dat0 (hl b (by simp)))
      have e0 : ixD S (.tup [a, b]) (.int 0) = some a := rfl
      have e1 : ixD S (.tup [a, b]) (.int 1) = some b := rfl
      cases q1 : isInt a 0 1000000000 <;> cases q2 : isInt b lo hi <;>
        simp [t_are_dated_b1, pairOk, e0, e1, r1, r2, q1, q2]
    | a :: b :: c :: r, _ =>
      have hne : ¬ ((r.length : Int) + 1 + 1 + 1 = 2) := by omega
      simp [t_are_dated_b1, pairOk, hne]
  | _ => first | (simp [dat0] at h0; done) | simp [t_are_dated_b1, pairOk]
theorem r_are_dated {n m : Nat} {v : D} {most lo hi : Int} {S : Sto} (hv : plain m v = true) (hm : most ≤ 1000) : go (n + 2) i_are_dated [v, .int most, .int lo, .int hi] S = .ok (.bl (dated most lo hi v)) S := by
  have h0 := plain_dat0 hv
  rw [go_step e_are_dated rfl]
  cases v with
  | tup l =>
    obtain ⟨m', rfl, hl⟩ := plain_tup hv
    by_cases hlen : most < (l.length : Int)
    · have : dated most lo hi (.tup l) = false := by
        have h : ¬ (l.length : Int) ≤ most := by omega
        simp [dated, datedG, h]
      simp [f_are_dated, t_are_dated, hlen, this]
    · have hlen' : (l.length : Int) ≤ most := by omega
      have hb := fors_optD (bind := asg (.nm 4)) (body := exec wrd (go (n + 1)) none t_are_dated_b1) (fun (_ : Unit) (x : Sl) => [.v (.tup l), .v (.int most), .v (.int lo), .v (.int hi), x, .un, .un]) (fun _ x => if pairOk 0 1000000000 lo hi x then some () else none) (.bl false) (S := S) (xs := l) () .un (fun _ j x hx => ⟨_, rfl, by
        have e := b_are_dated (n := n) (v := .tup l) (most := most) (lo := lo) (hi := hi) (S := S) (hl x hx)
        cases hp : pairOk 0 1000000000 lo hi x
        · rw [hp] at e; exact e
        · rw [hp] at e; exact ⟨_, e⟩⟩)
      rw [foldO_all] at hb
      simp only [f_are_dated, t_are_dated]
      simp [hlen]
      cases hall : l.all (pairOk 0 1000000000 lo hi) with
      | false =>
        rw [hall] at hb
        have hb : fors (asg (.nm 4)) (exec wrd (go (n + 1)) none t_are_dated_b1) l _ S = .rt (.bl false) S := hb
        rw [hb]
        simp [dated, datedG, hall]
      | true =>
        rw [hall] at hb
        obtain ⟨j, hb⟩ := hb
        rw [hb]
        obtain ⟨ps, rfl, hps⟩ := pairs_of hall
        simp only [List.length_map] at hlen'
        simp [dated, datedG, hall, hlen', ascD_eP, ← eP.eq_1, -List.map_tail]
        rw [comps_all (f := fun q : (Int × Int) × (Int × Int) => D.bl (decide (q.1.1 < q.2.1))) (fun q _ => ⟨_, by simp; rfl, by simp, by simp⟩) (by simp [maxLen]; omega)]
        simp [ascB]
  | _ => first | (simp [dat0] at h0; done) | simp [f_are_dated, t_are_dated, dated, datedG]
/-! ledgers -/
def ledB : D → Bool
  | .tup [a, b, c, d] => isInt d 0 1000000000 && (dated 5 1 1000000000000000000000000000000 a && dated 4 0 10000000000000000000000000000000 b && dated 4 1 1000000 c)
  | _ => false
structure L.Ok (l : L) : Prop where
  lots : Dt 5 0 1000000000 1 1000000000000000000000000000000 l.lots
  counts : Dt 4 0 1000000000 0 10000000000000000000000000000000 l.counts
  falls : Dt 4 0 1000000000 1 1000000 l.falls
  win : 0 ≤ l.win ∧ l.win ≤ 1000000000
theorem ledB_iff {d : D} : ledB d = true ↔ ∃ l : L, d = eL l ∧ l.Ok := by
  constructor
  · intro h
    unfold ledB at h
    split at h
    · simp only [Bool.and_eq_true] at h
      obtain ⟨h1, ⟨h2, h3⟩, h4⟩ := h
      obtain ⟨w, rfl, w1, w2⟩ := isInt_of h1
      obtain ⟨a, rfl, ha⟩ := datedG_iff.mp h2
      obtain ⟨b, rfl, hb⟩ := datedG_iff.mp h3
      obtain ⟨c, rfl, hc⟩ := datedG_iff.mp h4
      exact ⟨⟨a, b, c, w⟩, rfl, ha, hb, hc, w1, w2⟩
    · cases h
  · rintro ⟨l, rfl, h⟩
    have h1 : dated 5 1 1000000000000000000000000000000 (eP l.lots) = true := datedG_iff.mpr ⟨_, rfl, h.lots⟩
    have h2 : dated 4 0 10000000000000000000000000000000 (eP l.counts) = true := datedG_iff.mpr ⟨_, rfl, h.counts⟩
    have h3 : dated 4 1 1000000 (eP l.falls) = true := datedG_iff.mpr ⟨_, rfl, h.falls⟩
    have h4 : isInt (.int l.win) 0 1000000000 = true := by simp [isInt, h.win]
    unfold eL ledB
    simp only [h1, h2, h3, h4, Bool.and_true]
theorem ledB_eL {l : L} (h : l.Ok) : ledB (eL l) = true := ledB_iff.mpr ⟨l, rfl, h⟩
theorem r_is_right_ledger {n m : Nat} {v : D} {S : Sto} (hv : plain m v = true) : go (n + 3) i_is_right_ledger [v] S = .ok (.bl (ledB v)) S := by
  have h0 := plain_dat0 hv
  rw [go_step e_is_right_ledger rfl]
  cases v with
  | tup l =>
    obtain ⟨m', rfl, hl⟩ := plain_tup hv
    match l, hl with
    | [], _ => simp [f_is_right_ledger, t_is_right_ledger, ledB]
    | [a], _ => simp [f_is_right_ledger, t_is_right_ledger, ledB]
    | [a, b], _ => simp [f_is_right_ledger, t_is_right_ledger, ledB]
    | [a, b, c], _ => simp [f_is_right_ledger, t_is_right_ledger, ledB]
    | [a, b, c, d], hl =>
      have ra := fun S => r_are_dated (n := n) (most := 5) (lo := 1) (hi := 1000000000000000000000000000000) (S := S) (hl a (by simp)) (by decide)
      have rb := fun S => r_are_dated (n := n) (most := 4) (lo := 0) (hi := 10000000000000000000000000000000) (S := S) (hl b (by simp)) (by decide)
      have rc := fun S => r_are_dated (n := n) (most := 4) (lo := 1) (hi := 1000000) (S := S) (hl c (by simp)) (by decide)
      have rd := fun S => r_is_int (n := n + 1) (lo := 0) (hi := 1000000000) (S := S) (plain_dat0 (hl d (by simp)))
      have e0 : ixD S (.tup [a, b, c, d]) (.int 0) = some a := rfl
      have e1 : ixD S (.tup [a, b, c, d]) (.int 1) = some b := rfl
      have e2 : ixD S (.tup [a, b, c, d]) (.int 2) = some c := rfl
      have e3 : ixD S (.tup [a, b, c, d]) (.int 3) = some d := rfl
      cases q1 : isInt d 0 1000000000
      · simp [f_is_right_ledger, t_is_right_ledger, ledB, e3, rd, q1]
      · cases q2 : dated 5 1 1000000000000000000000000000000 a <;> cases q3 : dated 4 0 10000000000000000000000000000000 b <;>
          simp [f_is_right_ledger, t_is_right_ledger, ledB, e0, e1, e2, e3, ra, rb, rc, rd, q1, q2, q3]
    | a :: b :: c :: d :: e :: r, _ =>
      have hne : ¬ ((r.length : Int) + 1 + 1 + 1 + 1 + 1 = 4) := by omega
      simp [f_is_right_ledger, t_is_right_ledger, ledB, hne]
  | _ => first | (simp [dat0] at h0; done) | simp [f_is_right_ledger, t_is_right_ledger, ledB]
end My

/-! N3: truths and credits. -/
namespace My
open Pv
open PySem (Str)
def soldBy (s : List (Int × Int)) (day : Int) : Int := ((s.filter fun p => decide (p.1 ≤ day)).map (·.2)).sum
def leftAt (l : L) (t : List (List (Int × Int))) (day : Int) : Int := (((l.lots.zip t).filter fun q => decide (q.1.1 ≤ day)).map fun q => q.1.2 - soldBy q.2 day).sum
/-- are_sales -/
def salesB (lot : Int × Int) (v : D) : Bool := datedG 20 lot.1 2000000000 1 lot.2 v && (match v with
  | .tup l => decide ((l.map sndI).sum ≤ lot.2)
  | _ => false)
/-- a lot's sales -/
structure Sales (lot : Int × Int) (s : List (Int × Int)) : Prop where
  dt : Dt 20 lot.1 2000000000 1 lot.2 s
  sum : (s.map (·.2)).sum ≤ lot.2
theorem sndI_map {s : List (Int × Int)} : (s.map ePr).map sndI = s.map (·.2) := by rw [List.map_map]; rfl
theorem salesB_iff {lot : Int × Int} {v : D} : salesB lot v = true ↔ ∃ s, v = eP s ∧ Sales lot s := by
  unfold salesB
  rw [Bool.and_eq_true, datedG_iff]
  constructor
  · rintro ⟨⟨s, rfl, h1⟩, h2⟩
    refine ⟨s, rfl, h1, ?_⟩
    unfold eP at h2
    simpa [-List.map_map, sndI_map] using h2
  · rintro ⟨s, rfl, h1, h2⟩
    refine ⟨⟨s, rfl, h1⟩, ?_⟩
    unfold eP
    simpa [-List.map_map, sndI_map] using h2
/-- is_right_truth -/
def toS : D → List (Int × Int)
  | .tup l => l.map fun p => (fstI p, sndI p)
  | _ => []
theorem toS_eP {s : List (Int × Int)} : toS (eP s) = s := by
  unfold toS eP
  simp only [List.map_map]
  rw [show ((fun p => (fstI p, sndI p)) ∘ ePr) = id from rfl]
  simp
def truthB (l : L) (v : D) : Bool := match v with
  | .tup vs => decide (vs.length = l.lots.length) && ((l.lots.zip vs).all (fun q => salesB q.1 q.2) && l.counts.all fun c => decide (leftAt l (vs.map toS) c.1 = c.2))
  | _ => false
structure Truth (l : L) (t : List (List (Int × Int))) : Prop where
  len : t.length = l.lots.length
  sales : ∀ q ∈ l.lots.zip t, Sales q.1 q.2
  left : ∀ c ∈ l.counts, leftAt l t c.1 = c.2
theorem all_sales : ∀ {lots : List (Int × Int)} {vs : List D}, vs.length = lots.length → (lots.zip vs).all (fun q => salesB q.1 q.2) = true → ∃ t, vs = t.map eP ∧ ∀ q ∈ lots.zip t, Sales q.1 q.2
  | [], [], _, _ => ⟨[], rfl, by simp⟩
  | _ :: _, [], h, _ => by simp at h
  | [], _ :: _, h, _ => by simp at h
  | a :: as, v :: vs, hl, h => by
    simp only [List.zip_cons_cons, List.all_cons, Bool.and_eq_true] at h
    obtain ⟨s, rfl, hs⟩ := salesB_iff.mp h.1
    obtain ⟨t, rfl, ht⟩ := all_sales (by simpa using hl) h.2
    exact ⟨s :: t, rfl, fun q hq => by
      rcases List.mem_cons.mp (by simpa using hq) with e | e
      · rw [e]; exact hs
      · exact ht q e⟩
theorem map_toS {t : List (List (Int × Int))} : (t.map eP).map toS = t := by
  rw [List.map_map]
  rw [show (toS ∘ eP) = id from funext fun s => toS_eP]
  simp
theorem truthB_iff {l : L} {v : D} : truthB l v = true ↔ ∃ t, v = eT t ∧ Truth l t := by
  constructor
  · intro h
    unfold truthB at h
    split at h
    · simp only [Bool.and_eq_true, decide_eq_true_eq] at h
      obtain ⟨h1, h2, h3⟩ := h
      obtain ⟨t, rfl, ht⟩ := all_sales h1 h2
      rw [map_toS] at h3
      exact ⟨t, rfl, by simpa using h1, ht, fun c hc => by simpa using List.all_eq_true.mp h3 c hc⟩
    · cases h
  · rintro ⟨t, rfl, h⟩
    unfold eT truthB
    simp only [Bool.and_eq_true, decide_eq_true_eq, map_toS]
    refine ⟨by simpa using h.len, List.all_eq_true.mpr fun q hq => ?_, List.all_eq_true.mpr fun c hc => decide_eq_true (h.left c hc)⟩
    rw [List.zip_map_right] at hq
    obtain ⟨p, hp, rfl⟩ := List.mem_map.mp hq
    exact salesB_iff.mpr ⟨_, rfl, h.sales p hp⟩
theorem truthB_eT {l : L} {t : List (List (Int × Int))} (h : Truth l t) : truthB l (eT t) = true := truthB_iff.mpr ⟨t, rfl, h⟩
theorem mem_zip_right {α β : Type} : ∀ {as : List α} {bs : List β}, bs.length = as.length → ∀ b ∈ bs, ∃ a, (a, b) ∈ as.zip bs
  | [], [], _, b, h => by simp at h
  | _ :: _, [], h, _, _ => by simp at h
  | [], _ :: _, h, _, _ => by simp at h
  | a :: as, c :: bs, hl, b, h => by
    rcases List.mem_cons.mp h with e | e
    · exact ⟨a, by rw [e]; simp⟩
    · obtain ⟨x, hx⟩ := mem_zip_right (by simpa using hl) b e
      exact ⟨x, by simp [hx]⟩
/-! credits -/
/-- a fall that a piece has the credit of -/
def credP (l : L) (b : Int) (s : Option Int) (p : Int × Int) : Bool := decide (b ≤ p.1) && (decide (p.1 ≤ b + l.win) && (match s with
  | none => true
  | some d => decide (p.1 < d)))
def creditOf (l : L) (b : Int) (s : Option Int) : Int := ((l.falls.filter (credP l b s)).map (·.2)).sum
theorem r_credit_of {n : Nat} {l : L} {b : Int} {s : Option Int} {S : Sto} (hl : l.falls.length ≤ maxLen) : go (n + 1) i_credit_of [eL l, .int b, eO s] S = .ok (.int (creditOf l b s)) S := by
  rw [go_step e_credit_of rfl]
  simp [f_credit_of, t_credit_of]
  rw [comps_fil (p := credP l b s) (f := fun p => .int p.2) (fun p hp => ⟨_, by simp; rfl, by
    by_cases h1 : b ≤ p.1 <;> by_cases h2 : p.1 ≤ b + l.win <;> cases s <;> simp [h1, h2, eO, credP], by simp⟩) hl]
  simp [creditOf]
theorem sum_bound {α : Type} {f : α → Int} {m : Int} : ∀ {l : List α}, (∀ x ∈ l, 0 ≤ f x ∧ f x ≤ m) → 0 ≤ (l.map f).sum ∧ (l.map f).sum ≤ l.length * m
  | [], _ => by simp
  | x :: xs, h => by
    have h1 := h x (by simp)
    have h2 := sum_bound (l := xs) fun y hy => h y (by simp [hy])
    simp only [List.map_cons, List.sum_cons, List.length_cons]
    rw [show ((xs.length + 1 : Nat) : Int) * m = xs.length * m + m by rw [Int.natCast_add, Int.add_mul]; simp]
    omega
theorem credit_bound {l : L} (h : l.Ok) {b : Int} {s : Option Int} : 0 ≤ creditOf l b s ∧ creditOf l b s ≤ 4000000 := by
  unfold creditOf
  have h4 := h.falls.len
  have := sum_bound (f := fun p : Int × Int => p.2) (m := 1000000) (l := l.falls.filter (credP l b s)) fun p hp => by
    have := h.falls.rng p (List.mem_filter.mp hp).1
    omega
  have hl := List.length_filter_le (credP l b s) l.falls
  refine ⟨this.1, Int.le_trans this.2 ?_⟩
  have : ((l.falls.filter (credP l b s)).length : Int) ≤ 4 := by omega
  exact Int.mul_le_mul_of_nonneg_right this (by decide)
theorem mul_credit {l : L} (h : l.Ok) {b : Int} {s : Option Int} {i : Int} : mulOk i (creditOf l b s) = true := by
  have := credit_bound h (b := b) (s := s)
  exact mulOk_r (by omega)
def creditWith (l : L) (t : List (List (Int × Int))) : Int := (l.lots.zip t).foldl (fun s q => s + (q.1.2 - (q.2.map (·.2)).sum) * creditOf l q.1.1 none + (q.2.map fun p => p.2 * creditOf l q.1.1 (some p.1)).sum) 0
/-! stretches -/
def spansL (l : L) : List (Int × Option Int) := (0 :: l.counts.map fun c => c.1 + 1).zip ((l.counts.map fun c => some c.1) ++ [none])
theorem r_stretches_of {n : Nat} {l : L} {S : Sto} (hl : l.counts.length ≤ 1000) : go (n + 1) i_stretches_of [eL l] S = .ok (.lst ((spansL l).map eS)) S := by
  rw [go_step e_stretches_of rfl]
  have hm : l.counts.length ≤ maxLen := by unfold maxLen; omega
  have h2 : lenOk (1 + l.counts.length) = true := by unfold lenOk maxLen; exact decide_eq_true (by omega)
  have h3 : lenOk (l.counts.length + 1) = true := by unfold lenOk maxLen; exact decide_eq_true (by omega)
  simp [f_stretches_of, t_stretches_of]
  rw [comps_all (f := fun p : Int × Int => D.int p.1) (fun p _ => ⟨_, by simp; rfl, by simp, by simp⟩) hm]
  simp
  have e : (l.counts.map fun p => D.int p.1) = (l.counts.map (·.1)).map .int := by simp
  rw [e, comps_all (f := fun p : Int => D.int (p + 1)) (fun p _ => ⟨_, by simp; rfl, by simp, by simp⟩) (by simpa using hm)]
  simp [h2, h3]
  have e1 : D.int 0 :: (l.counts.map ((fun p => D.int (p + 1)) ∘ fun x => x.1)) = (0 :: l.counts.map fun c => c.1 + 1).map .int := by simp
  have e2 : (l.counts.map (D.int ∘ fun x => x.1)) ++ [D.non] = ((l.counts.map fun c : Int × Int => some c.1) ++ [none]).map eO := by
    simp only [List.map_append, List.map_map, List.map_cons, List.map_nil]
    rfl
  rw [e1, e2, zipE]
  rfl
def inS (s : Int × Option Int) (p : Int × Int) : Bool := decide (s.1 ≤ p.1) && (match s.2 with
  | none => true
  | some d => decide (p.1 ≤ d))
def boughtIn (l : L) (s : Int × Option Int) : Int := ((l.lots.filter (inS s)).map (·.2)).sum
theorem r_bought_in {n : Nat} {l : L} {s : Int × Option Int} {S : Sto} (hl : l.lots.length ≤ maxLen) : go (n + 1) i_bought_in [eL l, eS s] S = .ok (.int (boughtIn l s)) S := by
  rw [go_step e_bought_in rfl]
  simp [f_bought_in, t_bought_in]
  rw [comps_fil (p := inS s) (f := fun p => .int p.2) (fun p hp => ⟨_, by simp; rfl, by
    by_cases h1 : s.1 ≤ p.1 <;> cases h : s.2 <;> simp [h1, h, eO, inS], by simp⟩) hl]
  simp [boughtIn]
def numsGo (l : L) : Int → List ((Int × Option Int) × Int) → List Int
  | _, [] => []
  | left, q :: r => (left + boughtIn l q.1 - q.2) :: numsGo l q.2 r
def nums (l : L) : List Int := numsGo l 0 ((spansL l).zip (l.counts.map (·.2) ++ [0]))
theorem foldl_nums {l : L} : ∀ (qs : List ((Int × Option Int) × Int)) (left : Int) (f : List Int), (qs.foldl (fun (s : Int × List Int) q => (q.2, s.2 ++ [s.1 + boughtIn l q.1 - q.2])) (left, f)).2 = f ++ numsGo l left qs
  | [], _, f => by simp [numsGo]
  | q :: r, left, f => by
    simp only [List.foldl_cons, numsGo]
    rw [foldl_nums r]
    simp
theorem numsGo_len {l : L} : ∀ {qs : List ((Int × Option Int) × Int)} {left : Int}, (numsGo l left qs).length = qs.length
  | [], _ => rfl
  | q :: r, _ => by simp [numsGo, numsGo_len (qs := r)]
theorem spansL_len {l : L} : (spansL l).length = l.counts.length + 1 := by simp [spansL]
theorem nums_len {l : L} : (nums l).length = l.counts.length + 1 := by simp [nums, numsGo_len, spansL_len]
theorem b_numbers_of {n : Nat} {l : L} {S : Sto} (hl : l.lots.length ≤ maxLen) {left : Int} {f : List Int} {q : (Int × Option Int) × Int} {s5 s6 : Sl} (hf : f.length + 1 ≤ maxLen) :
    exec wrd (go (n + 1)) none t_numbers_of_b1 [.v (eL l), .v (.int left), .v (.lst (f.map .int)), .v (eS q.1), .v (.int q.2), s5, s6] S =
      .nx [.v (eL l), .v (.int q.2), .v (.lst ((f ++ [left + boughtIn l q.1 - q.2]).map .int)), .v (eS q.1), .v (.int q.2), s5, s6] S := by
  simp [t_numbers_of_b1, r_bought_in hl, lenOk_of hf]
theorem r_numbers_of {n : Nat} {l : L} {S : Sto} (hl : l.lots.length ≤ maxLen) (hc : l.counts.length ≤ 1000) : go (n + 2) i_numbers_of [eL l] S = .ok (.lst ((nums l).map .int)) S := by
  rw [go_step e_numbers_of rfl]
  have h3 : lenOk (l.counts.length + 1) = true := by unfold lenOk maxLen; exact decide_eq_true (by omega)
  simp [f_numbers_of, t_numbers_of, r_stretches_of hc]
  rw [comps_all (f := fun p : Int × Int => D.int p.2) (fun p _ => ⟨_, by simp; rfl, by simp, by simp⟩) (by unfold maxLen; omega)]
  simp [h3]
  have e2 : (l.counts.map fun p => D.int p.2) ++ [D.int 0] = ((l.counts.map fun c : Int × Int => c.2) ++ [0]).map .int := by simp
  rw [e2, zipE]
  obtain ⟨j, e⟩ := fors_foldI (α := (Int × Option Int) × Int) (bind := asg (.tup (.cons (.nm 3) (.cons (.nm 4) .nil)))) (body := exec wrd (go (n + 1)) none t_numbers_of_b1) (enc := fun p => D.tup [eS p.1, .int p.2])
    (fun (s : Int × List Int) (j : Sl × Sl × Sl × Sl) => [.v (eL l), .v (.int s.1), .v (.lst (s.2.map .int)), j.1, j.2.1, j.2.2.1, j.2.2.2])
    (fun s q => (q.2, s.2 ++ [s.1 + boughtIn l q.1 - q.2])) (fun s k => s.2.length + k ≤ 2000) (S := S) (xs := (spansL l).zip (l.counts.map (·.2) ++ [0])) (0, []) (.un, .un, .un, .un) (by simp [spansL_len]; omega) (fun s j q k hq hi => ⟨_, by simp; rfl, by simp at hi ⊢; omega, ⟨_, _, _, _⟩, by
      rw [b_numbers_of hl (by unfold maxLen; omega)]⟩)
  simp only [List.map_nil] at e
  rw [e, foldl_nums]
  simp [nums]
def hasTr (l : L) : Bool := (nums l).all fun x => decide (0 ≤ x)
/-! the errors -/
theorem r_need_ledger {n m : Nat} {v : D} {S : Sto} (hv : plain m v = true) : go (n + 4) i_need_ledger [v] S = if ledB v then .ok .non S else .exc c_InvalidLedger S := by
  rw [go_step e_need_ledger rfl]
  cases h : ledB v <;> simp [f_need_ledger, t_need_ledger, r_is_right_ledger hv, h]
theorem Truth.lens {l : L} {t : List (List (Int × Int))} (h : Truth l t) : ∀ s ∈ t, s.length ≤ maxLen := fun s hs => by
  obtain ⟨a, ha⟩ := mem_zip_right h.len s hs
  have := (h.sales _ ha).dt.len
  unfold maxLen
  simp only at this
  omega
end My

/-! N4: the law's own readings of ledgers and truths. -/
namespace My
open Pv
open PySem (Str)
theorem r_law_whole {n : Nat} {d : D} {lo hi : Int} {S : Sto} (hd : dat0 d = true) : go (n + 1) i_law_whole [d, .int lo, .int hi] S = .ok (.bl (isInt d lo hi)) S := by
  rw [go_step e_law_whole rfl]
  cases d with
  | int i =>
    by_cases h1 : lo ≤ i <;> by_cases h2 : i ≤ hi <;>
      simp [f_law_whole, t_law_whole, isInt, h1, h2]
  | _ => first | (simp [dat0] at hd; done) | simp [f_law_whole, t_law_whole, isInt]
/-! spans -/
def spansGo : Int → List (Int × Int) → List (Int × Option Int)
  | first, [] => [(first, none)]
  | first, c :: r => (first, some c.1) :: spansGo (c.1 + 1) r
theorem spansGo_spansL : ∀ (cs : List (Int × Int)) (f : Int), spansGo f cs = (f :: cs.map fun c => c.1 + 1).zip ((cs.map fun c => some c.1) ++ [none])
  | [], f => rfl
  | c :: r, f => by
    rw [spansGo, spansGo_spansL r]
    rfl
theorem foldl_spans : ∀ (cs : List (Int × Int)) (s : Int × List (Int × Option Int)), (let r := cs.foldl (fun (s : Int × List (Int × Option Int)) c => (c.1 + 1, s.2 ++ [(s.1, some c.1)])) s; r.2 ++ [(r.1, none)]) = s.2 ++ spansGo s.1 cs
  | [], s => rfl
  | c :: r, s => by
    simp only [List.foldl_cons]
    have := foldl_spans r (c.1 + 1, s.2 ++ [(s.1, some c.1)])
    simp only at this
    rw [this]
    simp [spansGo]
theorem foldl_spans_len : ∀ (cs : List (Int × Int)) (s : Int × List (Int × Option Int)), (cs.foldl (fun (s : Int × List (Int × Option Int)) c => (c.1 + 1, s.2 ++ [(s.1, some c.1)])) s).2.length = s.2.length + cs.length
  | [], s => rfl
  | c :: r, s => by
    simp only [List.foldl_cons, foldl_spans_len r, List.length_append, List.length_cons, List.length_nil]
    omega
theorem r_law_spans {n : Nat} {l : L} {S : Sto} (hl : l.counts.length ≤ 1000) : go (n + 1) i_law_spans [eL l] S = .ok (.lst ((spansL l).map eS)) S := by
  rw [go_step e_law_spans rfl]
  simp [f_law_spans, t_law_spans]
  obtain ⟨j, e⟩ := fors_foldI (α := Int × Int) (bind := asg (.tup (.cons (.nm 3) (.cons (.nm 4) .nil)))) (body := exec wrd (go n) none t_law_spans_b1) (enc := ePr)
    (fun (s : Int × List (Int × Option Int)) (j : Sl × Sl) => [.v (eL l), .v (.int s.1), .own (s.2.map eS), j.1, j.2])
    (fun s c => (c.1 + 1, s.2 ++ [(s.1, some c.1)])) (fun s k => s.2.length + k ≤ 2000) (S := S) (xs := l.counts) (0, []) (.un, .un) (by simp; omega) (fun s j c k hc hi => ⟨_, by simp; rfl, by simp at hi ⊢; omega, ⟨_, _⟩, by
      have hk : lenOk (s.2.length + 1) = true := lenOk_of (by unfold maxLen; omega)
      simp [t_law_spans_b1, hk, eS, eO]; exact ⟨rfl, rfl⟩⟩)
  simp only [List.map_nil] at e
  rw [e]
  have h1 := foldl_spans l.counts (0, [])
  have h2 := foldl_spans_len l.counts (0, [])
  generalize l.counts.foldl (fun (s : Int × List (Int × Option Int)) c => (c.1 + 1, s.2 ++ [(s.1, some c.1)])) (0, []) = r at h1 h2
  have h3 : lenOk (r.2.length + 1) = true := lenOk_of (by unfold maxLen; simp at h2; omega)
  simp [h3]
  have h4 : spansL l = r.2 ++ [(r.1, none)] := by
    simp only [List.nil_append] at h1
    rw [h1, spansGo_spansL]
    rfl
  rw [h4]
  simp [eS, eO]
/-! numbers -/
theorem foldl_zipIdx_zip {α β σ : Type} {F : σ → α → β → σ} {g : Nat → β} : ∀ {xs : List α} {ys : List β} {k : Nat} {s : σ}, xs.length = ys.length → (∀ i (h : i < ys.length), g (k + i) = ys[i]) → (xs.zipIdx k).foldl (fun s p => F s p.1 (g p.2)) s = (xs.zip ys).foldl (fun s q => F s q.1 q.2) s
  | [], [], _, _, _, _ => rfl
  | _ :: _, [], _, _, h, _ => by simp at h
  | [], _ :: _, _, _, h, _ => by simp at h
  | x :: xs, y :: ys, k, s, h, hg => by
    simp only [List.zipIdx_cons, List.foldl_cons, List.zip_cons_cons]
    have h0 := hg 0 (by simp)
    simp only [Nat.add_zero, List.getElem_cons_zero] at h0
    rw [h0]
    exact foldl_zipIdx_zip (by simpa using h) fun i hi => by
      have := hg (i + 1) (by simpa using hi)
      simp only [List.getElem_cons_succ] at this
      rw [← this, show k + 1 + i = k + (i + 1) by omega]
def countAt (l : L) (k : Nat) : Int := match l.counts[k]? with
  | some c => c.2
  | none => 0
theorem b_law_numbers {n : Nat} {l : L} {S : Sto} (hl : l.lots.length ≤ maxLen) {rest : Int} {f : List Int} {sp : Int × Option Int} {k : Nat} {s5 s6 s7 s8 : Sl} (hf : f.length + 1 ≤ maxLen) :
    exec wrd (go (n + 1)) none t_law_numbers_b1 [.v (eL l), .v (.int rest), .own (f.map .int), .v (.int k), .v (eS sp), s5, s6, s7, s8] S =
      .nx [.v (eL l), .v (.int (countAt l k)), .own ((f ++ [rest + boughtIn l sp - countAt l k]).map .int), .v (.int k), .v (eS sp), .v (.lst ((l.lots.filter (inS sp)).map fun p => .int p.2)), .v (.int (countAt l k)), s7, s8] S := by
  have h2 := lenOk_of hf
  simp [t_law_numbers_b1]
  rw [comps_fil (p := inS sp) (f := fun p => .int p.2) (fun p hp => ⟨_, by simp; rfl, by
    by_cases h1 : sp.1 ≤ p.1 <;> cases h : sp.2 <;> simp [h1, h, eO, inS], by simp⟩) hl]
  by_cases hk : k < l.counts.length
  · have hk' : (k : Int) < l.counts.length := by omega
    have e1 : ixD S (eP l.counts) (.int k) = some (ePr l.counts[k]) := by
      unfold eP
      rw [ixD_tup (by simpa using hk)]
      simp
    have e2 : countAt l k = l.counts[k].2 := by simp [countAt, hk]
    simp [hk', hk, e1, e2, h2, boughtIn]
  · have hk' : ¬ (k : Int) < l.counts.length := by omega
    have e2 : countAt l k = 0 := by simp [countAt, hk]
    simp [hk', hk, e2, h2, boughtIn]
theorem r_law_numbers {n : Nat} {l : L} {S : Sto} (hl : l.lots.length ≤ maxLen) (hc : l.counts.length ≤ 1000) : go (n + 2) i_law_numbers [eL l] S = .ok (.lst ((nums l).map .int)) S := by
  rw [go_step e_law_numbers rfl]
  simp [f_law_numbers, t_law_numbers, r_law_spans hc]
  obtain ⟨j, e⟩ := fors_foldI (α := (Int × Option Int) × Nat) (bind := asg (.tup (.cons (.nm 3) (.cons (.nm 4) .nil)))) (body := exec wrd (go (n + 1)) none t_law_numbers_b1) (enc := fun p => D.tup [.int p.2, eS p.1])
    (fun (s : Int × List Int) (j : Sl × Sl × Sl × Sl × Sl × Sl) => [.v (eL l), .v (.int s.1), .own (s.2.map .int), j.1, j.2.1, j.2.2.1, j.2.2.2.1, j.2.2.2.2.1, j.2.2.2.2.2])
    (fun s p => (countAt l p.2, s.2 ++ [s.1 + boughtIn l p.1 - countAt l p.2])) (fun s k => s.2.length + k ≤ 2000) (S := S) (xs := (spansL l).zipIdx) (0, []) (.un, .un, .un, .un, .un, .un) (by simp [spansL_len]; omega) (fun s j q k hq hi => ⟨_, by simp; rfl, by simp at hi ⊢; omega, by
      have e := b_law_numbers (n := n) (S := S) (l := l) (rest := s.1) (f := s.2) (sp := q.1) (k := q.2) (s5 := j.2.2.1) (s6 := j.2.2.2.1) (s7 := j.2.2.2.2.1) (s8 := j.2.2.2.2.2) hl (by unfold maxLen; omega)
      exact ⟨(_, _, _, _, _, _), e⟩⟩)
  simp only [List.map_nil] at e
  rw [e]
  rw [foldl_zipIdx_zip (F := fun (s : Int × List Int) sp c => (c, s.2 ++ [s.1 + boughtIn l sp - c])) (g := countAt l) (ys := l.counts.map (·.2) ++ [0]) (by simp [spansL_len]) (fun i hi => by
    simp only [Nat.zero_add, List.getElem_append, List.getElem_map, List.length_map]
    unfold countAt
    by_cases h : i < l.counts.length
    · rw [List.getElem?_eq_getElem h, dif_pos h]
    · rw [List.getElem?_eq_none (by omega), dif_neg h]
      simp at hi
      simp [show i - l.counts.length = 0 by omega])]
  rw [foldl_nums]
  simp [nums]
/-! gain and sum -/
theorem r_law_gain {n : Nat} {l : L} {b : Int} {s : Option Int} {S : Sto} : go (n + 1) i_law_gain [eL l, .int b, eO s] S = .ok (.int (creditOf l b s)) S := by
  rw [go_step e_law_gain rfl]
  simp [f_law_gain, t_law_gain]
  obtain ⟨j, e⟩ := fors_fold (α := Int × Int) (bind := asg (.tup (.cons (.nm 4) (.cons (.nm 5) .nil)))) (body := exec wrd (go n) none t_law_gain_b1) (enc := ePr)
    (fun (t : Int) (j : Sl × Sl) => [.v (eL l), .v (.int b), .v (eO s), .v (.int t), j.1, j.2])
    (fun t p => if credP l b s p then t + p.2 else t) (S := S) (xs := l.falls) 0 (.un, .un) (fun t j p hp => ⟨_, by simp; rfl, ⟨.v (.int p.1), .v (.int p.2)⟩, by
      have e : (p.1 - b ≤ l.win) = (p.1 ≤ b + l.win) := propext ⟨fun h => by omega, fun h => by omega⟩
      by_cases h1 : b ≤ p.1 <;> by_cases h2 : p.1 ≤ b + l.win <;> cases s with
      | none => simp [t_law_gain_b1, credP, eO, h1, h2, e]
      | some d => by_cases h3 : p.1 < d <;> simp [t_law_gain_b1, credP, eO, h1, h2, h3, e]⟩)
  rw [e]
  have : ∀ (ps : List (Int × Int)) (t : Int), ps.foldl (fun t p => if credP l b s p then t + p.2 else t) t = t + ((ps.filter (credP l b s)).map (·.2)).sum := by
    intro ps
    induction ps with
    | nil => intro t; simp
    | cons p r ih =>
      intro t
      simp only [List.foldl_cons, List.filter_cons]
      rw [ih]
      cases credP l b s p <;> simp
      omega
  rw [this]
  simp [creditOf]
theorem r_law_sum {n : Nat} {l : L} {t : List (List (Int × Int))} {S : Sto} (h : l.Ok) : go (n + 2) i_law_sum [eL l, eT t] S = .ok (.int (creditWith l t)) S := by
  rw [go_step e_law_sum rfl]
  simp [f_law_sum, t_law_sum]
  have r0 : ∀ (b : Int) S, go (n + 1) i_law_gain [eL l, .int b, .non] S = .ok (.int (creditOf l b none)) S := fun b S => r_law_gain (s := none)
  have r1 : ∀ (b d : Int) S, go (n + 1) i_law_gain [eL l, .int b, .int d] S = .ok (.int (creditOf l b (some d))) S := fun b d S => r_law_gain (s := some d)
  have fo : ∀ (b : Int) (ps : List (Int × Int)) (tot rest : Int), ps.foldl (fun (s : Int × Int) p => (s.1 + p.2 * creditOf l b (some p.1), s.2 - p.2)) (tot, rest) = (tot + (ps.map fun p => p.2 * creditOf l b (some p.1)).sum, rest - (ps.map (·.2)).sum) := by
    intro b ps
    induction ps with
    | nil => intro tot rest; simp
    | cons p r ih =>
      intro tot rest
      simp only [List.foldl_cons, ih, List.map_cons, List.sum_cons]
      congr 1 <;> omega
  obtain ⟨j, e⟩ := fors_fold (α := (Int × Int) × List (Int × Int)) (bind := asg (.tup (.cons (.nm 3) (.cons (.nm 4) .nil)))) (body := exec wrd (go (n + 1)) none t_law_sum_b1) (enc := fun p => D.tup [ePr p.1, eP p.2])
    (fun (s : Int) (j : Sl × Sl × Sl × Sl × Sl) => [.v (eL l), .v (eT t), .v (.int s), j.1, j.2.1, j.2.2.1, j.2.2.2.1, j.2.2.2.2])
    (fun s q => s + (q.1.2 - (q.2.map (·.2)).sum) * creditOf l q.1.1 none + (q.2.map fun p => p.2 * creditOf l q.1.1 (some p.1)).sum) (S := S) (xs := l.lots.zip t) 0 (.un, .un, .un, .un, .un) (fun s j q hq => ⟨_, by simp; rfl, by
      obtain ⟨j2, e2⟩ := fors_fold (α := Int × Int) (bind := asg (.tup (.cons (.nm 6) (.cons (.nm 7) .nil)))) (body := exec wrd (go (n + 1)) none t_law_sum_b2) (enc := ePr)
        (fun (s : Int × Int) (j : Sl × Sl) => [.v (eL l), .v (eT t), .v (.int s.1), .v (ePr q.1), .v (eP q.2), .v (.int s.2), j.1, j.2])
        (fun (s : Int × Int) p => (s.1 + p.2 * creditOf l q.1.1 (some p.1), s.2 - p.2)) (S := S) (xs := q.2) (s, q.1.2) (j.2.2.2.1, j.2.2.2.2) (fun s j p hp => ⟨_, by simp; rfl, ⟨.v (.int p.1), .v (.int p.2)⟩, by
          simp [t_law_sum_b2, r1, bin_mul (mul_credit h)]⟩)
      rw [fo] at e2
      refine ⟨⟨.v (ePr q.1), .v (eP q.2), .v (.int (q.1.2 - (q.2.map (·.2)).sum)), j2.1, j2.2⟩, ?_⟩
      simp [t_law_sum_b1, e2, r0, bin_mul (mul_credit h)]
      omega⟩)
  rw [e]
  simp [creditWith]
/-! truths, read by the law -/
def val : D → Int
  | .int i => i
  | _ => 0
def chSt (s : Int × Int) : D → Option (Int × Int)
  | .tup [a, b] => if isInt a (s.1 + 1) 2000000000 && isInt b 1 s.2 then some (val a, s.2 - val b) else none
  | _ => none
theorem ascB_cons {p q : Int × Int} {r : List (Int × Int)} : ascB (p :: q :: r) = (decide (p.1 < q.1) && ascB (q :: r)) := rfl
/-- ascending from b on -/
def ascF : Int → List (Int × Int) → Prop
  | _, [] => True
  | b, p :: r => b < p.1 ∧ ascF p.1 r
theorem ascF_iff : ∀ {r : List (Int × Int)} {p : Int × Int}, ascF p.1 r ↔ ascB (p :: r) = true
  | [], p => by simp [ascF, ascB]
  | q :: r, p => by
    rw [ascB_cons, Bool.and_eq_true, decide_eq_true_eq, ← ascF_iff]
    rfl
theorem ascF_ge : ∀ {r : List (Int × Int)} {b : Int}, ascF b r → ∀ p ∈ r, b < p.1
  | [], _, _, p, hp => by simp at hp
  | q :: r, b, h, p, hp => by
    rcases List.mem_cons.mp hp with e | e
    · rw [e]; exact h.1
    · have := ascF_ge h.2 p e
      have := h.1
      omega
theorem ascF_of {r : List (Int × Int)} {b : Int} (h1 : ascB r = true) (h2 : ∀ p ∈ r, b < p.1) : ascF b r := by
  cases r with
  | nil => trivial
  | cons q r => exact ⟨h2 q (by simp), ascF_iff.mpr h1⟩
theorem ascB_of {r : List (Int × Int)} {b : Int} (h : ascF b r) : ascB r = true := by
  cases r with
  | nil => rfl
  | cons q r => exact ascF_iff.mp h.2
theorem foldO_ch : ∀ {l : List D} {b r : Int} {s : Int × Int}, foldO chSt (b, r) l = some s → ∃ ps, l = ps.map ePr ∧ ascF b ps ∧ (∀ p ∈ ps, p.1 ≤ 2000000000 ∧ 1 ≤ p.2) ∧ (ps.map (·.2)).sum ≤ max r 0
  | [], b, r, s, h => ⟨[], rfl, trivial, by simp, by simp; omega⟩
  | x :: xs, b, r, s, h => by
    simp only [foldO] at h
    cases hc : chSt (b, r) x with
    | none => rw [hc] at h; simp at h
    | some s' =>
      rw [hc] at h
      unfold chSt at hc
      split at hc
      · rename_i a c
        split at hc
        · rename_i hh
          rw [Bool.and_eq_true] at hh
          obtain ⟨i, rfl, i1, i2⟩ := isInt_of hh.1
          obtain ⟨k, rfl, k1, k2⟩ := isInt_of hh.2
          cases hc
          obtain ⟨ps, rfl, h1, h2, h3⟩ := foldO_ch h
          refine ⟨(i, k) :: ps, rfl, ⟨by simp only at i1 ⊢; omega, h1⟩, fun p hp => ?_, ?_⟩
          · rcases List.mem_cons.mp hp with e | e
            · rw [e]; exact ⟨i2, k1⟩
            · exact h2 p e
          · simp only [List.map_cons, List.sum_cons]
            simp only [val] at h3
            simp only at k2
            omega
        · cases hc
      · cases hc
theorem sum_nonneg : ∀ {l : List Int}, (∀ x ∈ l, 0 ≤ x) → 0 ≤ l.sum
  | [], _ => by simp
  | x :: xs, h => by
    have h1 := h x (by simp)
    have h2 := sum_nonneg (l := xs) fun y hy => h y (by simp [hy])
    simp only [List.sum_cons]
    omega
theorem foldO_ch_of : ∀ {ps : List (Int × Int)} {b r : Int}, ascF b ps → (∀ p ∈ ps, p.1 ≤ 2000000000 ∧ 1 ≤ p.2) → (ps.map (·.2)).sum ≤ r → ∃ s, foldO chSt (b, r) (ps.map ePr) = some s
  | [], b, r, _, _, _ => ⟨_, rfl⟩
  | p :: ps, b, r, h1, h2, h3 => by
    simp only [List.map_cons, List.sum_cons] at h3
    have q := h2 p (by simp)
    have h0 := h1.1
    have hs : 0 ≤ (ps.map (·.2)).sum := sum_nonneg fun x hx => by
      obtain ⟨y, hy, rfl⟩ := List.mem_map.mp hx
      have := h2 y (by simp [hy])
      omega
    have e : chSt (b, r) (ePr p) = some (p.1, r - p.2) := by
      unfold chSt ePr
      have c1 : isInt (.int p.1) (b + 1) 2000000000 = true := isInt_mk (by omega) q.1
      have c2 : isInt (.int p.2) 1 r = true := isInt_mk q.2 (by omega)
      simp only [c1, c2, Bool.and_true, if_true, val]
    obtain ⟨s, hs⟩ := foldO_ch_of (b := p.1) (r := r - p.2) h1.2 (fun p hp => h2 p (by simp [hp])) (by omega)
    refine ⟨s, ?_⟩
    simp only [List.map_cons, foldO, e, Option.bind_some]
    exact hs
/-- the chain is the lot's sales -/
theorem ch_sales {lot : Int × Int} {l : List D} (hl : 1 ≤ lot.2) (h20 : l.length ≤ 20) : (foldO chSt (lot.1 - 1, lot.2) l).isSome = salesB lot (.tup l) := by
  rw [Bool.eq_iff_iff, salesB_iff, Option.isSome_iff_exists]
  constructor
  · rintro ⟨s, h⟩
    obtain ⟨ps, rfl, h1, h2, h3⟩ := foldO_ch h
    refine ⟨ps, rfl, ⟨by simp at h20; omega, fun p hp => ?_, ascB_of h1⟩, by omega⟩
    have a := ascF_ge h1 p hp
    have b := h2 p hp
    refine ⟨by omega, b.1, b.2, ?_⟩
    have : ∀ (ps : List (Int × Int)), (∀ p ∈ ps, 1 ≤ p.2) → p ∈ ps → p.2 ≤ (ps.map (·.2)).sum := by
      intro ps
      induction ps with
      | nil => intro _ h; simp at h
      | cons q r ih =>
        intro h hp
        have h0 : 0 ≤ (r.map (·.2)).sum := sum_nonneg fun x hx => by
          obtain ⟨y, hy, rfl⟩ := List.mem_map.mp hx
          have := h y (by simp [hy])
          omega
        simp only [List.map_cons, List.sum_cons]
        rcases List.mem_cons.mp hp with e | e
        · rw [e]; omega
        · have := ih (fun p hp => h p (by simp [hp])) e
          have := h q (by simp)
          omega
    have := this ps (fun p hp => (h2 p hp).2) hp
    omega
  · rintro ⟨ps, e, h⟩
    unfold eP at e
    injection e with e
    subst e
    refine foldO_ch_of (ascF_of h.dt.asc fun p hp => ?_) (fun p hp => ?_) h.sum
    · have := h.dt.rng p hp
      omega
    · have := h.dt.rng p hp
      omega
theorem b_law_is_truth2 {n m : Nat} {x a v c d : D} {s : Int × Int} {s5 s6 s7 s10 s11 : Sl} {S : Sto} (hx : plain m x = true) :
    match chSt s x with
    | some s' => exec wrd (go (n + 1)) none t_law_is_truth_b2 [.v a, .v v, .v c, .v d, .v x, s5, s6, s7, .v (.int s.1), .v (.int s.2), s10, s11] S = .nx [.v a, .v v, .v c, .v d, .v x, s5, s6, s7, .v (.int s'.1), .v (.int s'.2), s10, s11] S
    | none => exec wrd (go (n + 1)) none t_law_is_truth_b2 [.v a, .v v, .v c, .v d, .v x, s5, s6, s7, .v (.int s.1), .v (.int s.2), s10, s11] S = .rt (.bl false) S := by
  have h0 := plain_dat0 hx
  have m2 : binD .mul (.int 2) (.int 1000000000) = some (.int 2000000000) := bin_mul (by decide)
  cases x with
  | tup l =>
    obtain ⟨m', rfl, hl⟩ := plain_tup hx
    match l, hl with
    | [], _ => simp [t_law_is_truth_b2, chSt]
    | [a], _ => simp [t_law_is_truth_b2, chSt]
    | [a, b], hl =>
      have r1 := fun S => r_law_whole (n := n) (lo := s.1 + 1) (hi := 2000000000) (S := S) (plain_dat0 (hl a (by simp)))
      have r2 := fun S => r_law_whole (n := n) (lo := 1) (hi := s.2) (S := S) (plain_dat0 (hl b (by simp)))
      have e0 : ixD S (.tup [a, b]) (.int 0) = some a := rfl
      have e1 : ixD S (.tup [a, b]) (.int 1) = some b := rfl
      cases q1 : isInt a (s.1 + 1) 2000000000
      · simp [t_law_is_truth_b2, chSt, e0, e1, r1, r2, q1, m2]
      · cases q2 : isInt b 1 s.2
        · simp [t_law_is_truth_b2, chSt, e0, e1, r1, r2, q1, q2, m2]
        · obtain ⟨i, rfl, _, _⟩ := isInt_of q1
          obtain ⟨k, rfl, _, _⟩ := isInt_of q2
          simp [t_law_is_truth_b2, chSt, e0, e1, r1, r2, q1, q2, val, m2]
    | a :: b :: c :: r, _ =>
      have hne : ¬ ((r.length : Int) + 1 + 1 + 1 = 2) := by omega
      simp [t_law_is_truth_b2, chSt, hne]
  | _ => first | (simp [dat0] at h0; done) | simp [t_law_is_truth_b2, chSt]
theorem b_law_is_truth1 {n m : Nat} {l : L} {v w : D} {lot : Int × Int} {s4 s5 s6 s7 s8 s9 s10 s11 : Sl} {S : Sto} (h1 : 1 ≤ lot.2) (hw : plain m w = true) :
    match (if salesB lot w then some () else none) with
    | some _ => ∃ j : Sl × Sl × Sl, exec wrd (go (n + 1)) none t_law_is_truth_b1 [.v (eL l), .v v, .v (ePr lot), .v w, s4, s5, s6, s7, s8, s9, s10, s11] S = .nx [.v (eL l), .v v, .v (ePr lot), .v w, j.1, s5, s6, s7, j.2.1, j.2.2, s10, s11] S
    | none => exec wrd (go (n + 1)) none t_law_is_truth_b1 [.v (eL l), .v v, .v (ePr lot), .v w, s4, s5, s6, s7, s8, s9, s10, s11] S = .rt (.bl false) S := by
  have h0 := plain_dat0 hw
  cases w with
  | tup ps =>
    obtain ⟨m', rfl, hps⟩ := plain_tup hw
    by_cases hlen : 20 < (ps.length : Int)
    · have : salesB lot (.tup ps) = false := by
        have h : ¬ (ps.length : Int) ≤ 20 := by omega
        simp [salesB, datedG, h]
      simp [t_law_is_truth_b1, hlen, this]
    · have h20 : ps.length ≤ 20 := by omega
      have hb := fors_optD (bind := asg (.nm 4)) (body := exec wrd (go (n + 1)) none t_law_is_truth_b2) (fun (s : Int × Int) (x : Sl) => [.v (eL l), .v v, .v (ePr lot), .v (.tup ps), x, s5, s6, s7, .v (.int s.1), .v (.int s.2), s10, s11]) chSt (.bl false) (S := S) (xs := ps) (lot.1 - 1, lot.2) s4 (fun s j x hx => ⟨_, rfl, by
        have e := b_law_is_truth2 (n := n) (a := eL l) (v := v) (c := ePr lot) (d := .tup ps) (s := s) (s5 := s5) (s6 := s6) (s7 := s7) (s10 := s10) (s11 := s11) (S := S) (hps x hx)
        cases hc : chSt s x with
        | none => rw [hc] at e; exact e
        | some s' => rw [hc] at e; exact ⟨_, e⟩⟩)
      have hs := ch_sales (lot := lot) h1 h20
      cases hf : foldO chSt (lot.1 - 1, lot.2) ps with
      | none =>
        rw [hf] at hb hs
        have hs : salesB lot (.tup ps) = false := hs.symm
        simp only [hs]
        have hb : fors (asg (.nm 4)) (exec wrd (go (n + 1)) none t_law_is_truth_b2) ps _ S = .rt (.bl false) S := hb
        simp [t_law_is_truth_b1, hlen, hb]
      | some s' =>
        rw [hf] at hb hs
        have hs : salesB lot (.tup ps) = true := hs.symm
        simp only [hs]
        obtain ⟨j, hb⟩ := hb
        refine ⟨⟨j, .v (.int s'.1), .v (.int s'.2)⟩, ?_⟩
        simp [t_law_is_truth_b1, hlen, hb]
  | _ => first | (simp [dat0] at h0; done) | simp [t_law_is_truth_b1, salesB, datedG]
theorem foldl_left {l : L} {day : Int} : ∀ (qs : List ((Int × Int) × List (Int × Int))) (h : Int), qs.foldl (fun h q => if q.1.1 ≤ day then h + q.1.2 - soldBy q.2 day else h) h = h + ((qs.filter fun q => decide (q.1.1 ≤ day)).map fun q => q.1.2 - soldBy q.2 day).sum
  | [], h => by simp
  | q :: r, h => by
    simp only [List.foldl_cons, List.filter_cons]
    rw [foldl_left (l := l) r]
    by_cases hq : q.1.1 ≤ day
    · simp [hq]
      omega
    · simp [hq]
theorem comps_sold {n i j N : Nat} {sales : List (Int × Int)} {day : Int} {S : Sto} {bind : D → Option Env} {cond elt : Env → Sto → Res D} (hl : sales.length ≤ maxLen) (h : ∀ p : Int × Int, ∃ ρ, bind (ePr p) = some ρ ∧ cond ρ S = .ok (.bl (decide (p.1 ≤ day))) S ∧ elt ρ S = .ok (.int p.2) S) :
    comps bind cond elt (sales.map ePr) [] S = .ok (.lst ((sales.filter fun p => decide (p.1 ≤ day)).map fun p => .int p.2)) S :=
  comps_fil (fun p _ => h p) hl
theorem b_law_is_truth3 {n : Nat} {l : L} {t : List (List (Int × Int))} {c : Int × Int} {s2 s3 s4 s7 s8 s9 s10 s11 : Sl} {S : Sto} (ht : ∀ s ∈ t, s.length ≤ maxLen) :
    match (if decide (leftAt l t c.1 = c.2) then some () else none) with
    | some _ => ∃ j : Sl × Sl × Sl, exec wrd (go (n + 1)) none t_law_is_truth_b3 [.v (eL l), .v (eT t), s2, s3, s4, .v (.int c.1), .v (.int c.2), s7, s8, s9, s10, s11] S = .nx [.v (eL l), .v (eT t), j.1, j.2.1, s4, .v (.int c.1), .v (.int c.2), j.2.2, s8, s9, s10, s11] S
    | none => exec wrd (go (n + 1)) none t_law_is_truth_b3 [.v (eL l), .v (eT t), s2, s3, s4, .v (.int c.1), .v (.int c.2), s7, s8, s9, s10, s11] S = .rt (.bl false) S := by
  obtain ⟨j, e⟩ := fors_fold (α := (Int × Int) × List (Int × Int)) (bind := asg (.tup (.cons (.nm 2) (.cons (.nm 3) .nil)))) (body := exec wrd (go (n + 1)) none t_law_is_truth_b4) (enc := fun p => D.tup [ePr p.1, eP p.2])
    (fun (s : Int) (j : Sl × Sl) => [.v (eL l), .v (eT t), j.1, j.2, s4, .v (.int c.1), .v (.int c.2), .v (.int s), s8, s9, s10, s11])
    (fun h q => if q.1.1 ≤ c.1 then h + q.1.2 - soldBy q.2 c.1 else h) (S := S) (xs := l.lots.zip t) 0 (s2, s3) (fun s j q hq => ⟨_, by simp; rfl, ⟨.v (ePr q.1), .v (eP q.2)⟩, by
      by_cases h : q.1.1 ≤ c.1
      · simp [t_law_is_truth_b4, h]
        rw [comps_fil (p := fun p : Int × Int => decide (p.1 ≤ c.1)) (f := fun p => .int p.2) (fun p hp => ⟨_, by simp; rfl, by simp, by simp⟩) (ht _ (List.of_mem_zip hq).2)]
        simp [soldBy]
      · simp [t_law_is_truth_b4, h]⟩)
  rw [foldl_left (l := l), Int.zero_add, ← leftAt.eq_1] at e
  by_cases h : leftAt l t c.1 = c.2
  · simp only [h, decide_true, if_true]
    refine ⟨⟨j.1, j.2, .v (.int (leftAt l t c.1))⟩, ?_⟩
    simp [t_law_is_truth_b3, e, h]
  · simp only [h, decide_false, Bool.false_eq_true, if_false]
    simp [t_law_is_truth_b3, e, h]
theorem r_law_is_truth {n m : Nat} {l : L} {v : D} {S : Sto} (hl : l.Ok) (hv : plain m v = true) : go (n + 2) i_law_is_truth [eL l, v] S = .ok (.bl (truthB l v)) S := by
  have h0 := plain_dat0 hv
  have l5 := hl.lots.len
  have l4 := hl.counts.len
  rw [go_step e_law_is_truth rfl]
  cases v with
  | tup vs =>
    obtain ⟨m', rfl, hvs⟩ := plain_tup hv
    by_cases hlen : vs.length = l.lots.length
    · have hlen' : (vs.length : Int) = l.lots.length := by omega
      simp [f_law_is_truth, t_law_is_truth, hlen]
      have hz : zipD (l.lots.map ePr) vs = (l.lots.zip vs).map fun q => D.tup [ePr q.1, q.2] := by
        have := zipE (e1 := ePr) (e2 := id) (l := l.lots) (m := vs)
        simpa using this
      rw [hz]
      have hb := fors_opt (α := (Int × Int) × D) (bind := asg (.tup (.cons (.nm 2) (.cons (.nm 3) .nil)))) (body := exec wrd (go (n + 1)) none t_law_is_truth_b1) (enc := fun q => D.tup [ePr q.1, q.2]) (mk := fun (_ : Unit) (j : Sl × Sl × Sl × Sl × Sl) => [.v (eL l), .v (.tup vs), j.1, j.2.1, j.2.2.1, .un, .un, .un, j.2.2.2.1, j.2.2.2.2, .un, .un])
        (st := fun _ q => if salesB q.1 q.2 then some () else none) (d := .bl false) (S := S) (xs := l.lots.zip vs) () (.un, .un, .un, .un, .un) (fun _ j q hq => ⟨_, by simp; rfl, by
          have e := b_law_is_truth1 (n := n) (l := l) (v := .tup vs) (lot := q.1) (s4 := j.2.2.1) (s5 := .un) (s6 := .un) (s7 := .un) (s8 := j.2.2.2.1) (s9 := j.2.2.2.2) (s10 := .un) (s11 := .un) (S := S) (hl.lots.rng _ (List.of_mem_zip hq).1).2.2.1 (hvs _ (List.of_mem_zip hq).2)
          cases hc : salesB q.1 q.2 with
          | false => rw [hc] at e; exact e
          | true =>
            rw [hc] at e
            obtain ⟨j', e⟩ := e
            exact ⟨⟨_, _, j'.1, j'.2.1, j'.2.2⟩, e⟩⟩)
      rw [foldO_all] at hb
      cases hall : (l.lots.zip vs).all (fun q => salesB q.1 q.2) with
      | false =>
        rw [hall] at hb
        have hb : fors _ _ _ _ S = .rt (.bl false) S := hb
        rw [hb]
        simp [truthB, hall, -List.all_eq_true, -List.all_eq_false]
      | true =>
        rw [hall] at hb
        obtain ⟨j, hb⟩ := hb
        rw [hb]
        obtain ⟨t, rfl, ht⟩ := all_sales hlen hall
        have tl : ∀ s ∈ t, s.length ≤ maxLen := fun s hs => by
          obtain ⟨a, ha⟩ := mem_zip_right (by simpa using hlen) s hs
          have := (ht _ ha).dt.len
          unfold maxLen
          simp only at this
          omega
        simp [← eT.eq_1]
        have hb2 := fors_opt (α := Int × Int) (bind := asg (.tup (.cons (.nm 5) (.cons (.nm 6) .nil)))) (body := exec wrd (go (n + 1)) none t_law_is_truth_b3) (enc := ePr) (mk := fun (_ : Unit) (k : Sl × Sl × Sl × Sl × Sl) => [.v (eL l), .v (eT t), k.1, k.2.1, j.2.2.1, k.2.2.1, k.2.2.2.1, k.2.2.2.2, j.2.2.2.1, j.2.2.2.2, .un, .un])
          (st := fun _ c => if decide (leftAt l t c.1 = c.2) then some () else none) (d := .bl false) (S := S) (xs := l.counts) () (j.1, j.2.1, .un, .un, .un) (fun _ k c hc => ⟨_, by simp; rfl, by
            have e := b_law_is_truth3 (n := n) (l := l) (t := t) (c := c) (s2 := k.1) (s3 := k.2.1) (s4 := j.2.2.1) (s7 := k.2.2.2.2) (s8 := j.2.2.2.1) (s9 := j.2.2.2.2) (s10 := .un) (s11 := .un) (S := S) tl
            by_cases hc : leftAt l t c.1 = c.2
            · simp only [hc, decide_true, if_true] at e ⊢
              obtain ⟨j', e⟩ := e
              exact ⟨⟨j'.1, j'.2.1, _, _, j'.2.2⟩, e⟩
            · simp only [hc, decide_false, Bool.false_eq_true, if_false] at e ⊢
              exact e⟩)
        rw [foldO_all] at hb2
        cases hall2 : l.counts.all (fun c => decide (leftAt l t c.1 = c.2)) with
        | false =>
          rw [hall2] at hb2
          have hb2 : fors _ _ _ _ S = .rt (.bl false) S := hb2
          rw [hb2]
          simp [truthB, eT, hall, hall2, -List.all_eq_true, -List.all_eq_false, map_toS, -List.map_map]
        | true =>
          rw [hall2] at hb2
          obtain ⟨k, hb2⟩ := hb2
          rw [hb2]
          simp [truthB, eT, hall, hall2, -List.all_eq_true, -List.all_eq_false, map_toS, -List.map_map]
          simpa using hlen
    · have hlen' : ¬ (vs.length : Int) = l.lots.length := by omega
      simp [f_law_is_truth, t_law_is_truth, truthB, hlen, hlen']
  | _ => first | (simp [dat0] at h0; done) | simp [f_law_is_truth, t_law_is_truth, truthB]
end My

/-! N5: draws. -/
namespace My
open Pv
open PySem (Str)
/-- the cell c is a source -/
def Src (S : Sto) (c : Nat) : Prop := ∃ a b : Int, S[c]? = some (.lst [.int a, .int b]) ∧ 0 ≤ b ∧ b < 2147483647
/-- an answer after some draws -/
def Drw {α : Type} (c : Nat) (r : Res α) (P : α → Prop) : Prop := ∃ a S', r = .ok a S' ∧ P a ∧ Src S' c
/-- a divisor of a fair size -/
structure Sm (m : Int) : Prop where
  h : m.natAbs < 2 ^ 9000
theorem sm_of {m : Int} (h : m.natAbs < 2 ^ 256) : Sm m := ⟨Nat.lt_of_lt_of_le h (Nat.pow_le_pow_right (by decide) (show 256 ≤ 9000 by decide))⟩
@[simp] theorem ix_cell {S : Sto} {c : Nat} {i : Int} : ixD S (.cell c) (.int i) = (seqOf S (.cell c)).bind fun xs => (ixN xs.length i).bind fun j => xs[j]? := by
  show (match seqOf S (.cell c) with | some xs => (ixN xs.length i).bind fun j => xs[j]? | none => none) = _
  cases seqOf S (.cell c) <;> rfl
theorem seqOf_cell {S : Sto} {c : Nat} {l : List D} (h : S[c]? = some (.lst l)) : seqOf S (.cell c) = some l := by
  show (match S[c]? with | some (.lst l) => some l | none => none) = _
  rw [h]
theorem scO_ok {ρ : Env} {d : D} {c : Nat} {i : Int} {S : Sto} {l : List D} {k : Nat} (h : S[c]? = some (.lst l)) (hk : ixN l.length i = some k) : scO ρ d (.cell c) (.int i) S = .nx ρ (S.set c (.lst (l.set k d))) := by
  show (match S[c]? with
      | some (.lst l) => (match ixN l.length i with
        | some k => Out.nx ρ (S.set c (.lst (l.set k d)))
        | none => .bad)
      | none => .bad) = _
  rw [h]
  simp only [hk]
theorem r_law_pick {n c : Nat} {many : Int} {S : Sto} (hs : Src S c) (h1 : 1 ≤ many) (h3 : Sm many) : Drw c (go (n + 1) i_law_pick [.cell c, .int many] S) fun d => ∃ r, d = .int r ∧ 0 ≤ r ∧ r < many := by
  obtain ⟨a, b, hc, b1, b2⟩ := hs
  have hp : (0 : Int) < many := by omega
  have hlt : c < S.length := (List.getElem?_eq_some_iff.mp hc).1
  have hq := seqOf_cell hc
  have i0 : ixN 2 0 = some 0 := by decide
  have i1 : ixN 2 1 = some 1 := by decide
  rw [go_step e_law_pick rfl]
  by_cases ha : 0 < a
  · refine ⟨.int (a % many), S.set c (.lst [.int (a / many), .int b]), ?_, ⟨_, rfl, Int.emod_nonneg _ (by omega), Int.emod_lt_of_pos _ hp⟩, a / many, b, by simp [hlt], b1, b2⟩
    simp [f_law_pick, t_law_pick, hq, i0, ha, bin_mod hp, bin_fdiv hp h3.h, scO_ok hc i0]
  · generalize hb' : (b * 44497 + 9973) % 2147483647 = b'
    have q1 : 0 ≤ b' := by rw [← hb']; exact Int.emod_nonneg _ (by decide)
    have q2 : b' < 2147483647 := by rw [← hb']; exact Int.emod_lt_of_pos _ (by decide)
    have m1 : mulOk b 44497 = true := mulOk_r (by decide)
    have m2 : mulOk b' b' = true := mulOk_r (by omega)
    have hg : (S.set c (.lst [.int a, .int b']))[c]? = some (.lst [.int a, .int b']) := List.getElem?_set_self hlt
    have hq' := seqOf_cell hg
    have h11 : Sm 11 := sm_of (by decide)
    refine ⟨.int (b' * b' % 2147483399 / 11 % many), S.set c (.lst [.int a, .int b']), ?_, ⟨_, rfl, Int.emod_nonneg _ (by omega), Int.emod_lt_of_pos _ hp⟩, a, b', hg, q1, q2⟩
    have e1 : binD .mod (.int (b * 44497 + 9973)) (.int 2147483647) = some (.int b') := by rw [bin_mod (by decide), hb']
    simp [f_law_pick, t_law_pick, hq, i0, i1, ha, bin_mul m1, e1, scO_ok hc i1]
    simp [hq', i1, bin_mul m2, bin_mod hp, bin_mod (show (0 : Int) < 2147483399 by decide), bin_fdiv (show (0 : Int) < 11 by decide) h11.h]
theorem r_law_source {n k : Nat} {ns : List Int} {S : Sto} (hk : k < 100) : ∃ S', go (n + 1) i_law_source [.scr ns, .int k] S = .ok (.cell S.length) S' ∧ Src S' S.length := by
  have fin : ∀ num : Int, ∃ b : Int, b = ((num * 16807 + 60919 * k + 31) % 2147481173) * ((num * 16807 + 60919 * k + 31) % 2147481173) % 2147481151 + 2 * k + 5 ∧ 0 ≤ b ∧ b < 2147483647 ∧
      mulOk ((num * 16807 + 60919 * k + 31) % 2147481173) ((num * 16807 + 60919 * k + 31) % 2147481173) = true := fun num => by
    generalize hz : (num * 16807 + 60919 * k + 31) % 2147481173 = z
    have z1 : 0 ≤ z := by rw [← hz]; exact Int.emod_nonneg _ (by decide)
    have z2 : z < 2147481173 := by rw [← hz]; exact Int.emod_lt_of_pos _ (by decide)
    have y1 := Int.emod_nonneg (z * z) (b := 2147481151) (by decide)
    have y2 := Int.emod_lt_of_pos (z * z) (b := 2147481151) (by decide)
    exact ⟨_, rfl, by omega, by omega, mulOk_r (by omega)⟩
  have m1 : ∀ num : Int, binD .mul (.int num) (.int 16807) = some (.int (num * 16807)) := fun num => bin_mul (mulOk_r (by decide))
  have m2 : binD .mul (.int 60919) (.int k) = some (.int (60919 * k)) := bin_mul (mulOk_l (by decide))
  have m3 : binD .mul (.int 2) (.int k) = some (.int (2 * k)) := bin_mul (mulOk_l (by decide))
  have d1 := fun x => bin_mod (i := x) (show (0 : Int) < 2147481173 by decide)
  have d2 := fun x => bin_mod (i := x) (show (0 : Int) < 2147481151 by decide)
  have sq : seqOf S (.scr ns) = some (ns.map .int) := rfl
  have res : ∀ num : Int, (k < ns.length → ns[k]? = some num) → (¬ k < ns.length → num = 0) → ∃ S', go (n + 1) i_law_source [.scr ns, .int k] S = .ok (.cell S.length) S' ∧ Src S' S.length := fun num h1 h2 => by
    obtain ⟨b, hb, b1, b2, m4⟩ := fin num
    refine ⟨S ++ [.lst [.int (if 1000000000000000000 ≤ num then num else 0), .int b]], ?_, if 1000000000000000000 ≤ num then num else 0, b, by simp, b1, b2⟩
    rw [go_step e_law_source rfl]
    by_cases hlt : k < ns.length
    · have hlt' : (k : Int) < ns.length := by omega
      have hix : ixD S (.scr ns) (.int k) = some (.int num) := by
        show ((ixN (ns.map D.int).length (k : Int)).bind fun j => (ns.map D.int)[j]?) = _
        rw [List.length_map, ixN_in hlt]
        simp [h1 hlt]
      by_cases h18 : (1000000000000000000 : Int) ≤ num <;>
        simp [f_law_source, t_law_source, sq, hlt', hix, m1, m2, m3, d1, d2, bin_mul m4, h18, hb]
    · obtain rfl := h2 hlt
      have hlt' : ¬ (k : Int) < ns.length := by omega
      simp only [Int.zero_mul] at m4 hb
      simp only [Int.zero_add] at m4 hb
      simp [f_law_source, t_law_source, sq, hlt', m1, m2, m3, d1, d2, bin_mul m4, hb]
  by_cases hlt : k < ns.length
  · exact res ns[k] (fun _ => by simp [hlt]) (fun h => absurd hlt h)
  · exact res 0 (fun h => absurd h hlt) (fun _ => rfl)
theorem r_law_chosen {n c : Nat} {l : List D} {S : Sto} (hs : Src S c) (hl : l ≠ []) (hlen : l.length < 2 ^ 20) : Drw c (go (n + 2) i_law_chosen [.cell c, .lst l] S) fun d => d ∈ l := by
  have h1 : (1 : Int) ≤ l.length := by
    have := List.length_pos_iff.mpr hl
    omega
  obtain ⟨_, S', hr, ⟨r, rfl, r1, r2⟩, hs'⟩ := r_law_pick (n := n) hs h1 (sm_of (by omega))
  have hri : r.toNat < l.length := by omega
  refine ⟨l[r.toNat], S', ?_, List.getElem_mem _, hs'⟩
  have hix : ∀ S, ixD S (.lst l) (.int r) = some l[r.toNat] := fun S => by
    have := ixD_lst (S := S) hri
    rw [Int.toNat_of_nonneg r1] at this
    exact this
  rw [go_step e_law_chosen rfl]
  simp [f_law_chosen, t_law_chosen, hr, hix]
/-! comprehensions and loops that draw -/
def Rel2 {α β : Type} (Q : α → β → Prop) : List α → List β → Prop
  | [], [] => True
  | a :: as, b :: bs => Q a b ∧ Rel2 Q as bs
  | _, _ => False
theorem Rel2.len {α β : Type} {Q : α → β → Prop} : ∀ {as : List α} {bs : List β}, Rel2 Q as bs → bs.length = as.length
  | [], [], _ => rfl
  | a :: as, b :: bs, h => by simp [Rel2.len h.2]
  | [], _ :: _, h => h.elim
  | _ :: _, [], h => h.elim
theorem Rel2.mem {α β : Type} {Q : α → β → Prop} : ∀ {as : List α} {bs : List β}, Rel2 Q as bs → ∀ b ∈ bs, ∃ a ∈ as, Q a b
  | [], [], _, b, hb => by simp at hb
  | a :: as, x :: bs, h, b, hb => by
    rcases List.mem_cons.mp hb with e | e
    · exact ⟨a, by simp, by rw [e]; exact h.1⟩
    · obtain ⟨a', h1, h2⟩ := Rel2.mem h.2 b e
      exact ⟨a', by simp [h1], h2⟩
  | [], _ :: _, h, _, _ => h.elim
  | _ :: _, [], h, _, _ => h.elim
theorem comps_drw {bind : D → Option Env} {cond elt : Env → Sto → Res D} {c : Nat} {Q : D → D → Prop} :
    ∀ {its : List D} {acc : List D} {S : Sto}, (∀ x ∈ its, ∃ ρ, bind x = some ρ ∧ (∀ S, cond ρ S = .ok (.bl true) S) ∧ ∀ S, Src S c → Drw c (elt ρ S) (Q x)) → Src S c → acc.length + its.length ≤ maxLen → Drw c (comps bind cond elt its acc S) fun d => ∃ l, d = .lst (acc ++ l) ∧ Rel2 Q its l
  | [], acc, S, _, hs, _ => ⟨_, S, rfl, ⟨[], by simp, trivial⟩, hs⟩
  | x :: xs, acc, S, h, hs, hl => by
    obtain ⟨ρ, h1, h2, h3⟩ := h x (by simp)
    obtain ⟨d, S1, e1, q1, s1⟩ := h3 S hs
    simp only [List.length_cons] at hl
    have ll : lenOk (acc.length + 1) = true := lenOk_of (by omega)
    obtain ⟨_, S2, e2, ⟨l, rfl, q2⟩, s2⟩ := comps_drw (bind := bind) (cond := cond) (elt := elt) (c := c) (Q := Q) (its := xs) (acc := acc ++ [d]) (S := S1) (fun y hy => h y (by simp [hy])) s1 (by simp; omega)
    refine ⟨.lst (acc ++ d :: l), S2, ?_, ⟨d :: l, rfl, q1, q2⟩, s2⟩
    simp only [comps, h1, h2, e1, ll, if_true]
    rw [e2, List.append_assoc]
    rfl
theorem fors_drw {α σ β : Type} {bind : D → Env → Option Env} {body : Env → Sto → Out} {enc : α → D} (mk : σ → β → Env) (I : σ → List α → Prop) {c : Nat} :
    ∀ {xs : List α} {S : Sto} (s : σ) (j : β), I s xs → Src S c → (∀ s j x r S, I s (x :: r) → Src S c → ∃ ρ, bind (enc x) (mk s j) = some ρ ∧ ∃ s' j' S', body ρ S = .nx (mk s' j') S' ∧ I s' r ∧ Src S' c) →
    ∃ s' j' S', fors bind body (xs.map enc) (mk s j) S = .nx (mk s' j') S' ∧ I s' [] ∧ Src S' c
  | [], S, s, j, hi, hs, _ => ⟨s, j, S, rfl, hi, hs⟩
  | x :: xs, S, s, j, hi, hs, h => by
    obtain ⟨ρ, h1, s1, j1, S1, e1, i1, hs1⟩ := h s j x xs S hi hs
    obtain ⟨s2, j2, S2, e2, i2, hs2⟩ := fors_drw (bind := bind) (body := body) (enc := enc) mk I (c := c) (xs := xs) s1 j1 i1 hs1 h
    refine ⟨s2, j2, S2, ?_, i2, hs2⟩
    simp only [List.map_cons, fors, h1, e1]
    exact e2
/-! days -/
theorem sins_len {x : Int} : ∀ l : List Int, (sins x l).length ≤ l.length + 1
  | [] => by simp [sins]
  | y :: ys => by
    unfold sins
    split
    · simp
    · split
      · simp
      · have := sins_len (x := x) ys
        simp
        omega
theorem ssort_len : ∀ l : List Int, (ssort l).length ≤ l.length
  | [] => by simp [ssort]
  | x :: xs => by
    have h1 := ssort_len xs
    have h2 := sins_len (x := x) (ssort xs)
    simp only [ssort, List.length_cons]
    omega
theorem rel_ints {α : Type} {P : Int → Prop} : ∀ {as : List α} {l : List D}, Rel2 (fun _ d => ∃ r, d = .int r ∧ P r) as l → ∃ ns : List Int, l = ns.map .int ∧ (∀ r ∈ ns, P r) ∧ ns.length = as.length
  | [], [], _ => ⟨[], rfl, by simp, rfl⟩
  | a :: as, x :: l, h => by
    obtain ⟨⟨r, rfl, hr⟩, h2⟩ := h
    obtain ⟨ns, rfl, h3, h4⟩ := rel_ints h2
    exact ⟨r :: ns, rfl, fun y hy => by
      rcases List.mem_cons.mp hy with e | e
      · rw [e]; exact hr
      · exact h3 y e, by simp [h4]⟩
  | [], _ :: _, h => h.elim
  | _ :: _, [], h => h.elim
theorem r_law_days {n c m : Nat} {e : Int} {S : Sto} (hs : Src S c) (hm : m < 60) (h1 : 1 ≤ e) (h2 : Sm e) :
    Drw c (go (n + 2) i_law_days [.cell c, .int m, .int e] S) fun d => ∃ ds : List Int, d = .lst (ds.map .int) ∧ ds.Pairwise (· < ·) ∧ (∀ d ∈ ds, 0 ≤ d ∧ d < e) ∧ ds.length ≤ m := by
  rw [go_step e_law_days rfl]
  obtain ⟨_, S', q, ⟨l, rfl, hl⟩, hs'⟩ := comps_drw (bind := fun x => asg (.nm 3) x (wipes [.v (.cell c), .v (.int m), .v (.int e), .un] [3])) (cond := ev wrd (go (n + 1)) (.lit (.bl true))) (elt := ev wrd (go (n + 1)) (.call i_law_pick (.cons (.var 0) (.cons (.var 2) .nil)))) (c := c) (Q := fun _ d => ∃ r, d = .int r ∧ 0 ≤ r ∧ r < e) (its := (List.range m).map fun (i : Nat) => .int (i : Int)) (acc := []) (S := S)
    (fun x _ => ⟨[.v (.cell c), .v (.int m), .v (.int e), .v x], by simp, fun S => by simp, fun S hS => by
      obtain ⟨d, S', hr, hd, hs'⟩ := r_law_pick (n := n) hS h1 h2
      exact ⟨d, S', by simp [hr], hd, hs'⟩⟩) hs (by simp; unfold maxLen; omega)
  obtain ⟨ns, rfl, h3, h4⟩ := rel_ints hl
  simp only [List.length_map, List.length_range] at h4
  refine ⟨_, S', ?_, ⟨ssort ns, rfl, ssort_pw ns, fun d hd => h3 d (ssort_mem.mp hd), by have := ssort_len ns; omega⟩, hs'⟩
  simp only [wipes_cons, wipes_nil, List.nil_append] at q
  simp [f_law_days, t_law_days, rg1_ok (show m < 1000000 by omega)]
  simp at q
  rw [q]
  have : ns.length < 60 := by omega
  simp [this]
end My

/-! N6: drawn ledgers. -/
namespace My
open Pv
open PySem (Str)
theorem asc_of_pw : ∀ {ps : List (Int × Int)}, (ps.map (·.1)).Pairwise (· < ·) → ascB ps = true
  | [], _ => rfl
  | [p], _ => rfl
  | p :: q :: r, h => by
    simp only [List.map_cons, List.pairwise_cons] at h
    rw [ascB_cons, Bool.and_eq_true, decide_eq_true_eq]
    exact ⟨h.1 _ (by simp), asc_of_pw (ps := q :: r) (by simp only [List.map_cons, List.pairwise_cons]; exact h.2)⟩
theorem pw_of_ascF : ∀ {ps : List (Int × Int)} {b : Int}, ascF b ps → (ps.map (·.1)).Pairwise (· < ·)
  | [], _, _ => by simp
  | p :: r, b, h => by
    simp only [List.map_cons, List.pairwise_cons]
    refine ⟨fun x hx => ?_, pw_of_ascF h.2⟩
    obtain ⟨q, hq, rfl⟩ := List.mem_map.mp hx
    exact ascF_ge h.2 q hq
theorem pw_of_asc {ps : List (Int × Int)} (h : ascB ps = true) : (ps.map (·.1)).Pairwise (· < ·) := by
  cases ps with
  | nil => simp
  | cons p r => exact pw_of_ascF (b := p.1 - 1) (ascF_of h fun q hq => by
      rcases List.mem_cons.mp hq with e | e
      · rw [e]; omega
      · have := ascF_ge (ascF_iff.mpr h) q e
        omega)
theorem asc_snoc {ps : List (Int × Int)} {p : Int × Int} (h : ascB ps = true) (hp : ∀ q ∈ ps, q.1 < p.1) : ascB (ps ++ [p]) = true := by
  apply asc_of_pw
  rw [List.map_append, List.pairwise_append]
  refine ⟨pw_of_asc h, by simp, fun x hx y hy => ?_⟩
  obtain ⟨q, hq, rfl⟩ := List.mem_map.mp hx
  simp at hy
  subst hy
  exact hp q hq
/-- [(day, 1 + pick) for day in days] -/
theorem rel_prs {m : Int} : ∀ {ds : List Int} {l : List D}, Rel2 (fun (x y : D) => ∃ (d p : Int), x = D.int d ∧ y = ePr (d, p) ∧ 1 ≤ p ∧ p ≤ m) (ds.map D.int) l → ∃ ps : List (Int × Int), l = ps.map ePr ∧ ps.map (·.1) = ds ∧ ∀ p ∈ ps, 1 ≤ p.2 ∧ p.2 ≤ m
  | [], [], _ => ⟨[], rfl, rfl, by simp⟩
  | d :: ds, x :: l, h => by
    obtain ⟨⟨d', p, e, rfl, h1, h2⟩, h3⟩ := h
    cases e
    obtain ⟨ps, rfl, e1, h4⟩ := rel_prs h3
    exact ⟨(d, p) :: ps, rfl, by simp [e1], fun y hy => by
      rcases List.mem_cons.mp hy with e | e
      · rw [e]; exact ⟨h1, h2⟩
      · exact h4 y e⟩
  | [], _ :: _, h => h.elim
  | _ :: _, [], h => h.elim
/-- what is drawn -/
structure Drawn (ln mp : Int) (l : L) : Prop where
  lots : Dt ln 0 6 1 mp l.lots
  counts : Dt 3 0 7 0 (ln * mp + 5) l.counts
  falls : Dt 4 0 8 1 9 l.falls
  win : 0 ≤ l.win ∧ l.win ≤ 9
def upTo (ps : List (Int × Int)) (d : Int) : Int := ((ps.filter fun p => decide (p.1 ≤ d)).map (·.2)).sum
def betw (ps : List (Int × Int)) (a d : Int) : Int := ((ps.filter fun p => decide (a < p.1) && decide (p.1 ≤ d)).map (·.2)).sum
theorem upTo_betw {a d : Int} (h : a ≤ d) : ∀ {ps : List (Int × Int)}, upTo ps a + betw ps a d = upTo ps d
  | [] => rfl
  | p :: r => by
    have ih := upTo_betw h (ps := r)
    unfold upTo betw at ih ⊢
    simp only [List.filter_cons]
    by_cases h1 : p.1 ≤ a
    · have h2 : p.1 ≤ d := by omega
      have h3 : ¬ a < p.1 := by omega
      simp [h1, h2, h3]
      omega
    · have h3 : a < p.1 := by omega
      by_cases h2 : p.1 ≤ d
      · simp [h1, h2, h3]
        omega
      · simp [h1, h2, h3]
        omega
theorem sum_le_all {f : Int × Int → Bool} : ∀ {ps : List (Int × Int)}, (∀ p ∈ ps, 0 ≤ p.2) → 0 ≤ ((ps.filter f).map (·.2)).sum ∧ ((ps.filter f).map (·.2)).sum ≤ (ps.map (·.2)).sum
  | [], _ => by simp
  | p :: r, h => by
    have ih := sum_le_all (f := f) (ps := r) fun q hq => h q (by simp [hq])
    have h0 := h p (by simp)
    simp only [List.filter_cons, List.map_cons, List.sum_cons]
    cases f p
    · simp; omega
    · simp; omega
theorem dt_sum {most a b c m : Int} {ps : List (Int × Int)} (h : Dt most a b c m ps) (hc : 0 ≤ c) (hm : 0 ≤ m) : (ps.map (·.2)).sum ≤ most * m := by
  have h1 := (sum_bound (f := fun p : Int × Int => p.2) (m := m) (l := ps) fun p hp => by have := h.rng p hp; omega).2
  exact Int.le_trans h1 (Int.mul_le_mul_of_nonneg_right h.len hm)
theorem deq_nil {l : List D} : deq (.tup l) (.tup []) = l.isEmpty := by cases l <;> simp [deq, deqs]
theorem deq_lnil {l : List D} : deq (.lst l) (.lst []) = l.isEmpty := by cases l <;> simp [deq, deqs]
theorem cmp_ne_eP {l : List (Int × Int)} : cmpD .ne (eP l) (.tup []) = some (.bl (!l.isEmpty)) := by
  rw [cmp_ne (plainD_of (plain_eP (n := 0)) (by decide)) (by decide)]
  unfold eP
  rw [deq_nil, List.isEmpty_map]
theorem ixN_last {n : Nat} : ixN (n + 1) (-1) = some n := by
  unfold ixN
  rw [if_neg (by omega), if_pos (by omega)]
  congr 1
  omega
theorem ix_last {l : List (Int × Int)} {p : Int × Int} {S : Sto} : ixD S (eP (l ++ [p])) (.int (-1)) = some (ePr p) := by
  show ((ixN ((l ++ [p]).map ePr).length (-1)).bind fun j => ((l ++ [p]).map ePr)[j]?) = _
  rw [List.length_map, List.length_append, List.length_singleton, ixN_last]
  simp
theorem sl_init {l : List (Int × Int)} {p : Int × Int} {S : Sto} : slD S (eP (l ++ [p])) none (some (-1)) = some (eP l) := by
  show some (D.tup (cut ((l ++ [p]).map ePr) none (some (-1)))) = some (.tup (l.map ePr))
  congr 2
  rw [List.map_append]
  unfold cut sIx
  simp
  rw [show (-1 + ((l.length : Int) + 1)).toNat = l.length by omega, List.take_append_of_le_length (by simp)]
  exact List.take_of_length_le (by simp)
/-- comps over drawn days -/
theorem comps_prs {bind : D → Option Env} {cond elt : Env → Sto → Res D} {c : Nat} {ds : List Int} {m : Int} {S : Sto} (hs : Src S c) (hl : ds.length ≤ 1000)
    (h : ∀ d, ∃ ρ, bind (.int d) = some ρ ∧ (∀ S, cond ρ S = .ok (.bl true) S) ∧ ∀ S, Src S c → Drw c (elt ρ S) fun y => ∃ p, y = ePr (d, p) ∧ 1 ≤ p ∧ p ≤ m) :
    ∃ (ps : List (Int × Int)) (S' : Sto), comps bind cond elt (ds.map .int) [] S = .ok (.lst (ps.map ePr)) S' ∧ Src S' c ∧ ps.map (·.1) = ds ∧ ∀ p ∈ ps, 1 ≤ p.2 ∧ p.2 ≤ m := by
  obtain ⟨_, S', e, ⟨l, rfl, r⟩, hs'⟩ := comps_drw (c := c) (its := ds.map .int) (acc := []) (Q := fun (x y : D) => ∃ (d p : Int), x = D.int d ∧ y = ePr (d, p) ∧ 1 ≤ p ∧ p ≤ m) (bind := bind) (cond := cond) (elt := elt) (fun x hx => by
    obtain ⟨d, _, rfl⟩ := List.mem_map.mp hx
    obtain ⟨ρ, h1, h2, h3⟩ := h d
    refine ⟨ρ, h1, h2, fun S hS => ?_⟩
    obtain ⟨y, S', e, ⟨p, rfl, p1, p2⟩, hS'⟩ := h3 S hS
    exact ⟨_, S', e, ⟨d, p, rfl, rfl, p1, p2⟩, hS'⟩) hs (by simp; unfold maxLen; omega)
  obtain ⟨ps, rfl, e1, h4⟩ := rel_prs r
  exact ⟨ps, S', e, hs', e1, h4⟩
theorem dt_of {ds : List Int} {ps : List (Int × Int)} {most hi m : Int} (h1 : ds.Pairwise (· < ·)) (h2 : ∀ d ∈ ds, 0 ≤ d ∧ d ≤ hi) (h3 : (ds.length : Int) ≤ most) (e : ps.map (·.1) = ds) (h4 : ∀ p ∈ ps, 1 ≤ p.2 ∧ p.2 ≤ m) : Dt most 0 hi 1 m ps := by
  refine ⟨?_, fun p hp => ?_, asc_of_pw (by rw [e]; exact h1)⟩
  · rw [← e] at h3
    simpa using h3
  · have := h2 p.1 (by rw [← e]; exact List.mem_map.mpr ⟨p, hp, rfl⟩)
    have := h4 p hp
    omega
structure DSt where
  counts : List (Int × Int)
  rest : Int
  last : Int
theorem b_law_drawn {n c : Nat} {lots : List (Int × Int)} {s : DSt} {d : Int} {a b s5 s9 s10 : Sl} {S : Sto} (hs : Src S c) (h0 : 0 ≤ s.rest + betw lots s.last d) (hb : s.rest + betw lots s.last d < 10 ^ 60) (hl : lots.length ≤ maxLen) (hc : s.counts.length + 1 ≤ maxLen) :
    ∃ r S', exec wrd (go (n + 1)) none t_law_drawn_b1 [.v (.cell c), a, b, .v (eP lots), .v (.int d), s5, .v (eP s.counts), .v (.int s.rest), .v (.int s.last), s9, s10] S =
      .nx [.v (.cell c), a, b, .v (eP lots), .v (.int d), s5, .v (eP (s.counts ++ [(d, r)])), .v (.int r), .v (.int d), s9, s10] S' ∧ 0 ≤ r ∧ r ≤ s.rest + betw lots s.last d ∧ Src S' c := by
  obtain ⟨_, S', e, ⟨k, rfl, k1, k2⟩, hs'⟩ := r_law_pick (n := n) (many := s.rest + betw lots s.last d + 1) hs (by omega) (sm_of (by omega))
  refine ⟨s.rest + betw lots s.last d - k, S', ?_, by omega, by omega, hs'⟩
  have hc' : lenOk ((s.counts.map ePr).length + 1) = true := lenOk_of (by simpa using hc)
  simp [t_law_drawn_b1]
  rw [comps_fil (p := fun p : Int × Int => decide (s.last < p.1) && decide (p.1 ≤ d)) (f := fun p => .int p.2) (fun p hp => ⟨_, by simp; rfl, by
    by_cases h1 : s.last < p.1 <;> simp [h1], by simp⟩) hl]
  have e0 : (List.map Prod.snd (List.filter (fun p => decide (s.last < p.fst) && decide (p.fst ≤ d)) lots)).sum = betw lots s.last d := rfl
  have e2 : binD .add (eP s.counts) (.tup [.tup [.int d, .int (s.rest + betw lots s.last d - k)]]) = some (eP (s.counts ++ [(d, s.rest + betw lots s.last d - k)])) := by
    unfold eP
    simp only [bin_addt, List.length_singleton]
    rw [if_pos hc', List.map_append]
    rfl
  simp [e0, e, e2]
/-- what the counts' loop keeps -/
structure DInv (lots : List (Int × Int)) (s : DSt) (rm : List Int) : Prop where
  rest : 0 ≤ s.rest ∧ s.rest ≤ upTo lots s.last
  asc : ascB s.counts = true
  lt : ∀ p ∈ s.counts, p.1 ≤ s.last
  rem : rm.Pairwise (· < ·) ∧ ∀ d ∈ rm, s.last < d ∧ d < 8
  rng : ∀ p ∈ s.counts, 0 ≤ p.1 ∧ p.1 < 8 ∧ 0 ≤ p.2 ∧ p.2 ≤ (lots.map (·.2)).sum
  len : s.counts.length + rm.length ≤ 3
  ge : -1 ≤ s.last
section
variable {n c : Nat} {S : Sto}
theorem drawn_s1 {lN : Nat} {mp : Int} {s3 s4 s5 s6 s7 s8 s9 s10 : Sl} (hs : Src S c) (hln : lN < 60) (hm : 1 ≤ mp ∧ mp < 1000) :
    ∃ lots S' , exec wrd (go (n + 2)) none t_law_drawn_s1 [.v (.cell c), .v (.int lN), .v (.int mp), s3, s4, s5, s6, s7, s8, s9, s10] S = .nx [.v (.cell c), .v (.int lN), .v (.int mp), .v (eP lots), s4, s5, s6, s7, s8, s9, s10] S' ∧ Dt lN 0 6 1 mp lots ∧ Src S' c := by
  obtain ⟨_, S1, e1, ⟨ds1, rfl, a1, a2, a3⟩, hs1⟩ := r_law_days (n := n) (m := lN) (e := 7) hs (by omega) (by decide) (sm_of (by decide))
  obtain ⟨lots, S2, e2, hs2, f1, f2⟩ := comps_prs (bind := fun x => some [.v (.cell c), .v (.int lN), .v (.int mp), s3, .v x, s5, s6, s7, s8, s9, s10]) (cond := ev wrd (go (n + 2)) (.lit (.bl true))) (elt := ev wrd (go (n + 2)) (.tup (.cons (.var 4) (.cons (.bin .add (.lit (.int 1)) (.call i_law_pick (.cons (.var 0) (.cons (.var 2) .nil)))) .nil)))) (c := c) (ds := ds1) (m := mp) hs1 (by omega)
    (fun d => ⟨_, rfl, fun S => by simp, fun S hS => by
      obtain ⟨_, S', e, ⟨r, rfl, r1, r2⟩, hS'⟩ := r_law_pick (n := n + 1) hS hm.1 (sm_of (by omega))
      exact ⟨ePr (d, 1 + r), S', by simp [e, ePr], ⟨1 + r, rfl, by omega, by omega⟩, hS'⟩⟩)
  refine ⟨lots, S2, ?_, dt_of a1 (fun d hd => by have := a2 d hd; omega) (by omega) f1 f2, hs2⟩
  simp [t_law_drawn_s1, e1, e2]
  rfl
theorem drawn_s3 {lots : List (Int × Int)} {a b s4 s5 s9 s10 : Sl} (hs : Src S c) (pos : ∀ p ∈ lots, 0 ≤ p.1 ∧ 0 ≤ p.2) (tot : (lots.map (·.2)).sum < 10 ^ 50) (ll : lots.length ≤ 1000) :
    ∃ (st : DSt) (j : Sl) (S' : Sto), exec wrd (go (n + 2)) none t_law_drawn_s3 [.v (.cell c), a, b, .v (eP lots), s4, s5, .v (.tup []), .v (.int 0), .v (.int (-1)), s9, s10] S = .nx [.v (.cell c), a, b, .v (eP lots), j, s5, .v (eP st.counts), .v (.int st.rest), .v (.int st.last), s9, s10] S' ∧ Dt 3 0 7 0 (lots.map (·.2)).sum st.counts ∧ Src S' c := by
  have pos2 := fun p hp => (pos p hp).2
  obtain ⟨_, S3, e3, ⟨q, rfl, q1, q2⟩, hs3⟩ := r_law_pick (n := n + 1) (many := 4) hs (by decide) (sm_of (by decide))
  obtain ⟨qN, rfl⟩ : ∃ qN : Nat, q = qN := ⟨q.toNat, by omega⟩
  obtain ⟨_, S4, e4, ⟨ds2, rfl, b1, b2, b3⟩, hs4⟩ := r_law_days (n := n) (m := qN) (e := 8) hs3 (by omega) (by decide) (sm_of (by decide))
  obtain ⟨st, j, S5, e5, i5, hs5⟩ := fors_drw (α := Int) (bind := asg (.nm 4)) (body := exec wrd (go (n + 2)) none t_law_drawn_b1) (enc := .int) (fun (s : DSt) (j : Sl) => [.v (.cell c), a, b, .v (eP lots), j, s5, .v (eP s.counts), .v (.int s.rest), .v (.int s.last), s9, s10]) (DInv lots) (c := c) (xs := ds2) (S := S4) ⟨[], 0, -1⟩ s4
    ⟨⟨by simp, (sum_le_all pos2).1⟩, rfl, by simp, ⟨b1, fun d hd => by have := b2 d hd; simp; omega⟩, by simp, by simp; omega, by simp⟩ hs4 (fun s j d r S hi hS => ⟨_, by simp; rfl, by
      have hd := hi.rem.2 d (by simp)
      have hu := upTo_betw (ps := lots) (a := s.last) (d := d) (by omega)
      have hu2 := sum_le_all (f := fun p => decide (p.1 ≤ d)) pos2
      have hu3 := sum_le_all (f := fun p => decide (s.last < p.1) && decide (p.1 ≤ d)) pos2
      have hr := hi.rest
      have hu2 : 0 ≤ upTo lots d ∧ upTo lots d ≤ (lots.map (·.2)).sum := hu2
      have hu3 : 0 ≤ betw lots s.last d ∧ betw lots s.last d ≤ (lots.map (·.2)).sum := hu3
      have hlen := hi.len
      obtain ⟨k, S', e, k1, k2, hS'⟩ := b_law_drawn (n := n + 1) (lots := lots) (s := s) (d := d) (a := a) (b := b) (s5 := s5) (s9 := s9) (s10 := s10) hS (by omega) (by omega) (by unfold maxLen; omega) (by unfold maxLen; omega)
      refine ⟨⟨s.counts ++ [(d, k)], k, d⟩, .v (.int d), S', e, ⟨⟨k1, by simp only; omega⟩, asc_snoc hi.asc fun q hq => by have := hi.lt q hq; simp only; omega, fun p hp => ?_, ⟨(List.pairwise_cons.mp hi.rem.1).2, fun x hx => ⟨(List.pairwise_cons.mp hi.rem.1).1 x hx, (hi.rem.2 x (by simp [hx])).2⟩⟩, fun p hp => ?_, by simp at hlen ⊢; omega, by have := hi.ge; simp only; omega⟩, hS'⟩
      · rcases List.mem_append.mp hp with h | h
        · have := hi.lt p h; simp only; omega
        · simp at h; subst h; simp
      · rcases List.mem_append.mp hp with h | h
        · exact hi.rng p h
        · simp at h
          subst h
          have := hi.ge
          simp only
          omega⟩)
  refine ⟨st, j, S5, ?_, ⟨by have := i5.len; simp at this; omega, fun p hp => by have := i5.rng p hp; omega, i5.asc⟩, hs5⟩
  simp [t_law_drawn_s3, e3, e4]
  exact e5
theorem drawn_s4 {m : Int} {cs : List (Int × Int)} {a b s3 s4 s5 s7 s8 s9 s10 : Sl} (hs : Src S c) (h : Dt 3 0 7 0 m cs) :
    ∃ cs' S', exec wrd (go (n + 2)) none t_law_drawn_s4 [.v (.cell c), a, b, s3, s4, s5, .v (eP cs), s7, s8, s9, s10] S = .nx [.v (.cell c), a, b, s3, s4, s5, .v (eP cs'), s7, s8, s9, s10] S' ∧ Dt 3 0 7 0 (m + 5) cs' ∧ Src S' c := by
  have same : Dt 3 0 7 0 (m + 5) cs := ⟨h.len, fun p hp => by have := h.rng p hp; omega, h.asc⟩
  by_cases hn : cs = []
  · subst hn
    exact ⟨[], S, by simp [t_law_drawn_s4, cmp_ne_eP], same, hs⟩
  · have hb : cs.isEmpty = false := by simpa using hn
    obtain ⟨_, S1, e1, ⟨q, rfl, q1, q2⟩, hs1⟩ := r_law_pick (n := n + 1) (many := 12) hs (by decide) (sm_of (by decide))
    by_cases hq : q = 0
    · subst hq
      obtain ⟨ini, p, rfl⟩ : ∃ ini p, cs = ini ++ [p] := ⟨cs.dropLast, cs.getLast hn, (List.dropLast_concat_getLast hn).symm⟩
      have hlen := h.len
      simp at hlen
      have hl : lenOk ((ini.map ePr).length + 1) = true := lenOk_of (by unfold maxLen; simp; omega)
      have hp := h.rng p (by simp)
      refine ⟨ini ++ [(p.1, p.2 + 5)], S1, ?_, ⟨by simpa using h.len, fun x hx => ?_, ?_⟩, hs1⟩
      · have e2 : binD .add (eP ini) (.tup [.tup [.int p.1, .int (p.2 + 5)]]) = some (eP (ini ++ [(p.1, p.2 + 5)])) := by
          unfold eP
          simp only [bin_addt, List.length_singleton]
          rw [if_pos hl, List.map_append]
          rfl
        have hc : cmpD .ne (eP (ini ++ [p])) (.tup []) = some (.bl true) := by rw [cmp_ne_eP, hb]; rfl
        simp [t_law_drawn_s4, hc, e1, sl_init, ix_last, e2]
      · rcases List.mem_append.mp hx with h1 | h1
        · have := h.rng x (by simp [h1]); omega
        · simp at h1; subst h1; simp only; omega
      · have ha := pw_of_asc h.asc
        apply asc_of_pw
        simpa using ha
    · exact ⟨cs, S1, by simp [t_law_drawn_s4, cmp_ne_eP, hb, e1, hq], same, hs1⟩
theorem drawn_s5 {a b s3 s4 s5 s6 s7 s8 s9 s10 : Sl} (hs : Src S c) :
    ∃ fs S', exec wrd (go (n + 2)) none t_law_drawn_s5 [.v (.cell c), a, b, s3, s4, s5, s6, s7, s8, s9, s10] S = .nx [.v (.cell c), a, b, s3, s4, .v (eP fs), s6, s7, s8, s9, s10] S' ∧ Dt 4 0 8 1 9 fs ∧ Src S' c := by
  obtain ⟨_, S3, e3, ⟨q, rfl, q1, q2⟩, hs3⟩ := r_law_pick (n := n + 1) (many := 5) hs (by decide) (sm_of (by decide))
  obtain ⟨qN, rfl⟩ : ∃ qN : Nat, q = qN := ⟨q.toNat, by omega⟩
  obtain ⟨_, S4, e4, ⟨ds, rfl, b1, b2, b3⟩, hs4⟩ := r_law_days (n := n) (m := qN) (e := 9) hs3 (by omega) (by decide) (sm_of (by decide))
  obtain ⟨fs, S5, e5, hs5, f1, f2⟩ := comps_prs (bind := fun x => some [.v (.cell c), a, b, s3, .v x, s5, s6, s7, s8, s9, s10]) (cond := ev wrd (go (n + 2)) (.lit (.bl true))) (elt := ev wrd (go (n + 2)) (.tup (.cons (.var 4) (.cons (.bin .add (.lit (.int 1)) (.call i_law_pick (.cons (.var 0) (.cons (.lit (.int 9)) .nil)))) .nil)))) (c := c) (ds := ds) (m := 9) hs4 (by omega)
    (fun d => ⟨_, rfl, fun S => by simp, fun S hS => by
      obtain ⟨_, S', e, ⟨r, rfl, r1, r2⟩, hS'⟩ := r_law_pick (n := n + 1) (many := 9) hS (by decide) (sm_of (by decide))
      exact ⟨ePr (d, 1 + r), S', by simp [e, ePr], ⟨1 + r, rfl, by omega, by omega⟩, hS'⟩⟩)
  refine ⟨fs, S5, ?_, dt_of b1 (fun d hd => by have := b2 d hd; omega) (by omega) f1 f2, hs5⟩
  simp [t_law_drawn_s5, e3, e4, e5]
  rfl
theorem r_law_drawn {ln mp : Int} (hs : Src S c) (hln : 0 ≤ ln ∧ ln < 60) (hm : 1 ≤ mp ∧ mp < 1000) : Drw c (go (n + 3) i_law_drawn [.cell c, .int ln, .int mp] S) fun d => ∃ l, d = eL l ∧ Drawn ln mp l := by
  obtain ⟨lN, rfl⟩ : ∃ lN : Nat, ln = lN := ⟨ln.toNat, by omega⟩
  obtain ⟨lots, S1, e1, L1, hs1⟩ := drawn_s1 (n := n) (s3 := .un) (s4 := .un) (s5 := .un) (s6 := .un) (s7 := .un) (s8 := .un) (s9 := .un) (s10 := .un) (lN := lN) (mp := mp) hs (by omega) hm
  have ll : lots.length ≤ 60 := by have := L1.len; omega
  have tot := dt_sum L1 (by decide) (by omega)
  have tot' : (lN : Int) * mp ≤ 60 * 1000 := Int.mul_le_mul (by omega) (by omega) (by omega) (by decide)
  obtain ⟨st, j, S3, e3, L3, hs3⟩ := drawn_s3 (n := n) (lots := lots) (a := .v (.int lN)) (b := .v (.int mp)) (s4 := .un) (s5 := .un) (s9 := .un) (s10 := .un) hs1 (fun p hp => by have := L1.rng p hp; omega) (by omega) (by omega)
  obtain ⟨cs, S4, e4, L4, hs4⟩ := drawn_s4 (n := n) (a := .v (.int lN)) (b := .v (.int mp)) (s3 := .v (eP lots)) (s4 := j) (s5 := .un) (s7 := .v (.int st.rest)) (s8 := .v (.int st.last)) (s9 := .un) (s10 := .un) hs3 L3
  obtain ⟨fs, S5, e5, L5, hs5⟩ := drawn_s5 (n := n) (a := .v (.int lN)) (b := .v (.int mp)) (s3 := .v (eP lots)) (s4 := j) (s5 := .un) (s6 := .v (eP cs)) (s7 := .v (.int st.rest)) (s8 := .v (.int st.last)) (s9 := .un) (s10 := .un) hs4
  obtain ⟨_, S6, e6, ⟨q, rfl, q1, q2⟩, hs6⟩ := r_law_pick (n := n + 1) (many := 9) hs5 (by decide) (sm_of (by decide))
  obtain ⟨d, S7, e7, hd, hs7⟩ := r_law_chosen (n := n) (l := [.int 2, .int 4, .int 9, .int q]) hs6 (by simp) (show 4 < 2 ^ 20 by decide)
  obtain ⟨w, rfl, w1, w2⟩ : ∃ w, d = .int w ∧ 0 ≤ w ∧ w ≤ 9 := by
    simp at hd
    rcases hd with rfl | rfl | rfl | rfl
    · exact ⟨_, rfl, by decide, by decide⟩
    · exact ⟨_, rfl, by decide, by decide⟩
    · exact ⟨_, rfl, by decide, by decide⟩
    · exact ⟨_, rfl, q1, by omega⟩
  refine ⟨_, S7, ?_, ⟨⟨lots, cs, fs, w⟩, rfl, L1, ⟨L4.len, fun p hp => by have := L4.rng p hp; omega, L4.asc⟩, L5, w1, w2⟩, hs7⟩
  rw [go_step e_law_drawn rfl]
  simp [f_law_drawn, t_law_drawn, e1]
  simp [t_law_drawn_s2, e3, e4, e5]
  simp [t_law_drawn_s6, e6, e7, eL]
end
end My

/-! N7: any values, values otherwise at one place. -/
namespace My
open Pv
open PySem (Str)
/-- small data: nested at most n deep, at most B items each -/
inductive Sv (B : Nat) : Nat → D → Prop where
  | atom {n : Nat} {d : D} : plain 0 d = true → Sv B n d
  | tup {n : Nat} {l : List D} : (∀ x ∈ l, Sv B n x) → l.length ≤ B → Sv B (n + 1) (.tup l)
  | lst {n : Nat} {l : List D} : (∀ x ∈ l, Sv B n x) → l.length ≤ B → Sv B (n + 1) (.lst l)
theorem Sv.plain {B n : Nat} {d : D} (h : Sv B n d) : plain n d = true := by
  induction h with
  | atom h => exact plain_le (Nat.zero_le _) h
  | tup _ _ ih => exact plain_tup_of ih
  | lst _ _ ih => exact plain_lst_of ih
theorem Sv.up {B C n : Nat} {d : D} (hB : B ≤ C) (h : Sv B n d) : Sv C (n + 1) d := by
  induction h with
  | atom h => exact .atom h
  | tup _ hl ih => exact .tup ih (by omega)
  | lst _ hl ih => exact .lst ih (by omega)
theorem Sv.mono {B C n : Nat} {d : D} (hB : B ≤ C) (h : Sv B n d) : Sv C n d := by
  induction h with
  | atom h => exact .atom h
  | tup _ hl ih => exact .tup ih (by omega)
  | lst _ hl ih => exact .lst ih (by omega)
theorem Sv.le {B C m n : Nat} {d : D} (hB : B ≤ C) (hm : m ≤ n) (h : Sv B m d) : Sv C n d := by
  induction hm with
  | refl => exact h.mono hB
  | step _ ih => exact ih.up (Nat.le_refl _)
theorem Sv.of_tup {B n : Nat} {l : List D} (h : Sv B n (.tup l)) : ∃ m, n = m + 1 ∧ (∀ x ∈ l, Sv B m x) ∧ l.length ≤ B := by
  cases h with
  | atom h => simp [Pv.plain] at h
  | tup h hl => exact ⟨_, rfl, h, hl⟩
theorem Sv.of_lst {B n : Nat} {l : List D} (h : Sv B n (.lst l)) : ∃ m, n = m + 1 ∧ (∀ x ∈ l, Sv B m x) ∧ l.length ≤ B := by
  cases h with
  | atom h => simp [Pv.plain] at h
  | lst h hl => exact ⟨_, rfl, h, hl⟩
theorem sv_int {B n : Nat} {i : Int} : Sv B n (.int i) := .atom plain_int
theorem sv_bl {B n : Nat} {i : Bool} : Sv B n (.bl i) := .atom plain_bl
theorem sv_non {B n : Nat} : Sv B n .non := .atom plain_non
theorem sv_nil {B n : Nat} : Sv B (n + 1) (.tup []) := .tup (by simp) (by simp)
theorem sv_lnil {B n : Nat} : Sv B (n + 1) (.lst []) := .lst (by simp) (by simp)
theorem sv_ePr {B n : Nat} {p : Int × Int} (hB : 2 ≤ B) : Sv B (n + 1) (ePr p) := .tup (by simp [sv_int]) (by simpa using hB)
theorem sv_eP {B n : Nat} {l : List (Int × Int)} (hB : 2 ≤ B) (hl : l.length ≤ B) : Sv B (n + 2) (eP l) := .tup (fun x hx => by
  obtain ⟨p, _, rfl⟩ := List.mem_map.mp hx
  exact sv_ePr hB) (by simpa using hl)
theorem plain0_str {s : String} (h : (Str.ofString s).cps.all (· < 0x110000) = true) : plain 0 (.str (Str.ofString s)) = true := by
  unfold Pv.plain
  exact h
/-- a list or a tuple of small data -/
def Seq (B n : Nat) (d : D) : Prop := ∃ l, (d = .tup l ∨ d = .lst l) ∧ (∀ x ∈ l, Sv B n x) ∧ l.length ≤ B
theorem Seq.sv {B n : Nat} {d : D} (h : Seq B n d) : Sv B (n + 1) d := by
  obtain ⟨l, rfl | rfl, h, hl⟩ := h
  · exact .tup h hl
  · exact .lst h hl
theorem sIx_some {n d k : Nat} (h : k ≤ n) : sIx n d (some (k : Int)) = k := by
  show (if (k : Int) < 0 then ((k : Int) + n).toNat else min (k : Int).toNat n) = k
  rw [if_neg (by omega), Int.toNat_natCast, Nat.min_eq_left h]
theorem cut_lo {α : Type} {l : List α} {k : Nat} (h : k ≤ l.length) : cut l none (some (k : Int)) = l.take k := by
  unfold cut
  rw [sIx_some h]
  show (l.drop 0).take (k - 0) = _
  simp
theorem cut_hi {α : Type} {l : List α} {k : Nat} (h : k ≤ l.length) : cut l (some (k : Int)) none = l.drop k := by
  unfold cut
  rw [sIx_some h]
  show (l.drop k).take (l.length - k) = _
  exact List.take_of_length_le (by simp)
theorem mem_set {α : Type} {l : List α} {k : Nat} {y x : α} (h : x ∈ l.set k y) : x = y ∨ x ∈ l := by
  rcases List.mem_or_eq_of_mem_set h with h | h
  · exact .inr h
  · exact .inl h
@[simp] theorem sl_lst {l : List D} {lo hi : Option Int} {S : Sto} : slD S (.lst l) lo hi = some (.lst (cut l lo hi)) := rfl
@[simp] theorem sl_tup {l : List D} {lo hi : Option Int} {S : Sto} : slD S (.tup l) lo hi = some (.tup (cut l lo hi)) := rfl
end My

/-! N8: drawn truths. -/
namespace My
open Pv
open PySem (Str)
@[simp] theorem add_eP {l : List (Int × Int)} {a b : Int} : binD .add (eP l) (.tup [.tup [.int a, .int b]]) = if lenOk (l.length + 1) then some (eP (l ++ [(a, b)])) else none := by
  unfold eP
  simp [ePr]
@[simp] theorem add_eT {t : List (List (Int × Int))} {s : List (Int × Int)} : binD .add (eT t) (.tup [eP s]) = if lenOk (t.length + 1) then some (eT (t ++ [s])) else none := by
  unfold eT
  simp
theorem eP_nil : eP [] = .tup [] := rfl
theorem eT_nil : eT [] = .tup [] := rfl
structure AT where
  s : List (Int × Int)
  rest : Int
structure AInv (lot : Int × Int) (a : AT) (rem : List Int) : Prop where
  asc : ascB a.s = true
  rng : ∀ p ∈ a.s, lot.1 ≤ p.1 ∧ p.1 ≤ 10 ∧ 1 ≤ p.2 ∧ p.2 ≤ lot.2
  sum : (a.s.map (·.2)).sum + a.rest = lot.2
  rest : 0 ≤ a.rest
  lt : ∀ p ∈ a.s, ∀ d ∈ rem, p.1 < d
  pw : rem.Pairwise (· < ·) ∧ ∀ d ∈ rem, d ≤ 10
  len : a.s.length + rem.length ≤ 3
section
variable {n c : Nat} {S : Sto}
/-- sales drawn for each lot -/
structure TInv (lots : List (Int × Int)) (t : List (List (Int × Int))) (rem : List (Int × Int)) : Prop where
  ex : ∃ dn, lots = dn ++ rem ∧ t.length = dn.length ∧ ∀ q ∈ dn.zip t, AInv q.1 ⟨q.2, q.1.2 - (q.2.map (·.2)).sum⟩ []
theorem zip_snoc {α β : Type} : ∀ {as : List α} {bs : List β} {a : α} {b : β}, bs.length = as.length → (as ++ [a]).zip (bs ++ [b]) = as.zip bs ++ [(a, b)]
  | [], [], _, _, _ => rfl
  | _ :: _, [], _, _, h => by simp at h
  | [], _ :: _, _, _, h => by simp at h
  | x :: as, y :: bs, a, b, h => by
    simp only [List.cons_append, List.zip_cons_cons]
    rw [zip_snoc (by simpa using h)]
end
theorem TInv.sales {lots : List (Int × Int)} {t : List (List (Int × Int))} (h : TInv lots t []) (hl : ∀ p ∈ lots, 0 ≤ p.1 ∧ p.1 ≤ 1000000000) : t.length = lots.length ∧ ∀ q ∈ lots.zip t, Sales q.1 q.2 := by
  obtain ⟨dn, d1, d2, d3⟩ := h.ex
  rw [List.append_nil] at d1
  subst d1
  refine ⟨d2, fun q hq => ?_⟩
  have hi := d3 q hq
  have h0 := hi.rest
  have := hi.len
  simp only at h0
  simp at this
  exact ⟨⟨by omega, fun p hp => by have := hi.rng p hp; omega, hi.asc⟩, by omega⟩
end My

/-! F1: sums; flows, prices and ways in plain numbers. No program in sight. -/
namespace Fl
/-- the sum of f 0 .. f (n - 1) -/
def sm : Nat → (Nat → Int) → Int
  | 0, _ => 0
  | n + 1, f => sm n f + f n
theorem sm_congr {f g : Nat → Int} : ∀ {n : Nat}, (∀ i, i < n → f i = g i) → sm n f = sm n g
  | 0, _ => rfl
  | n + 1, h => by rw [sm, sm, sm_congr fun i hi => h i (by omega), h n (by omega)]
theorem sm_add {f g : Nat → Int} : ∀ {n : Nat}, sm n (fun i => f i + g i) = sm n f + sm n g
  | 0 => rfl
  | n + 1 => by rw [sm, sm, sm, sm_add]; omega
theorem sm_sub {f g : Nat → Int} : ∀ {n : Nat}, sm n (fun i => f i - g i) = sm n f - sm n g
  | 0 => rfl
  | n + 1 => by rw [sm, sm, sm, sm_sub]; omega
theorem sm_zero : ∀ {n : Nat}, sm n (fun _ => 0) = 0
  | 0 => rfl
  | n + 1 => by rw [sm, sm_zero]; rfl
theorem sm_mul {f : Nat → Int} {a : Int} : ∀ {n : Nat}, sm n (fun i => a * f i) = a * sm n f
  | 0 => by simp [sm]
  | n + 1 => by rw [sm, sm, sm_mul, Int.mul_add]
theorem sm_mulr {f : Nat → Int} {a : Int} : ∀ {n : Nat}, sm n (fun i => f i * a) = sm n f * a
  | 0 => by simp [sm]
  | n + 1 => by rw [sm, sm, sm_mulr, Int.add_mul]
theorem sm_le {f g : Nat → Int} : ∀ {n : Nat}, (∀ i, i < n → f i ≤ g i) → sm n f ≤ sm n g
  | 0, _ => by simp [sm]
  | n + 1, h => by
    have h1 := sm_le (f := f) (g := g) (n := n) fun i hi => h i (by omega)
    have h2 := h n (by omega)
    rw [sm, sm]; omega
theorem sm_nonneg {f : Nat → Int} {n : Nat} (h : ∀ i, i < n → 0 ≤ f i) : 0 ≤ sm n f := by
  have := sm_le (f := fun _ => 0) (g := f) h
  rw [sm_zero] at this
  exact this
theorem sm_lt {f g : Nat → Int} : ∀ {n k : Nat}, (∀ i, i < n → f i ≤ g i) → k < n → f k < g k → sm n f < sm n g
  | 0, k, _, hk, _ => by omega
  | n + 1, k, h, hk, hl => by
    rw [sm, sm]
    by_cases e : k = n
    · subst e
      have h1 := sm_le (f := f) (g := g) (n := k) fun i hi => h i (by omega)
      omega
    · have h1 := sm_lt (f := f) (g := g) (n := n) (k := k) (fun i hi => h i (by omega)) (by omega) hl
      have h2 := h n (by omega)
      omega
theorem sm_swap {f : Nat → Nat → Int} : ∀ {n m : Nat}, sm n (fun i => sm m (fun j => f i j)) = sm m (fun j => sm n (fun i => f i j))
  | 0, m => by simp only [sm]; rw [sm_zero]
  | n + 1, m => by
    simp only [sm]
    rw [sm_swap, sm_add]
/-- one place alone -/
theorem sm_one {a : Int} {k : Nat} : ∀ {n : Nat}, sm n (fun i => if i = k then a else 0) = if k < n then a else 0
  | 0 => by simp [sm]
  | n + 1 => by
    rw [sm, sm_one]
    split <;> split <;> split <;> omega
theorem sm_pos {f : Nat → Int} : ∀ {n : Nat}, 0 < sm n f → ∃ i, i < n ∧ 0 < f i
  | 0, h => by simp [sm] at h
  | n + 1, h => by
    rw [sm] at h
    by_cases e : 0 < f n
    · exact ⟨n, by omega, e⟩
    · obtain ⟨i, hi, h1⟩ := sm_pos (f := f) (n := n) (by omega)
      exact ⟨i, by omega, h1⟩
theorem sm_ge {f : Nat → Int} : ∀ {n k : Nat}, (∀ i, i < n → 0 ≤ f i) → k < n → f k ≤ sm n f
  | 0, k, _, hk => by omega
  | n + 1, k, h, hk => by
    rw [sm]
    by_cases e : k = n
    · subst e
      have := sm_nonneg (f := f) (n := k) fun i hi => h i (by omega)
      omega
    · have h1 := sm_ge (f := f) (n := n) (k := k) (fun i hi => h i (by omega)) (by omega)
      have h2 := h n (by omega)
      omega
theorem sm_eq_zero {f : Nat → Int} {n : Nat} (h : ∀ i, i < n → 0 ≤ f i) (hs : sm n f = 0) : ∀ i, i < n → f i = 0 := fun i hi => by
  have h1 := sm_ge h hi
  have h2 := h i hi
  omega
/-- finitely many numbers have a bound -/
theorem exBound : ∀ (n : Nat) (f : Nat → Int), ∃ M, ∀ i, i < n → f i ≤ M
  | 0, _ => ⟨0, fun i h => by omega⟩
  | n + 1, f => by
    obtain ⟨M, h⟩ := exBound n f
    refine ⟨if M ≤ f n then f n else M, fun i hi => ?_⟩
    by_cases e : i = n
    · subst e; split <;> omega
    · have := h i (by omega); split <;> omega

/-! ### flows -/
/-- costs of lots (rows) in stretches (columns) -/
abbrev Cs := Nat → Nat → Option Int
abbrev Fw := Nat → Nat → Int
/-- a flow of n lots into K stretches: no piece where none can be -/
structure Flow (n K : Nat) (c : Cs) (f : Fw) : Prop where
  nn : ∀ i, i < n → ∀ k, k < K → 0 ≤ f i k
  al : ∀ i, i < n → ∀ k, k < K → 0 < f i k → ∃ x, c i k = some x
/-- a whole one -/
structure Full (n K : Nat) (c : Cs) (p b : Nat → Int) (f : Fw) : Prop extends Flow n K c f where
  row : ∀ i, i < n → sm K (f i) = p i
  col : ∀ k, k < K → sm n (fun i => f i k) = b k
def cv (c : Cs) (i k : Nat) : Int := (c i k).getD 0
/-- what a flow costs -/
def cost (n K : Nat) (c : Cs) (f : Fw) : Int := sm n fun i => sm K fun k => f i k * cv c i k
/-- prices of stretches with which no move is too dear -/
def Pot (n K : Nat) (c : Cs) (f : Fw) (π : Nat → Int) : Prop := ∀ i, i < n → ∀ h, h < K → ∀ t, t < K → 0 < f i h → ∀ x y, c i h = some x → c i t = some y → π t ≤ π h + y - x
theorem sm_cost {n K : Nat} {c : Cs} {f : Fw} {π : Nat → Int} : cost n K c f = sm n (fun i => sm K fun k => f i k * (cv c i k - π k)) + sm K (fun k => sm n (fun i => f i k) * π k) := by
  have h : sm K (fun k => sm n (fun i => f i k) * π k) = sm n (fun i => sm K fun k => f i k * π k) := by
    rw [sm_swap]
    exact sm_congr fun k _ => sm_mulr.symm
  rw [h, ← sm_add]
  unfold cost
  refine sm_congr fun i _ => ?_
  rw [← sm_add]
  refine sm_congr fun k _ => ?_
  rw [Int.mul_sub]
  omega
/-- a row whose pieces lie where c - π is least -/
theorem row_least {K : Nat} {r g : Nat → Int} {c : Nat → Option Int} {π : Nat → Int} (hr : ∀ k, k < K → 0 ≤ r k) (hg : ∀ k, k < K → 0 ≤ g k) (he : sm K r = sm K g) (ha : ∀ k, k < K → 0 < r k → ∃ x, c k = some x) (hb : ∀ k, k < K → 0 < g k → ∃ x, c k = some x)
    (hp : ∀ h, h < K → ∀ t, t < K → 0 < r h → ∀ x y, c h = some x → c t = some y → π t ≤ π h + y - x) : sm K (fun k => r k * ((c k).getD 0 - π k)) ≤ sm K fun k => g k * ((c k).getD 0 - π k) := by
  by_cases hz : 0 < sm K r
  · obtain ⟨h, hh, h0⟩ := sm_pos hz
    obtain ⟨x, hx⟩ := ha h hh h0
    have e1 : sm K (fun k => r k * ((c k).getD 0 - π k)) = sm K (fun k => r k * (x - π h)) := sm_congr fun k hk => by
      by_cases h1 : 0 < r k
      · obtain ⟨y, hy⟩ := ha k hk h1
        have a1 := hp h hh k hk h0 x y hx hy
        have a2 := hp k hk h hh h1 y x hy hx
        rw [hy]
        show r k * (y - π k) = _
        rw [show y - π k = x - π h by omega]
      · have : r k = 0 := by have := hr k hk; omega
        rw [this]; simp
    have e2 : sm K (fun k => g k * (x - π h)) ≤ sm K (fun k => g k * ((c k).getD 0 - π k)) := sm_le fun k hk => by
      by_cases h1 : 0 < g k
      · obtain ⟨y, hy⟩ := hb k hk h1
        have a1 := hp h hh k hk h0 x y hx hy
        rw [hy]
        exact Int.mul_le_mul_of_nonneg_left (by show x - π h ≤ y - π k; omega) (hg k hk)
      · have : g k = 0 := by have := hg k hk; omega
        rw [this]; simp
    rw [e1, sm_mulr, he, ← sm_mulr]
    exact e2
  · have z1 : sm K r = 0 := by have := sm_nonneg hr; omega
    have z2 : sm K g = 0 := by omega
    have e1 : sm K (fun k => r k * ((c k).getD 0 - π k)) = sm K (fun _ => 0) := sm_congr fun k hk => by rw [sm_eq_zero hr z1 k hk]; simp
    have e2 : sm K (fun k => g k * ((c k).getD 0 - π k)) = sm K (fun _ => 0) := sm_congr fun k hk => by rw [sm_eq_zero hg z2 k hk]; simp
    rw [e1, e2]
    exact Int.le_refl _
/-- a whole flow with such prices costs least -/
theorem least {n K : Nat} {c : Cs} {p b : Nat → Int} {f g : Fw} {π : Nat → Int} (hf : Full n K c p b f) (hp : Pot n K c f π) (hg : Full n K c p b g) : cost n K c f ≤ cost n K c g := by
  rw [sm_cost (π := π), sm_cost (f := g) (π := π)]
  have e : sm K (fun k => sm n (fun i => f i k) * π k) = sm K (fun k => sm n (fun i => g i k) * π k) := sm_congr fun k hk => by rw [hf.col k hk, hg.col k hk]
  have : sm n (fun i => sm K fun k => f i k * (cv c i k - π k)) ≤ sm n (fun i => sm K fun k => g i k * (cv c i k - π k)) := sm_le fun i hi =>
    row_least (hf.nn i hi) (hg.nn i hi) (by rw [hf.row i hi, hg.row i hi]) (hf.al i hi) (hg.al i hi) (hp i hi)
  omega
/-! ### moving pieces -/
def upd (f : Fw) (i k : Nat) (a : Int) : Fw := fun x y => if x = i ∧ y = k then f x y + a else f x y
/-- pieces of a lot more, others being moved on -/
def shift (f : Fw) : Nat → List (Nat × Nat) → Nat → Int → Fw
  | i, [], k, a => upd f i k a
  | i, (h, o) :: P, k, a => shift (upd (upd f i h a) o h (0 - a)) o P k a
theorem upd_row {f : Fw} {i k K : Nat} {a : Int} (hk : k < K) (x : Nat) : sm K (upd f i k a x) = sm K (f x) + if x = i then a else 0 := by
  have : sm K (upd f i k a x) = sm K (fun y => f x y + if y = k then (if x = i then a else 0) else 0) := sm_congr fun y _ => by
    unfold upd
    by_cases h1 : x = i <;> by_cases h2 : y = k <;> simp [h1, h2]
  rw [this, sm_add, sm_one, if_pos hk]
theorem upd_col {f : Fw} {i k n : Nat} {a : Int} (hi : i < n) (y : Nat) : sm n (fun x => upd f i k a x y) = sm n (fun x => f x y) + if y = k then a else 0 := by
  have : sm n (fun x => upd f i k a x y) = sm n (fun x => f x y + if x = i then (if y = k then a else 0) else 0) := sm_congr fun x _ => by
    unfold upd
    by_cases h1 : x = i <;> by_cases h2 : y = k <;> simp [h1, h2]
  rw [this, sm_add, sm_one, if_pos hi]
theorem shift_row {K : Nat} {a : Int} {k : Nat} (hk : k < K) : ∀ (P : List (Nat × Nat)) (f : Fw) (i : Nat), (∀ q ∈ P, q.1 < K) → ∀ x, sm K (shift f i P k a x) = sm K (f x) + if x = i then a else 0
  | [], f, i, _, x => upd_row hk x
  | (h, o) :: P, f, i, hP, x => by
    have hh : h < K := hP (h, o) (by simp)
    rw [shift, shift_row hk P _ o (fun q hq => hP q (by simp [hq])) x, upd_row hh, upd_row hh]
    by_cases e : x = o <;> simp [e] <;> omega
theorem shift_col {n : Nat} {a : Int} {k : Nat} : ∀ (P : List (Nat × Nat)) (f : Fw) (i : Nat), i < n → (∀ q ∈ P, q.2 < n) → ∀ y, sm n (fun x => shift f i P k a x y) = sm n (fun x => f x y) + if y = k then a else 0
  | [], f, i, hi, _, y => upd_col hi y
  | (h, o) :: P, f, i, hi, hP, y => by
    have ho : o < n := hP (h, o) (by simp)
    simp only [shift]
    rw [shift_col P _ o ho (fun q hq => hP q (by simp [hq])) y, upd_col ho, upd_col hi]
    by_cases e : y = h <;> simp [e] <;> omega
/-- the places that get more -/
def fresh : Nat → List (Nat × Nat) → Nat → List (Nat × Nat)
  | i, [], k => [(i, k)]
  | i, (h, o) :: P, k => (i, h) :: fresh o P k
theorem shift_supp {a : Int} {k : Nat} (ha : 0 ≤ a) : ∀ (P : List (Nat × Nat)) (f : Fw) (i x y : Nat), 0 < shift f i P k a x y → 0 < f x y ∨ (x, y) ∈ fresh i P k
  | [], f, i, x, y, h => by
    simp only [shift, upd] at h
    split at h
    · rename_i e; right; simp [fresh, e.1, e.2]
    · exact .inl h
  | (h, o) :: P, f, i, x, y, h' => by
    rw [shift] at h'
    rcases shift_supp ha P _ o x y h' with h1 | h1
    · unfold upd at h1
      by_cases e1 : x = o ∧ y = h
      · rw [if_pos e1] at h1
        by_cases e2 : x = i ∧ y = h
        · right; simp [fresh, e2.1, e2.2]
        · rw [if_neg e2] at h1; left; omega
      · rw [if_neg e1] at h1
        by_cases e2 : x = i ∧ y = h
        · right; simp [fresh, e2.1, e2.2]
        · rw [if_neg e2] at h1; exact .inl h1
    · right; simp [fresh, h1]
theorem shift_nn {a : Int} {k : Nat} (ha : 0 ≤ a) : ∀ (P : List (Nat × Nat)) (f : Fw) (i : Nat), (P.map (·.1)).Nodup → (∀ q ∈ P, a ≤ f q.2 q.1) → ∀ x y, 0 ≤ f x y → 0 ≤ shift f i P k a x y
  | [], f, i, _, _, x, y, h => by
    simp only [shift, upd]
    split <;> omega
  | (h, o) :: P, f, i, hn, hq, x, y, h0 => by
    rw [shift]
    simp only [List.map_cons, List.nodup_cons] at hn
    have ho : a ≤ f o h := hq (h, o) (by simp)
    refine shift_nn ha P _ o hn.2 (fun q hm => ?_) x y ?_
    · have hne : q.1 ≠ h := fun e => hn.1 (e ▸ List.mem_map.mpr ⟨q, hm, rfl⟩)
      have := hq q (by simp [hm])
      unfold upd
      rw [if_neg (fun e => hne e.2), if_neg (fun e => hne e.2)]
      exact this
    · unfold upd
      by_cases e1 : x = o ∧ y = h
      · rw [if_pos e1]
        obtain ⟨rfl, rfl⟩ := e1
        split <;> omega
      · rw [if_neg e1]
        split <;> omega
end Fl

/-! F2: cheapest ways and the prices behind them. -/
namespace Fl
/-- moves that can be: a piece of lot o from h to t, at cost e more -/
structure Mv (n K : Nat) (c : Cs) (f : Fw) (h t : Nat) (e : Int) (o : Nat) : Prop where
  ho : o < n
  hh : h < K
  ht : t < K
  ne : t ≠ h
  fl : 0 < f o h
  ex : ∃ x y, c o h = some x ∧ c o t = some y ∧ e = y - x
/-- labels: what a further piece costs there, and in how many steps -/
abbrev Lb := Nat → Option (Int × Nat)
/-- from h on, lot o being moved on from it, along P to k: so much, in so many steps -/
inductive Tail (n K : Nat) (c : Cs) (f : Fw) : Nat → Nat → List (Nat × Nat) → Nat → Int → Prop
  | one {h o k : Nat} {e : Int} : Mv n K c f h k e o → Tail n K c f h o [] k e
  | cons {h o h2 o2 k : Nat} {P : List (Nat × Nat)} {e C : Int} : Mv n K c f h h2 e o → Tail n K c f h2 o2 P k C → Tail n K c f h o ((h2, o2) :: P) k (e + C)
/-- a way of a piece of lot i to k -/
inductive Way (n K : Nat) (c : Cs) (f : Fw) (i : Nat) : List (Nat × Nat) → Nat → Int → Prop
  | own {k : Nat} {x : Int} : k < K → c i k = some x → Way n K c f i [] k x
  | go {h o k : Nat} {P : List (Nat × Nat)} {x C : Int} : h < K → c i h = some x → Tail n K c f h o P k C → Way n K c f i ((h, o) :: P) k (x + C)
/-- labels that no move makes less -/
structure Calm (n K : Nat) (c : Cs) (f : Fw) (i : Nat) (d : Lb) : Prop where
  own : ∀ k, k < K → ∀ x, c i k = some x → ∃ y s, d k = some (y, s) ∧ y ≤ x ∧ (y = x → s = 0)
  mv : ∀ h t e o, Mv n K c f h t e o → ∀ y s, d h = some (y, s) → ∃ y' s', d t = some (y', s') ∧ y' ≤ y + e ∧ (y' = y + e → s' ≤ s + 1)
section
variable {n K : Nat} {c : Cs} {f : Fw} {i : Nat} {d : Lb}
theorem Tail.le (hc : Calm n K c f i d) : ∀ {h o : Nat} {P : List (Nat × Nat)} {k : Nat} {C : Int}, Tail n K c f h o P k C → ∀ y s, d h = some (y, s) → ∃ y' s', d k = some (y', s') ∧ y' ≤ y + C ∧ (y' = y + C → s' ≤ s + (P.length + 1)) := by
  intro h o P k C ht
  induction ht with
  | one m => intro y s hd; simpa using hc.mv _ _ _ _ m y s hd
  | cons m _ ih =>
    intro y s hd
    obtain ⟨y1, s1, h1, h2, h3⟩ := hc.mv _ _ _ _ m y s hd
    obtain ⟨y2, s2, g1, g2, g3⟩ := ih y1 s1 h1
    refine ⟨y2, s2, g1, by omega, fun e => ?_⟩
    have := g3 (by omega)
    have := h3 (by omega)
    simp only [List.length_cons]
    omega
/-- where the whole is least, so is each part: the labels along the way -/
theorem Tail.tight (hc : Calm n K c f i d) : ∀ {h o : Nat} {P : List (Nat × Nat)} {k : Nat} {C : Int}, Tail n K c f h o P k C → ∀ y s, d h = some (y, s) → d k = some (y + C, s + (P.length + 1)) →
    (∀ q ∈ P, ∃ y' s', d q.1 = some (y', s') ∧ s < s' ∧ s' < s + (P.length + 1)) ∧ (P.map (·.1)).Nodup := by
  intro h o P k C ht
  induction ht with
  | one m => intro y s hd hk; exact ⟨by simp, by simp⟩
  | @cons h o h2 o2 k P e C m tl ih =>
    intro y s hd hk
    obtain ⟨y1, s1, h1, h2', h3⟩ := hc.mv _ _ _ _ m y s hd
    obtain ⟨y2, s2, g1, g2, g3⟩ := Tail.le hc tl y1 s1 h1
    rw [hk] at g1
    simp only [Option.some.injEq, Prod.mk.injEq, List.length_cons] at g1
    have q1 := g3 (by omega)
    have q2 := h3 (by omega)
    have e1 : y1 = y + e := by omega
    have e2 : s1 = s + 1 := by omega
    subst e1 e2
    obtain ⟨i1, i2⟩ := ih _ _ h1 (by rw [hk]; simp only [List.length_cons]; congr 2 <;> omega)
    refine ⟨fun q hq => ?_, ?_⟩
    · rcases List.mem_cons.mp hq with e | hm
      · subst e
        exact ⟨_, _, h1, by omega, by simp only [List.length_cons]; omega⟩
      · obtain ⟨y', s', a1, a2, a3⟩ := i1 q hm
        exact ⟨y', s', a1, by omega, by simp only [List.length_cons]; omega⟩
    · simp only [List.map_cons, List.nodup_cons]
      refine ⟨fun hm => ?_, i2⟩
      obtain ⟨q, hq, e⟩ := List.mem_map.mp hm
      obtain ⟨y', s', a1, a2, a3⟩ := i1 q hq
      rw [e, h1] at a1
      simp only [Option.some.injEq, Prod.mk.injEq] at a1
      omega
/-- the fresh places of a tail: no price is broken there -/
theorem Tail.fresh (hc : Calm n K c f i d) : ∀ {h o : Nat} {P : List (Nat × Nat)} {k : Nat} {C : Int}, Tail n K c f h o P k C → ∀ y s, d h = some (y, s) → d k = some (y + C, s + (P.length + 1)) →
    ∀ q ∈ Fl.fresh o P k, q.1 < n ∧ q.2 < K ∧ ∃ x yq, c q.1 q.2 = some x ∧ (∃ s', d q.2 = some (yq, s')) ∧ ∀ t, t < K → ∀ x', c q.1 t = some x' → ∃ yt s', d t = some (yt, s') ∧ yt ≤ yq + x' - x := by
  intro h o P k C ht
  have one : ∀ {h t : Nat} {e : Int} {o : Nat} {y y1 : Int} {s s1 : Nat}, Mv n K c f h t e o → d h = some (y, s) → d t = some (y1, s1) → y1 = y + e → o < n ∧ t < K ∧ ∃ x yq, c o t = some x ∧ (∃ s', d t = some (yq, s')) ∧ ∀ u, u < K → ∀ x', c o u = some x' → ∃ yt s', d u = some (yt, s') ∧ yt ≤ yq + x' - x := by
    intro h t e o y y1 s s1 m hd ht1 he
    obtain ⟨x, z, c1, c2, c3⟩ := m.ex
    refine ⟨m.ho, m.ht, z, y1, c2, ⟨s1, ht1⟩, fun u hu x' hx => ?_⟩
    by_cases e' : u = h
    · subst e'
      rw [c1] at hx
      cases hx
      exact ⟨y, s, hd, by omega⟩
    · obtain ⟨yt, st, g1, g2, _⟩ := hc.mv h u (x' - x) o ⟨m.ho, m.hh, hu, e', m.fl, x, x', c1, hx, rfl⟩ y s hd
      exact ⟨yt, st, g1, by omega⟩
  induction ht with
  | one m =>
    intro y s hd hk q hq
    simp only [Fl.fresh, List.mem_singleton] at hq
    subst hq
    exact one m hd hk rfl
  | @cons h o h2 o2 k P e C m tl ih =>
    intro y s hd hk q hq
    obtain ⟨y1, s1, h1, h2', h3⟩ := hc.mv _ _ _ _ m y s hd
    obtain ⟨y2, s2, g1, g2, g3⟩ := Tail.le hc tl y1 s1 h1
    rw [hk] at g1
    simp only [Option.some.injEq, Prod.mk.injEq, List.length_cons] at g1
    have q1 := g3 (by omega)
    have q2 := h3 (by omega)
    have e1 : y1 = y + e := by omega
    have e2 : s1 = s + 1 := by omega
    subst e1 e2
    simp only [Fl.fresh, List.mem_cons] at hq
    rcases hq with rfl | hq
    · exact one m hd h1 rfl
    · exact ih _ _ h1 (by rw [hk]; simp only [List.length_cons]; congr 2 <;> omega) q hq
theorem Tail.bd : ∀ {h o : Nat} {P : List (Nat × Nat)} {k : Nat} {C : Int}, Tail n K c f h o P k C → h < K ∧ o < n ∧ k < K ∧ 0 < f o h ∧ ∀ q ∈ P, q.1 < K ∧ q.2 < n ∧ 0 < f q.2 q.1 := by
  intro h o P k C ht
  induction ht with
  | one m => exact ⟨m.hh, m.ho, m.ht, m.fl, by simp⟩
  | cons m _ ih =>
    obtain ⟨i1, i2, i3, i4, i5⟩ := ih
    refine ⟨m.hh, m.ho, i3, m.fl, fun q hq => ?_⟩
    rcases List.mem_cons.mp hq with e | hm
    · subst e; exact ⟨i1, i2, i4⟩
    · exact i5 q hm
theorem Way.bd {P : List (Nat × Nat)} {k : Nat} {C : Int} (hw : Way n K c f i P k C) : k < K ∧ ∀ q ∈ P, q.1 < K ∧ q.2 < n ∧ 0 < f q.2 q.1 := by
  cases hw with
  | own hk _ => exact ⟨hk, by simp⟩
  | go hh _ tl =>
    obtain ⟨i1, i2, i3, i4, i5⟩ := tl.bd
    refine ⟨i3, fun q hq => ?_⟩
    rcases List.mem_cons.mp hq with e | hm
    · subst e; exact ⟨i1, i2, i4⟩
    · exact i5 q hm
/-- a way as cheap as its label tells: its stretches differ; no price is broken at its fresh places -/
theorem Way.good (hc : Calm n K c f i d) (hi : i < n) {P : List (Nat × Nat)} {k : Nat} {C : Int} (hw : Way n K c f i P k C) (hk : d k = some (C, P.length)) :
    (P.map (·.1)).Nodup ∧ ∀ q ∈ fresh i P k, q.1 < n ∧ q.2 < K ∧ ∃ x yq, c q.1 q.2 = some x ∧ (∃ s', d q.2 = some (yq, s')) ∧ ∀ t, t < K → ∀ x', c q.1 t = some x' → ∃ yt s', d t = some (yt, s') ∧ yt ≤ yq + x' - x := by
  have own : ∀ {h : Nat} {x : Int} {s : Nat}, h < K → c i h = some x → d h = some (x, s) → i < n ∧ h < K ∧ ∃ x yq, c i h = some x ∧ (∃ s', d h = some (yq, s')) ∧ ∀ t, t < K → ∀ x', c i t = some x' → ∃ yt s', d t = some (yt, s') ∧ yt ≤ yq + x' - x := by
    intro h x s hh hx hd
    refine ⟨hi, hh, x, x, hx, ⟨s, hd⟩, fun t ht x' hx' => ?_⟩
    obtain ⟨y, s', h1, h2, _⟩ := hc.own t ht x' hx'
    exact ⟨y, s', h1, by omega⟩
  cases hw with
  | own hkK hx => exact ⟨by simp, fun q hq => by
      simp only [fresh, List.mem_singleton] at hq
      subst hq
      exact own hkK hx hk⟩
  | @go h o k P x C hh hx tl =>
    obtain ⟨y, s, h1, h2, h3⟩ := hc.own h hh x hx
    obtain ⟨y2, s2, g1, g2, g3⟩ := Tail.le hc tl y s h1
    rw [hk] at g1
    simp only [Option.some.injEq, Prod.mk.injEq, List.length_cons] at g1
    have q1 := g3 (by omega)
    have e1 : y = x := by omega
    have e2 := h3 e1
    subst e1 e2
    have hk' : d k = some (y + C, 0 + (P.length + 1)) := by rw [hk]; simp only [List.length_cons]; congr 2; omega
    obtain ⟨i1, i2⟩ := Tail.tight hc tl y 0 h1 hk'
    refine ⟨?_, fun q hq => ?_⟩
    · simp only [List.map_cons, List.nodup_cons]
      refine ⟨fun hm => ?_, i2⟩
      obtain ⟨q, hq, e⟩ := List.mem_map.mp hm
      obtain ⟨y', s', a1, a2, a3⟩ := i1 q hq
      rw [e, h1] at a1
      simp only [Option.some.injEq, Prod.mk.injEq] at a1
      omega
    · simp only [fresh, List.mem_cons] at hq
      rcases hq with rfl | hq
      · exact own hh hx h1
      · exact Tail.fresh hc tl y 0 h1 hk' q hq
/-- the flow behind a cheapest way -/
theorem augment {π : Nat → Int} {a : Int} {P : List (Nat × Nat)} {k : Nat} {C : Int} (hf : Flow n K c f) (hp : Pot n K c f π) (hc : Calm n K c f i d) (hi : i < n) (hw : Way n K c f i P k C) (hk : d k = some (C, P.length)) (ha : 0 ≤ a) (hq : ∀ q ∈ P, a ≤ f q.2 q.1) :
    Flow n K c (shift f i P k a) ∧ ∃ π', Pot n K c (shift f i P k a) π' := by
  obtain ⟨nd, fr⟩ := hw.good hc hi hk
  have sup := fun x y => shift_supp (k := k) ha P f i x y
  have nn := fun x y => shift_nn (k := k) ha P f i nd hq x y
  refine ⟨⟨fun x hx y hy => nn x y (hf.nn x hx y hy), fun x hx y hy h => ?_⟩, ?_⟩
  · rcases sup x y h with h1 | h1
    · exact hf.al x hx y hy h1
    · obtain ⟨_, _, z, _, h2, _⟩ := fr _ h1
      exact ⟨z, h2⟩
  · -- far stretches get prices so great that no move leads back cheaper
    obtain ⟨M1, hM1⟩ := exBound K fun t => ((d t).map (·.1)).getD 0
    obtain ⟨M2, hM2⟩ := exBound K fun h => 0 - π h
    obtain ⟨M3, hM3⟩ := exBound n fun o => (exBound K fun h => cv c o h).choose
    have hM3' : ∀ o, o < n → ∀ h, h < K → cv c o h ≤ M3 := fun o ho h hh => Int.le_trans ((exBound K fun h => cv c o h).choose_spec h hh) (hM3 o ho)
    obtain ⟨M4, hM4⟩ := exBound n fun o => (exBound K fun h => 0 - cv c o h).choose
    have hM4' : ∀ o, o < n → ∀ h, h < K → 0 - cv c o h ≤ M4 := fun o ho h hh => Int.le_trans ((exBound K fun h => 0 - cv c o h).choose_spec h hh) (hM4 o ho)
    refine ⟨fun t => match d t with
      | some (y, _) => y
      | none => π t + (M1 + M2 + M3 + M4), fun o ho h hh t ht hfl x y hx hy => ?_⟩
    rcases sup o h hfl with h1 | h1
    · -- a move that was there
      by_cases e : t = h
      · subst e
        rw [hx] at hy
        cases hy
        have e0 : ∀ z : Int, z ≤ z + x - x := fun z => by omega
        exact e0 _
      · have m : Mv n K c f h t (y - x) o := ⟨ho, hh, ht, e, h1, x, y, hx, hy, rfl⟩
        cases hdh : d h with
        | some z =>
          obtain ⟨y', s', g1, g2, _⟩ := hc.mv h t _ o m z.1 z.2 hdh
          simp only [hdh, g1]
          omega
        | none =>
          cases hdt : d t with
          | none =>
            have := hp o ho h hh t ht h1 x y hx hy
            simp only [hdh, hdt]
            omega
          | some z =>
            simp only [hdh, hdt]
            have a1 := hM1 t ht
            have a2 := hM2 h hh
            have a3 := hM3' o ho h hh
            have a4 := hM4' o ho t ht
            simp only [hdt, Option.map_some, Option.getD_some] at a1
            simp only [cv, hx, Option.getD_some] at a3
            simp only [cv, hy, Option.getD_some] at a4
            omega
    · obtain ⟨_, _, z, yq, h2, ⟨s', h3⟩, h4⟩ := fr _ h1
      obtain ⟨yt, st, h5, h6⟩ := h4 t ht y hy
      simp only at h2 h3
      rw [hx] at h2
      cases h2
      simp only [h3, h5]
      omega
/-- while pieces are left, and all could be placed, some stretch with room is reached -/
theorem reach {p b : Nat → Int} {g : Fw} (hf : Flow n K c f) (hc : Calm n K c f i d) (hi : i < n) (hg : Full n K c p b g) (hrow : ∀ o, o < n → sm K (f o) ≤ p o) (hrowi : sm K (f i) < p i) (hcol : ∀ k, k < K → sm n (fun o => f o k) ≤ b k) :
    ∃ k, k < K ∧ (∃ z, d k = some z) ∧ sm n (fun o => f o k) < b k := by
  refine Classical.byContradiction fun hno => ?_
  have full : ∀ k, k < K → (d k).isSome = true → sm n (fun o => f o k) = b k := fun k hk hd => by
    have h1 := hcol k hk
    by_cases h2 : sm n (fun o => f o k) < b k
    · exact (hno ⟨k, hk, Option.isSome_iff_exists.mp hd, h2⟩).elim
    · omega
  let r : Nat → Int := fun k => if (d k).isSome then 1 else 0
  have rw1 : ∀ k, r k = 1 ∨ r k = 0 := fun k => by
    show (if (d k).isSome then (1 : Int) else 0) = 1 ∨ (if (d k).isSome then (1 : Int) else 0) = 0
    split
    · exact .inl rfl
    · exact .inr rfl
  have eq : sm n (fun o => sm K fun k => r k * f o k) = sm n (fun o => sm K fun k => r k * g o k) := by
    rw [sm_swap, sm_swap (f := fun o k => r k * g o k)]
    refine sm_congr fun k hk => ?_
    rw [sm_mul, sm_mul]
    show (if (d k).isSome then (1 : Int) else 0) * _ = (if (d k).isSome then (1 : Int) else 0) * _
    split
    · rename_i hd; rw [full k hk hd, hg.col k hk]
    · simp
  have allR : ∀ o, o < n → (∀ t, t < K → (∃ x, c o t = some x) → (d t).isSome = true) → sm K (fun k => r k * g o k) = p o := fun o ho hall => by
    rw [← hg.row o ho]
    refine sm_congr fun k hk => ?_
    by_cases h0 : 0 < g o k
    · have := hall k hk (hg.al o ho k hk h0)
      show (if (d k).isSome then (1 : Int) else 0) * _ = _
      rw [if_pos this]; simp
    · have : g o k = 0 := by have := hg.nn o ho k hk; omega
      rw [this]; simp
  have le1 : ∀ o, o < n → sm K (fun k => r k * f o k) ≤ sm K (f o) := fun o ho => sm_le fun k hk => by
    have := hf.nn o ho k hk
    rcases rw1 k with e | e <;> rw [e] <;> omega
  have key : ∀ o, o < n → sm K (fun k => r k * f o k) ≤ sm K (fun k => r k * g o k) := fun o ho => by
    by_cases h0 : 0 < sm K (fun k => r k * f o k)
    · obtain ⟨h, hh, h1⟩ := sm_pos h0
      have hd : (d h).isSome = true := by
        rcases Bool.eq_false_or_eq_true (d h).isSome with e | e
        · exact e
        · have : r h = 0 := by show (if (d h).isSome then (1 : Int) else 0) = 0; rw [e]; rfl
          rw [this] at h1; simp at h1
      have hfl : 0 < f o h := by
        have : r h = 1 := by show (if (d h).isSome then (1 : Int) else 0) = 1; rw [if_pos hd]
        rw [this] at h1; omega
      obtain ⟨x, hx⟩ := hf.al o ho h hh hfl
      obtain ⟨z, hz⟩ := Option.isSome_iff_exists.mp hd
      rw [allR o ho fun t ht hy => by
        obtain ⟨y, hy⟩ := hy
        by_cases e : t = h
        · subst e; exact hd
        · obtain ⟨_, _, g1, _⟩ := hc.mv h t (y - x) o ⟨ho, hh, ht, e, hfl, x, y, hx, hy, rfl⟩ z.1 z.2 hz
          rw [g1]; rfl]
      have := le1 o ho
      have := hrow o ho
      omega
    · have : 0 ≤ sm K (fun k => r k * g o k) := sm_nonneg fun k hk => by
        have := hg.nn o ho k hk
        rcases rw1 k with e | e <;> rw [e] <;> omega
      omega
  have strict : sm K (fun k => r k * f i k) < sm K (fun k => r k * g i k) := by
    rw [allR i hi fun t ht hy => by
      obtain ⟨y, hy⟩ := hy
      obtain ⟨_, _, g1, _⟩ := hc.own t ht y hy
      rw [g1]; rfl]
    have := le1 i hi
    omega
  have := sm_lt key hi strict
  omega
end
end Fl

/-! F3: the labels of ways made less, move by move, until none is. -/
namespace Fl
/-- a label: cost, steps, and the way -/
abbrev En := Option (Int × Nat × List (Nat × Nat))
abbrev Mo := Nat × Nat × Int × Nat
def at_ (b : List En) (k : Nat) : En := (b[k]?).getD none
def lb (b : List En) : Lb := fun k => (at_ b k).map fun z => (z.1, z.2.1)
/-- one move tried: the labels behind it, if one is less -/
def stepW (b : List En) (m : Mo) : Option (List En) := match at_ b m.1 with
  | none => none
  | some (C, s, P) => match at_ b m.2.1 with
    | none => some (b.set m.2.1 (some (C + m.2.2.1, s + 1, P ++ [(m.1, m.2.2.2)])))
    | some (C', s', _) => if C + m.2.2.1 < C' ∨ (C + m.2.2.1 = C' ∧ s + 1 < s') then some (b.set m.2.1 (some (C + m.2.2.1, s + 1, P ++ [(m.1, m.2.2.2)]))) else none
def stepP (st : List En × Bool) (m : Mo) : List En × Bool := match stepW st.1 m with
  | none => st
  | some b => (b, true)
def pass (b : List En) (ms : List Mo) : List En × Bool := ms.foldl stepP (b, false)
theorem at_set {b : List En} {k t : Nat} {x : En} (ht : t < b.length) : at_ (b.set t x) k = if k = t then x else at_ b k := by
  unfold at_
  rw [List.getElem?_set]
  by_cases h : t = k
  · subst h; simp [ht]
  · simp [h, Ne.symm h]
section
variable {n K : Nat} {c : Cs} {f : Fw} {i : Nat}
theorem Tail.snoc : ∀ {h o : Nat} {P : List (Nat × Nat)} {k : Nat} {C : Int}, Tail n K c f h o P k C → ∀ {t o2 : Nat} {e : Int}, Mv n K c f k t e o2 → Tail n K c f h o (P ++ [(k, o2)]) t (C + e) := by
  intro h o P k C ht
  induction ht with
  | one m => intro t o2 e m2; exact .cons m (.one m2)
  | cons m _ ih =>
    intro t o2 e m2
    have := Tail.cons m (ih m2)
    rw [show ∀ a b c : Int, a + b + c = a + (b + c) from fun a b c => by omega]
    exact this
theorem Way.snoc {P : List (Nat × Nat)} {h t o : Nat} {C e : Int} (w : Way n K c f i P h C) (m : Mv n K c f h t e o) : Way n K c f i (P ++ [(h, o)]) t (C + e) := by
  cases w with
  | own hk hx => exact .go hk hx (.one m)
  | go hh hx tl =>
    have := Way.go hh hx (tl.snoc m)
    rw [show ∀ a b c : Int, a + b + c = a + (b + c) from fun a b c => by omega]
    exact this
theorem Tail.low {π : Nat → Int} (hp : Pot n K c f π) : ∀ {h o : Nat} {P : List (Nat × Nat)} {k : Nat} {C : Int}, Tail n K c f h o P k C → π k - π h ≤ C := by
  intro h o P k C ht
  have one : ∀ {h t : Nat} {e : Int} {o : Nat}, Mv n K c f h t e o → π t - π h ≤ e := fun {h t e o} m => by
    obtain ⟨x, y, h1, h2, h3⟩ := m.ex
    have := hp o m.ho h m.hh t m.ht m.fl x y h1 h2
    omega
  induction ht with
  | one m => exact one m
  | cons m _ ih => have := one m; omega
theorem Way.low {π : Nat → Int} {L0 : Int} (hp : Pot n K c f π) (hL : ∀ h, h < K → ∀ x, c i h = some x → L0 ≤ x - π h) {P : List (Nat × Nat)} {k : Nat} {C : Int} (w : Way n K c f i P k C) : L0 + π k ≤ C := by
  cases w with
  | own hk hx => have := hL _ hk _ hx; omega
  | go hh hx tl => have := hL _ hh _ hx; have := tl.low hp; omega
/-- not beyond so much, in so many steps -/
def lexle (z : Int × Nat × List (Nat × Nat)) (C : Int) (s : Nat) : Prop := z.1 < C ∨ (z.1 = C ∧ z.2.1 ≤ s)
/-- a way whose parts are not cheaper than the labels that stand there -/
inductive Good (n K : Nat) (c : Cs) (f : Fw) (b : List En) : List (Nat × Nat) → Nat → Int → Prop
  | nil {k : Nat} {C : Int} : Good n K c f b [] k C
  | snoc {Q : List (Nat × Nat)} {h k o : Nat} {C e : Int} : Good n K c f b Q h C → Mv n K c f h k e o → (∃ z, at_ b h = some z ∧ lexle z C Q.length) → Good n K c f b (Q ++ [(h, o)]) k (C + e)
theorem Good.mono {b b' : List En} (hb : ∀ k z, at_ b k = some z → ∃ z', at_ b' k = some z' ∧ (z'.1 < z.1 ∨ (z'.1 = z.1 ∧ z'.2.1 ≤ z.2.1))) : ∀ {P : List (Nat × Nat)} {k : Nat} {C : Int}, Good n K c f b P k C → Good n K c f b' P k C := by
  intro P k C h
  induction h with
  | nil => exact .nil
  | snoc _ m hz ih =>
    obtain ⟨z, h1, h2⟩ := hz
    obtain ⟨z', h3, h4⟩ := hb _ _ h1
    exact .snoc ih m ⟨z', h3, by unfold lexle at h2 ⊢; omega⟩
theorem Good.mem {π : Nat → Int} (hp : Pot n K c f π) {b : List En} : ∀ {P : List (Nat × Nat)} {k : Nat} {C : Int}, Good n K c f b P k C → ∀ t ∈ P.map (·.1), ∃ z CA j, at_ b t = some z ∧ lexle z CA j ∧ j < P.length ∧ CA + π k - π t ≤ C := by
  intro P k C h
  have one : ∀ {h t : Nat} {e : Int} {o : Nat}, Mv n K c f h t e o → π t - π h ≤ e := fun {h t e o} m => by
    obtain ⟨x, y, h1, h2, h3⟩ := m.ex
    have := hp o m.ho h m.hh t m.ht m.fl x y h1 h2
    omega
  induction h with
  | nil => intro t ht; simp at ht
  | @snoc Q h k o C e _ m hz ih =>
    intro t ht
    have h1 := one m
    rw [List.map_append, List.mem_append] at ht
    rcases ht with ht | ht
    · obtain ⟨z, CA, j, g1, g2, g3, g4⟩ := ih t ht
      exact ⟨z, CA, j, g1, g2, by rw [List.length_append]; omega, by omega⟩
    · simp only [List.map_cons, List.map_nil, List.mem_singleton] at ht
      subst ht
      obtain ⟨z, g1, g2⟩ := hz
      exact ⟨z, C, Q.length, g1, g2, by rw [List.length_append]; simp, by omega⟩
theorem nodup_bound : ∀ (K : Nat) (l : List Nat), l.Nodup → (∀ x ∈ l, x < K) → l.length ≤ K
  | 0, l, _, h => by
    cases l with
    | nil => simp
    | cons x xs => exact absurd (h x (by simp)) (by omega)
  | K + 1, l, hn, h => by
    have h1 := nodup_bound K (l.filter fun x => decide (x < K)) (hn.sublist List.filter_sublist) fun x hx => by simpa using (List.mem_filter.mp hx).2
    have h2 : ∀ l : List Nat, l.Nodup → (∀ x ∈ l, x < K + 1) → l.length ≤ (l.filter fun x => decide (x < K)).length + 1 := by
      intro l
      induction l with
      | nil => intro _ _; simp
      | cons x xs ih =>
        intro hn h
        have hx := h x (by simp)
        simp only [List.nodup_cons] at hn
        by_cases e : x < K
        · have := ih hn.2 fun y hy => h y (by simp [hy])
          simp only [List.filter_cons, e, decide_true, if_true, List.length_cons]
          omega
        · have e2 : x = K := by omega
          have all : ∀ y ∈ xs, y < K := fun y hy => by
            have := h y (by simp [hy])
            have : y ≠ x := fun e => hn.1 (e ▸ hy)
            omega
          rw [List.filter_cons, if_neg (by simpa using e), List.filter_eq_self.2 (fun y hy => by simpa using all y hy)]
          simp
    have := h2 l hn h
    omega
/-- right labels -/
structure Lab (n K : Nat) (c : Cs) (f : Fw) (i : Nat) (b : List En) : Prop where
  good : ∀ k z, at_ b k = some z → Good n K c f b z.2.2 k z.1
  nd : ∀ k z, at_ b k = some z → (z.2.2.map (·.1) ++ [k]).Nodup
  len : b.length = K
  way : ∀ k z, at_ b k = some z → Way n K c f i z.2.2 k z.1 ∧ z.2.1 = z.2.2.length
  own : ∀ k, k < K → ∀ x, c i k = some x → ∃ z, at_ b k = some z ∧ z.1 ≤ x ∧ (z.1 = x → z.2.1 = 0)
/-- how much the labels can still fall -/
def none0 : En → Int
  | none => 1
  | some _ => 0
def cost0 (l : Int) : En → Int
  | none => 0
  | some z => z.1 - l
def stp0 : En → Int
  | none => 0
  | some z => z.2.1
def meas (K : Nat) (L : Nat → Int) (b : List En) : Nat × Nat × Nat := ((sm K fun k => none0 (at_ b k)).toNat, (sm K fun k => cost0 (L k) (at_ b k)).toNat, (sm K fun k => stp0 (at_ b k)).toNat)
/-- moves of the list are moves that can be -/
def AllMv (n K : Nat) (c : Cs) (f : Fw) (ms : List Mo) : Prop := ∀ m ∈ ms, Mv n K c f m.1 m.2.1 m.2.2.1 m.2.2.2
abbrev Less (a b : Nat × Nat × Nat) : Prop := Prod.Lex (· < ·) (Prod.Lex (· < ·) (· < ·)) a b
theorem sm_chg {g : En → Nat → Int} {b : List En} {t : Nat} {x : En} (ht : t < b.length) (hK : b.length = K) : sm K (fun k => g (at_ (b.set t x) k) k) = sm K (fun k => g (at_ b k) k) + (g x t - g (at_ b t) t) := by
  have : sm K (fun k => g (at_ (b.set t x) k) k) = sm K (fun k => g (at_ b k) k + if k = t then g x t - g (at_ b t) t else 0) := sm_congr fun k _ => by
    rw [at_set ht]
    by_cases h : k = t
    · subst h; simp; omega
    · simp [h]
  rw [this, sm_add, sm_one, if_pos (by omega)]
theorem step_lab {π : Nat → Int} (hp : Pot n K c f π) {b b' : List En} {m : Mo} (hb : Lab n K c f i b) (hm : Mv n K c f m.1 m.2.1 m.2.2.1 m.2.2.2) (h : stepW b m = some b') :
    Lab n K c f i b' ∧ ∀ (L : Nat → Int), (∀ P k C, Way n K c f i P k C → L k ≤ C) → Less (meas K L b') (meas K L b) := by
  have ht : m.2.1 < b.length := by rw [hb.len]; exact hm.ht
  unfold stepW at h
  cases hh : at_ b m.1 with
  | none => rw [hh] at h; cases h
  | some z =>
    obtain ⟨C, s, P⟩ := z
    rw [hh] at h
    obtain ⟨w1, w2⟩ := hb.way _ _ hh
    have w3 := w1.snoc hm
    simp only at w2 w3
    have lab : ∀ b'', b'' = b.set m.2.1 (some (C + m.2.2.1, s + 1, P ++ [(m.1, m.2.2.2)])) → (∀ x, c i m.2.1 = some x → C + m.2.2.1 ≤ x ∧ (C + m.2.2.1 = x → s + 1 = 0)) → (∀ z', at_ b m.2.1 = some z' → C + m.2.2.1 < z'.1 ∨ (C + m.2.2.1 = z'.1 ∧ s + 1 < z'.2.1)) → Lab n K c f i b'' := fun b'' e hx hlt => by
      subst e
      have less : ∀ k z, at_ b k = some z → ∃ z', at_ (b.set m.2.1 (some (C + m.2.2.1, s + 1, P ++ [(m.1, m.2.2.2)]))) k = some z' ∧ (z'.1 < z.1 ∨ (z'.1 = z.1 ∧ z'.2.1 ≤ z.2.1)) := fun k z hz => by
        rw [at_set ht]
        by_cases e : k = m.2.1
        · subst e
          rw [if_pos rfl]
          refine ⟨_, rfl, ?_⟩
          have := hlt z hz
          simp only
          omega
        · rw [if_neg e]
          exact ⟨z, hz, .inr ⟨rfl, Nat.le_refl _⟩⟩
      have g0 := hb.good _ _ hh
      have g1 : Good n K c f b (P ++ [(m.1, m.2.2.2)]) m.2.1 (C + m.2.2.1) := .snoc g0 hm ⟨_, hh, .inr ⟨rfl, Nat.le_of_eq w2⟩⟩
      have fresh_t : m.2.1 ∉ P.map (·.1) := fun hmem => by
        obtain ⟨z, CA, j, a1, a2, a3, a4⟩ := g0.mem hp _ hmem
        obtain ⟨x, y, b1, b2, b3⟩ := hm.ex
        have := hp _ hm.ho _ hm.hh _ hm.ht hm.fl x y b1 b2
        have := hlt z a1
        unfold lexle at a2
        simp only at a3 a4 w2
        omega
      refine ⟨fun k z hz => ?_, fun k z hz => ?_, by rw [List.length_set, hb.len], fun k z hz => ?_, fun k hk x hkx => ?_⟩
      · rw [at_set ht] at hz
        by_cases e : k = m.2.1
        · rw [if_pos e] at hz
          cases hz
          subst e
          exact g1.mono less
        · rw [if_neg e] at hz
          exact (hb.good k z hz).mono less
      · rw [at_set ht] at hz
        by_cases e : k = m.2.1
        · rw [if_pos e] at hz
          cases hz
          subst e
          have n0 := hb.nd _ _ hh
          simp only at n0
          simp only [List.map_append, List.map_cons, List.map_nil]
          rw [List.nodup_append] at n0 ⊢
          refine ⟨?_, by simp, ?_⟩
          · rw [List.nodup_append]
            exact n0
          · intro x hx y hy e
            simp only [List.mem_singleton] at hy
            subst hy
            rcases List.mem_append.mp hx with h1 | h1
            · exact fresh_t (e ▸ h1)
            · simp only [List.mem_singleton] at h1
              exact hm.ne (e.symm.trans h1)
        · rw [if_neg e] at hz
          exact hb.nd k z hz
      · rw [at_set ht] at hz
        by_cases e : k = m.2.1
        · rw [if_pos e] at hz
          cases hz
          subst e
          exact ⟨w3, by simp [w2]⟩
        · rw [if_neg e] at hz
          exact hb.way k z hz
      · rw [at_set ht]
        by_cases e : k = m.2.1
        · subst e
          rw [if_pos rfl]
          exact ⟨_, rfl, hx x hkx⟩
        · rw [if_neg e]
          exact hb.own k hk x hkx
    have low : ∀ (L : Nat → Int), (∀ P k C, Way n K c f i P k C → L k ≤ C) → ∀ k, 0 ≤ cost0 (L k) (at_ b k) := fun L hL k => by
      cases hk : at_ b k with
      | none => exact Int.le_refl _
      | some z => have := hL _ _ _ (hb.way k z hk).1; simp only [cost0]; omega
    have nn1 : 0 ≤ sm K fun k => none0 (at_ b k) := sm_nonneg fun k _ => by cases at_ b k <;> simp [none0]
    have nn3 : 0 ≤ sm K fun k => stp0 (at_ b k) := sm_nonneg fun k _ => by cases at_ b k <;> simp [stp0]
    cases htt : at_ b m.2.1 with
    | none =>
      rw [htt] at h
      simp only [Option.some.injEq] at h
      refine ⟨lab b' h.symm (fun x hx => ?_) (fun z' hz' => by rw [htt] at hz'; cases hz'), fun L hL => ?_⟩
      · obtain ⟨z, h1, _⟩ := hb.own _ hm.ht x hx
        rw [htt] at h1
        cases h1
      · subst h
        refine Prod.Lex.left _ _ ?_
        have e := sm_chg (K := K) (g := fun x _ => none0 x) (x := some (C + m.2.2.1, s + 1, P ++ [(m.1, m.2.2.2)])) ht hb.len
        have nn : 0 ≤ sm K fun k => none0 (at_ (b.set m.2.1 (some (C + m.2.2.1, s + 1, P ++ [(m.1, m.2.2.2)]))) k) := sm_nonneg fun k _ => by cases at_ (b.set m.2.1 (some (C + m.2.2.1, s + 1, P ++ [(m.1, m.2.2.2)]))) k <;> simp [none0]
        simp only [htt, none0] at e nn ⊢
        omega
    | some z' =>
      obtain ⟨C', s', P'⟩ := z'
      rw [htt] at h
      simp only at h
      split at h
      · rename_i hlt
        simp only [Option.some.injEq] at h
        refine ⟨lab b' h.symm (fun x hx => ?_) (fun z' hz' => by rw [htt] at hz'; cases hz'; exact hlt), fun L hL => ?_⟩
        · obtain ⟨z, h1, h2, h3⟩ := hb.own _ hm.ht x hx
          rw [htt] at h1
          cases h1
          simp only at h2 h3
          omega
        · subst h
          have e1 := sm_chg (K := K) (g := fun x _ => none0 x) (x := some (C + m.2.2.1, s + 1, P ++ [(m.1, m.2.2.2)])) ht hb.len
          have e2 := sm_chg (K := K) (g := fun x k => cost0 (L k) x) (x := some (C + m.2.2.1, s + 1, P ++ [(m.1, m.2.2.2)])) ht hb.len
          have e3 := sm_chg (K := K) (g := fun x _ => stp0 x) (x := some (C + m.2.2.1, s + 1, P ++ [(m.1, m.2.2.2)])) ht hb.len
          simp only [htt, none0, cost0, stp0] at e1 e2 e3
          have l1 := hL _ _ _ w3
          have l2 : 0 ≤ sm K fun k => cost0 (L k) (at_ b k) := sm_nonneg fun k _ => low L hL k
          have l3 : cost0 (L m.2.1) (at_ b m.2.1) ≤ sm K fun k => cost0 (L k) (at_ b k) := sm_ge (fun k _ => low L hL k) hm.ht
          have l4 : stp0 (at_ b m.2.1) ≤ sm K fun k => stp0 (at_ b k) := sm_ge (fun k _ => by cases at_ b k <;> simp [stp0]) hm.ht
          simp only [htt, cost0, stp0] at l3 l4
          unfold meas Less
          rw [show (sm K fun k => none0 (at_ (b.set m.2.1 (some (C + m.2.2.1, s + 1, P ++ [(m.1, m.2.2.2)]))) k)).toNat = (sm K fun k => none0 (at_ b k)).toNat by simp only [none0]; omega]
          refine Prod.Lex.right _ ?_
          by_cases hc : C + m.2.2.1 < C'
          · refine Prod.Lex.left _ _ ?_
            simp only [cost0]
            omega
          · have hc2 : C + m.2.2.1 = C' ∧ s + 1 < s' := by omega
            rw [show (sm K fun k => cost0 (L k) (at_ (b.set m.2.1 (some (C + m.2.2.1, s + 1, P ++ [(m.1, m.2.2.2)]))) k)).toNat = (sm K fun k => cost0 (L k) (at_ b k)).toNat by simp only [cost0]; omega]
            refine Prod.Lex.right _ ?_
            simp only [stp0]
            omega
      · cases h
theorem stepP_none {st : List En × Bool} {m : Mo} (h : stepW st.1 m = none) : stepP st m = st := by unfold stepP; rw [h]
theorem stepP_some {st : List En × Bool} {m : Mo} {b : List En} (h : stepW st.1 m = some b) : stepP st m = (b, true) := by unfold stepP; rw [h]
theorem less_trans {a b d : Nat × Nat × Nat} (h : Less a b) (h2 : Less b d) : Less a d := by
  rw [show Less a d = Prod.Lex (· < ·) (Prod.Lex (· < ·) (· < ·)) a d from rfl]
  rcases h with ⟨x, y, h⟩ | ⟨x, h⟩
  · rcases h2 with ⟨_, _, g⟩ | ⟨_, g⟩
    · exact .left _ _ (Nat.lt_trans h g)
    · exact .left _ _ h
  · rcases h2 with ⟨_, _, g⟩ | ⟨_, g⟩
    · exact .left _ _ g
    · refine .right _ ?_
      rcases h with ⟨x, y, h⟩ | ⟨x, h⟩
      · rcases g with ⟨_, _, g⟩ | ⟨_, g⟩
        · exact .left _ _ (Nat.lt_trans h g)
        · exact .left _ _ h
      · rcases g with ⟨_, _, g⟩ | ⟨_, g⟩
        · exact .left _ _ g
        · exact .right _ (Nat.lt_trans h g)
theorem fold_lab {π : Nat → Int} (hp : Pot n K c f π) {L : Nat → Int} (hL : ∀ P k C, Way n K c f i P k C → L k ≤ C) : ∀ (ms : List Mo) (st : List En × Bool), Lab n K c f i st.1 → AllMv n K c f ms →
    Lab n K c f i (ms.foldl stepP st).1 ∧ ((ms.foldl stepP st = st ∧ ∀ m ∈ ms, stepW st.1 m = none) ∨ ((ms.foldl stepP st).2 = true ∧ Less (meas K L (ms.foldl stepP st).1) (meas K L st.1)))
  | [], st, hb, _ => ⟨hb, .inl ⟨rfl, by simp⟩⟩
  | m :: ms, st, hb, hm => by
    simp only [List.foldl_cons]
    cases hs : stepW st.1 m with
    | none =>
      rw [stepP_none hs]
      obtain ⟨h1, h2⟩ := fold_lab hp hL ms st hb fun x hx => hm x (by simp [hx])
      refine ⟨h1, h2.imp (fun h => ⟨h.1, fun x hx => ?_⟩) id⟩
      rcases List.mem_cons.mp hx with e | e
      · rw [e]; exact hs
      · exact h.2 x e
    | some b =>
      rw [stepP_some hs]
      obtain ⟨g1, g2⟩ := step_lab hp hb (hm m (by simp)) hs
      obtain ⟨h1, h2⟩ := fold_lab hp hL ms (b, true) g1 fun x hx => hm x (by simp [hx])
      refine ⟨h1, .inr ?_⟩
      rcases h2 with ⟨h2, _⟩ | ⟨h2, h3⟩
      · rw [h2]; exact ⟨rfl, g2 L hL⟩
      · exact ⟨h2, less_trans h3 (g2 L hL)⟩
/-- passes until none changes a label -/
inductive Iter (ms : List Mo) : List En → List En → Prop
  | done {b : List En} : pass b ms = (b, false) → Iter ms b b
  | more {b b1 b' : List En} : pass b ms = (b1, true) → Iter ms b1 b' → Iter ms b b'
theorem less_wf : WellFounded Less := (Prod.lex (sizeOfWFRel (α := Nat)) (Prod.lex (sizeOfWFRel (α := Nat)) (sizeOfWFRel (α := Nat)))).wf |> fun h => by
  refine Subrelation.wf (fun {a b} hab => ?_) h
  have conv : ∀ {x y : Nat}, x < y → sizeOf x < sizeOf y := fun h => h
  rcases hab with ⟨x, y, h⟩ | ⟨x, h⟩
  · exact .left _ _ h
  · refine .right _ ?_
    rcases h with ⟨x, y, h⟩ | ⟨x, h⟩
    · exact .left _ _ h
    · exact .right _ h
theorem settle {π : Nat → Int} (hp : Pot n K c f π) {L : Nat → Int} (hL : ∀ P k C, Way n K c f i P k C → L k ≤ C) {ms : List Mo} (hm : AllMv n K c f ms) : ∀ b, Lab n K c f i b → ∃ b', Iter ms b b' ∧ Lab n K c f i b' ∧ ∀ m ∈ ms, stepW b' m = none := by
  intro b
  refine (InvImage.wf (meas K L) less_wf).induction (C := fun b => Lab n K c f i b → ∃ b', Iter ms b b' ∧ Lab n K c f i b' ∧ ∀ m ∈ ms, stepW b' m = none) b fun b ih hb => ?_
  obtain ⟨h1, h2⟩ := fold_lab hp hL ms (b, false) hb hm
  rcases h2 with ⟨h2, h3⟩ | ⟨h2, h3⟩
  · exact ⟨b, .done h2, hb, h3⟩
  · obtain ⟨b', g1, g2, g3⟩ := ih _ h3 h1
    exact ⟨b', .more (Prod.ext rfl h2) g1, g2, g3⟩
/-- labels that no move makes less are calm -/
theorem calm_of {b : List En} (hb : Lab n K c f i b) {ms : List Mo} (hm : ∀ h t e o, Mv n K c f h t e o → (h, t, e, o) ∈ ms) (hs : ∀ m ∈ ms, stepW b m = none) : Calm n K c f i (lb b) := by
  refine ⟨fun k hk x hx => ?_, fun h t e o m y s hy => ?_⟩
  · obtain ⟨z, h1, h2, h3⟩ := hb.own k hk x hx
    exact ⟨z.1, z.2.1, by unfold lb; rw [h1]; rfl, h2, h3⟩
  · have h0 := hs _ (hm h t e o m)
    unfold lb at hy
    cases hh : at_ b h with
    | none => rw [hh] at hy; cases hy
    | some z =>
      obtain ⟨C, s0, P⟩ := z
      rw [hh] at hy
      simp only [Option.map_some, Option.some.injEq, Prod.mk.injEq] at hy
      obtain ⟨rfl, rfl⟩ := hy
      unfold stepW at h0
      simp only [hh] at h0
      cases ht : at_ b t with
      | none => rw [ht] at h0; cases h0
      | some z' =>
        obtain ⟨C', s', P'⟩ := z'
        rw [ht] at h0
        simp only at h0
        split at h0
        · cases h0
        · rename_i hno
          refine ⟨C', s', by unfold lb; rw [ht]; rfl, by omega, fun e => by omega⟩
/-- the least cost below all ways -/
theorem low_ex {π : Nat → Int} (hp : Pot n K c f π) : ∃ L : Nat → Int, ∀ P k C, Way n K c f i P k C → L k ≤ C := by
  obtain ⟨M, hM⟩ := exBound K fun h => π h - cv c i h
  refine ⟨fun k => 0 - M + π k, fun P k C w => w.low hp fun h hh x hx => ?_⟩
  have := hM h hh
  simp only [cv, hx, Option.getD_some] at this
  omega
theorem Lab.short {b : List En} (hb : Lab n K c f i b) {k : Nat} {z : Int × Nat × List (Nat × Nat)} (h : at_ b k = some z) : z.2.2.length < K := by
  have h1 := nodup_bound K _ (hb.nd k z h) fun x hx => by
    rcases List.mem_append.mp hx with h1 | h1
    · obtain ⟨q, hq, rfl⟩ := List.mem_map.mp h1
      exact ((hb.way k z h).1.bd.2 q hq).1
    · simp only [List.mem_singleton] at h1
      rw [h1]
      exact (hb.way k z h).1.bd.1
  simp at h1
  omega
end
end Fl

/-! F4: prices of stretches made less until none is; the flow in order. -/
namespace Fl
def iat (b : List Int) (k : Nat) : Int := (b[k]?).getD 0
def stepL (b : List Int) (m : Mo) : Option (List Int) := if iat b m.1 + m.2.2.1 < iat b m.2.1 then some (b.set m.2.1 (iat b m.1 + m.2.2.1)) else none
def stepQ (st : List Int × Bool) (m : Mo) : List Int × Bool := match stepL st.1 m with
  | none => st
  | some b => (b, true)
def passL (b : List Int) (ms : List Mo) : List Int × Bool := ms.foldl stepQ (b, false)
inductive IterL (ms : List Mo) : List Int → List Int → Prop
  | done {b : List Int} : passL b ms = (b, false) → IterL ms b b
  | more {b b1 b' : List Int} : passL b ms = (b1, true) → IterL ms b1 b' → IterL ms b b'
theorem iat_set {b : List Int} {k t : Nat} {x : Int} (ht : t < b.length) : iat (b.set t x) k = if k = t then x else iat b k := by
  unfold iat
  rw [List.getElem?_set]
  by_cases h : t = k
  · subst h; simp [ht]
  · simp [h, Ne.symm h]
theorem stepQ_none {st : List Int × Bool} {m : Mo} (h : stepL st.1 m = none) : stepQ st m = st := by unfold stepQ; rw [h]
theorem stepQ_some {st : List Int × Bool} {m : Mo} {b : List Int} (h : stepL st.1 m = some b) : stepQ st m = (b, true) := by unfold stepQ; rw [h]
section
variable {n K : Nat} {c : Cs} {f : Fw}
structure Lv (K : Nat) (L : Nat → Int) (b : List Int) : Prop where
  len : b.length = K
  low : ∀ k, k < K → L k ≤ iat b k
  top : ∀ k, k < K → iat b k ≤ 0
def measL (K : Nat) (L : Nat → Int) (b : List Int) : Nat := (sm K fun k => iat b k - L k).toNat
theorem stepL_lv {L : Nat → Int} (hL : ∀ h t e o, Mv n K c f h t e o → L t ≤ L h + e) {b b' : List Int} {m : Mo} (hb : Lv K L b) (hm : Mv n K c f m.1 m.2.1 m.2.2.1 m.2.2.2) (h : stepL b m = some b') : Lv K L b' ∧ measL K L b' < measL K L b := by
  have ht : m.2.1 < b.length := by rw [hb.len]; exact hm.ht
  unfold stepL at h
  split at h
  · rename_i hlt
    cases h
    have l1 := hL _ _ _ _ hm
    have l2 := hb.low _ hm.hh
    have l3 := hb.top _ hm.ht
    have lv : Lv K L (b.set m.2.1 (iat b m.1 + m.2.2.1)) := ⟨by rw [List.length_set, hb.len], fun k hk => by
      rw [iat_set ht]
      split
      · rename_i e; subst e; omega
      · exact hb.low k hk, fun k hk => by
      rw [iat_set ht]
      split
      · rename_i e; subst e; omega
      · exact hb.top k hk⟩
    refine ⟨lv, ?_⟩
    have e : sm K (fun k => iat (b.set m.2.1 (iat b m.1 + m.2.2.1)) k - L k) = sm K (fun k => iat b k - L k) + (iat b m.1 + m.2.2.1 - iat b m.2.1) := by
      have : sm K (fun k => iat (b.set m.2.1 (iat b m.1 + m.2.2.1)) k - L k) = sm K (fun k => iat b k - L k + if k = m.2.1 then iat b m.1 + m.2.2.1 - iat b m.2.1 else 0) := sm_congr fun k _ => by
        rw [iat_set ht]
        split
        · rename_i e; subst e; omega
        · omega
      rw [this, sm_add, sm_one, if_pos hm.ht]
    have nn : 0 ≤ sm K (fun k => iat (b.set m.2.1 (iat b m.1 + m.2.2.1)) k - L k) := sm_nonneg fun k hk => by have := lv.low k hk; omega
    unfold measL
    omega
  · cases h
theorem foldL_lv {L : Nat → Int} (hL : ∀ h t e o, Mv n K c f h t e o → L t ≤ L h + e) : ∀ (ms : List Mo) (st : List Int × Bool), Lv K L st.1 → AllMv n K c f ms →
    Lv K L (ms.foldl stepQ st).1 ∧ ((ms.foldl stepQ st = st ∧ ∀ m ∈ ms, stepL st.1 m = none) ∨ ((ms.foldl stepQ st).2 = true ∧ measL K L (ms.foldl stepQ st).1 < measL K L st.1))
  | [], st, hb, _ => ⟨hb, .inl ⟨rfl, by simp⟩⟩
  | m :: ms, st, hb, hm => by
    simp only [List.foldl_cons]
    cases hs : stepL st.1 m with
    | none =>
      rw [stepQ_none hs]
      obtain ⟨h1, h2⟩ := foldL_lv hL ms st hb fun x hx => hm x (by simp [hx])
      refine ⟨h1, h2.imp (fun h => ⟨h.1, fun x hx => ?_⟩) id⟩
      rcases List.mem_cons.mp hx with e | e
      · rw [e]; exact hs
      · exact h.2 x e
    | some b =>
      rw [stepQ_some hs]
      obtain ⟨g1, g2⟩ := stepL_lv hL hb (hm m (by simp)) hs
      obtain ⟨h1, h2⟩ := foldL_lv hL ms (b, true) g1 fun x hx => hm x (by simp [hx])
      refine ⟨h1, .inr ?_⟩
      rcases h2 with ⟨h2, _⟩ | ⟨h2, h3⟩
      · rw [h2]; exact ⟨rfl, g2⟩
      · exact ⟨h2, Nat.lt_trans h3 g2⟩
theorem settleL {L : Nat → Int} (hL : ∀ h t e o, Mv n K c f h t e o → L t ≤ L h + e) {ms : List Mo} (hm : AllMv n K c f ms) : ∀ (N : Nat) (b : List Int), measL K L b ≤ N → Lv K L b → ∃ b', IterL ms b b' ∧ Lv K L b' ∧ ∀ m ∈ ms, stepL b' m = none := by
  intro N
  induction N with
  | zero =>
    intro b h0 hb
    obtain ⟨h1, h2⟩ := foldL_lv hL ms (b, false) hb hm
    rcases h2 with ⟨h2, h3⟩ | ⟨h2, h3⟩
    · exact ⟨b, .done h2, hb, h3⟩
    · simp only at h3; omega
  | succ N ih =>
    intro b h0 hb
    obtain ⟨h1, h2⟩ := foldL_lv hL ms (b, false) hb hm
    rcases h2 with ⟨h2, h3⟩ | ⟨h2, h3⟩
    · exact ⟨b, .done h2, hb, h3⟩
    · simp only at h3
      obtain ⟨b', g1, g2, g3⟩ := ih _ (by omega) h1
      exact ⟨b', .more (Prod.ext rfl h2) g1, g2, g3⟩
/-- the bound below all prices -/
theorem lowL {π : Nat → Int} (hp : Pot n K c f π) : ∃ M : Int, (∀ k, k < K → π k - M ≤ 0) ∧ ∀ h t e o, Mv n K c f h t e o → π t - M ≤ π h - M + e := by
  obtain ⟨M, hM⟩ := exBound K π
  refine ⟨M, fun k hk => by have := hM k hk; omega, fun h t e o m => ?_⟩
  obtain ⟨x, y, h1, h2, h3⟩ := m.ex
  have := hp o m.ho h m.hh t m.ht m.fl x y h1 h2
  omega
theorem pot_of {b : List Int} {ms : List Mo} (hm : ∀ h t e o, Mv n K c f h t e o → (h, t, e, o) ∈ ms) (hs : ∀ m ∈ ms, stepL b m = none) : Pot n K c f (iat b) := by
  intro o ho h hh t ht hfl x y hx hy
  by_cases e : t = h
  · subst e
    rw [hx] at hy
    cases hy
    omega
  · have h0 := hs _ (hm h t (y - x) o ⟨ho, hh, ht, e, hfl, x, y, hx, hy, rfl⟩)
    unfold stepL at h0
    split at h0
    · cases h0
    · rename_i h1; simp only at h1; omega
end
/-! ### in order -/
def mx0 (x : Int) : Int := if x < 0 then 0 else x
def mn (a b : Int) : Int := if a ≤ b then a else b
/-- what lot i has up to x -/
def fillTo (p : Nat → Int) (i : Nat) (x : Int) : Int := mn (p i) (mx0 (x - sm i p))
/-- the flow of the pieces in order -/
def ordF (p b : Nat → Int) : Fw := fun i k => fillTo p i (sm (k + 1) b) - fillTo p i (sm k b)
theorem sm_mono {b : Nat → Int} : ∀ {m k : Nat}, k ≤ m → (∀ j, j < m → 0 ≤ b j) → sm k b ≤ sm m b
  | 0, k, h, _ => by
    have : k = 0 := by omega
    subst this
    exact Int.le_refl _
  | m + 1, k, h, hb => by
    by_cases e : k = m + 1
    · subst e; exact Int.le_refl _
    · have h1 := sm_mono (b := b) (m := m) (k := k) (by omega) fun j hj => hb j (by omega)
      have h2 := hb m (by omega)
      rw [sm]; omega
theorem tele {g : Nat → Int} : ∀ {K : Nat}, sm K (fun k => g (k + 1) - g k) = g K - g 0
  | 0 => by simp [sm]
  | K + 1 => by rw [sm, tele]; omega
theorem fill_sum {p : Nat → Int} {x : Int} (hx : 0 ≤ x) : ∀ {m : Nat}, (∀ j, j < m → 0 ≤ p j) → sm m (fun i => fillTo p i x) = mn x (sm m p)
  | 0, _ => by
    show (0 : Int) = if x ≤ 0 then x else 0
    by_cases h : x ≤ 0
    · rw [if_pos h]; omega
    · rw [if_neg h]
  | m + 1, h => by
    have h1 := fill_sum hx (p := p) (m := m) fun j hj => h j (by omega)
    have h2 := h m (by omega)
    rw [sm, h1, sm]
    unfold fillTo mn mx0
    repeat' split
    all_goals omega
theorem ord_full {n K : Nat} {c : Cs} {p b : Nat → Int} (hp : ∀ i, i < n → 0 ≤ p i) (hb : ∀ k, k < K → 0 ≤ b k) (ht : sm n p = sm K b) (hc : ∀ i, i < n → ∀ k, k < K → c i k = none → sm (k + 1) b ≤ sm i p) : Full n K c p b (ordF p b) := by
  have mono : ∀ i, i < n → ∀ x y : Int, x ≤ y → fillTo p i x ≤ fillTo p i y := fun i hi x y h => by
    unfold fillTo mn mx0
    repeat' split
    all_goals omega
  refine ⟨⟨fun i hi k hk => ?_, fun i hi k hk h => ?_⟩, fun i hi => ?_, fun k hk => ?_⟩
  · have := mono i hi _ _ (sm_mono (b := b) (m := k + 1) (k := k) (by omega) fun j hj => hb j (by omega))
    unfold ordF
    omega
  · cases hck : c i k with
    | some x => exact ⟨x, rfl⟩
    | none =>
      exfalso
      have h1 := hc i hi k hk hck
      have h2 := sm_mono (b := b) (m := k + 1) (k := k) (by omega) fun j hj => hb j (by omega)
      have h3 := hp i hi
      unfold ordF fillTo mn mx0 at h
      repeat' split at h
      all_goals omega
  · show sm K (fun k => ordF p b i k) = p i
    unfold ordF
    rw [tele (g := fun k => fillTo p i (sm k b))]
    have h1 : sm (i + 1) p ≤ sm n p := sm_mono (by omega) fun j hj => hp j hj
    have h2 := hp i hi
    have h3 : 0 ≤ sm i p := sm_nonneg fun j hj => hp j (by omega)
    rw [sm] at h1
    rw [ht] at h1
    have e0 : sm 0 b = 0 := rfl
    rw [e0]
    unfold fillTo mn mx0
    repeat' split
    all_goals omega
  · show sm n (fun i => ordF p b i k) = b k
    unfold ordF
    rw [sm_sub]
    have b0 : 0 ≤ sm k b := sm_nonneg fun j hj => hb j (by omega)
    have b1 : 0 ≤ sm (k + 1) b := sm_nonneg fun j hj => hb j (by omega)
    have b2 : sm (k + 1) b ≤ sm K b := sm_mono (by omega) hb
    have b3 : sm k b ≤ sm K b := sm_mono (by omega) hb
    rw [fill_sum b1 hp, fill_sum b0 hp, ht]
    have e : sm (k + 1) b = sm k b + b k := rfl
    unfold mn
    repeat' split
    all_goals omega
end Fl

/-! F5: what the flow's loop keeps. -/
namespace Fl
structure FInv (n K : Nat) (c : Cs) (p b : Nat → Int) (i : Nat) (many : Int) (f : Fw) (fr : Nat → Int) : Prop where
  flow : Flow n K c f
  pot : ∃ π, Pot n K c f π
  done : ∀ o, o < n → o < i → sm K (f o) = p o
  now : i < n → sm K (f i) = p i - many
  later : ∀ o, o < n → i < o → sm K (f o) = 0
  nn : 0 ≤ many
  free : ∀ k, k < K → fr k = b k - sm n fun o => f o k
  frn : ∀ k, k < K → 0 ≤ fr k
section
variable {n K : Nat} {c : Cs} {p b : Nat → Int} {i : Nat} {many : Int} {f : Fw} {fr : Nat → Int}
theorem FInv.step (h : FInv n K c p b i many f fr) (hi : i < n) {d : Lb} (hc : Calm n K c f i d) {P : List (Nat × Nat)} {k : Nat} {C : Int} (hw : Way n K c f i P k C) (hk : d k = some (C, P.length)) {a : Int} (h0 : 0 ≤ a) (h1 : a ≤ many) (h2 : a ≤ fr k) (h3 : ∀ q ∈ P, a ≤ f q.2 q.1) :
    FInv n K c p b i (many - a) (shift f i P k a) (fun y => if y = k then fr y - a else fr y) := by
  obtain ⟨π, hp⟩ := h.pot
  obtain ⟨g1, g2⟩ := augment h.flow hp hc hi hw hk h0 h3
  have bd := hw.bd
  have row := shift_row (a := a) bd.1 P f i (fun q hq => (bd.2 q hq).1)
  have col := shift_col (n := n) (a := a) (k := k) P f i hi (fun q hq => (bd.2 q hq).2.1)
  refine ⟨g1, g2, fun o ho hoi => ?_, fun _ => ?_, fun o ho hoi => ?_, by omega, fun y hy => ?_, fun y hy => ?_⟩
  · rw [row, if_neg (by omega), h.done o ho hoi]; omega
  · rw [row, if_pos rfl, h.now hi]; omega
  · rw [row, if_neg (by omega), h.later o ho hoi]; omega
  · rw [col]
    have := h.free y hy
    split <;> omega
  · have := h.frn y hy
    split
    · rename_i e; subst e; omega
    · exact this
theorem FInv.reach (h : FInv n K c p b i many f fr) (hi : i < n) (hm : 0 < many) (hp : ∀ o, o < n → 0 ≤ p o) {d : Lb} (hc : Calm n K c f i d) {g : Fw} (hg : Full n K c p b g) : ∃ k, k < K ∧ (∃ z, d k = some z) ∧ 0 < fr k := by
  obtain ⟨k, h1, h2, h3⟩ := Fl.reach (p := p) (b := b) h.flow hc hi hg (fun o ho => by
    rcases Nat.lt_trichotomy o i with e | e | e
    · rw [h.done o ho e]; exact Int.le_refl _
    · subst e; rw [h.now ho]; omega
    · rw [h.later o ho e]; exact hp o ho) (by rw [h.now hi]; omega) (fun k hk => by have := h.free k hk; have := h.frn k hk; omega)
  exact ⟨k, h1, h2, by have := h.free k h1; omega⟩
/-- the next lot -/
theorem FInv.next (h : FInv n K c p b i 0 f fr) (hi : i < n) : FInv n K c p b (i + 1) (if i + 1 < n then p (i + 1) else 0) f fr ∨ ∃ x, x = p (i + 1) ∧ x < 0 := by
  by_cases hx : 0 ≤ (if i + 1 < n then p (i + 1) else 0)
  · refine .inl ⟨h.flow, h.pot, fun o ho hoi => ?_, fun h1 => ?_, fun o ho hoi => h.later o ho (by omega), hx, h.free, h.frn⟩
    · by_cases e : o = i
      · subst e; have := h.now ho; omega
      · exact h.done o ho (by omega)
    · rw [if_pos h1]; have := h.later (i + 1) h1 (by omega); omega
  · refine .inr ⟨_, rfl, ?_⟩
    split at hx <;> omega
/-- all lots placed -/
theorem FInv.full (h : FInv n K c p b n 0 f fr) {g : Fw} (hg : Full n K c p b g) : Full n K c p b f := by
  refine ⟨h.flow, fun i hi => h.done i hi hi, fun k hk => ?_⟩
  have e1 : sm K (fun k => sm n fun o => f o k) = sm n p := by
    rw [← sm_swap]
    exact sm_congr fun o ho => h.done o ho ho
  have e2 : sm K b = sm n p := by
    rw [← sm_congr (f := fun k => sm n fun o => g o k) (fun k hk => hg.col k hk), ← sm_swap]
    exact sm_congr fun o ho => hg.row o ho
  have e3 : sm K fr = 0 := by
    rw [sm_congr (g := fun k => b k - sm n fun o => f o k) (fun k hk => h.free k hk), sm_sub, e1, e2]
    omega
  have := sm_eq_zero h.frn e3 k hk
  have := h.free k hk
  omega
theorem FInv.start (hb : ∀ k, k < K → 0 ≤ b k) (hp : 0 ≤ p 0 ∨ n = 0) : FInv n K c p b 0 (if 0 < n then p 0 else 0) (fun _ _ => 0) b := by
  refine ⟨⟨fun _ _ _ _ => Int.le_refl _, fun _ _ _ _ h => (Int.lt_irrefl 0 h).elim⟩, ⟨fun _ => 0, fun _ _ _ _ _ _ h => (Int.lt_irrefl 0 h).elim⟩, fun o _ h => absurd h (by omega), fun h => ?_, fun o _ _ => sm_zero, ?_, fun k _ => ?_, hb⟩
  · rw [if_pos h, sm_zero]; omega
  · split <;> omega
  · rw [sm_zero]; omega
end
end Fl

/-! N11: flows. -/
namespace My
open Pv Fl
open PySem (Str)
def eF (f : List (List Int)) : D := .lst (f.map eI)
def eR (r : List (Option Int)) : D := .lst (r.map eO)
def eC (c : List (List (Option Int))) : D := .lst (c.map eR)
def eQ (q : Nat × Nat) : D := .tup [.int q.1, .int q.2]
def eMo (m : Mo) : D := .tup [.int m.1, .int m.2.1, .int m.2.2.1, .int m.2.2.2]
def eW : En → D
  | none => .non
  | some z => .tup [.int z.1, .int z.2.1, .lst (z.2.2.map eQ)]
@[simp] theorem seqOf_eI {l : List Int} {S : Sto} : seqOf S (eI l) = some (l.map .int) := rfl
@[simp] theorem seqW_eI {l : List Int} : seqW (eI l) = some (l.map .int) := rfl
@[simp] theorem seqL_eI {l : List Int} {S : Sto} : seqL S (eI l) = some (l.map .int) := rfl
@[simp] theorem seqI_eI {l : List Int} {S : Sto} : seqI S (eI l) = some (l.map .int) := rfl
@[simp] theorem seqOf_eF {f : List (List Int)} {S : Sto} : seqOf S (eF f) = some (f.map eI) := rfl
@[simp] theorem seqW_eF {f : List (List Int)} : seqW (eF f) = some (f.map eI) := rfl
@[simp] theorem seqOf_eR {r : List (Option Int)} {S : Sto} : seqOf S (eR r) = some (r.map eO) := rfl
@[simp] theorem seqW_eR {r : List (Option Int)} : seqW (eR r) = some (r.map eO) := rfl
@[simp] theorem seqOf_eC {c : List (List (Option Int))} {S : Sto} : seqOf S (eC c) = some (c.map eR) := rfl
@[simp] theorem seqW_eC {c : List (List (Option Int))} : seqW (eC c) = some (c.map eR) := rfl
@[simp] theorem asg_eQ {gs : G} {q : Nat × Nat} {ρ : Env} : asg (.tup gs) (eQ q) ρ = asg.asgs gs [.int q.1, .int q.2] ρ := rfl
@[simp] theorem asg_eMo {gs : G} {m : Mo} {ρ : Env} : asg (.tup gs) (eMo m) ρ = asg.asgs gs [.int m.1, .int m.2.1, .int m.2.2.1, .int m.2.2.2] ρ := rfl
/-- a list of rows, all of K items -/
structure Dim {α : Type} (n K : Nat) (f : List (List α)) : Prop where
  len : f.length = n
  row : ∀ r ∈ f, r.length = K
def fw (f : List (List Int)) : Fw := fun i k => iat ((f[i]?).getD []) k
def cs (c : List (List (Option Int))) : Cs := fun i k => ((((c[i]?).getD [])[k]?).getD none)
theorem ixE {α : Type} {e : α → D} {l : List α} {k : Nat} {S : Sto} (h : k < l.length) : ixD S (.lst (l.map e)) (.int k) = some (e l[k]) := by
  rw [ixD_lst (by simpa using h)]
  simp
theorem ix_eF {n K : Nat} {f : List (List Int)} (hf : Dim n K f) {i : Nat} {S : Sto} (hi : i < n) : ixD S (eF f) (.int i) = some (eI (f[i]'(by rw [hf.len]; exact hi))) := ixE (by rw [hf.len]; exact hi)
theorem ix_eI {l : List Int} {k : Nat} {S : Sto} (h : k < l.length) : ixD S (eI l) (.int k) = some (.int (iat l k)) := by
  have e : iat l k = l[k] := by simp [iat, h]
  rw [e]
  exact ixE h
theorem row_len {α : Type} {n K : Nat} {f : List (List α)} (hf : Dim n K f) {i : Nat} (hi : i < f.length) : (f[i]).length = K := hf.row _ (List.getElem_mem hi)
theorem fw_get {n K : Nat} {f : List (List Int)} {i k : Nat} (hi : i < f.length) : fw f i k = iat f[i] k := by simp [fw, hi]
theorem cs_get {c : List (List (Option Int))} {i k : Nat} (hi : i < c.length) (hk : k < (c[i]).length) : cs c i k = c[i][k] := by simp [cs, hi, hk]
@[simp] theorem eO_some {i : Int} : eO (some i) = .int i := rfl
@[simp] theorem eO_none : eO none = .non := rfl
/-! with_part -/
def wp (f : List (List Int)) (i k : Nat) (a : Int) : List (List Int) := f.set i (((f[i]?).getD []).set k (fw f i k + a))
theorem wp_dim {n K : Nat} {f : List (List Int)} (hf : Dim n K f) {i k : Nat} {a : Int} : Dim n K (wp f i k a) := by
  refine ⟨by simp [wp, hf.len], fun r hr => ?_⟩
  unfold wp at hr
  rcases List.mem_or_eq_of_mem_set hr with h | h
  · exact hf.row r h
  · subst h
    by_cases hi : i < f.length
    · simp [hi, row_len hf hi]
    · rw [List.set_eq_of_length_le (by omega)] at hr
      exact hf.row _ hr
theorem fw_wp {n K : Nat} {f : List (List Int)} (hf : Dim n K f) {i k : Nat} {a : Int} (hi : i < n) (hk : k < K) : fw (wp f i k a) = upd (fw f) i k a := by
  have hi' : i < f.length := by rw [hf.len]; exact hi
  have hk' : k < (f[i]).length := by rw [row_len hf hi']; exact hk
  funext x y
  unfold wp upd
  by_cases hx : x = i
  · subst hx
    by_cases hy : y = k
    · subst hy
      simp [fw, hi', iat, hk']
    · simp [fw, hi', iat, hy, Ne.symm hy]
  · simp [fw, hx, Ne.symm hx]
theorem set_cut {α : Type} {l : List α} {k : Nat} {x : α} (h : k < l.length) : l.take k ++ [x] ++ l.drop (k + 1) = l.set k x := by
  rw [List.set_eq_take_append_cons_drop, if_pos h]
  simp
theorem cut_lo' {α : Type} {l : List α} {k : Nat} (h : k ≤ l.length) : cut l none (some (k : Int)) = l.take k := by
  have e : sIx l.length l.length (some (k : Int)) = k := by
    show (if (k : Int) < 0 then ((k : Int) + l.length).toNat else min (k : Int).toNat l.length) = k
    rw [if_neg (by omega), Int.toNat_natCast, Nat.min_eq_left h]
  unfold cut
  rw [e]
  show (l.drop 0).take (k - 0) = _
  simp
theorem cut_hi' {α : Type} {l : List α} {k : Nat} (h : k < l.length) : cut l (some ((k : Int) + 1)) none = l.drop (k + 1) := by
  have e : sIx l.length 0 (some ((k : Int) + 1)) = k + 1 := by
    show (if (k : Int) + 1 < 0 then ((k : Int) + 1 + l.length).toNat else min ((k : Int) + 1).toNat l.length) = k + 1
    rw [if_neg (by omega)]
    omega
  unfold cut
  rw [e]
  show (l.drop (k + 1)).take (l.length - (k + 1)) = _
  exact List.take_of_length_le (by simp)
theorem sl_eI_lo {l : List Int} {k : Nat} {S : Sto} (h : k ≤ l.length) : slD S (eI l) none (some (k : Int)) = some (eI (l.take k)) := by
  show some (D.lst (cut (l.map .int) none (some (k : Int)))) = _
  rw [cut_lo' (by simpa using h), ← List.map_take]
  rfl
theorem sl_eI_hi {l : List Int} {k : Nat} {S : Sto} (h : k < l.length) : slD S (eI l) (some ((k : Int) + 1)) none = some (eI (l.drop (k + 1))) := by
  show some (D.lst (cut (l.map .int) (some ((k : Int) + 1)) none)) = _
  rw [cut_hi' (by simpa using h), ← List.map_drop]
  rfl
theorem sl_eF_lo {l : List (List Int)} {k : Nat} {S : Sto} (h : k ≤ l.length) : slD S (eF l) none (some (k : Int)) = some (eF (l.take k)) := by
  show some (D.lst (cut (l.map eI) none (some (k : Int)))) = _
  rw [cut_lo' (by simpa using h), ← List.map_take]
  rfl
theorem sl_eF_hi {l : List (List Int)} {k : Nat} {S : Sto} (h : k < l.length) : slD S (eF l) (some ((k : Int) + 1)) none = some (eF (l.drop (k + 1))) := by
  show some (D.lst (cut (l.map eI) (some ((k : Int) + 1)) none)) = _
  rw [cut_hi' (by simpa using h), ← List.map_drop]
  rfl
theorem add_eI {l m : List Int} (h : l.length + m.length ≤ maxLen) : binD .add (eI l) (eI m) = some (eI (l ++ m)) := by
  unfold eI
  rw [bin_addl, if_pos (lenOk_of (by simpa using h)), List.map_append]
theorem add_eF {l m : List (List Int)} (h : l.length + m.length ≤ maxLen) : binD .add (eF l) (eF m) = some (eF (l ++ m)) := by
  unfold eF
  rw [bin_addl, if_pos (lenOk_of (by simpa using h)), List.map_append]
theorem r_with_part {n0 n K : Nat} {f : List (List Int)} {i k : Nat} {a : Int} {S : Sto} (hf : Dim n K f) (hi : i < n) (hk : k < K) (hn : n ≤ 100) (hK : K ≤ 100) : go (n0 + 1) i_with_part [eF f, .int i, .int k, .int a] S = .ok (eF (wp f i k a)) S := by
  have hi' : i < f.length := by rw [hf.len]; exact hi
  have hl := hf.len
  have hr := row_len hf hi'
  have hk' : k < (f[i]).length := by rw [hr]; exact hk
  have e1 : ∀ x : Int, D.lst [.int x] = eI [x] := fun x => rfl
  have e2 : ∀ x : List Int, D.lst [eI x] = eF [x] := fun x => rfl
  have m1 : ∀ x : Int, binD .add (eI ((f[i]).take k)) (eI [x]) = some (eI ((f[i]).take k ++ [x])) := fun x => add_eI (by simp; unfold maxLen; omega)
  have m2 : ∀ x : Int, binD .add (eI ((f[i]).take k ++ [x])) (eI ((f[i]).drop (k + 1))) = some (eI ((f[i]).set k x)) := fun x => by
    rw [add_eI (by simp; unfold maxLen; omega), set_cut hk']
  have m3 : ∀ x : List Int, binD .add (eF (f.take i)) (eF [x]) = some (eF (f.take i ++ [x])) := fun x => add_eF (by simp; unfold maxLen; omega)
  have m4 : ∀ x : List Int, binD .add (eF (f.take i ++ [x])) (eF (f.drop (i + 1))) = some (eF (f.set i x)) := fun x => by
    rw [add_eF (by simp; unfold maxLen; omega), set_cut hi']
  rw [go_step e_with_part rfl]
  simp [f_with_part, t_with_part, ix_eF hf hi, sl_eI_lo (Nat.le_of_lt hk'), ix_eI hk', sl_eI_hi hk', e1, m1, m2, sl_eF_lo (Nat.le_of_lt hi'), sl_eF_hi hi', e2, m3, m4]
  simp [wp, hi', fw]
/-! shifted -/
def shiftL (f : List (List Int)) : Nat → List (Nat × Nat) → Nat → Int → List (List Int)
  | i, [], k, a => wp f i k a
  | i, (h, o) :: P, k, a => shiftL (wp (wp f i h a) o h (0 - a)) o P k a
theorem shiftL_dim {n K : Nat} {k : Nat} {a : Int} : ∀ (P : List (Nat × Nat)) {f : List (List Int)} {i : Nat}, Dim n K f → Dim n K (shiftL f i P k a)
  | [], f, i, hf => wp_dim hf
  | (h, o) :: P, f, i, hf => shiftL_dim P (wp_dim (wp_dim hf))
theorem fw_shiftL {n K : Nat} {k : Nat} {a : Int} (hk : k < K) : ∀ (P : List (Nat × Nat)) {f : List (List Int)} {i : Nat}, Dim n K f → i < n → (∀ q ∈ P, q.1 < K ∧ q.2 < n) → fw (shiftL f i P k a) = shift (fw f) i P k a
  | [], f, i, hf, hi, _ => fw_wp hf hi hk
  | (h, o) :: P, f, i, hf, hi, hP => by
    have h1 := hP (h, o) (by simp)
    rw [shiftL, shift, fw_shiftL hk P (wp_dim (wp_dim hf)) h1.2 (fun q hq => hP q (by simp [hq])), fw_wp (wp_dim hf) h1.2 h1.1, fw_wp hf hi h1.1]
theorem b_shifted {n0 n K : Nat} {f : List (List Int)} {i h o : Nat} {a : Int} {s0 s1 s2 s3 : Sl} {S : Sto} (hf : Dim n K f) (hi : i < n) (hh : h < K) (ho : o < n) (hn : n ≤ 100) (hK : K ≤ 100) :
    exec wrd (go (n0 + 1)) none t_shifted_b1 [s0, s1, s2, s3, .v (.int a), .v (eF f), .v (.int i), .v (.int h), .v (.int o)] S = .nx [s0, s1, s2, s3, .v (.int a), .v (eF (wp (wp f i h a) o h (0 - a))), .v (.int o), .v (.int h), .v (.int o)] S := by
  simp [t_shifted_b1, r_with_part hf hi hh hn hK, r_with_part (wp_dim hf) ho hh hn hK]
theorem r_shifted {n0 n K : Nat} {f : List (List Int)} {i k : Nat} {a : Int} {P : List (Nat × Nat)} {S : Sto} (hf : Dim n K f) (hi : i < n) (hk : k < K) (hP : ∀ q ∈ P, q.1 < K ∧ q.2 < n) (hn : n ≤ 100) (hK : K ≤ 100) :
    go (n0 + 2) i_shifted [eF f, .int i, .lst (P.map eQ), .int k, .int a] S = .ok (eF (shiftL f i P k a)) S := by
  have loop : ∀ (P : List (Nat × Nat)) (f : List (List Int)) (i : Nat) (j : Sl × Sl) (s0 s1 s2 s3 : Sl), Dim n K f → i < n → (∀ q ∈ P, q.1 < K ∧ q.2 < n) → ∃ (f' : List (List Int)) (i' : Nat) (j' : Sl × Sl), fors (asg (.tup (.cons (.nm 7) (.cons (.nm 8) .nil)))) (exec wrd (go (n0 + 1)) none t_shifted_b1) (P.map eQ) [s0, s1, s2, s3, .v (.int a), .v (eF f), .v (.int i), j.1, j.2] S = .nx [s0, s1, s2, s3, .v (.int a), .v (eF f'), .v (.int i'), j'.1, j'.2] S ∧ Dim n K f' ∧ i' < n ∧ shiftL f i P k a = wp f' i' k a := by
    intro P
    induction P with
    | nil => intro f i j s0 s1 s2 s3 hf hi _; exact ⟨f, i, j, rfl, hf, hi, rfl⟩
    | cons q P ih =>
      intro f i j s0 s1 s2 s3 hf hi hP
      obtain ⟨h, o⟩ := q
      have h1 := hP (h, o) (by simp)
      obtain ⟨f', i', j', e, g1, g2, g3⟩ := ih (wp (wp f i h a) o h (0 - a)) o (.v (.int h), .v (.int o)) s0 s1 s2 s3 (wp_dim (wp_dim hf)) h1.2 (fun q hq => hP q (by simp [hq]))
      refine ⟨f', i', j', ?_, g1, g2, g3⟩
      have bind : asg (.tup (.cons (.nm 7) (.cons (.nm 8) .nil))) (eQ (h, o)) [s0, s1, s2, s3, .v (.int a), .v (eF f), .v (.int i), j.1, j.2] = some [s0, s1, s2, s3, .v (.int a), .v (eF f), .v (.int i), .v (.int h), .v (.int o)] := by simp
      simp only [List.map_cons, fors, bind, b_shifted hf hi h1.1 h1.2 hn hK]
      exact e
  obtain ⟨f', i', j', e, g1, g2, g3⟩ := loop P f i (.un, .un) (.v (eF f)) (.v (.int i)) (.v (.lst (P.map eQ))) (.v (.int k)) hf hi hP
  rw [go_step e_shifted rfl]
  simp [f_shifted, t_shifted]
  rw [e, g3]
  simp [r_with_part g1 g2 hk hn hK]
/-! moves_of -/
def movesR (f : Fw) (lot : Nat) (row : List (Option Int)) (p : Option Int × Nat) : List Mo :=
  if 0 < f lot p.2 then (row.zipIdx.filter fun q => decide (q.2 ≠ p.2) && q.1.isSome).map fun q => (p.2, q.2, q.1.getD 0 - p.1.getD 0, lot) else []
def movesL (c : List (List (Option Int))) (f : Fw) : List Mo := c.zipIdx.flatMap fun r => r.1.zipIdx.flatMap (movesR f r.2 r.1)
/-- a piece lies only where it can -/
def Fits (c : List (List (Option Int))) (f : Fw) : Prop := ∀ i k, (hi : i < c.length) → (hk : k < (c[i]).length) → 0 < f i k → (c[i][k]).isSome = true
theorem foldl_app {α β : Type} {g : α → List β} : ∀ (xs : List α) (acc : List β), xs.foldl (fun acc x => acc ++ g x) acc = acc ++ xs.flatMap g
  | [], acc => by simp
  | x :: xs, acc => by simp [foldl_app xs]
theorem mem_zipIdx {α : Type} {l : List α} {p : α × Nat} (h : p ∈ l.zipIdx) : ∃ hk : p.2 < l.length, l[p.2] = p.1 := by
  have := List.mem_zipIdx' (x := p.1) (i := p.2) (xs := l) h
  exact ⟨this.1, this.2.symm⟩
theorem movesR_len {f : Fw} {lot : Nat} {row : List (Option Int)} {p : Option Int × Nat} : (movesR f lot row p).length ≤ row.length := by
  unfold movesR
  split
  · rw [List.length_map]
    exact Nat.le_trans (List.length_filter_le _ _) (by simp)
  · simp
theorem b_moves_of2 {n0 n K : Nat} {c : List (List (Option Int))} {f : List (List Int)} {lot here : Nat} {row : List (Option Int)} {cost : Option Int} {acc : List Mo} {s0 s7 s8 : Sl} {S : Sto} (hf : Dim n K f) (hl : lot < n) (hh : here < K) (hr : row.length ≤ 100) (ha : acc.length ≤ 100000) (hfit : 0 < fw f lot here → ∃ x, cost = some x) :
    exec wrd (go n0) none t_moves_of_b2 [s0, .v (eF f), .v (.lst (acc.map eMo)), .v (.int lot), .v (eR row), .v (.int here), .v (eO cost), s7, s8] S =
      .nx [s0, .v (eF f), .v (.lst ((acc ++ movesR (fw f) lot row (cost, here)).map eMo)), .v (.int lot), .v (eR row), .v (.int here), .v (eO cost), s7, s8] S := by
  have hl' : lot < f.length := by rw [hf.len]; exact hl
  have hh' : here < (f[lot]).length := by rw [row_len hf hl']; exact hh
  have eg : iat f[lot] here = fw f lot here := (fw_get (n := n) (K := K) hl').symm
  by_cases h0 : 0 < fw f lot here
  · obtain ⟨x, rfl⟩ := hfit h0
    simp [t_moves_of_b2, ix_eF hf hl, ix_eI hh', eg, h0]
    rw [comps_pure (α := Option Int × Nat) (p := fun q => decide (q.2 ≠ here) && q.1.isSome) (f := fun q => eMo (here, q.2, q.1.getD 0 - x, lot)) (fun q hq => by
      obtain ⟨o, t⟩ := q
      refine ⟨_, by simp; rfl, ?_, fun hp => ?_⟩
      · by_cases ht : t = here
        · simp [ht]
        · have ht' : ¬ ((t : Int) = here) := by omega
          cases o <;> simp [ht, ht']
      · simp only [Bool.and_eq_true] at hp
        obtain ⟨y, rfl⟩ := Option.isSome_iff_exists.mp hp.2
        simp [eMo]) (by simp; unfold maxLen; omega)]
    have hlen : lenOk (acc.length + ((row.zipIdx.filter fun q => decide (q.2 ≠ here) && q.1.isSome).map fun q => eMo (here, q.2, q.1.getD 0 - x, lot)).length) = true := lenOk_of (by
      have := List.length_filter_le (fun q : Option Int × Nat => decide (q.2 ≠ here) && q.1.isSome) row.zipIdx
      rw [List.length_map]
      rw [List.length_zipIdx] at this
      unfold maxLen
      omega)
    simp at hlen
    simp [hlen, movesR, h0]
  · simp [t_moves_of_b2, ix_eF hf hl, ix_eI hh', eg, h0, movesR]
theorem fors_zip {α : Type} {σ β : Type} {bind : D → Env → Option Env} {body : Env → Sto → Out} {enc : α → D} (mk : σ → β → Env) (st : σ → α → σ) (I : σ → Prop) {S : Sto} {xs : List α} (s : σ) (j : β) (h0 : I s) (h : ∀ s j x, x ∈ xs → I s → ∃ ρ, bind (enc x) (mk s j) = some ρ ∧ I (st s x) ∧ ∃ j', body ρ S = .nx (mk (st s x) j') S) :
    ∃ j', fors bind body (xs.map enc) (mk s j) S = .nx (mk (xs.foldl st s) j') S ∧ I (xs.foldl st s) := by
  induction xs generalizing s j with
  | nil => exact ⟨j, rfl, h0⟩
  | cons x xs ih =>
    obtain ⟨ρ, h1, h3, j1, h2⟩ := h s j x (by simp) h0
    obtain ⟨j2, e, i2⟩ := ih (st s x) j1 h3 fun s j y hy => h s j y (by simp [hy])
    refine ⟨j2, ?_, i2⟩
    simp only [List.map_cons, fors, h1, h2, List.foldl_cons]
    exact e
theorem r_moves_of {n0 n K : Nat} {c : List (List (Option Int))} {f : List (List Int)} {S : Sto} (hc : Dim n K c) (hf : Dim n K f) (hn : n ≤ 10) (hK : K ≤ 10) (hfit : Fits c (fw f)) : go (n0 + 1) i_moves_of [eC c, eF f] S = .ok (.lst ((movesL c (fw f)).map eMo)) S := by
  rw [go_step e_moves_of rfl]
  simp [f_moves_of, t_moves_of]
  have cnt : ∀ (row : List (Option Int)) (lot : Nat) (xs : List (Option Int × Nat)), (xs.flatMap (movesR (fw f) lot row)).length ≤ xs.length * row.length := by
    intro row lot xs
    induction xs with
    | nil => simp
    | cons x xs ih =>
      simp only [List.flatMap_cons, List.length_append, List.length_cons]
      have := movesR_len (f := fw f) (lot := lot) (row := row) (p := x)
      rw [Nat.add_mul]
      omega
  obtain ⟨j, e⟩ := fors_foldI (α := List (Option Int) × Nat) (bind := asg (.tup (.cons (.nm 3) (.cons (.nm 4) .nil)))) (body := exec wrd (go n0) none t_moves_of_b1) (enc := fun p => D.tup [.int p.2, eR p.1])
    (fun (s : List Mo) (j : Sl × Sl × Sl × Sl × Sl × Sl) => [.v (eC c), .v (eF f), .v (.lst (s.map eMo)), j.1, j.2.1, j.2.2.1, j.2.2.2.1, j.2.2.2.2.1, j.2.2.2.2.2])
    (fun s r => s ++ r.1.zipIdx.flatMap (movesR (fw f) r.2 r.1)) (fun s k => s.length + k * 100 ≤ 1000) (S := S) (xs := c.zipIdx) [] (.un, .un, .un, .un, .un, .un) (by simp [hc.len]; omega) (fun s j r k hr hi => ⟨_, by simp; rfl, by
      obtain ⟨h1, h2⟩ := mem_zipIdx hr
      have := cnt r.1 r.2 r.1.zipIdx
      have h3 : r.1.length = K := by rw [← h2]; exact row_len hc h1
      rw [List.length_zipIdx, h3] at this
      have : K * K ≤ 10 * 10 := Nat.mul_le_mul hK hK
      rw [List.length_append]
      omega, by
      obtain ⟨h1, h2⟩ := mem_zipIdx hr
      have h3 : r.1.length = K := by rw [← h2]; exact row_len hc h1
      obtain ⟨j2, e2⟩ := fors_foldI (α := Option Int × Nat) (bind := asg (.tup (.cons (.nm 5) (.cons (.nm 6) .nil)))) (body := exec wrd (go n0) none t_moves_of_b2) (enc := fun p => D.tup [.int p.2, eO p.1])
        (fun (s : List Mo) (j : Sl × Sl × Sl × Sl) => [.v (eC c), .v (eF f), .v (.lst (s.map eMo)), .v (.int r.2), .v (eR r.1), j.1, j.2.1, j.2.2.1, j.2.2.2])
        (fun s p => s ++ movesR (fw f) r.2 r.1 p) (fun s k => s.length + k * 10 ≤ 10000) (S := S) (xs := r.1.zipIdx) s (j.2.2.1, j.2.2.2.1, j.2.2.2.2.1, j.2.2.2.2.2) (by rw [List.length_zipIdx, h3]; omega) (fun s j p k hp hi => ⟨_, by simp; rfl, by
          have := movesR_len (f := fw f) (lot := r.2) (row := r.1) (p := p)
          rw [List.length_append]
          omega, ⟨.v (.int p.2), .v (eO p.1), j.2.2.1, j.2.2.2⟩, by
          obtain ⟨g1, g2⟩ := mem_zipIdx hp
          have hb := b_moves_of2 (n0 := n0) (c := c) (lot := r.2) (here := p.2) (row := r.1) (cost := p.1) (acc := s) (s0 := .v (eC c)) (s7 := j.2.2.1) (s8 := j.2.2.2) (S := S) hf (by rw [← hc.len]; exact h1) (by omega) (by omega) (by omega) (fun h0 => by
            have := hfit r.2 p.2 h1 (by rw [h2]; exact g1) h0
            simp only [h2, g2] at this
            exact Option.isSome_iff_exists.mp this)
          exact hb⟩)
      rw [foldl_app] at e2
      refine ⟨⟨.v (.int r.2), .v (eR r.1), j2.1, j2.2.1, j2.2.2.1, j2.2.2.2⟩, ?_⟩
      simp [t_moves_of_b1]
      simp at e2
      rw [e2]
      rfl⟩)
  rw [foldl_app] at e
  simp at e
  simp [e, movesL]
end My

/-! N12: ways. -/
namespace My
open Pv Fl
open PySem (Str)
/-! a while -/
theorem whN_up {c : Env → Sto → Res D} {b : Env → Sto → Out} : ∀ {n : Nat} {ρ : Env} {S : Sto}, whN c b n ρ S ≠ .bad → whN c b (n + 1) ρ S = whN c b n ρ S
  | 0, ρ, S, h => (h rfl).elim
  | n + 1, ρ, S, h => by
    unfold whN at h
    conv => lhs; unfold whN
    conv => rhs; unfold whN
    split
    · rename_i S1 hc
      rw [hc] at h
      simp only at h
      split
      · rename_i ρ2 S2 hb
        rw [hb] at h
        exact whN_up h
      · rename_i ρ2 S2 hb
        rw [hb] at h
        exact whN_up h
      · rfl
      · rfl
    · rename_i S1 hc; rfl
    · rename_i k S1 hc; rfl
    · rfl
theorem whN_le {c : Env → Sto → Res D} {b : Env → Sto → Out} {n m : Nat} {ρ : Env} {S : Sto} (hnm : n ≤ m) (h : whN c b n ρ S ≠ .bad) : whN c b m ρ S = whN c b n ρ S := by
  induction hnm with
  | refl => rfl
  | step _ ih => rw [whN_up (by rw [ih]; exact h), ih]
theorem whA_eq {c : Env → Sto → Res D} {b : Env → Sto → Out} {n : Nat} {ρ : Env} {S : Sto} {r : Out} (h : whN c b n ρ S = r) (hr : r ≠ .bad) : whR none c b ρ S = r := by
  have h1 : whN c b n ρ S ≠ .bad := by rw [h]; exact hr
  have ex : ∃ n, whN c b n ρ S ≠ .bad := ⟨n, h1⟩
  show whA c b ρ S = r
  unfold whA
  rw [dif_pos ex]
  have h2 := Classical.choose_spec ex
  rcases Nat.le_total (Classical.choose ex) n with e | e
  · rw [← whN_le e h2, h]
  · rw [whN_le e h1, h]
theorem whN_next {c : Env → Sto → Res D} {b : Env → Sto → Out} {n : Nat} {ρ ρ2 : Env} {S S1 S2 : Sto} (hc : c ρ S = .ok (.bl true) S1) (hb : b ρ S1 = .nx ρ2 S2) : whN c b (n + 1) ρ S = whN c b n ρ2 S2 := by
  conv => lhs; unfold whN
  rw [hc]
  simp only [hb]
theorem whN_end {c : Env → Sto → Res D} {b : Env → Sto → Out} {n : Nat} {ρ : Env} {S S1 : Sto} (hc : c ρ S = .ok (.bl false) S1) : whN c b (n + 1) ρ S = .nx ρ S1 := by
  conv => lhs; unfold whN
  rw [hc]
/-! the labels -/
@[simp] theorem eW_some {z : Int × Nat × List (Nat × Nat)} : eW (some z) = .tup [.int z.1, .int z.2.1, .lst (z.2.2.map eQ)] := rfl
@[simp] theorem eW_none : eW none = .non := rfl
theorem ix_own {b : List En} {k : Nat} {S : Sto} (h : k < b.length) : ixD S (.lst (b.map eW)) (.int k) = some (eW (at_ b k)) := by
  have e : at_ b k = b[k] := by simp [at_, h]
  rw [e]
  exact ixE h
@[simp] theorem isNon_eW {z : En} : isNon (eW z) = z.isNone := by cases z <;> rfl
theorem lt_two {a b c d : Int} : cmpD .lt (.tup [.int a, .int b]) (.tup [.int c, .int d]) = some (.bl (decide (a < c ∨ (a = c ∧ b < d)))) := by
  show some (D.bl (lexLt [a, b] [c, d])) = _
  congr 2
  unfold lexLt
  by_cases h1 : a = c
  · subst h1
    rw [if_pos rfl]
    unfold lexLt
    by_cases h2 : b = d
    · subst h2; rw [if_pos rfl]; simp [lexLt]
    · rw [if_neg h2]; simp
  · rw [if_neg h1]; simp [h1]
@[simp] theorem cut_two {a b c : D} : cut [a, b, c] none (some 2) = [a, b] := rfl
theorem sl_two {a b c : D} {S : Sto} : slD S (.tup [a, b, c]) none (some 2) = some (.tup [a, b]) := rfl
theorem ix3_0 {a b c : D} {S : Sto} : ixD S (.tup [a, b, c]) (.int 0) = some a := rfl
theorem ix3_1 {a b c : D} {S : Sto} : ixD S (.tup [a, b, c]) (.int 1) = some b := rfl
theorem ix3_2 {a b c : D} {S : Sto} : ixD S (.tup [a, b, c]) (.int 2) = some c := rfl
theorem b_ways2 {n0 : Nat} {b : List En} {mv : Bool} {m : Mo} {s0 s1 s2 s4 s6 s11 : Sl} {S : Sto} (h1 : m.1 < b.length) (h2 : m.2.1 < b.length) (hP : ∀ z, at_ b m.1 = some z → z.2.2.length < 1000) :
    ∃ j, exec wrd (go n0) none t_ways_from_b2 [s0, s1, s2, .own (b.map eW), s4, .v (.bl mv), s6, .v (.int m.1), .v (.int m.2.1), .v (.int m.2.2.1), .v (.int m.2.2.2), s11] S =
      .nx [s0, s1, s2, .own ((stepP (b, mv) m).1.map eW), s4, .v (.bl (stepP (b, mv) m).2), s6, .v (.int m.1), .v (.int m.2.1), .v (.int m.2.2.1), .v (.int m.2.2.2), j] S := by
  cases hh : at_ b m.1 with
  | none =>
    refine ⟨s11, ?_⟩
    simp [t_ways_from_b2, ix_own h1, hh, stepP, stepW]
  | some z =>
    obtain ⟨C, s, P⟩ := z
    have hp := hP _ hh
    simp only at hp
    have hlo : lenOk (P.length + 1) = true := lenOk_of (by unfold maxLen; omega)
    refine ⟨.v (eW (some (C + m.2.2.1, s + 1, P ++ [(m.1, m.2.2.2)]))), ?_⟩
    have hixn : ixN b.length (m.2.1 : Int) = some m.2.1 := ixN_in h2
    have eset : ∀ x : En, (b.map eW).set m.2.1 (eW x) = (b.set m.2.1 x).map eW := fun x => by rw [List.map_set]
    have enew : D.tup [.int (C + m.2.2.1), .int ((s : Int) + 1), .lst (P.map eQ ++ [.tup [.int m.1, .int m.2.2.2]])] = eW (some (C + m.2.2.1, s + 1, P ++ [(m.1, m.2.2.2)])) := by simp [eQ]
    cases ht : at_ b m.2.1 with
    | none =>
      simp [t_ways_from_b2, ix_own h1, ix_own h2, hh, ht, ix3_0, ix3_1, ix3_2, hlo, hixn, stepP, stepW]
      simp [eQ]
    | some z' =>
      obtain ⟨C', s', P'⟩ := z'
      have e3 : ((s : Int) + 1 < s') = (s + 1 < s') := propext ⟨fun h => by omega, fun h => by omega⟩
      by_cases hlt : C + m.2.2.1 < C' ∨ (C + m.2.2.1 = C' ∧ s + 1 < s')
      · simp [t_ways_from_b2, ix_own h1, ix_own h2, hh, ht, ix3_0, ix3_1, ix3_2, hlo, hixn, stepP, stepW, sl_two, lt_two, e3, hlt]
        simp [eQ]
      · simp [t_ways_from_b2, ix_own h1, ix_own h2, hh, ht, ix3_0, ix3_1, ix3_2, hlo, hixn, stepP, stepW, sl_two, lt_two, e3, hlt]
        simp [eQ]
theorem mem_zipIdx_of {α : Type} {l : List α} {k : Nat} (h : k < l.length) : (l[k], k) ∈ l.zipIdx := by
  rw [List.mem_zipIdx_iff_getElem?]
  simp [h]
section
variable {n K : Nat} {c : List (List (Option Int))} {f : Fw}
theorem moves_all (hc : Dim n K c) (hfit : Fits c f) : AllMv n K (cs c) f (movesL c f) := by
  intro m hm
  unfold movesL at hm
  obtain ⟨r, hr, hm⟩ := List.mem_flatMap.mp hm
  obtain ⟨p, hp, hm⟩ := List.mem_flatMap.mp hm
  obtain ⟨h1, h2⟩ := mem_zipIdx hr
  obtain ⟨g1, g2⟩ := mem_zipIdx hp
  unfold movesR at hm
  split at hm
  · rename_i h0
    obtain ⟨q, hq, rfl⟩ := List.mem_map.mp hm
    obtain ⟨hq1, hq2⟩ := List.mem_filter.mp hq
    obtain ⟨k1, k2⟩ := mem_zipIdx hq1
    simp only [Bool.and_eq_true, decide_eq_true_eq] at hq2
    obtain ⟨y, hy⟩ := Option.isSome_iff_exists.mp hq2.2
    have hK : r.1.length = K := by rw [← h2]; exact row_len hc h1
    have hs := hfit r.2 p.2 h1 (by rw [h2]; exact g1) h0
    simp only [h2, g2] at hs
    obtain ⟨x, hx⟩ := Option.isSome_iff_exists.mp hs
    refine ⟨by rw [← hc.len]; exact h1, by rw [← hK]; exact g1, by rw [← hK]; exact k1, hq2.1, h0, x, y, ?_, ?_, ?_⟩
    · simp only
      rw [cs_get h1 (by rw [h2]; exact g1)]
      simp only [h2, g2, hx]
    · simp only
      rw [cs_get h1 (by rw [h2]; exact k1)]
      simp only [h2, k2, hy]
    · simp [hx, hy]
  · simp at hm
theorem moves_mem (hc : Dim n K c) {h t o : Nat} {e : Int} (m : Mv n K (cs c) f h t e o) : (h, t, e, o) ∈ movesL c f := by
  have ho : o < c.length := by rw [hc.len]; exact m.ho
  have hK := row_len hc ho
  have hh : h < (c[o]).length := by rw [hK]; exact m.hh
  have ht : t < (c[o]).length := by rw [hK]; exact m.ht
  obtain ⟨x, y, h1, h2, rfl⟩ := m.ex
  rw [cs_get ho hh] at h1
  rw [cs_get ho ht] at h2
  refine List.mem_flatMap.mpr ⟨_, mem_zipIdx_of ho, List.mem_flatMap.mpr ⟨_, mem_zipIdx_of hh, ?_⟩⟩
  unfold movesR
  simp only
  rw [if_pos m.fl]
  refine List.mem_map.mpr ⟨(c[o][t], t), List.mem_filter.mpr ⟨mem_zipIdx_of ht, ?_⟩, ?_⟩
  · simp [m.ne, h2]
  · simp [h1, h2]
def initW (row : List (Option Int)) : List En := row.map fun x => x.map fun v => (v, 0, [])
theorem at_init {row : List (Option Int)} {k : Nat} : at_ (initW row) k = ((row[k]?).getD none).map fun v => (v, 0, []) := by
  unfold at_ initW
  rw [List.getElem?_map]
  cases row[k]? <;> rfl
theorem init_lab (hc : Dim n K c) {i : Nat} (hi : i < c.length) : Lab n K (cs c) f i (initW c[i]) := by
  have hK := row_len hc hi
  have sp : ∀ k z, at_ (initW c[i]) k = some z → ∃ v, z = (v, 0, []) ∧ cs c i k = some v ∧ k < K := fun k z hz => by
    rw [at_init] at hz
    by_cases hk : k < (c[i]).length
    · obtain ⟨v, h1, h2⟩ := Option.map_eq_some_iff.mp hz
      refine ⟨v, h2.symm, ?_, by omega⟩
      rw [cs_get hi hk]
      simpa [hk] using h1
    · rw [List.getElem?_eq_none (by omega)] at hz
      cases hz
  refine ⟨fun k z hz => ?_, fun k z hz => ?_, by simp [initW, hK], fun k z hz => ?_, fun k hk x hx => ?_⟩
  · obtain ⟨v, rfl, _⟩ := sp k z hz
    exact .nil
  · obtain ⟨v, rfl, _⟩ := sp k z hz
    simp
  · obtain ⟨v, rfl, h1, h2⟩ := sp k z hz
    exact ⟨.own h2 h1, rfl⟩
  · refine ⟨(x, 0, []), ?_, Int.le_refl _, fun _ => rfl⟩
    rw [at_init]
    have hk' : k < (c[i]).length := by omega
    rw [cs_get hi hk'] at hx
    simp [hk', hx]
end
theorem ways_loop {n0 n K : Nat} {c : Cs} {f : Fw} {i : Nat} {π : Nat → Int} (hp : Pot n K c f π) {ms : List Mo} (hm : AllMv n K c f ms) (hK : K ≤ 10) {L : Nat → Int} (hL : ∀ P k C, Way n K c f i P k C → L k ≤ C) {s0 s1 s2 : Sl} {S : Sto} :
    ∀ {b b' : List En}, Iter ms b b' → Lab n K c f i b → ∀ j : Sl × Sl × Sl × Sl × Sl × Sl, ∃ (N : Nat) (j' : Sl × Sl × Sl × Sl × Sl × Sl), whN (ev wrd (go n0) (.tst (.var 5))) (exec wrd (go n0) none t_ways_from_b1) N [s0, s1, s2, .own (b.map eW), .v (.lst (ms.map eMo)), .v (.bl true), j.1, j.2.1, j.2.2.1, j.2.2.2.1, j.2.2.2.2.1, j.2.2.2.2.2] S =
      .nx [s0, s1, s2, .own (b'.map eW), .v (.lst (ms.map eMo)), .v (.bl false), j'.1, j'.2.1, j'.2.2.1, j'.2.2.2.1, j'.2.2.2.2.1, j'.2.2.2.2.2] S := by
  have body : ∀ (b : List En), Lab n K c f i b → ∀ j : Sl × Sl × Sl × Sl × Sl × Sl, ∃ j' : Sl × Sl × Sl × Sl × Sl × Sl, exec wrd (go n0) none t_ways_from_b1 [s0, s1, s2, .own (b.map eW), .v (.lst (ms.map eMo)), .v (.bl true), j.1, j.2.1, j.2.2.1, j.2.2.2.1, j.2.2.2.2.1, j.2.2.2.2.2] S =
      .nx [s0, s1, s2, .own ((pass b ms).1.map eW), .v (.lst (ms.map eMo)), .v (.bl (pass b ms).2), j'.1, j'.2.1, j'.2.2.1, j'.2.2.2.1, j'.2.2.2.2.1, j'.2.2.2.2.2] S := fun b hb j => by
    obtain ⟨j', e, _⟩ := fors_zip (α := Mo) (bind := asg (.tup (.cons (.nm 7) (.cons (.nm 8) (.cons (.nm 9) (.cons (.nm 10) .nil)))))) (body := exec wrd (go n0) none t_ways_from_b2) (enc := eMo)
      (fun (s : List En × Bool) (j : Sl × Sl × Sl × Sl × Sl × Sl) => [s0, s1, s2, .own (s.1.map eW), .v (.lst (ms.map eMo)), .v (.bl s.2), j.1, j.2.1, j.2.2.1, j.2.2.2.1, j.2.2.2.2.1, j.2.2.2.2.2]) stepP (fun s => Lab n K c f i s.1) (S := S) (xs := ms) (b, false) j hb (fun s j m hmm hs => ⟨_, by simp; rfl, by
        cases hst : stepW s.1 m with
        | none => rw [stepP_none hst]; exact hs
        | some b2 => rw [stepP_some hst]; exact (step_lab hp hs (hm m hmm) hst).1, by
        have mm := hm m hmm
        obtain ⟨j5, e5⟩ := b_ways2 (n0 := n0) (b := s.1) (mv := s.2) (m := m) (s0 := s0) (s1 := s1) (s2 := s2) (s4 := .v (.lst (ms.map eMo))) (s6 := j.1) (s11 := j.2.2.2.2.2) (S := S) (by rw [hs.len]; exact mm.hh) (by rw [hs.len]; exact mm.ht) (fun z hz => by have := hs.short hz; omega)
        exact ⟨⟨j.1, .v (.int m.1), .v (.int m.2.1), .v (.int m.2.2.1), .v (.int m.2.2.2), j5⟩, e5⟩⟩)
    refine ⟨j', ?_⟩
    simp [t_ways_from_b1]
    simp at e
    rw [e]
    rfl
  have cond : ∀ (b : List En) (q : Bool) (j : Sl × Sl × Sl × Sl × Sl × Sl), ev wrd (go n0) (.tst (.var 5)) [s0, s1, s2, .own (b.map eW), .v (.lst (ms.map eMo)), .v (.bl q), j.1, j.2.1, j.2.2.1, j.2.2.2.1, j.2.2.2.2.1, j.2.2.2.2.2] S = .ok (.bl q) S := fun b q j => by
    cases q <;> simp
  intro b b' hi
  induction hi with
  | @done b h =>
    intro hb j
    obtain ⟨j', e⟩ := body b hb j
    rw [h] at e
    exact ⟨2, j', by rw [whN_next (cond b true j) e, whN_end (cond b false j')]⟩
  | @more b b1 b' h _ ih =>
    intro hb j
    obtain ⟨j', e⟩ := body b hb j
    have hb1 : Lab n K c f i b1 := by
      have := (fold_lab hp hL ms (b, false) hb hm).1
      rw [show ms.foldl stepP (b, false) = (b1, true) from h] at this
      exact this
    rw [h] at e
    obtain ⟨N, j2, e2⟩ := ih hb1 j'
    exact ⟨N + 1, j2, by rw [whN_next (cond b true j) e, e2]⟩
theorem r_ways_from {n0 n K : Nat} {c : List (List (Option Int))} {f : List (List Int)} {i : Nat} {π : Nat → Int} {S : Sto} (hc : Dim n K c) (hf : Dim n K f) (hn : n ≤ 10) (hK : K ≤ 10) (hfit : Fits c (fw f)) (hp : Pot n K (cs c) (fw f) π) (hi : i < n) :
    ∃ b, go (n0 + 2) i_ways_from [eC c, eF f, .int i] S = .ok (.lst (b.map eW)) S ∧ Lab n K (cs c) (fw f) i b ∧ Calm n K (cs c) (fw f) i (lb b) := by
  have hi' : i < c.length := by rw [hc.len]; exact hi
  have hr := row_len hc hi'
  obtain ⟨L, hL⟩ := low_ex (i := i) hp
  have am := moves_all hc hfit
  obtain ⟨b', it, lb', st⟩ := settle hp hL am (initW c[i]) (init_lab hc hi')
  obtain ⟨N, j', e⟩ := ways_loop (n0 := n0 + 1) hp am hK hL (s0 := .v (eC c)) (s1 := .v (eF f)) (s2 := .v (.int i)) (S := S) it (init_lab hc hi') (.un, .un, .un, .un, .un, .un)
  refine ⟨b', ?_, lb', calm_of lb' (fun h t e o m => moves_mem hc m) st⟩
  rw [go_step e_ways_from rfl]
  have ixc : ∀ S, ixD S (eC c) (.int i) = some (eR c[i]) := fun S => ixE hi'
  simp [f_ways_from, t_ways_from, ixc]
  rw [comps_all (f := fun x : Option Int => eW (x.map fun v => (v, 0, []))) (fun x _ => ⟨_, by simp; rfl, by simp, by cases x <;> simp⟩) (by rw [hr]; unfold maxLen; omega)]
  have e0 : (c[i]).map (fun x : Option Int => eW (x.map fun v => (v, 0, []))) = (initW c[i]).map eW := by simp [initW]
  rw [e0]
  simp [r_moves_of hc hf hn hK hfit]
  rw [whA_eq e (by simp)]
  simp
end My

/-! N13: cheapest flows. -/
namespace My
open Pv Fl
open PySem (Str)
theorem minI_in : ∀ (m : Int) (ns : List Int), minI m ns ∈ m :: ns
  | m, [] => by simp [minI]
  | m, x :: xs => by
    unfold minI
    have h := minI_in (if x < m then x else m) xs
    rcases List.mem_cons.mp h with e | e
    · rw [e]
      split <;> simp
    · simp [e]
theorem minI_lb : ∀ (m : Int) (ns : List Int), ∀ y ∈ m :: ns, minI m ns ≤ y
  | m, [], y, h => by simp at h; subst h; simp [minI]
  | m, x :: xs, y, h => by
    unfold minI
    have h1 : (if x < m then x else m) ≤ m ∧ (if x < m then x else m) ≤ x := by split <;> omega
    generalize (if x < m then x else m) = w at h1
    have ih := minI_lb w xs
    have h0 := ih _ List.mem_cons_self
    rcases List.mem_cons.mp h with e | e
    · subst e; omega
    · rcases List.mem_cons.mp e with e | e
      · subst e; omega
      · exact ih y (List.mem_cons_of_mem _ e)
@[simp] theorem blt_minI {S : Sto} {n : Int} {ns : List Int} : bltD .min S [.lst (.int n :: ns.map .int)] = some (.int (minI n ns)) := by
  show (match (seqI S (.lst (.int n :: ns.map .int))).bind (allSome D.int?) with
    | some (n :: ns) => some (D.int (minI n ns))
    | some [] => none
    | none => (seqL S (.lst (.int n :: ns.map .int))).bind minW) = _
  have e : allSome D.int? (.int n :: ns.map .int) = some (n :: ns) := by
    have := allSome_int' (l := n :: ns)
    simpa using this
  simp only [seqI_lst, seqL_lst, Option.bind_some, e]
/-- a way, as it is compared -/
def eV (z : (Int × Nat × List (Nat × Nat)) × Nat) : D := .tup [.tup [.int z.1.1, .int z.1.2.1], .int z.2, .lst (z.1.2.2.map eQ)]
def kV (z : (Int × Nat × List (Nat × Nat)) × Nat) : Int × Int × Int := (z.1.1, z.1.2.1, z.2)
theorem keyW_eV {z : (Int × Nat × List (Nat × Nat)) × Nat} : keyW (eV z) = some (kV z) := by
  unfold eV keyW
  have : pairsW (.lst (z.1.2.2.map eQ)) = true := by
    show (z.1.2.2.map eQ).all isPairI = true
    rw [List.all_map, List.all_eq_true]
    intro q _
    rfl
  simp only [this, if_true]
  rfl
theorem allSome_keyW : ∀ {l : List ((Int × Nat × List (Nat × Nat)) × Nat)}, allSome keyW (l.map eV) = some (l.map kV)
  | [] => rfl
  | z :: l => by simp [allSome, keyW_eV, allSome_keyW]
theorem plain_eV {z : (Int × Nat × List (Nat × Nat)) × Nat} {m : Nat} : plain (m + 3) (eV z) = true := by
  refine plain_tup_of fun x hx => ?_
  simp at hx
  rcases hx with rfl | rfl | rfl
  · exact plain_tup_of (by simp)
  · exact plain_int
  · refine plain_lst_of fun y hy => ?_
    obtain ⟨q, _, rfl⟩ := List.mem_map.mp hy
    exact plain_tup_of (by simp)
theorem bestK_lt {ks : List (Int × Int × Int)} : ∀ k, bestK ks k ≤ k
  | 0 => Nat.le_refl _
  | k + 1 => by
    unfold bestK
    have := bestK_lt (ks := ks) k
    split <;> omega
/-- min of the ways is one of them -/
theorem blt_minV {S : Sto} {l : List ((Int × Nat × List (Nat × Nat)) × Nat)} (hl : l ≠ []) (nd : (l.map (·.2)).Nodup) : ∃ z ∈ l, bltD .min S [.lst (l.map eV)] = some (eV z) := by
  have hpos := List.length_pos_iff.mpr hl
  have hb := bestK_lt (ks := l.map kV) (l.length - 1)
  have hlt : bestK (l.map kV) (l.length - 1) < l.length := by omega
  refine ⟨l[bestK (l.map kV) (l.length - 1)], List.getElem_mem _, ?_⟩
  show (match (seqI S (.lst (l.map eV))).bind (allSome D.int?) with
    | some (n :: ns) => some (D.int (minI n ns))
    | some [] => none
    | none => (seqL S (.lst (l.map eV))).bind minW) = _
  have e1 : allSome D.int? (l.map eV) = none := by
    cases l with
    | nil => exact (hl rfl).elim
    | cons z r => rfl
  have e2 : decide (((l.map kV).map (·.2.2)).Nodup) = true := by
    apply decide_eq_true
    rw [List.map_map]
    have : ((fun x : Int × Int × Int => x.2.2) ∘ kV) = (fun (n : Nat) => (n : Int)) ∘ fun z => z.2 := rfl
    rw [this, ← List.map_map]
    exact List.Pairwise.map _ (fun a b h e => h (by omega)) nd
  have e3 : plains 10 (l.map eV) = true := plains_of fun x hx => by
    obtain ⟨z, _, rfl⟩ := List.mem_map.mp hx
    exact plain_eV (m := 7)
  simp only [seqI_lst, seqL_lst, Option.bind_some, e1]
  unfold minW
  simp only [allSome_keyW, e2, e3, Bool.and_self, if_true, List.length_map]
  simp [hlt]
theorem mul_zero {K : Nat} (hK : K ≤ 100) : binD .mul (.lst [.int 0]) (.int K) = some (eI (List.replicate K 0)) := by
  show (if rngB K && lenOk ([D.int 0].length * (K : Int).toNat) then some (D.lst (List.replicate (K : Int).toNat [D.int 0]).flatten) else none) = _
  rw [rngB_of (by omega), lenOk_of (by simp; unfold maxLen; omega)]
  simp only [Bool.and_self, if_true, Int.toNat_natCast]
  have : ∀ m, (List.replicate m [D.int 0]).flatten = (List.replicate m (0 : Int)).map .int := fun m => by
    induction m with
    | zero => rfl
    | succ m ih => simp [List.replicate_succ, ih]
  rw [this]
  rfl
structure CF where
  f : List (List Int)
  free : List Int
  many : Int
structure CFI (n K : Nat) (c : Cs) (p b : Nat → Int) (i : Nat) (s : CF) : Prop where
  dim : Dim n K s.f
  len : s.free.length = K
  inv : FInv n K c p b i s.many (fw s.f) (iat s.free)
theorem iat_set' {l : List Int} {t : Nat} {a : Int} (ht : t < l.length) : iat (l.set t (iat l t - a)) = fun y => if y = t then iat l y - a else iat l y := by
  funext y
  rw [iat_set ht]
  split
  · rename_i e; rw [e]
  · rfl
theorem fits_of {n K : Nat} {c : List (List (Option Int))} {f : Fw} (hc : Dim n K c) (hf : Flow n K (cs c) f) : Fits c f := by
  intro i k hi hk h0
  obtain ⟨x, hx⟩ := hf.al i (by rw [← hc.len]; exact hi) k (by rw [← row_len hc hi]; exact hk) h0
  rw [cs_get hi hk] at hx
  rw [hx]
  rfl
def ways (b : List En) (free : List Int) : List ((Int × Nat × List (Nat × Nat)) × Nat) := (b.zipIdx.filter fun q => q.1.isSome && decide (0 < iat free q.2)).map fun q => (q.1.getD (0, 0, []), q.2)
theorem ways_mem {b : List En} {free : List Int} {z : (Int × Nat × List (Nat × Nat)) × Nat} (h : z ∈ ways b free) : z.2 < b.length ∧ at_ b z.2 = some z.1 ∧ 0 < iat free z.2 := by
  unfold ways at h
  obtain ⟨q, hq, rfl⟩ := List.mem_map.mp h
  obtain ⟨h1, h2⟩ := List.mem_filter.mp hq
  obtain ⟨g1, g2⟩ := mem_zipIdx h1
  simp only [Bool.and_eq_true, decide_eq_true_eq] at h2
  obtain ⟨y, hy⟩ := Option.isSome_iff_exists.mp h2.1
  refine ⟨g1, ?_, h2.2⟩
  simp [at_, g1, g2, hy]
theorem ways_ne {b : List En} {free : List Int} {k : Nat} {z : Int × Nat × List (Nat × Nat)} (h : at_ b k = some z) (hk : k < b.length) (h0 : 0 < iat free k) : ways b free ≠ [] := by
  have e : b[k] = some z := by simpa [at_, hk] using h
  have : (z, k) ∈ ways b free := List.mem_map.mpr ⟨(b[k], k), List.mem_filter.mpr ⟨mem_zipIdx_of hk, by simp [e, h0]⟩, by simp [e]⟩
  intro z
  rw [z] at this
  simp at this
theorem ways_nd {b : List En} {free : List Int} : ((ways b free).map (·.2)).Nodup := by
  unfold ways
  rw [List.map_map]
  have : ((fun x : (Int × Nat × List (Nat × Nat)) × Nat => x.2) ∘ fun q : En × Nat => (q.1.getD (0, 0, []), q.2)) = fun q => q.2 := rfl
  rw [this]
  refine List.Nodup.sublist ((List.filter_sublist (l := b.zipIdx)).map _) ?_
  have e : b.zipIdx.map (fun q => q.2) = List.range b.length := by
    have := List.zipIdx_map_snd (l := b) (i := 0)
    simpa [List.range_eq_range'] using this
  rw [e]
  exact List.nodup_range
section
variable {n0 n K : Nat} {c : List (List (Option Int))} {p b : Nat → Int} {i : Nat} {S : Sto}
theorem b_cheapest2 {s : CF} {g : Fw} {a1 a2 : D} {s7 s8 s9 s10 s11 s12 s13 s14 s15 : Sl} (hc : Dim n K c) (hn : n ≤ 10) (hK : K ≤ 10) (hi : i < n) (hs : CFI n K (cs c) p b i s) (hm : 0 < s.many) (hp : ∀ o, o < n → 0 ≤ p o) (hg : Full n K (cs c) p b g) :
    ∃ (s' : CF) (j : Sl × Sl × Sl × Sl × Sl × Sl × Sl × Sl × Sl), exec wrd (go (n0 + 3)) none t_cheapest_flow_b2 [.v (eC c), .v a1, .v a2, .v (eF s.f), .own (s.free.map .int), .v (.int i), .v (.int s.many), s7, s8, s9, s10, s11, s12, s13, s14, s15] S =
      .nx [.v (eC c), .v a1, .v a2, .v (eF s'.f), .own (s'.free.map .int), .v (.int i), .v (.int s'.many), j.1, j.2.1, j.2.2.1, j.2.2.2.1, j.2.2.2.2.1, j.2.2.2.2.2.1, j.2.2.2.2.2.2.1, j.2.2.2.2.2.2.2.1, j.2.2.2.2.2.2.2.2] S ∧ CFI n K (cs c) p b i s' ∧ s'.many < s.many := by
  obtain ⟨π, hpot⟩ := hs.inv.pot
  have hfit := fits_of hc hs.inv.flow
  obtain ⟨bl, e1, lab, calm⟩ := r_ways_from (n0 := n0 + 1) (S := S) hc hs.dim hn hK hfit hpot hi
  obtain ⟨k, hk, ⟨zk, hzk⟩, h0⟩ := hs.inv.reach hi hm hp calm hg
  have hat : ∃ z, at_ bl k = some z := by
    unfold lb at hzk
    obtain ⟨z, h1, _⟩ := Option.map_eq_some_iff.mp hzk
    exact ⟨z, h1⟩
  obtain ⟨zz, hzz⟩ := hat
  obtain ⟨z, hz, emin⟩ := blt_minV (S := S) (ways_ne hzz (by rw [lab.len]; exact hk) h0) ways_nd
  obtain ⟨z1, z2, z3⟩ := ways_mem hz
  obtain ⟨⟨C, sn, P⟩, t⟩ := z
  simp only at z1 z2 z3
  rw [lab.len] at z1
  have hw := lab.way t _ z2
  simp only at hw
  have bd := hw.1.bd
  have hlt : t < s.free.length := by rw [hs.len]; exact z1
  have hkd : lb bl t = some (C, P.length) := by
    unfold lb
    rw [z2]
    simp [hw.2]
  -- the part
  generalize ha : minI s.many (iat s.free t :: P.map fun q => fw s.f q.2 q.1) = a
  have amem : a ∈ s.many :: iat s.free t :: P.map fun q => fw s.f q.2 q.1 := by rw [← ha]; exact minI_in _ _
  have ale : ∀ y ∈ s.many :: iat s.free t :: P.map (fun q => fw s.f q.2 q.1), a ≤ y := by rw [← ha]; exact minI_lb _ _
  have a1' : 1 ≤ a := by
    rcases List.mem_cons.mp amem with e | e
    · omega
    · rcases List.mem_cons.mp e with e | e
      · omega
      · obtain ⟨q, hq, e⟩ := List.mem_map.mp e
        have := (bd.2 q hq).2.2
        omega
  have hP : ∀ q ∈ P, q.1 < K ∧ q.2 < n := fun q hq => ⟨(bd.2 q hq).1, (bd.2 q hq).2.1⟩
  have hinv := hs.inv.step hi calm hw.1 hkd (a := a) (by omega) (ale _ (by simp)) (ale _ (by simp)) (fun q hq => ale _ (by simp; exact .inr (.inr ⟨q.1, q.2, hq, rfl⟩)))
  refine ⟨⟨shiftL s.f i P t a, s.free.set t (iat s.free t - a), s.many - a⟩, ⟨s7, .v (.lst ((ways bl s.free).map eV)), .v (.int a), .v (.tup [.int C, .int sn]), .v (.int t), .v (.lst (P.map eQ)), s13, s14, s15⟩, ?_, ⟨shiftL_dim P hs.dim, by simp [hs.len], ?_⟩, by simp only; omega⟩
  · have ixf : ∀ (k : Nat) (S : Sto), k < s.free.length → ixD S (.lst (s.free.map .int)) (.int k) = some (.int (iat s.free k)) := fun k S h => ix_eI h
    have hixn : ixN s.free.length (t : Int) = some t := ixN_in hlt
    simp [t_cheapest_flow_b2, e1]
    rw [comps_pure (α := En × Nat) (p := fun q => q.1.isSome && decide (0 < iat s.free q.2)) (f := fun q => eV (q.1.getD (0, 0, []), q.2)) (fun q hq => by
      obtain ⟨g1, g2⟩ := mem_zipIdx hq
      obtain ⟨o, y⟩ := q
      have hy : y < s.free.length := by rw [hs.len, ← lab.len]; exact g1
      refine ⟨_, by simp; rfl, ?_, fun hp => ?_⟩
      · cases o with
        | none => simp
        | some w => simp [ixf y S hy]
      · simp only [Bool.and_eq_true] at hp
        obtain ⟨w, rfl⟩ := Option.isSome_iff_exists.mp hp.1
        simp [sl_two, ix3_2, eV]) (by simp [lab.len]; unfold maxLen; omega)]
    have ew : (bl.zipIdx.filter fun q => q.1.isSome && decide (0 < iat s.free q.2)).map (fun q => eV (q.1.getD (0, 0, []), q.2)) = (ways bl s.free).map eV := by
      unfold ways
      rw [List.map_map]
      rfl
    rw [ew]
    simp [emin]
    simp [eV, ixf t _ hlt]
    rw [comps_all (f := fun q : Nat × Nat => D.int (fw s.f q.2 q.1)) (fun q hq => ⟨_, by simp; rfl, by simp, by
      have h1 := hP q hq
      have hl : q.2 < s.f.length := by rw [hs.dim.len]; exact h1.2
      have h2 : q.1 < (s.f[q.2]).length := by rw [row_len hs.dim hl]; exact h1.1
      simp [ix_eF hs.dim h1.2, ix_eI h2, fw_get (n := n) (K := K) hl]⟩) (by have := lab.short z2; simp only at this; unfold maxLen; omega)]
    have hlo : lenOk (2 + P.length) = true := lenOk_of (by have := lab.short z2; simp only at this; unfold maxLen; omega)
    have em : (P.map fun q => D.int (fw s.f q.2 q.1)) = (P.map fun q => fw s.f q.2 q.1).map .int := by simp
    have emn : ∀ S, bltD .min S [.lst (.int s.many :: .int (iat s.free t) :: (P.map fun q => fw s.f q.2 q.1).map .int)] = some (.int a) := fun S => by
      have := blt_minI (S := S) (n := s.many) (ns := iat s.free t :: P.map fun q => fw s.f q.2 q.1)
      rw [ha] at this
      simpa using this
    rw [em]
    have esh : ∀ S, go (n0 + 3) i_shifted [eF s.f, .int i, .lst (P.map eQ), .int t, .int a] S = .ok (eF (shiftL s.f i P t a)) S := fun S => r_shifted (n0 := n0 + 1) hs.dim hi z1 hP (by omega) (by omega)
    simp [hlo, -List.map_map, emn, esh, ixf t _ hlt, hixn]
  · rw [fw_shiftL z1 P hs.dim hi hP, iat_set' hlt]
    exact hinv
/-- all pieces of one lot placed -/
theorem cheapest_while {g : Fw} {a1 a2 : D} (hc : Dim n K c) (hn : n ≤ 10) (hK : K ≤ 10) (hi : i < n) (hp : ∀ o, o < n → 0 ≤ p o) (hg : Full n K (cs c) p b g) :
    ∀ (m : Nat) (s : CF) (j : Sl × Sl × Sl × Sl × Sl × Sl × Sl × Sl × Sl), CFI n K (cs c) p b i s → s.many.toNat ≤ m → ∃ (N : Nat) (s' : CF) (j' : Sl × Sl × Sl × Sl × Sl × Sl × Sl × Sl × Sl), whN (ev wrd (go (n0 + 3)) (.cmp .gt (.var 6) (.lit (.int 0)))) (exec wrd (go (n0 + 3)) none t_cheapest_flow_b2) N [.v (eC c), .v a1, .v a2, .v (eF s.f), .own (s.free.map .int), .v (.int i), .v (.int s.many), j.1, j.2.1, j.2.2.1, j.2.2.2.1, j.2.2.2.2.1, j.2.2.2.2.2.1, j.2.2.2.2.2.2.1, j.2.2.2.2.2.2.2.1, j.2.2.2.2.2.2.2.2] S =
      .nx [.v (eC c), .v a1, .v a2, .v (eF s'.f), .own (s'.free.map .int), .v (.int i), .v (.int 0), j'.1, j'.2.1, j'.2.2.1, j'.2.2.2.1, j'.2.2.2.2.1, j'.2.2.2.2.2.1, j'.2.2.2.2.2.2.1, j'.2.2.2.2.2.2.2.1, j'.2.2.2.2.2.2.2.2] S ∧ CFI n K (cs c) p b i s' ∧ s'.many = 0 := by
  intro m
  induction m with
  | zero =>
    intro s j hs hm
    have h0 : s.many = 0 := by have := hs.inv.nn; omega
    refine ⟨1, s, j, ?_, hs, h0⟩
    rw [whN_end (S1 := S) (by simp [h0]), h0]
  | succ m ih =>
    intro s j hs hm
    by_cases h0 : 0 < s.many
    · obtain ⟨s1, j1, e1, hs1, hlt⟩ := b_cheapest2 (n0 := n0) (S := S) (a1 := a1) (a2 := a2) (s7 := j.1) (s8 := j.2.1) (s9 := j.2.2.1) (s10 := j.2.2.2.1) (s11 := j.2.2.2.2.1) (s12 := j.2.2.2.2.2.1) (s13 := j.2.2.2.2.2.2.1) (s14 := j.2.2.2.2.2.2.2.1) (s15 := j.2.2.2.2.2.2.2.2) hc hn hK hi hs h0 hp hg
      obtain ⟨N, s2, j2, e2, hs2, hz⟩ := ih s1 j1 hs1 (by have := hs1.inv.nn; omega)
      refine ⟨N + 1, s2, j2, ?_, hs2, hz⟩
      rw [whN_next (S1 := S) (by simp [h0]) e1, e2]
    · have h1 : s.many = 0 := by have := hs.inv.nn; omega
      refine ⟨1, s, j, ?_, hs, h1⟩
      rw [whN_end (S1 := S) (by simp [h1]), h1]
/-- cheapest_flow: a whole flow, with prices -/
theorem r_cheapest_flow {ps bs : List Int} {g : Fw} (hc : Dim n K c) (hn : n ≤ 10) (hK : K ≤ 10) (hps : ps.length = n) (hbs : bs.length = K) (hp : ∀ x ∈ ps, 0 ≤ x) (hb : ∀ x ∈ bs, 0 ≤ x) (hg : Full n K (cs c) (iat ps) (iat bs) g) :
    ∃ f, go (n0 + 4) i_cheapest_flow [eC c, eI ps, eI bs] S = .ok (eF f) S ∧ Dim n K f ∧ Full n K (cs c) (iat ps) (iat bs) (fw f) ∧ ∃ π, Pot n K (cs c) (fw f) π := by
  have hp' : ∀ o, o < n → 0 ≤ iat ps o := fun o ho => by
    have : o < ps.length := by omega
    simp only [iat, List.getElem?_eq_getElem this, Option.getD_some]
    exact hp _ (List.getElem_mem this)
  have hb' : ∀ k, k < K → 0 ≤ iat bs k := fun k hk => by
    have : k < bs.length := by omega
    simp only [iat, List.getElem?_eq_getElem this, Option.getD_some]
    exact hb _ (List.getElem_mem this)
  have f0 : fw (List.replicate n (List.replicate K 0)) = fun _ _ => 0 := by
    funext x y
    unfold fw iat
    by_cases hx : x < n
    · by_cases hy : y < K <;> simp [hx, hy]
    · simp [hx]
  have d0 : Dim n K (List.replicate n (List.replicate K (0 : Int))) := ⟨by simp, fun r hr => by rw [List.eq_of_mem_replicate hr]; simp⟩
  -- the lots, one by one
  have loop : ∀ (r i : Nat) (s : CF) (j : Sl × Sl × Sl × Sl × Sl × Sl × Sl × Sl × Sl × Sl × Sl), i + r = n → Dim n K s.f → s.free.length = K → FInv n K (cs c) (iat ps) (iat bs) i (if i < n then iat ps i else 0) (fw s.f) (iat s.free) →
      ∃ (s' : CF) (j' : Sl × Sl × Sl × Sl × Sl × Sl × Sl × Sl × Sl × Sl × Sl), fors (asg (.nm 5)) (exec wrd (go (n0 + 3)) none t_cheapest_flow_b1) (((List.range r).map fun t => i + t).map fun (i : Nat) => .int (i : Int)) [.v (eC c), .v (eI ps), .v (eI bs), .v (eF s.f), .own (s.free.map .int), j.1, j.2.1, j.2.2.1, j.2.2.2.1, j.2.2.2.2.1, j.2.2.2.2.2.1, j.2.2.2.2.2.2.1, j.2.2.2.2.2.2.2.1, j.2.2.2.2.2.2.2.2.1, j.2.2.2.2.2.2.2.2.2.1, j.2.2.2.2.2.2.2.2.2.2] S =
        .nx [.v (eC c), .v (eI ps), .v (eI bs), .v (eF s'.f), .own (s'.free.map .int), j'.1, j'.2.1, j'.2.2.1, j'.2.2.2.1, j'.2.2.2.2.1, j'.2.2.2.2.2.1, j'.2.2.2.2.2.2.1, j'.2.2.2.2.2.2.2.1, j'.2.2.2.2.2.2.2.2.1, j'.2.2.2.2.2.2.2.2.2.1, j'.2.2.2.2.2.2.2.2.2.2] S ∧ Dim n K s'.f ∧ FInv n K (cs c) (iat ps) (iat bs) n 0 (fw s'.f) (iat s'.free) := by
    intro r
    induction r with
    | zero =>
      intro i s j hi hd hl hv
      have : i = n := by omega
      subst this
      rw [if_neg (by omega)] at hv
      exact ⟨s, j, rfl, hd, hv⟩
    | succ r ih =>
      intro i s j hi hd hl hv
      have hin : i < n := by omega
      rw [if_pos hin] at hv
      obtain ⟨N, s1, j1, e1, h1, h2⟩ := cheapest_while (n0 := n0) (S := S) (a1 := eI ps) (a2 := eI bs) hc hn hK hin hp' hg (iat ps i).toNat ⟨s.f, s.free, iat ps i⟩ ⟨j.2.2.1, j.2.2.2.1, j.2.2.2.2.1, j.2.2.2.2.2.1, j.2.2.2.2.2.2.1, j.2.2.2.2.2.2.2.1, j.2.2.2.2.2.2.2.2.1, j.2.2.2.2.2.2.2.2.2.1, j.2.2.2.2.2.2.2.2.2.2⟩ ⟨hd, hl, hv⟩ (Nat.le_refl _)
      have hv1 := h1.inv
      rw [h2] at hv1
      have hv2 : FInv n K (cs c) (iat ps) (iat bs) (i + 1) (if i + 1 < n then iat ps (i + 1) else 0) (fw s1.f) (iat s1.free) := by
        rcases hv1.next hin with h | ⟨x, rfl, hx⟩
        · exact h
        · by_cases h3 : i + 1 < n
          · have := hp' (i + 1) h3; omega
          · have : i + 1 = n := by omega
            rw [if_neg h3]
            exact ⟨hv1.flow, hv1.pot, fun o ho hoi => by
              by_cases e : o = i
              · subst e; have := hv1.now ho; omega
              · exact hv1.done o ho (by omega), fun h => absurd h h3, fun o ho hoi => hv1.later o ho (by omega), Int.le_refl _, hv1.free, hv1.frn⟩
      obtain ⟨s2, j2, e2, h4, h5⟩ := ih (i + 1) s1 ⟨.v (.int i), .v (.int 0), j1⟩ (by omega) h1.dim h1.len hv2
      refine ⟨s2, j2, ?_, h4, h5⟩
      have hr : ((List.range (r + 1)).map fun t => i + t) = i :: (List.range r).map fun t => i + 1 + t := by
        rw [List.range_succ_eq_map]
        simp [Function.comp_def, Nat.add_comm, Nat.add_left_comm]
      rw [hr]
      have bind : ∀ ρ : Env, ρ.length = 16 → asg (.nm 5) (.int i) ρ = some (ρ.set 5 (.v (.int i))) := fun ρ h => by rw [asg_nm, if_pos (by omega)]
      have hix : ∀ S, ixD S (eI ps) (.int i) = some (.int (iat ps i)) := fun S => ix_eI (by omega)
      have body : exec wrd (go (n0 + 3)) none t_cheapest_flow_b1 [.v (eC c), .v (eI ps), .v (eI bs), .v (eF s.f), .own (s.free.map .int), .v (.int i), j.2.1, j.2.2.1, j.2.2.2.1, j.2.2.2.2.1, j.2.2.2.2.2.1, j.2.2.2.2.2.2.1, j.2.2.2.2.2.2.2.1, j.2.2.2.2.2.2.2.2.1, j.2.2.2.2.2.2.2.2.2.1, j.2.2.2.2.2.2.2.2.2.2] S = .nx [.v (eC c), .v (eI ps), .v (eI bs), .v (eF s1.f), .own (s1.free.map .int), .v (.int i), .v (.int 0), j1.1, j1.2.1, j1.2.2.1, j1.2.2.2.1, j1.2.2.2.2.1, j1.2.2.2.2.2.1, j1.2.2.2.2.2.2.1, j1.2.2.2.2.2.2.2.1, j1.2.2.2.2.2.2.2.2] S := by
        simp [t_cheapest_flow_b1, hix]
        rw [whA_eq e1 (by simp)]
        exact sqO_nx
      simp only [List.map_cons, fors]
      rw [bind _ rfl]
      simp only [List.set_cons_succ, List.set_cons_zero, body]
      exact e2
  obtain ⟨s', j', e, hd, hv⟩ := loop n 0 ⟨List.replicate n (List.replicate K 0), bs, 0⟩ (.un, .un, .un, .un, .un, .un, .un, .un, .un, .un, .un) (by omega) d0 hbs (by
    show FInv n K (cs c) (iat ps) (iat bs) 0 (if 0 < n then iat ps 0 else 0) (fw (List.replicate n (List.replicate K 0))) (iat bs)
    rw [f0]
    exact FInv.start hb' (by
      by_cases h : 0 < n
      · exact .inl (hp' 0 h)
      · exact .inr (by omega)))
  refine ⟨s'.f, ?_, hd, hv.full hg, hv.pot⟩
  rw [go_step e_cheapest_flow rfl]
  simp [f_cheapest_flow, t_cheapest_flow]
  rw [comps_all (f := fun _ : List (Option Int) => eI (List.replicate K 0)) (fun r _ => ⟨_, by simp; rfl, by simp, by simp [hbs, mul_zero (show K ≤ 100 by omega)]⟩) (by rw [hc.len]; unfold maxLen; omega)]
  have e0 : (c.map fun _ => eI (List.replicate K 0)) = (List.replicate n (List.replicate K (0 : Int))).map eI := by
    rw [← hc.len]
    simp [List.map_const']
  rw [e0]
  have rg : rg1 (.int n) S = .ok ((List.range n).map fun (i : Nat) => .int (i : Int)) S := rg1_ok (by omega)
  simp [hps, rg]
  have e2 : ((List.range n).map fun t => 0 + t) = List.range n := by simp
  rw [e2] at e
  have e3 : (List.map eI (List.replicate n (List.replicate K 0))) = List.replicate n (eI (List.replicate K 0)) := by simp
  simp only [eF, e3] at e
  rw [e]
  simp
  rfl
end
end My

/-! N14: the numbers of stretches, and that there is a whole flow. -/
namespace My
open Pv Fl
open PySem (Str)
/-- numbers, count by count -/
def nl (lots : List (Int × Int)) : Int → Int → List (Int × Int) → List Int
  | first, left, [] => [left + ((lots.filter (inS (first, none))).map (·.2)).sum]
  | first, left, c :: r => (left + ((lots.filter (inS (first, some c.1))).map (·.2)).sum - c.2) :: nl lots (c.1 + 1) c.2 r
theorem nums_nl {l : L} : nums l = nl l.lots 0 0 l.counts := by
  have : ∀ (cs : List (Int × Int)) (f left : Int), numsGo l left (((f :: cs.map fun c => c.1 + 1).zip ((cs.map fun c => some c.1) ++ [none])).zip (cs.map (·.2) ++ [0])) = nl l.lots f left cs := by
    intro cs
    induction cs with
    | nil => intro f left; simp [numsGo, nl, boughtIn]
    | cons c r ih =>
      intro f left
      simp only [List.map_cons, List.cons_append, List.zip_cons_cons, numsGo, nl]
      rw [ih]
      rfl
  exact this l.counts 0 0
theorem inS_betw {lots : List (Int × Int)} {f d : Int} : ((lots.filter (inS (f, some d))).map (·.2)).sum = betw lots (f - 1) d := by
  unfold betw
  congr 2
  apply List.filter_congr
  intro p _
  unfold inS
  congr 1
  rw [Bool.eq_iff_iff, decide_eq_true_eq, decide_eq_true_eq]
  omega
theorem betw_all {lots : List (Int × Int)} {f : Int} : upTo lots (f - 1) + ((lots.filter (inS (f, none))).map (·.2)).sum = (lots.map (·.2)).sum := by
  unfold upTo
  induction lots with
  | nil => rfl
  | cons p r ih =>
    simp only [List.filter_cons, List.map_cons, List.sum_cons]
    by_cases h : f ≤ p.1
    · have h1 : ¬ p.1 ≤ f - 1 := by omega
      simp [inS, h, h1] at ih ⊢
      omega
    · have h1 : p.1 ≤ f - 1 := by omega
      simp [inS, h, h1] at ih ⊢
      omega
/-- the sum of the first numbers -/
theorem nl_sum {lots : List (Int × Int)} : ∀ (cs : List (Int × Int)) (f left : Int), ascF (f - 1) cs → ∀ k, (hk : k < cs.length) → sm (k + 1) (iat (nl lots f left cs)) = left - upTo lots (f - 1) + upTo lots (cs[k]).1 - (cs[k]).2
  | [], _, _, _, k, hk => by simp at hk
  | c :: r, f, left, ha, k, hk => by
    have h1 := upTo_betw (ps := lots) (a := f - 1) (d := c.1) (by have := ha.1; omega)
    have e0 : iat (nl lots f left (c :: r)) 0 = left + betw lots (f - 1) c.1 - c.2 := by
      simp only [nl, inS_betw, iat]
      rfl
    have es : ∀ j, iat (nl lots f left (c :: r)) (j + 1) = iat (nl lots (c.1 + 1) c.2 r) j := fun j => by simp [nl, iat]
    have sh : ∀ m, sm (m + 1) (iat (nl lots f left (c :: r))) = iat (nl lots f left (c :: r)) 0 + sm m (iat (nl lots (c.1 + 1) c.2 r)) := by
      intro m
      induction m with
      | zero => simp [sm]
      | succ m ih => rw [sm, ih, sm, es]; omega
    rw [sh, e0]
    cases k with
    | zero => simp only [sm, List.getElem_cons_zero]; omega
    | succ k =>
      have ih := nl_sum (lots := lots) r (c.1 + 1) c.2 (by have := ha.2; rw [show c.1 + 1 - 1 = c.1 by omega]; exact this) k (by simpa using hk)
      rw [ih, List.getElem_cons_succ, show c.1 + 1 - 1 = c.1 by omega]
      omega
theorem nl_tot {lots : List (Int × Int)} : ∀ (cs : List (Int × Int)) (f left : Int), ascF (f - 1) cs → sm (cs.length + 1) (iat (nl lots f left cs)) = left - upTo lots (f - 1) + (lots.map (·.2)).sum
  | [], f, left, _ => by
    have := betw_all (lots := lots) (f := f)
    simp only [nl, List.length_nil, sm, iat]
    simp
    omega
  | c :: r, f, left, ha => by
    have h1 := upTo_betw (ps := lots) (a := f - 1) (d := c.1) (by have := ha.1; omega)
    have e0 : iat (nl lots f left (c :: r)) 0 = left + betw lots (f - 1) c.1 - c.2 := by
      simp only [nl, inS_betw, iat]
      rfl
    have es : ∀ j, iat (nl lots f left (c :: r)) (j + 1) = iat (nl lots (c.1 + 1) c.2 r) j := fun j => by simp [nl, iat]
    have sh : ∀ m, sm (m + 1) (iat (nl lots f left (c :: r))) = iat (nl lots f left (c :: r)) 0 + sm m (iat (nl lots (c.1 + 1) c.2 r)) := by
      intro m
      induction m with
      | zero => simp [sm]
      | succ m ih => rw [sm, ih, sm, es]; omega
    have ih := nl_tot (lots := lots) r (c.1 + 1) c.2 (by have := ha.2; rw [show c.1 + 1 - 1 = c.1 by omega]; exact this)
    rw [List.length_cons, sh, e0, ih, show c.1 + 1 - 1 = c.1 by omega]
    omega
/-- pieces of the first lots -/
def pcs (l : L) : List Int := l.lots.map (·.2)
theorem sm_list : ∀ (xs : List Int), sm xs.length (iat xs) = xs.sum
  | [] => rfl
  | x :: xs => by
    have ih := sm_list xs
    have sh : ∀ m, sm (m + 1) (iat (x :: xs)) = x + sm m (iat xs) := by
      intro m
      induction m with
      | zero => simp [sm, iat]
      | succ m ih => rw [sm, ih, sm]; simp [iat]; omega
    rw [List.length_cons, sh, ih, List.sum_cons]
theorem upTo_le_sm : ∀ {lots : List (Int × Int)} {d : Int}, ascB lots = true → (∀ p ∈ lots, 0 ≤ p.2) → ∀ i, (hi : i < lots.length) → d < (lots[i]).1 → upTo lots d ≤ sm i (iat (lots.map (·.2)))
  | [], _, _, _, i, hi, _ => by simp at hi
  | p :: r, d, ha, hp, i, hi, hd => by
    have hf := ascF_iff.mpr ha
    have shr : ∀ m, sm (m + 1) (iat ((p :: r).map (·.2))) = p.2 + sm m (iat (r.map (·.2))) := by
      intro m
      induction m with
      | zero => simp [sm, iat]
      | succ m ih => rw [sm, ih, sm]; simp [iat]; omega
    have zero : ∀ (q : List (Int × Int)), (∀ x ∈ q, d < x.1) → upTo q d = 0 := fun q hq => by
      unfold upTo
      rw [List.filter_eq_nil_iff.mpr fun x hx => by have := hq x hx; simp; omega]
      rfl
    cases i with
    | zero =>
      simp only [List.getElem_cons_zero] at hd
      rw [zero (p :: r) fun x hx => by
        rcases List.mem_cons.mp hx with e | e
        · rw [e]; exact hd
        · have := ascF_ge hf x e; omega]
      exact Int.le_refl _
    | succ i =>
      simp only [List.getElem_cons_succ] at hd
      have ih := upTo_le_sm (lots := r) (d := d) (ascB_of hf) (fun x hx => hp x (by simp [hx])) i (by simpa using hi) hd
      have h0 := hp p (by simp)
      rw [shr]
      unfold upTo at ih ⊢
      simp only [List.filter_cons]
      by_cases h : p.1 ≤ d
      · simp [h] at ih ⊢; omega
      · simp [h] at ih ⊢; omega
theorem upTo_neg {lots : List (Int × Int)} {d : Int} (h : ∀ p ∈ lots, d < p.1) : upTo lots d = 0 := by
  unfold upTo
  rw [List.filter_eq_nil_iff.mpr fun x hx => by have := h x hx; simp; omega]
  rfl
/-- may a piece be sold there? -/
def canS (s : Int × Option Int) (d : Int) : Bool := match s.2 with
  | none => true
  | some e => decide (d ≤ e)
/-- costs that tell None just where no piece can be sold -/
def Shape (l : L) (c : List (List (Option Int))) : Prop := Dim l.lots.length (l.counts.length + 1) c ∧ ∀ i k, (hi : i < l.lots.length) → (hk : k < (spansL l).length) → (cs c i k = none ↔ canS (spansL l)[k] (l.lots[i]).1 = false)
theorem spans_get {l : L} {k : Nat} (hk : k < l.counts.length) : ((spansL l)[k]'(by rw [spansL_len]; omega)).2 = some (l.counts[k]).1 := by
  simp [spansL, List.getElem_zip, List.getElem_append, hk]
theorem spans_last {l : L} : ((spansL l)[l.counts.length]'(by rw [spansL_len]; omega)).2 = none := by
  simp [spansL, List.getElem_zip, List.getElem_append]
/-- where each number is right there is a whole flow: the one in order -/
theorem full_ex {l : L} (hl : l.Ok) (hn : ∀ x ∈ nums l, 0 ≤ x) {c : List (List (Option Int))} (hc : Shape l c) : Full l.lots.length (l.counts.length + 1) (cs c) (iat (pcs l)) (iat (nums l)) (ordF (iat (pcs l)) (iat (nums l))) := by
  have ha : ascF (0 - 1) l.counts := ascF_of hl.counts.asc fun p hp => by have := hl.counts.rng p hp; omega
  have hp : ∀ p ∈ l.lots, 0 ≤ p.2 := fun p hp => by have := hl.lots.rng p hp; omega
  have hu : upTo l.lots (0 - 1) = 0 := upTo_neg fun p hp => by have := hl.lots.rng p hp; omega
  have nn : ∀ k, k < l.counts.length + 1 → 0 ≤ iat (nums l) k := fun k hk => by
    have : k < (nums l).length := by rw [nums_len]; exact hk
    simp only [iat, List.getElem?_eq_getElem this, Option.getD_some]
    exact hn _ (List.getElem_mem this)
  have pn : ∀ i, i < l.lots.length → 0 ≤ iat (pcs l) i := fun i hi => by
    simp only [iat, pcs, List.getElem?_map, List.getElem?_eq_getElem hi, Option.map_some, Option.getD_some]
    exact hp _ (List.getElem_mem hi)
  have tot := nl_tot (lots := l.lots) l.counts 0 0 ha
  rw [← nums_nl] at tot
  refine ord_full pn nn ?_ fun i hi k hk h => ?_
  · have := sm_list (pcs l)
    rw [show (pcs l).length = l.lots.length by simp [pcs]] at this
    rw [this, tot, hu]
    simp only [pcs]
    omega
  · have hk' : k < (spansL l).length := by rw [spansL_len]; exact hk
    have h1 := (hc.2 i k hi hk').mp h
    unfold canS at h1
    by_cases e : k < l.counts.length
    · rw [spans_get e] at h1
      simp only [decide_eq_false_iff_not] at h1
      have s := nl_sum (lots := l.lots) l.counts 0 0 ha k e
      rw [← nums_nl] at s
      have u := upTo_le_sm (d := (l.counts[k]).1) hl.lots.asc hp i hi (by omega)
      have := hl.counts.rng _ (List.getElem_mem e)
      show sm (k + 1) (iat (nums l)) ≤ sm i (iat (l.lots.map (·.2)))
      omega
    · have : k = l.counts.length := by omega
      subst this
      rw [spans_last] at h1
      cases h1
end My

/-! N15: bounds. -/
namespace My
open Pv Fl
open PySem (Str)
/-- a word -/
def wD (m : Bool) : D := .str (if m then Str.ofString "most" else Str.ofString "least")
theorem words_ne : ¬ Str.ofString "least" = Str.ofString "most" := by decide +kernel
@[simp] theorem cmp_most {m : Bool} : cmpD .eq (wD m) (.str (Str.ofString "most")) = some (.bl m) := by
  unfold wD
  rw [cmp_eqs]
  cases m
  · simp [words_ne]
  · simp
def dayIn (m : Bool) (s : Int × Option Int) (b : Int) : Option Int := if m then s.2 else some (if s.1 < b then b else s.1)
def worthIn (l : L) (m : Bool) (lot : Int × Int) (s : Int × Option Int) : Option Int := if canS s lot.1 then some (creditOf l lot.1 (dayIn m s lot.1)) else none
def worths (l : L) (m : Bool) : List (List (Option Int)) := l.lots.map fun lot => (spansL l).map (worthIn l m lot)
def sgn (m : Bool) : Int := if m then -1 else 1
def signed (m : Bool) (ws : List (List (Option Int))) : List (List (Option Int)) := ws.map fun r => r.map fun x => x.map fun v => sgn m * v
section
variable {n0 : Nat} {l : L} {m : Bool} {S : Sto}
theorem r_day_in {s : Int × Option Int} {b : Int} : go (n0 + 1) i_day_in [eS s, .int b, wD m] S = .ok (eO (dayIn m s b)) S := by
  rw [go_step e_day_in rfl]
  cases m <;> simp [f_day_in, t_day_in, dayIn]
theorem r_can_be_sold {s : Int × Option Int} {d : Int} : go (n0 + 1) i_can_be_sold [eS s, .int d] S = .ok (.bl (canS s d)) S := by
  rw [go_step e_can_be_sold rfl]
  obtain ⟨a, o⟩ := s
  cases o <;> simp [f_can_be_sold, t_can_be_sold, canS]
theorem r_worth_in {lot : Int × Int} {s : Int × Option Int} (hl : l.falls.length ≤ maxLen) : go (n0 + 2) i_worth_in [eL l, wD m, ePr lot, eS s] S = .ok (eO (worthIn l m lot s)) S := by
  rw [go_step e_worth_in rfl]
  cases h : canS s lot.1 <;> simp [f_worth_in, t_worth_in, r_can_be_sold, h, worthIn, r_day_in, r_credit_of hl]
theorem r_worths_of (hl : l.Ok) : go (n0 + 3) i_worths_of [eL l, wD m] S = .ok (eC (worths l m)) S := by
  have l5 := hl.lots.len
  have l4 := hl.counts.len
  have l3 := hl.falls.len
  rw [go_step e_worths_of rfl]
  simp [f_worths_of, t_worths_of]
  rw [comps_all (f := fun lot : Int × Int => eR ((spansL l).map (worthIn l m lot))) (fun lot _ => ⟨_, by simp; rfl, by simp, by
    simp [r_stretches_of (l := l) (show l.counts.length ≤ 1000 by omega)]
    rw [comps_all (f := fun s : Int × Option Int => eO (worthIn l m lot s)) (fun s _ => ⟨_, by simp; rfl, by simp, by simp [r_worth_in (l := l) (show l.falls.length ≤ maxLen by unfold maxLen; omega)]⟩) (by rw [spansL_len]; unfold maxLen; omega)]
    simp [eR]⟩) (by unfold maxLen; omega)]
  simp [eC, worths]
theorem r_costs_for {ws : List (List (Option Int))} (h1 : ws.length ≤ 1000) (h2 : ∀ r ∈ ws, r.length ≤ 1000) : go (n0 + 1) i_costs_for [eC ws, wD m] S = .ok (eC (signed m ws)) S := by
  rw [go_step e_costs_for rfl]
  have ml : ∀ v : Int, binD .mul (.int (sgn m)) (.int v) = some (.int (sgn m * v)) := fun v => bin_mul (mulOk_l (by unfold sgn; cases m <;> decide))
  have key : ∀ (S : Sto) (s3 s4 : Sl), comps (fun x => asg (.nm 3) x [.v (eC ws), .v (wD m), .v (.int (sgn m)), .un, s4]) (ev wrd (go n0) (.lit (.bl true))) (ev wrd (go n0) (.comp [4] (.nm 4) (.walk (.var 3)) (.lit (.bl true)) (.ite (.cmp .is (.var 4) (.lit .non)) (.lit .non) (.bin .mul (.var 2) (.var 4))))) (ws.map eR) [] S = .ok (.lst (ws.map fun r => eR (r.map fun x => x.map fun v => sgn m * v))) S := fun S s3 s4 =>
    comps_all (fun r hr => ⟨_, by simp; rfl, by simp, by
      simp
      rw [comps_all (f := fun x : Option Int => eO (x.map fun v => sgn m * v)) (fun x _ => ⟨_, by simp; rfl, by simp, by cases x <;> simp [ml]⟩) (by have := h2 r hr; unfold maxLen; omega)]
      simp [eR]⟩) (by unfold maxLen; omega)
  cases m
  · have k := key S .un .un
    simp [sgn] at k
    simp [f_costs_for, t_costs_for, k]
    simp [eC, signed, sgn, Function.comp_def]
  · have k := key S .un .un
    simp [sgn] at k
    simp [f_costs_for, t_costs_for, k]
    simp [eC, signed, sgn, Function.comp_def]
theorem dim_signed {n K : Nat} {ws : List (List (Option Int))} (h : Dim n K ws) : Dim n K (signed m ws) := by
  refine ⟨by simp [signed, h.len], fun r hr => ?_⟩
  obtain ⟨r', h1, rfl⟩ := List.mem_map.mp hr
  simp [h.row r' h1]
theorem cs_signed {ws : List (List (Option Int))} {i k : Nat} : cs (signed m ws) i k = (cs ws i k).map fun v => sgn m * v := by
  unfold cs signed
  rw [List.getElem?_map]
  cases ws[i]? with
  | none => simp
  | some r =>
    simp only [Option.map_some, Option.getD_some, List.getElem?_map]
    cases r[k]? <;> simp
theorem shape_signed {ws : List (List (Option Int))} (h : Shape l ws) : Shape l (signed m ws) := ⟨dim_signed h.1, fun i k hi hk => by
  rw [cs_signed, Option.map_eq_none_iff]
  exact h.2 i k hi hk⟩
theorem full_signed {n K : Nat} {p b : Nat → Int} {f : Fw} {ws : List (List (Option Int))} : Full n K (cs (signed m ws)) p b f ↔ Full n K (cs ws) p b f := by
  constructor
  · intro h
    refine ⟨⟨h.nn, fun i hi k hk h0 => ?_⟩, h.row, h.col⟩
    obtain ⟨x, hx⟩ := h.al i hi k hk h0
    rw [cs_signed] at hx
    obtain ⟨v, hv, _⟩ := Option.map_eq_some_iff.mp hx
    exact ⟨v, hv⟩
  · intro h
    refine ⟨⟨h.nn, fun i hi k hk h0 => ?_⟩, h.row, h.col⟩
    obtain ⟨x, hx⟩ := h.al i hi k hk h0
    exact ⟨sgn m * x, by rw [cs_signed, hx]; rfl⟩
theorem cost_signed {n K : Nat} {f : Fw} {ws : List (List (Option Int))} : cost n K (cs (signed m ws)) f = sgn m * cost n K (cs ws) f := by
  unfold cost
  rw [← sm_mul]
  refine sm_congr fun i _ => ?_
  rw [← sm_mul]
  refine sm_congr fun k _ => ?_
  unfold cv
  rw [cs_signed]
  cases cs ws i k with
  | none => simp
  | some v =>
    simp only [Option.map_some, Option.getD_some]
    rw [← Int.mul_assoc, Int.mul_comm (f i k), Int.mul_assoc]
/-- the best of all whole flows -/
def Best (l : L) (m : Bool) (ws : List (List (Option Int))) (f : Fw) : Prop :=
  Full l.lots.length (l.counts.length + 1) (cs ws) (iat (pcs l)) (iat (nums l)) f ∧ ∀ g, Full l.lots.length (l.counts.length + 1) (cs ws) (iat (pcs l)) (iat (nums l)) g →
    if m then cost l.lots.length (l.counts.length + 1) (cs ws) g ≤ cost l.lots.length (l.counts.length + 1) (cs ws) f else cost l.lots.length (l.counts.length + 1) (cs ws) f ≤ cost l.lots.length (l.counts.length + 1) (cs ws) g
theorem r_best_flow {ws : List (List (Option Int))} (hl : l.Ok) (hn : ∀ x ∈ nums l, 0 ≤ x) (hw : Shape l ws) :
    ∃ f, go (n0 + 5) i_best_flow [eL l, eC ws, wD m] S = .ok (eF f) S ∧ Dim l.lots.length (l.counts.length + 1) f ∧ Best l m ws (fw f) ∧ ∃ π, Pot l.lots.length (l.counts.length + 1) (cs (signed m ws)) (fw f) π := by
  have l5 := hl.lots.len
  have l4 := hl.counts.len
  have sh := shape_signed (m := m) hw
  obtain ⟨f, e, hd, hf, π, hp⟩ := r_cheapest_flow (n0 := n0) (S := S) (ps := pcs l) (bs := nums l) sh.1 (by omega) (by omega) (by simp [pcs]) nums_len (fun x hx => by
    obtain ⟨p, hp, rfl⟩ := List.mem_map.mp hx
    have := hl.lots.rng p hp
    omega) hn (full_ex hl hn sh)
  refine ⟨f, ?_, hd, ⟨full_signed.mp hf, fun g hg => ?_⟩, π, hp⟩
  · rw [go_step e_best_flow rfl]
    have h1 : ws.length ≤ 1000 := by rw [hw.1.len]; omega
    have h2 : ∀ r ∈ ws, r.length ≤ 1000 := fun r hr => by rw [hw.1.row r hr]; omega
    simp [f_best_flow, t_best_flow, r_costs_for (m := m) h1 h2, r_numbers_of (l := l) (show l.lots.length ≤ maxLen by unfold maxLen; omega) (show l.counts.length ≤ 1000 by omega)]
    rw [comps_all (f := fun p : Int × Int => D.int p.2) (fun p _ => ⟨_, by simp; rfl, by simp, by simp⟩) (by unfold maxLen; omega)]
    have e2 : D.lst (l.lots.map fun p => .int p.2) = eI (pcs l) := by simp [eI, pcs]
    have e3 : D.lst ((nums l).map .int) = eI (nums l) := rfl
    simp only [bind_ok, e2, e3]
    simp [e]
  · have := least hf hp (full_signed.mpr hg)
    rw [cost_signed, cost_signed] at this
    cases m
    · simp only [sgn, Bool.false_eq_true, if_false, Int.one_mul] at this ⊢
      exact this
    · simp only [sgn, if_true] at this ⊢
      omega
theorem sm_shift {g : Nat → Int} : ∀ {n : Nat}, sm (n + 1) g = g 0 + sm n fun k => g (k + 1)
  | 0 => by simp [sm]
  | n + 1 => by rw [sm, sm_shift, sm]; omega
theorem row_sum : ∀ (one : List Int) (row : List (Option Int)), one.length = row.length → (((one.zip row).filter fun q => q.2.isSome).map fun q => q.1 * q.2.getD 0).sum = sm row.length fun k => iat one k * ((row[k]?).getD none).getD 0
  | [], [], _ => rfl
  | _ :: _, [], h => by simp at h
  | [], _ :: _, h => by simp at h
  | x :: one, y :: row, h => by
    have ih := row_sum one row (by simpa using h)
    rw [List.length_cons, sm_shift]
    have e : (sm row.length fun k => iat (x :: one) (k + 1) * (((y :: row)[k + 1]?).getD none).getD 0) = sm row.length fun k => iat one k * ((row[k]?).getD none).getD 0 := sm_congr fun k _ => by simp [iat]
    rw [e, ← ih]
    simp only [List.zip_cons_cons, List.filter_cons]
    cases y with
    | none => simp [iat]
    | some v => simp [iat]
theorem rows_sum {α β : Type} {g : α → β → Int} {f : List α} {c : List β} (h : f.length = c.length) : ((f.zip c).map fun q => g q.1 q.2).sum = sm c.length fun i => match f[i]?, c[i]? with
    | some a, some b => g a b
    | _, _ => 0 := by
  induction f generalizing c with
  | nil =>
    cases c with
    | nil => rfl
    | cons b c => simp at h
  | cons a f ih =>
    cases c with
    | nil => simp at h
    | cons b c =>
      rw [List.length_cons, sm_shift]
      have := ih (c := c) (by simpa using h)
      simp only [List.zip_cons_cons, List.map_cons, List.sum_cons, List.getElem?_cons_zero, List.getElem?_cons_succ, this]
theorem r_cost_of {n K : Nat} {ws : List (List (Option Int))} {f : List (List Int)} (hw : Dim n K ws) (hf : Dim n K f) (hn : n ≤ 100) (hK : K ≤ 100) (hb : ∀ r ∈ ws, ∀ x ∈ r, ∀ v, x = some v → v.natAbs < 2 ^ 64) : go (n0 + 1) i_cost_of [eC ws, eF f] S = .ok (.int (cost n K (cs ws) (fw f))) S := by
  rw [go_step e_cost_of rfl]
  simp [f_cost_of, t_cost_of]
  have ez : lzR (eF f) (eC ws) S = .ok (.lst ((f.zip ws).map fun q => D.tup [eI q.1, eR q.2])) S := by
    show Res.ok (D.lst (zipD (f.map eI) (ws.map eR))) S = _
    rw [zipE]
  rw [ez]
  simp
  rw [comps_all (f := fun q : List Int × List (Option Int) => D.int (((q.1.zip q.2).filter fun z => z.2.isSome).map fun z => z.1 * z.2.getD 0).sum) (fun q hq => ⟨_, by simp; rfl, by simp, by
    have h1 := (List.of_mem_zip hq).1
    have h2 := (List.of_mem_zip hq).2
    simp
    rw [comps_pure (α := Int × Option Int) (p := fun z => z.2.isSome) (f := fun z => D.int (z.1 * z.2.getD 0)) (fun z hz => ⟨_, by simp; rfl, by cases h : z.2 <;> simp [h], fun hs => by
      obtain ⟨v, hv⟩ := Option.isSome_iff_exists.mp hs
      simp [hv, bin_mul (mulOk_r (i := z.1) (hb q.2 h2 _ (List.of_mem_zip hz).2 v hv))]⟩) (by simp [hf.row _ h1, hw.row _ h2]; unfold maxLen; omega)]
    simp⟩) (by simp [hf.len, hw.len]; unfold maxLen; omega)]
  simp
  refine (rows_sum (g := fun (a : List Int) (b : List (Option Int)) => (((a.zip b).filter fun z => z.2.isSome).map fun z => z.1 * z.2.getD 0).sum) (hf.len.trans hw.len.symm)).trans ?_
  rw [hw.len]
  unfold cost
  refine sm_congr fun i hi => ?_
  have h1 : i < f.length := by rw [hf.len]; exact hi
  have h2 : i < ws.length := by rw [hw.len]; exact hi
  rw [List.getElem?_eq_getElem h1, List.getElem?_eq_getElem h2]
  simp only
  rw [row_sum _ _ (by rw [row_len hf h1, row_len hw h2]), row_len hw h2]
  refine sm_congr fun k hk => ?_
  have e : cs ws i k = (((ws[i])[k]?).getD none) := by simp [cs, h2]
  rw [fw_get (n := n) (K := K) h1]
  simp only [cv, e]
theorem r_best_sum {ws : List (List (Option Int))} (hl : l.Ok) (hn : ∀ x ∈ nums l, 0 ≤ x) (hw : Shape l ws) (hb : ∀ r ∈ ws, ∀ x ∈ r, ∀ v, x = some v → v.natAbs < 2 ^ 64) :
    ∃ f, go (n0 + 6) i_best_sum [eL l, eC ws, wD m] S = .ok (.int (cost l.lots.length (l.counts.length + 1) (cs ws) f)) S ∧ Best l m ws f := by
  have l5 := hl.lots.len
  have l4 := hl.counts.len
  obtain ⟨f, e, hd, hf, _⟩ := r_best_flow (n0 := n0) (S := S) (m := m) hl hn hw
  refine ⟨fw f, ?_, hf⟩
  rw [go_step e_best_sum rfl]
  simp [f_best_sum, t_best_sum, e, r_cost_of hw.1 hd (by omega) (by omega) hb]
theorem shape_worths (hl : l.Ok) : Shape l (worths l m) := by
  refine ⟨⟨by simp [worths], fun r hr => ?_⟩, fun i k hi hk => ?_⟩
  · obtain ⟨lot, _, rfl⟩ := List.mem_map.mp hr
    simp [spansL_len]
  · have e : cs (worths l m) i k = worthIn l m l.lots[i] (spansL l)[k] := by simp [cs, worths, hi, hk]
    rw [e]
    unfold worthIn
    cases canS (spansL l)[k] (l.lots[i]).1 <;> simp
theorem worths_small (hl : l.Ok) : ∀ r ∈ worths l m, ∀ x ∈ r, ∀ v, x = some v → v.natAbs < 2 ^ 64 := by
  intro r hr x hx v hv
  obtain ⟨lot, _, rfl⟩ := List.mem_map.mp hr
  obtain ⟨s, _, rfl⟩ := List.mem_map.mp hx
  unfold worthIn at hv
  split at hv
  · cases hv
    have := credit_bound hl (b := lot.1) (s := dayIn m s lot.1)
    omega
  · cases hv
/-- the bound: what the best flow comes to -/
def BoundIs (l : L) (m : Bool) (v : Int) : Prop := ∃ f, v = cost l.lots.length (l.counts.length + 1) (cs (worths l m)) f ∧ Best l m (worths l m) f
theorem r_bound_of (hl : l.Ok) (hn : ∀ x ∈ nums l, 0 ≤ x) : ∃ v, go (n0 + 7) i_bound_of [eL l, wD m] S = .ok (.int v) S ∧ BoundIs l m v := by
  obtain ⟨f, e, hf⟩ := r_best_sum (n0 := n0) (S := S) (m := m) hl hn (shape_worths hl) (worths_small hl)
  refine ⟨_, ?_, f, rfl, hf⟩
  rw [go_step e_bound_of rfl]
  simp [f_bound_of, t_bound_of, r_worths_of hl, e]
theorem BoundIs.uniq {v w : Int} (h : BoundIs l m v) (h' : BoundIs l m w) : v = w := by
  obtain ⟨f, rfl, h1, h2⟩ := h
  obtain ⟨g, rfl, g1, g2⟩ := h'
  have a := h2 g g1
  have b := g2 f h1
  cases m
  · simp only [Bool.false_eq_true, if_false] at a b; omega
  · simp only [if_true] at a b; omega
theorem r_has_truth (hl : l.Ok) : go (n0 + 3) i_has_truth [eL l] S = .ok (.bl (hasTr l)) S := by
  have l5 := hl.lots.len
  have l4 := hl.counts.len
  rw [go_step e_has_truth rfl]
  simp [f_has_truth, t_has_truth, r_numbers_of (l := l) (show l.lots.length ≤ maxLen by unfold maxLen; omega) (show l.counts.length ≤ 1000 by omega)]
  rw [comps_all (f := fun x : Int => D.bl (decide (0 ≤ x))) (fun x _ => ⟨_, by simp; rfl, by simp, by simp⟩) (by rw [nums_len]; unfold maxLen; omega)]
  simp [hasTr, Function.comp_def]
theorem hasTr_iff : hasTr l = true ↔ ∀ x ∈ nums l, 0 ≤ x := by simp [hasTr]
end
end My

/-! N16: words; the truth of a flow; bounds as they are asked. -/
namespace My
open Pv Fl
open PySem (Str)
def isWord (d : D) : Bool := match d with
  | .str s => decide (s = Str.ofString "least") || decide (s = Str.ofString "most")
  | _ => false
theorem plain_least : plain 1 (.tup [.str (Str.ofString "least"), .str (Str.ofString "most")]) = true := by decide +kernel
def wordB (s : Str) : Bool := decide (s = Str.ofString "least") || decide (s = Str.ofString "most")
theorem notin_word {m : Nat} {s : Str} (hv : plain m (.str s) = true) (hm : m ≤ 60) : cmpD .notin (.str s) (.tup [.str (Str.ofString "least"), .str (Str.ofString "most")]) = some (.bl (!wordB s)) := by
  have e : cmpD .notin (.str s) (.tup [.str (Str.ofString "least"), .str (Str.ofString "most")]) = if plainD (.str s) && plainD (.tup [.str (Str.ofString "least"), .str (Str.ofString "most")]) then some (D.bl (!([D.str (Str.ofString "least"), D.str (Str.ofString "most")].any fun z => deq z (.str s)))) else none := rfl
  rw [e, plainD_of hv (by omega), plainD_of plain_least (by decide)]
  have e2 : ([D.str (Str.ofString "least"), D.str (Str.ofString "most")].any fun z => deq z (.str s)) = wordB s := by
    unfold wordB
    generalize Str.ofString "least" = a
    generalize Str.ofString "most" = b
    simp only [List.any_cons, List.any_nil, deq, Bool.or_false]
    have c : ∀ x y : Str, (x == y) = decide (y = x) := fun x y => by
      rw [Bool.eq_iff_iff, beq_iff_eq, decide_eq_true_eq]
      exact eq_comm
    rw [c, c]
  rw [e2]
  rfl
theorem r_need_word {n0 m : Nat} {v : D} {S : Sto} (hv : plain m v = true) (hm : m ≤ 60) : go (n0 + 1) i_need_word [v] S = if isWord v then .ok .non S else .exc c_InvalidWord S := by
  have h0 := plain_dat0 hv
  rw [go_step e_need_word rfl]
  cases v with
  | str s =>
    have e := notin_word hv hm
    have e2 : isWord (.str s) = wordB s := rfl
    rw [e2]
    generalize hL : Str.ofString "least" = a at e
    generalize hM : Str.ofString "most" = b at e
    cases h : wordB s <;> simp [f_need_word, t_need_word, hL, hM, e, h]
  | _ => first | (simp [dat0] at h0; done) | simp [f_need_word, t_need_word, isWord]
theorem isWord_wD {m : Bool} : isWord (wD m) = true := by cases m <;> simp [isWord, wD]
theorem plain_wD {m : Bool} {n : Nat} : plain n (wD m) = true := plain_le (Nat.zero_le _) (by cases m <;> decide +kernel)
/-- a lot's sales by a row of a flow -/
def salesR (l : L) (m : Bool) (lot : Int × Int) (row : List Int) : List (Int × Int) := ((((spansL l).zip row).filter fun q => decide (0 < q.2)).map fun q => (dayIn m q.1 lot.1, q.2)).filterMap fun q => q.1.map fun d => (d, q.2)
def salesOf (l : L) (m : Bool) (f : List (List Int)) : List (List (Int × Int)) := (l.lots.zip f).map fun q => salesR l m q.1 q.2
def optD {β : Type} (e : β → D) : Option β → D
  | some y => e y
  | none => .non
theorem filterMap_fil {α β : Type} {g : α → Option β} {e : β → D} : ∀ (xs : List α), ((xs.filter fun x => (g x).isSome).map fun x => optD e (g x)) = (xs.filterMap g).map e
  | [] => rfl
  | x :: xs => by
    have ih := filterMap_fil (g := g) (e := e) xs
    cases h : g x with
    | none => simp only [List.filter_cons, List.filterMap_cons, h, Option.isSome_none, Bool.false_eq_true, if_false]; exact ih
    | some y =>
      simp only [List.filter_cons, List.filterMap_cons, h, Option.isSome_some, if_true, List.map_cons]
      rw [ih]
      rfl
theorem r_sales_of {n0 : Nat} {l : L} {m : Bool} {f : List (List Int)} {S : Sto} (hl : l.Ok) (hd : Dim l.lots.length (l.counts.length + 1) f) : go (n0 + 2) i_sales_of [eL l, wD m, eF f] S = .ok (eT (salesOf l m f)) S := by
  have l5 := hl.lots.len
  have l4 := hl.counts.len
  rw [go_step e_sales_of rfl]
  obtain ⟨j, e⟩ := fors_foldI (α := (Int × Int) × List Int) (bind := asg (.tup (.cons (.nm 4) (.cons (.nm 5) .nil)))) (body := exec wrd (go (n0 + 1)) none t_sales_of_b1) (enc := fun q => D.tup [ePr q.1, eI q.2])
    (fun (t : List (List (Int × Int))) (j : Sl × Sl × Sl × Sl × Sl × Sl) => [.v (eL l), .v (wD m), .v (eF f), .v (eT t), j.1, j.2.1, j.2.2.1, j.2.2.2.1, j.2.2.2.2.1, j.2.2.2.2.2])
    (fun t q => t ++ [salesR l m q.1 q.2]) (fun t k => t.length + k ≤ 100) (S := S) (xs := l.lots.zip f) [] (.un, .un, .un, .un, .un, .un) (by simp; omega) (fun t j q k hq hi => ⟨_, by simp; rfl, by simp at hi ⊢; omega, by
      have hlo : lenOk (t.length + 1) = true := lenOk_of (by unfold maxLen; omega)
      have hrow := hd.row _ (List.of_mem_zip hq).2
      refine ⟨⟨.v (ePr q.1), .v (eI q.2), .v (.lst ((((spansL l).zip q.2).filter fun z => decide (0 < z.2)).map fun z => D.tup [eO (dayIn m z.1 q.1.1), .int z.2])), j.2.2.2.1, j.2.2.2.2.1, j.2.2.2.2.2⟩, ?_⟩
      simp [t_sales_of_b1, r_stretches_of (l := l) (show l.counts.length ≤ 1000 by omega)]
      rw [comps_fil (α := (Int × Option Int) × Int) (p := fun z => decide (0 < z.2)) (f := fun z => D.tup [eO (dayIn m z.1 q.1.1), .int z.2]) (fun z _ => ⟨_, by simp; rfl, by simp, by simp [r_day_in]⟩) (by simp [spansL_len]; unfold maxLen; omega)]
      simp
      have ea : ((((spansL l).zip q.2).filter fun z => decide (0 < z.2)).map fun z => D.tup [eO (dayIn m z.1 q.1.1), .int z.2]) = ((((spansL l).zip q.2).filter fun z => decide (0 < z.2)).map fun z => (dayIn m z.1 q.1.1, z.2)).map fun w => D.tup [eO w.1, .int w.2] := by simp
      have er : salesR l m q.1 q.2 = ((((spansL l).zip q.2).filter fun z => decide (0 < z.2)).map fun z => (dayIn m z.1 q.1.1, z.2)).filterMap fun w => w.1.map fun d => (d, w.2) := rfl
      have elen : ((((spansL l).zip q.2).filter fun z => decide (0 < z.2)).map fun z => (dayIn m z.1 q.1.1, z.2)).length ≤ maxLen := by
        have := List.length_filter_le (fun z : (Int × Option Int) × Int => decide (0 < z.2)) ((spansL l).zip q.2)
        rw [List.length_zip, spansL_len] at this
        simp only [List.length_map]
        unfold maxLen
        omega
      rw [ea]
      generalize ((((spansL l).zip q.2).filter fun z => decide (0 < z.2)).map fun z => (dayIn m z.1 q.1.1, z.2)) = A at er elen
      rw [comps_pure (α := Option Int × Int) (p := fun w => (w.1.map fun d => (d, w.2)).isSome) (f := fun w => optD ePr (w.1.map fun d => (d, w.2))) (fun w _ => ⟨_, by simp; rfl, by cases h : w.1 <;> simp [h], fun hs => by
          obtain ⟨o, x⟩ := w
          cases o with
          | none => simp at hs
          | some d => simp [ePr, optD]⟩) (by simpa using elen)]
      have ef := filterMap_fil (g := fun w : Option Int × Int => w.1.map fun d => (d, w.2)) (e := ePr) A
      rw [List.nil_append, ef, ← er]
      have eg : D.tup [D.tup ((salesR l m q.1 q.2).map ePr)] = .tup [eP (salesR l m q.1 q.2)] := rfl
      simp [eg, hlo]⟩)
  have fo : ∀ (qs : List ((Int × Int) × List Int)) (t : List (List (Int × Int))), qs.foldl (fun t q => t ++ [salesR l m q.1 q.2]) t = t ++ qs.map fun q => salesR l m q.1 q.2 := by
    intro qs
    induction qs with
    | nil => intro t; simp
    | cons q r ih => intro t; simp [ih]
  rw [fo] at e
  rw [eT_nil] at e
  simp [f_sales_of, t_sales_of, e, salesOf]
/-- the bound -/
noncomputable def bnd (l : L) (m : Bool) : Int := haveI := Classical.propDecidable (∃ v, BoundIs l m v)
  if h : ∃ v, BoundIs l m v then Classical.choose h else 0
theorem bnd_is {l : L} {m : Bool} {v : Int} (h : BoundIs l m v) : bnd l m = v := by
  unfold bnd
  rw [dif_pos ⟨v, h⟩]
  exact (Classical.choose_spec (⟨v, h⟩ : ∃ v, BoundIs l m v)).uniq h
section
variable {n0 : Nat} {l : L} {m : Bool} {S : Sto}
theorem r_bound_of' (hl : l.Ok) (hn : hasTr l = true) : go (n0 + 7) i_bound_of [eL l, wD m] S = .ok (.int (bnd l m)) S := by
  obtain ⟨v, e, h⟩ := r_bound_of (n0 := n0) (S := S) (m := m) hl (hasTr_iff.mp hn)
  rw [e, bnd_is h]
theorem bnd_spec (hl : l.Ok) (hn : hasTr l = true) : BoundIs l m (bnd l m) := by
  obtain ⟨v, e, h⟩ := r_bound_of (n0 := 0) (S := []) (m := m) hl (hasTr_iff.mp hn)
  rw [bnd_is h]
  exact h
theorem w_least : D.str (Str.ofString "least") = wD false := rfl
theorem w_most : D.str (Str.ofString "most") = wD true := rfl
theorem r_both_bounds (hl : l.Ok) : go (n0 + 8) i_both_bounds [eL l] S = .ok (if hasTr l then .tup [.int (bnd l false), .int (bnd l true)] else .non) S := by
  rw [go_step e_both_bounds rfl]
  cases h : hasTr l
  · simp [f_both_bounds, t_both_bounds, r_has_truth hl, h]
  · simp [f_both_bounds, t_both_bounds, r_has_truth hl, h, w_least, w_most, r_bound_of' hl h]
theorem ix2_0 {a b : D} {S : Sto} : ixD S (.tup [a, b]) (.int 0) = some a := rfl
theorem ix2_1 {a b : D} {S : Sto} : ixD S (.tup [a, b]) (.int 1) = some b := rfl
theorem r_spread_of (hl : l.Ok) : go (n0 + 9) i_spread_of [eL l] S = .ok (if hasTr l then .int (bnd l true - bnd l false) else .non) S := by
  rw [go_step e_spread_of rfl]
  cases h : hasTr l
  · simp [f_spread_of, t_spread_of, r_both_bounds hl, h]
  · simp [f_spread_of, t_spread_of, r_both_bounds hl, h, ix2_0, ix2_1]
theorem r_need_ledger_ok (hl : l.Ok) : go (n0 + 4) i_need_ledger [eL l] S = .ok .non S := by
  rw [r_need_ledger (plain_eL (n := 0) (l := l)), if_pos (ledB_eL hl)]
theorem r_need_word_ok : go (n0 + 1) i_need_word [wD m] S = .ok .non S := by
  rw [r_need_word (m := 0) plain_wD (by decide), if_pos isWord_wD]
theorem r_bound (hl : l.Ok) : go (n0 + 8) i_bound [eL l, wD m] S = .ok (if hasTr l then .int (bnd l m) else .non) S := by
  rw [go_step e_bound rfl]
  cases h : hasTr l
  · simp [f_bound, t_bound, r_need_ledger_ok hl, r_need_word_ok, r_has_truth hl, h]
  · simp [f_bound, t_bound, r_need_ledger_ok hl, r_need_word_ok, r_has_truth hl, h, r_bound_of' hl h]
theorem r_spread (hl : l.Ok) : go (n0 + 10) i_spread [eL l] S = .ok (if hasTr l then .int (bnd l true - bnd l false) else .non) S := by
  rw [go_step e_spread rfl]
  simp [f_spread, t_spread, r_need_ledger_ok hl, r_spread_of hl]
theorem r_truth_none (hl : l.Ok) (h : hasTr l = false) : go (n0 + 6) i_truth_with [eL l, wD m] S = .ok .non S := by
  rw [go_step e_truth_with rfl]
  simp [f_truth_with, t_truth_with, r_need_ledger_ok hl, r_need_word_ok, r_has_truth hl, h]
theorem r_truth_with (hl : l.Ok) (h : hasTr l = true) : ∃ f, go (n0 + 6) i_truth_with [eL l, wD m] S = .ok (eT (salesOf l m f)) S ∧ Dim l.lots.length (l.counts.length + 1) f ∧ Best l m (worths l m) (fw f) := by
  obtain ⟨f, e, hd, hf, _⟩ := r_best_flow (n0 := n0) (S := S) (m := m) hl (hasTr_iff.mp h) (shape_worths hl)
  refine ⟨f, ?_, hd, hf⟩
  rw [go_step e_truth_with rfl]
  simp [f_truth_with, t_truth_with, r_need_ledger_ok hl, r_need_word_ok, r_has_truth hl, h, r_worths_of hl, e, r_sales_of hl hd]
theorem r_bound_bad {k : Nat} {d v : D} (hd : plain k d = true) (h : ledB d = false) : go (n0 + 5) i_bound [d, v] S = .exc c_InvalidLedger S := by
  rw [go_step e_bound rfl]
  simp [f_bound, t_bound, r_need_ledger hd, h]
theorem r_truth_with_bad {k : Nat} {d v : D} (hd : plain k d = true) (h : ledB d = false) : go (n0 + 5) i_truth_with [d, v] S = .exc c_InvalidLedger S := by
  rw [go_step e_truth_with rfl]
  simp [f_truth_with, t_truth_with, r_need_ledger hd, h]
theorem r_spread_bad {k : Nat} {d : D} (hd : plain k d = true) (h : ledB d = false) : go (n0 + 5) i_spread [d] S = .exc c_InvalidLedger S := by
  rw [go_step e_spread rfl]
  simp [f_spread, t_spread, r_need_ledger hd, h]
theorem r_bound_odd {k : Nat} {v : D} (hl : l.Ok) (hv : plain k v = true) (hk : k ≤ 60) (h : isWord v = false) : go (n0 + 5) i_bound [eL l, v] S = .exc c_InvalidWord S := by
  rw [go_step e_bound rfl]
  simp [f_bound, t_bound, r_need_ledger_ok hl, r_need_word hv hk, h]
theorem r_truth_with_odd {k : Nat} {v : D} (hl : l.Ok) (hv : plain k v = true) (hk : k ≤ 60) (h : isWord v = false) : go (n0 + 5) i_truth_with [eL l, v] S = .exc c_InvalidWord S := by
  rw [go_step e_truth_with rfl]
  simp [f_truth_with, t_truth_with, r_need_ledger_ok hl, r_need_word hv hk, h]
end
end My

/-! N17: truths and flows. Plain numbers. -/
namespace My
open Pv Fl
open PySem (Str)
/-! spans: each day lies in just one -/
theorem spansGo_len : ∀ (cs : List (Int × Int)) (f : Int), (spansGo f cs).length = cs.length + 1
  | [], _ => rfl
  | c :: r, f => by simp [spansGo, spansGo_len r]
theorem spansL_go {l : L} : spansL l = spansGo 0 l.counts := (spansGo_spansL l.counts 0).symm
theorem inS_iff {s : Int × Option Int} {p : Int × Int} : inS s p = true ↔ s.1 ≤ p.1 ∧ ∀ e, s.2 = some e → p.1 ≤ e := by
  unfold inS
  cases h : s.2 <;> simp [h]
theorem spansGo_low : ∀ (cs : List (Int × Int)) (f : Int), ascF (f - 1) cs → ∀ k, (hk : k < (spansGo f cs).length) → f ≤ ((spansGo f cs)[k]).1
  | [], f, _, k, hk => by
    simp [spansGo] at hk
    subst hk
    simp [spansGo]
  | c :: r, f, ha, k, hk => by
    cases k with
    | zero => simp [spansGo]
    | succ k =>
      have h1 := ha.1
      have := spansGo_low r (c.1 + 1) (by rw [show c.1 + 1 - 1 = c.1 by omega]; exact ha.2) k (by simpa [spansGo] using hk)
      simp only [spansGo, List.getElem_cons_succ]
      omega
theorem spansGo_one : ∀ (cs : List (Int × Int)) (f d : Int), f ≤ d → ascF (f - 1) cs → ∃ k, ∃ hk : k < (spansGo f cs).length, inS (spansGo f cs)[k] (d, 0) = true ∧ ∀ j, (hj : j < (spansGo f cs).length) → inS (spansGo f cs)[j] (d, 0) = true → j = k
  | [], f, d, hd, _ => ⟨0, by simp [spansGo], by simp [spansGo, inS, hd], fun j hj _ => by simp [spansGo] at hj; exact hj⟩
  | c :: r, f, d, hd, ha => by
    by_cases h : d ≤ c.1
    · refine ⟨0, by simp [spansGo], by simp [spansGo, inS, hd, h], fun j hj hin => ?_⟩
      cases j with
      | zero => rfl
      | succ j =>
        exfalso
        have := spansGo_low r (c.1 + 1) (by rw [show c.1 + 1 - 1 = c.1 by omega]; exact ha.2) j (by simpa [spansGo] using hj)
        simp only [spansGo, List.getElem_cons_succ] at hin
        have := (inS_iff.mp hin).1
        simp only at this
        omega
    · obtain ⟨k, hk, h1, h2⟩ := spansGo_one r (c.1 + 1) d (by omega) (by rw [show c.1 + 1 - 1 = c.1 by omega]; exact ha.2)
      refine ⟨k + 1, by simpa [spansGo] using hk, by simpa [spansGo] using h1, fun j hj hin => ?_⟩
      cases j with
      | zero =>
        exfalso
        simp only [spansGo, List.getElem_cons_zero] at hin
        have := (inS_iff.mp hin).2 c.1 rfl
        simp only at this
        omega
      | succ j =>
        rw [h2 j (by simpa [spansGo] using hj) (by simpa [spansGo] using hin)]
/-- the k-th span, whatever k -/
def sp (l : L) (k : Nat) : Int × Option Int := ((spansL l)[k]?).getD (0, none)
theorem sp_get {l : L} {k : Nat} (hk : k < (spansL l).length) : sp l k = (spansL l)[k] := by simp [sp, hk]
section
variable {l : L}
theorem counts_asc (hl : l.Ok) : ascF (0 - 1) l.counts := ascF_of hl.counts.asc fun p hp => by have := hl.counts.rng p hp; omega
theorem span_one (hl : l.Ok) {d : Int} (hd : 0 ≤ d) : ∃ k, k < l.counts.length + 1 ∧ ∀ j, j < l.counts.length + 1 → (inS (sp l j) (d, 0) = true ↔ j = k) := by
  obtain ⟨k, hk, h1, h2⟩ := spansGo_one l.counts 0 d hd (counts_asc hl)
  rw [← spansL_go] at hk
  refine ⟨k, by rw [spansL_len] at hk; exact hk, fun j hj => ⟨fun h => ?_, fun h => ?_⟩⟩
  · have hj' : j < (spansL l).length := by rw [spansL_len]; exact hj
    refine h2 j (by rw [← spansL_go]; exact hj') ?_
    rw [sp_get hj'] at h
    simpa [spansL_go] using h
  · subst h
    rw [sp_get hk]
    simpa [spansL_go] using h1
theorem inS_day {s : Int × Option Int} {p q : Int × Int} (h : p.1 = q.1) : inS s p = inS s q := by unfold inS; rw [h]
/-- a sum over the spans of what a day's span gives -/
theorem span_sum (hl : l.Ok) {d x : Int} (hd : 0 ≤ d) (w : Nat → Int) : ∃ k, k < l.counts.length + 1 ∧ inS (sp l k) (d, 0) = true ∧ sm (l.counts.length + 1) (fun j => (if inS (sp l j) (d, 0) then x else 0) * w j) = x * w k := by
  obtain ⟨k, hk, h⟩ := span_one hl hd
  refine ⟨k, hk, (h k hk).mpr rfl, ?_⟩
  rw [sm_congr (g := fun j => if j = k then x * w k else 0) (fun j hj => by
    by_cases e : j = k
    · subst e; rw [if_pos ((h j hj).mpr rfl), if_pos rfl]
    · rw [if_neg (fun hh => e ((h j hj).mp hh)), if_neg e]; simp), sm_one, if_pos hk]
/-- pieces sold in a span -/
def soldIn (l : L) (s : List (Int × Int)) (k : Nat) : Int := ((s.filter (inS (sp l k))).map (·.2)).sum
theorem filter_sum {f : Int × Int → Bool} : ∀ {s : List (Int × Int)}, ((s.filter f).map (·.2)).sum = (s.map fun p => if f p then p.2 else 0).sum
  | [] => rfl
  | p :: r => by
    have ih := filter_sum (f := f) (s := r)
    simp only [List.filter_cons, List.map_cons, List.sum_cons]
    cases f p
    · simpa using ih
    · simp only [if_true, List.map_cons, List.sum_cons, ih]
theorem soldIn_cons {p : Int × Int} {s : List (Int × Int)} {k : Nat} : soldIn l (p :: s) k = (if inS (sp l k) (p.1, 0) then p.2 else 0) + soldIn l s k := by
  unfold soldIn
  rw [filter_sum, filter_sum, List.map_cons, List.sum_cons, inS_day (s := sp l k) (p := p) (q := (p.1, 0)) rfl]
/-- sales, weighed span by span: more than day by day -/
theorem weigh_ge (hl : l.Ok) {w : Nat → Int} {v : Int → Int} : ∀ {s : List (Int × Int)}, (∀ p ∈ s, 0 ≤ p.1 ∧ 0 ≤ p.2) → (∀ p ∈ s, ∀ k, k < l.counts.length + 1 → inS (sp l k) (p.1, 0) = true → v p.1 ≤ w k) → (s.map fun p => p.2 * v p.1).sum ≤ sm (l.counts.length + 1) fun k => soldIn l s k * w k
  | [], _, _ => by
    rw [sm_congr (g := fun _ => 0) (fun k _ => by simp [soldIn]), sm_zero]
    simp
  | p :: s, h1, h2 => by
    have ih := weigh_ge hl (w := w) (v := v) (s := s) (fun q hq => h1 q (by simp [hq])) (fun q hq => h2 q (by simp [hq]))
    obtain ⟨k, hk, h3, h4⟩ := span_sum hl (x := p.2) (h1 p (by simp)).1 w
    have e : sm (l.counts.length + 1) (fun k => soldIn l (p :: s) k * w k) = sm (l.counts.length + 1) (fun j => (if inS (sp l j) (p.1, 0) then p.2 else 0) * w j) + sm (l.counts.length + 1) fun k => soldIn l s k * w k := by
      rw [← sm_add]
      exact sm_congr fun k _ => by rw [soldIn_cons, Int.add_mul]
    have := Int.mul_le_mul_of_nonneg_left (h2 p (by simp) k hk h3) (h1 p (by simp)).2
    rw [e, h4, List.map_cons, List.sum_cons]
    omega
theorem weigh_le (hl : l.Ok) {w : Nat → Int} {v : Int → Int} : ∀ {s : List (Int × Int)}, (∀ p ∈ s, 0 ≤ p.1 ∧ 0 ≤ p.2) → (∀ p ∈ s, ∀ k, k < l.counts.length + 1 → inS (sp l k) (p.1, 0) = true → w k ≤ v p.1) → (sm (l.counts.length + 1) fun k => soldIn l s k * w k) ≤ (s.map fun p => p.2 * v p.1).sum
  | [], _, _ => by
    rw [sm_congr (g := fun _ => 0) (fun k _ => by simp [soldIn]), sm_zero]
    simp
  | p :: s, h1, h2 => by
    have ih := weigh_le hl (w := w) (v := v) (s := s) (fun q hq => h1 q (by simp [hq])) (fun q hq => h2 q (by simp [hq]))
    obtain ⟨k, hk, h3, h4⟩ := span_sum hl (x := p.2) (h1 p (by simp)).1 w
    have e : sm (l.counts.length + 1) (fun k => soldIn l (p :: s) k * w k) = sm (l.counts.length + 1) (fun j => (if inS (sp l j) (p.1, 0) then p.2 else 0) * w j) + sm (l.counts.length + 1) fun k => soldIn l s k * w k := by
      rw [← sm_add]
      exact sm_congr fun k _ => by rw [soldIn_cons, Int.add_mul]
    have := Int.mul_le_mul_of_nonneg_left (h2 p (by simp) k hk h3) (h1 p (by simp)).2
    rw [e, h4, List.map_cons, List.sum_cons]
    omega
theorem soldIn_tot (hl : l.Ok) {s : List (Int × Int)} (h : ∀ p ∈ s, 0 ≤ p.1 ∧ 0 ≤ p.2) : sm (l.counts.length + 1) (soldIn l s) = (s.map (·.2)).sum := by
  have a := weigh_ge hl (w := fun _ => 1) (v := fun _ => 1) h (fun _ _ _ _ _ => Int.le_refl _)
  have b := weigh_le hl (w := fun _ => 1) (v := fun _ => 1) h (fun _ _ _ _ _ => Int.le_refl _)
  simp only [Int.mul_one] at a b
  exact Int.le_antisymm b a
theorem soldIn_nn {s : List (Int × Int)} {k : Nat} (h : ∀ p ∈ s, 0 ≤ p.2) : 0 ≤ soldIn l s k := (sum_le_all h).1
/-- sold in the first spans: sold by the end of the last of them -/
theorem soldIn_upTo (hl : l.Ok) {s : List (Int × Int)} (h : ∀ p ∈ s, 0 ≤ p.1) {k : Nat} (hk : k < l.counts.length) : sm (k + 1) (soldIn l s) = soldBy s (l.counts[k]).1 := by
  have ha : ascF (0 - 1) (l.counts.map fun c => (c.1, (0 : Int))) := by
    have : ∀ (cs : List (Int × Int)) (b : Int), ascF b cs → ascF b (cs.map fun c => (c.1, (0 : Int))) := by
      intro cs
      induction cs with
      | nil => intro b _; trivial
      | cons c r ih => intro b hb; exact ⟨hb.1, ih _ hb.2⟩
    exact this _ _ (counts_asc hl)
  have e : ∀ (cs : List (Int × Int)) (f : Int) (j : Nat), (hj : j < (spansGo f cs).length) → iat (nl s f 0 (cs.map fun c => (c.1, (0 : Int)))) j = ((s.filter (inS (spansGo f cs)[j])).map (·.2)).sum := by
    intro cs
    induction cs with
    | nil =>
      intro f j hj
      simp [spansGo] at hj
      subst hj
      simp [nl, iat, spansGo]
    | cons c r ih =>
      intro f j hj
      cases j with
      | zero => simp [nl, iat, spansGo]
      | succ j =>
        have := ih (c.1 + 1) j (by simpa [spansGo] using hj)
        simp only [spansGo, List.getElem_cons_succ]
        rw [← this]
        simp [nl, iat]
  have := nl_sum (lots := s) (l.counts.map fun c => (c.1, (0 : Int))) 0 0 ha k (by simpa using hk)
  rw [upTo_neg fun p hp => by have := h p hp; omega] at this
  simp only [List.getElem_map] at this
  rw [sm_congr (g := iat (nl s 0 0 (l.counts.map fun c => (c.1, (0 : Int))))) (fun j hj => ?_), this]
  · unfold upTo soldBy
    omega
  · have hj' : j < (spansL l).length := by rw [spansL_len]; omega
    rw [e l.counts 0 j (by rw [← spansL_go]; exact hj')]
    unfold soldIn
    rw [sp_get hj']
    simp [spansL_go]
/-! from a truth to a flow -/
def tAt (t : List (List (Int × Int))) (i : Nat) : List (Int × Int) := (t[i]?).getD []
def lAt (l : L) (i : Nat) : Int × Int := (l.lots[i]?).getD (0, 0)
/-- a truth's flow: what is never sold lies in the last span -/
def flowOf (l : L) (t : List (List (Int × Int))) : Fw := fun i k => soldIn l (tAt t i) k + if k = l.counts.length then (lAt l i).2 - ((tAt t i).map (·.2)).sum else 0
theorem zip_sm {α β : Type} {g : α → β → Int} {a0 : α} {b0 : β} : ∀ {as : List α} {bs : List β}, bs.length = as.length → ((as.zip bs).map fun q => g q.1 q.2).sum = sm as.length fun i => g ((as[i]?).getD a0) ((bs[i]?).getD b0)
  | [], [], _ => rfl
  | _ :: _, [], h => by simp at h
  | [], _ :: _, h => by simp at h
  | a :: as, b :: bs, h => by
    have ih := zip_sm (g := g) (a0 := a0) (b0 := b0) (as := as) (bs := bs) (by simpa using h)
    rw [List.length_cons, sm_shift]
    simp only [List.zip_cons_cons, List.map_cons, List.sum_cons, ih, List.getElem?_cons_zero, List.getElem?_cons_succ, Option.getD_some]
theorem zip_at {l : L} {t : List (List (Int × Int))} (hlen : t.length = l.lots.length) {i : Nat} (hi : i < l.lots.length) : (lAt l i, tAt t i) ∈ l.lots.zip t ∧ lAt l i ∈ l.lots := by
  have hi' : i < t.length := by omega
  refine ⟨?_, by simp [lAt, hi]⟩
  rw [List.mem_iff_getElem]
  exact ⟨i, by simp; omega, by simp [lAt, tAt, hi, hi']⟩
theorem filter_zip_sum {l : L} {t : List (List (Int × Int))} {d : Int} (hlen : t.length = l.lots.length) : leftAt l t d = sm l.lots.length fun i => if (lAt l i).1 ≤ d then (lAt l i).2 - soldBy (tAt t i) d else 0 := by
  have e : leftAt l t d = ((l.lots.zip t).map fun q => if q.1.1 ≤ d then q.1.2 - soldBy q.2 d else 0).sum := by
    unfold leftAt
    induction (l.lots.zip t) with
    | nil => rfl
    | cons q r ih =>
      simp only [List.filter_cons, List.map_cons, List.sum_cons]
      by_cases h : q.1.1 ≤ d
      · simp only [h, decide_true, if_true, List.map_cons, List.sum_cons, ih]
      · simp only [h, decide_false, Bool.false_eq_true, if_false, ih]; omega
  rw [e]
  exact zip_sm (g := fun (a : Int × Int) (s : List (Int × Int)) => if a.1 ≤ d then a.2 - soldBy s d else 0) (a0 := (0, 0)) (b0 := []) hlen
theorem upTo_sm {lots : List (Int × Int)} {d : Int} : upTo lots d = sm lots.length fun i => if ((lots[i]?).getD (0, 0)).1 ≤ d then ((lots[i]?).getD (0, 0)).2 else 0 := by
  unfold upTo
  induction lots with
  | nil => rfl
  | cons p r ih =>
    rw [List.length_cons, sm_shift]
    simp only [List.filter_cons, List.getElem?_cons_zero, List.getElem?_cons_succ, Option.getD_some]
    by_cases h : p.1 ≤ d
    · simp only [h, decide_true, if_true, List.map_cons, List.sum_cons, ih]
    · simp only [h, decide_false, Bool.false_eq_true, if_false, ih]; omega
theorem soldBy_zero {s : List (Int × Int)} {d : Int} (h : ∀ p ∈ s, d < p.1) : soldBy s d = 0 := upTo_neg h
theorem canS_last {l : L} {d : Int} : canS (sp l l.counts.length) d = true := by
  have hk : l.counts.length < (spansL l).length := by rw [spansL_len]; omega
  unfold canS
  rw [sp_get hk, spans_last]
theorem sp_end {l : L} {k : Nat} (hk : k < l.counts.length) : (sp l k).2 = some (l.counts[k]).1 := by
  rw [sp_get (by rw [spansL_len]; omega), spans_get hk]
theorem sm_eq_each {f g : Nat → Int} : ∀ {m : Nat}, (∀ k, k < m → sm (k + 1) f = sm (k + 1) g) → ∀ k, k < m → f k = g k := fun {m} h k hk => by
  cases k with
  | zero => have := h 0 hk; simpa [sm] using this
  | succ k =>
    have h1 := h k (by omega)
    have h2 := h (k + 1) hk
    have e1 : sm (k + 1 + 1) f = sm (k + 1) f + f (k + 1) := rfl
    have e2 : sm (k + 1 + 1) g = sm (k + 1) g + g (k + 1) := rfl
    omega
theorem flow_of_truth {t : List (List (Int × Int))} {c : List (List (Option Int))} (hl : l.Ok) (ht : Truth l t) (hc : Shape l c) : Full l.lots.length (l.counts.length + 1) (cs c) (iat (pcs l)) (iat (nums l)) (flowOf l t) := by
  have sal : ∀ i, i < l.lots.length → Sales (lAt l i) (tAt t i) := fun i hi => ht.sales _ (zip_at ht.len hi).1
  have lot : ∀ i, i < l.lots.length → 0 ≤ (lAt l i).1 ∧ 1 ≤ (lAt l i).2 := fun i hi => by
    have := hl.lots.rng _ (zip_at ht.len hi).2
    omega
  have day : ∀ i, i < l.lots.length → ∀ p ∈ tAt t i, (lAt l i).1 ≤ p.1 ∧ 0 ≤ p.1 ∧ 0 ≤ p.2 := fun i hi p hp => by
    have := (sal i hi).dt.rng p hp
    have := lot i hi
    omega
  have pat : ∀ i, i < l.lots.length → iat (pcs l) i = (lAt l i).2 := fun i hi => by simp [iat, pcs, lAt, hi]
  have rowsum : ∀ i, i < l.lots.length → sm (l.counts.length + 1) (flowOf l t i) = iat (pcs l) i := fun i hi => by
    unfold flowOf
    rw [sm_add, sm_one, if_pos (by omega)]
    have := soldIn_tot hl (s := tAt t i) fun p hp => (day i hi p hp).2
    rw [show sm (l.counts.length + 1) (fun k => soldIn l (tAt t i) k) = sm (l.counts.length + 1) (soldIn l (tAt t i)) from rfl, this, pat i hi]
    omega
  have nn : ∀ i, i < l.lots.length → ∀ k, k < l.counts.length + 1 → 0 ≤ flowOf l t i k := fun i hi k hk => by
    have h1 := soldIn_nn (l := l) (s := tAt t i) (k := k) fun p hp => (day i hi p hp).2.2
    have h2 := (sal i hi).sum
    unfold flowOf
    split <;> omega
  refine ⟨⟨nn, fun i hi k hk h0 => ?_⟩, rowsum, ?_⟩
  · cases hck : cs c i k with
    | some x => exact ⟨x, rfl⟩
    | none =>
      exfalso
      have hk' : k < (spansL l).length := by rw [spansL_len]; exact hk
      have h1 := (hc.2 i k hi hk').mp hck
      rw [← sp_get hk'] at h1
      have h2 : (l.lots[i]).1 = (lAt l i).1 := by simp [lAt, hi]
      rw [h2] at h1
      by_cases e : k < l.counts.length
      · unfold canS at h1
        rw [sp_end e] at h1
        simp only [decide_eq_false_iff_not] at h1
        have : soldIn l (tAt t i) k = 0 := by
          unfold soldIn
          rw [List.filter_eq_nil_iff.mpr fun p hp hin => by
            have a := (inS_iff.mp hin).2 _ (sp_end e)
            have b := day i hi p hp
            omega]
          rfl
        unfold flowOf at h0
        rw [this, if_neg (by omega)] at h0
        omega
      · have : k = l.counts.length := by omega
        subst this
        rw [canS_last] at h1
        cases h1
  · -- the columns: by their first sums
    have cum : ∀ k, k < l.counts.length → sm (k + 1) (fun k => sm l.lots.length fun i => flowOf l t i k) = sm (k + 1) (iat (nums l)) := fun k hk => by
      have s := nl_sum (lots := l.lots) l.counts 0 0 (counts_asc hl) k hk
      rw [← nums_nl, upTo_neg fun p hp => by have := hl.lots.rng p hp; omega] at s
      rw [s, ← sm_swap]
      have lf := ht.left _ (List.getElem_mem hk)
      rw [filter_zip_sum ht.len] at lf
      have e1 : sm l.lots.length (fun i => sm (k + 1) fun j => flowOf l t i j) = sm l.lots.length fun i => soldBy (tAt t i) (l.counts[k]).1 := sm_congr fun i hi => by
        rw [← soldIn_upTo hl (fun p hp => (day i hi p hp).2.1) hk]
        exact sm_congr fun j hj => by unfold flowOf; rw [if_neg (by omega)]; omega
      have e2 : sm l.lots.length (fun i => soldBy (tAt t i) (l.counts[k]).1) + sm l.lots.length (fun i => if (lAt l i).1 ≤ (l.counts[k]).1 then (lAt l i).2 - soldBy (tAt t i) (l.counts[k]).1 else 0) = upTo l.lots (l.counts[k]).1 := by
        rw [← sm_add, upTo_sm]
        refine sm_congr fun i hi => ?_
        show _ = if (lAt l i).1 ≤ _ then (lAt l i).2 else 0
        split
        · omega
        · rename_i h
          rw [soldBy_zero fun p hp => by have := day i hi p hp; omega]
          rfl
      rw [e1]
      omega
    intro k hk
    by_cases e : k < l.counts.length
    · exact sm_eq_each cum k e
    · have : k = l.counts.length := by omega
      subst this
      have tot := nl_tot (lots := l.lots) l.counts 0 0 (counts_asc hl)
      rw [← nums_nl, upTo_neg fun p hp => by have := hl.lots.rng p hp; omega] at tot
      have tf : sm (l.counts.length + 1) (fun k => sm l.lots.length fun i => flowOf l t i k) = (l.lots.map (·.2)).sum := by
        rw [← sm_swap, sm_congr rowsum]
        have := sm_list (pcs l)
        rw [show (pcs l).length = l.lots.length by simp [pcs]] at this
        exact this
      rw [sm] at tot tf
      have : sm l.counts.length (fun k => sm l.lots.length fun i => flowOf l t i k) = sm l.counts.length (iat (nums l)) := sm_congr fun k hk => sm_eq_each cum k hk
      omega
end
/-! credits -/
theorem credit_mono {l : L} (hl : l.Ok) {b : Int} {s t : Option Int} (h : ∀ d, t = some d → ∃ e, s = some e ∧ e ≤ d) : creditOf l b s ≤ creditOf l b t := by
  unfold creditOf
  rw [filter_sum, filter_sum]
  have pos : ∀ p ∈ l.falls, 0 ≤ p.2 := fun p hp => by have := hl.falls.rng p hp; omega
  have le : ∀ p : Int × Int, credP l b s p = true → credP l b t p = true := fun p => by
    unfold credP
    cases t with
    | none =>
      cases s
      · simp
      · simp; exact fun a b _ => ⟨a, b⟩
    | some d =>
      obtain ⟨e, rfl, he⟩ := h d rfl
      simp
      omega
  have key : ∀ ps : List (Int × Int), (∀ p ∈ ps, 0 ≤ p.2) → (ps.map fun p => if credP l b s p = true then p.2 else 0).sum ≤ (ps.map fun p => if credP l b t p = true then p.2 else 0).sum := by
    intro ps
    induction ps with
    | nil => intro _; simp
    | cons p r ih =>
      intro pos
      simp only [List.map_cons, List.sum_cons]
      have h1 := ih fun q hq => pos q (by simp [hq])
      have h2 := pos p (by simp)
      have h3 := le p
      cases h4 : credP l b s p
      · simp only [Bool.false_eq_true, if_false]
        split <;> omega
      · rw [h3 h4]
        simp only [if_true]
        omega
  exact key _ pos
/-- a lot's part of a truth's credit -/
def lotC (l : L) (lot : Int × Int) (s : List (Int × Int)) : Int := (lot.2 - (s.map (·.2)).sum) * creditOf l lot.1 none + (s.map fun p => p.2 * creditOf l lot.1 (some p.1)).sum
theorem creditWith_sm {l : L} {t : List (List (Int × Int))} (hlen : t.length = l.lots.length) : creditWith l t = sm l.lots.length fun i => lotC l (lAt l i) (tAt t i) := by
  unfold creditWith
  have : ∀ (qs : List ((Int × Int) × List (Int × Int))) (s : Int), qs.foldl (fun s q => s + (q.1.2 - (q.2.map (·.2)).sum) * creditOf l q.1.1 none + (q.2.map fun p => p.2 * creditOf l q.1.1 (some p.1)).sum) s = s + (qs.map fun q => lotC l q.1 q.2).sum := by
    intro qs
    induction qs with
    | nil => intro s; simp
    | cons q r ih =>
      intro s
      simp only [List.foldl_cons, ih, List.map_cons, List.sum_cons]
      unfold lotC
      omega
  rw [this, zip_sm (g := fun a s => lotC l a s) (a0 := (0, 0)) (b0 := []) hlen]
  simp only [Int.zero_add]
  rfl
theorem worths_at {l : L} {m : Bool} {i k : Nat} (hi : i < l.lots.length) (hk : k < l.counts.length + 1) : cs (worths l m) i k = worthIn l m (lAt l i) (sp l k) := by
  have hk' : k < (spansL l).length := by rw [spansL_len]; exact hk
  simp [cs, worths, hi, hk', lAt, sp]
theorem cv_worths {l : L} {m : Bool} {i k : Nat} (hi : i < l.lots.length) (hk : k < l.counts.length + 1) (h : canS (sp l k) (lAt l i).1 = true) : cv (cs (worths l m)) i k = creditOf l (lAt l i).1 (dayIn m (sp l k) (lAt l i).1) := by
  unfold cv
  rw [worths_at hi hk]
  simp [worthIn, h]
/-- a truth's credit lies within the sums of its flow -/
theorem credit_within {l : L} {t : List (List (Int × Int))} (hl : l.Ok) (ht : Truth l t) :
    cost l.lots.length (l.counts.length + 1) (cs (worths l false)) (flowOf l t) ≤ creditWith l t ∧ creditWith l t ≤ cost l.lots.length (l.counts.length + 1) (cs (worths l true)) (flowOf l t) := by
  rw [creditWith_sm ht.len]
  have sal : ∀ i, i < l.lots.length → Sales (lAt l i) (tAt t i) := fun i hi => ht.sales _ (zip_at ht.len hi).1
  have lot : ∀ i, i < l.lots.length → 0 ≤ (lAt l i).1 ∧ 1 ≤ (lAt l i).2 := fun i hi => by
    have := hl.lots.rng _ (zip_at ht.len hi).2
    omega
  have day : ∀ i, i < l.lots.length → ∀ p ∈ tAt t i, (lAt l i).1 ≤ p.1 ∧ 0 ≤ p.1 ∧ 0 ≤ p.2 := fun i hi p hp => by
    have := (sal i hi).dt.rng p hp
    have := lot i hi
    omega
  -- where pieces of a lot are sold in a span, they can be
  have can : ∀ i, i < l.lots.length → ∀ k, k < l.counts.length + 1 → ∀ p ∈ tAt t i, inS (sp l k) (p.1, 0) = true → canS (sp l k) (lAt l i).1 = true := fun i hi k hk p hp hin => by
    unfold canS
    cases h : (sp l k).2 with
    | none => rfl
    | some e =>
      have a := (inS_iff.mp hin).2 e h
      have b := day i hi p hp
      simp only at a
      exact decide_eq_true (by omega)
  have split : ∀ (m : Bool) i, i < l.lots.length → sm (l.counts.length + 1) (fun k => flowOf l t i k * cv (cs (worths l m)) i k) = sm (l.counts.length + 1) (fun k => soldIn l (tAt t i) k * cv (cs (worths l m)) i k) + ((lAt l i).2 - ((tAt t i).map (·.2)).sum) * cv (cs (worths l m)) i l.counts.length := fun m i hi => by
    have e : sm (l.counts.length + 1) (fun k => flowOf l t i k * cv (cs (worths l m)) i k) = sm (l.counts.length + 1) (fun k => soldIn l (tAt t i) k * cv (cs (worths l m)) i k + if k = l.counts.length then ((lAt l i).2 - ((tAt t i).map (·.2)).sum) * cv (cs (worths l m)) i l.counts.length else 0) := sm_congr fun k hk => by
      unfold flowOf
      rw [Int.add_mul]
      by_cases e : k = l.counts.length
      · subst e; simp
      · simp [e]
    rw [e, sm_add, sm_one, if_pos (by omega)]
  have lastv : ∀ (m : Bool) i, i < l.lots.length → cv (cs (worths l m)) i l.counts.length = creditOf l (lAt l i).1 (dayIn m (sp l l.counts.length) (lAt l i).1) := fun m i hi => cv_worths hi (by omega) canS_last
  have lastn : (sp l l.counts.length).2 = none := by
    have hk : l.counts.length < (spansL l).length := by rw [spansL_len]; omega
    rw [sp_get hk, spans_last]
  constructor
  · unfold cost
    refine sm_le fun i hi => ?_
    rw [split false i hi, lastv false i hi]
    have h1 := weigh_le hl (w := cv (cs (worths l false)) i) (v := fun d => creditOf l (lAt l i).1 (some d)) (s := tAt t i) (fun p hp => (day i hi p hp).2) (fun p hp k hk hin => by
      rw [cv_worths hi hk (can i hi k hk p hp hin)]
      refine credit_mono hl fun d hd => ?_
      cases hd
      refine ⟨_, rfl, ?_⟩
      have a := (inS_iff.mp hin).1
      have b := day i hi p hp
      simp only at a
      split <;> omega)
    have h2 := credit_mono hl (b := (lAt l i).1) (s := dayIn false (sp l l.counts.length) (lAt l i).1) (t := none) (fun d hd => by cases hd)
    have h3 := Int.mul_le_mul_of_nonneg_left h2 (show 0 ≤ (lAt l i).2 - ((tAt t i).map (·.2)).sum by have := (sal i hi).sum; omega)
    unfold lotC
    omega
  · unfold cost
    refine sm_le fun i hi => ?_
    rw [split true i hi, lastv true i hi]
    have h1 := weigh_ge hl (w := cv (cs (worths l true)) i) (v := fun d => creditOf l (lAt l i).1 (some d)) (s := tAt t i) (fun p hp => (day i hi p hp).2) (fun p hp k hk hin => by
      rw [cv_worths hi hk (can i hi k hk p hp hin)]
      refine credit_mono hl fun d hd => ?_
      have hd : (sp l k).2 = some d := hd
      exact ⟨p.1, rfl, (inS_iff.mp hin).2 d hd⟩)
    have e : dayIn true (sp l l.counts.length) (lAt l i).1 = none := lastn
    rw [e]
    unfold lotC
    omega
/-- no truth comes beyond the bounds -/
theorem credit_bounds {l : L} {t : List (List (Int × Int))} (hl : l.Ok) (ht : Truth l t) {v w : Int} (hv : BoundIs l false v) (hw : BoundIs l true w) : v ≤ creditWith l t ∧ creditWith l t ≤ w := by
  obtain ⟨f, rfl, _, h1⟩ := hv
  obtain ⟨g, rfl, _, h2⟩ := hw
  have a := h1 _ (flow_of_truth hl ht (shape_worths hl))
  have b := h2 _ (flow_of_truth hl ht (shape_worths hl))
  have c := credit_within hl ht
  simp only [Bool.false_eq_true, if_false, if_true] at a b
  omega
end My

/-! N18: from a flow to a truth. -/
namespace My
open Pv Fl
open PySem (Str)
/-- what is sold of a lot in a stretch -/
def salG (m : Bool) (b : Int) (q : (Int × Option Int) × Int) : Option (Int × Int) := if 0 < q.2 then (dayIn m q.1 b).map fun d => (d, q.2) else none
def sal (m : Bool) (b : Int) (Q : List ((Int × Option Int) × Int)) : List (Int × Int) := Q.filterMap (salG m b)
theorem salesR_sal {l : L} {m : Bool} {lot : Int × Int} {row : List Int} : salesR l m lot row = sal m lot.1 ((spansL l).zip row) := by
  unfold salesR sal
  rw [List.filterMap_map, List.filterMap_filter]
  congr 1
  funext q
  simp [salG]
theorem spansGo_pw : ∀ (cs : List (Int × Int)) (f : Int), ascF (f - 1) cs → (spansGo f cs).Pairwise (fun s s' => ∃ e, s.2 = some e ∧ e < s'.1)
  | [], f, _ => by simp [spansGo]
  | c :: r, f, h => by
    have h2 : ascF (c.1 + 1 - 1) r := by have := h.2; rw [show c.1 + 1 - 1 = c.1 by omega]; exact this
    rw [spansGo, List.pairwise_cons]
    refine ⟨fun s hs => ⟨c.1, rfl, ?_⟩, spansGo_pw r _ h2⟩
    obtain ⟨k, hk, rfl⟩ := List.mem_iff_getElem.mp hs
    have := spansGo_low r (c.1 + 1) h2 k hk
    omega
theorem zip_pw {α β : Type} {R : α → α → Prop} : ∀ {as : List α} {bs : List β}, as.Pairwise R → (as.zip bs).Pairwise fun q q' => R q.1 q'.1
  | [], _, _ => by simp
  | _ :: _, [], _ => by simp
  | a :: as, b :: bs, h => by
    rw [List.pairwise_cons] at h
    rw [List.zip_cons_cons, List.pairwise_cons]
    exact ⟨fun q hq => h.1 _ (List.of_mem_zip hq).1, zip_pw h.2⟩
section
variable {l : L} {m : Bool} {b : Int}
/-- the day of a sale lies in its stretch -/
theorem day_in {s : Int × Option Int} (hc : canS s b = true) (hs : ∀ e, s.2 = some e → s.1 ≤ e) {d : Int} (h : dayIn m s b = some d) : b ≤ d ∧ s.1 ≤ d ∧ (∀ e, s.2 = some e → d ≤ e) := by
  unfold dayIn at h
  split at h
  · unfold canS at hc
    rw [h] at hc
    have := hs d h
    simp only [decide_eq_true_eq] at hc
    exact ⟨hc, this, fun e he => by rw [h] at he; cases he; omega⟩
  · simp only [Option.some.injEq] at h
    unfold canS at hc
    refine ⟨by split at h <;> omega, by split at h <;> omega, fun e he => ?_⟩
    rw [he] at hc
    have := hs e he
    simp only [decide_eq_true_eq] at hc
    split at h <;> omega
/-- a row that is sold -/
structure QOk (b : Int) (Q : List ((Int × Option Int) × Int)) : Prop where
  pw : Q.Pairwise fun q q' => ∃ e, q.1.2 = some e ∧ e < q'.1.1
  each : ∀ q ∈ Q, 0 ≤ q.2 ∧ (0 < q.2 → canS q.1 b = true) ∧ ∀ e, q.1.2 = some e → q.1.1 ≤ e
theorem QOk.tail {q : (Int × Option Int) × Int} {Q : List ((Int × Option Int) × Int)} (h : QOk b (q :: Q)) : QOk b Q := ⟨(List.pairwise_cons.mp h.pw).2, fun x hx => h.each x (List.mem_cons_of_mem _ hx)⟩
theorem sal_mem {Q : List ((Int × Option Int) × Int)} {p : Int × Int} (hp : p ∈ sal m b Q) : ∃ q ∈ Q, 0 < q.2 ∧ dayIn m q.1 b = some p.1 ∧ p.2 = q.2 := by
  obtain ⟨q, hq, h⟩ := List.mem_filterMap.mp hp
  unfold salG at h
  split at h
  · obtain ⟨d, h1, rfl⟩ := Option.map_eq_some_iff.mp h
    exact ⟨q, hq, by assumption, h1, rfl⟩
  · cases h
theorem sal_asc : ∀ {Q : List ((Int × Option Int) × Int)}, QOk b Q → ascB (sal m b Q) = true := fun {Q} h => by
  apply asc_of_pw
  rw [List.pairwise_map]
  unfold sal
  rw [List.pairwise_filterMap]
  refine h.pw.imp_of_mem fun {q q'} hq hq' hr p hp p' hp' => ?_
  obtain ⟨e, he, hlt⟩ := hr
  unfold salG at hp hp'
  split at hp
  · split at hp'
    · obtain ⟨d, h1, rfl⟩ := Option.map_eq_some_iff.mp hp
      obtain ⟨d', h1', rfl⟩ := Option.map_eq_some_iff.mp hp'
      have a := h.each q hq
      have a' := h.each q' hq'
      have g := day_in (a.2.1 (by assumption)) a.2.2 h1
      have g' := day_in (a'.2.1 (by assumption)) a'.2.2 h1'
      have := g.2.2 e he
      simp only
      omega
    · cases hp'
  · cases hp
theorem sal_cons {q : (Int × Option Int) × Int} {Q : List ((Int × Option Int) × Int)} : sal m b (q :: Q) = (match salG m b q with | some p => p :: sal m b Q | none => sal m b Q) := by
  unfold sal
  rw [List.filterMap_cons]
  cases salG m b q <;> rfl
theorem sal_sum : ∀ {Q : List ((Int × Option Int) × Int)}, (∀ q ∈ Q, 0 ≤ q.2) → ((sal m b Q).map (·.2)).sum ≤ (Q.map (·.2)).sum ∧ 0 ≤ ((sal m b Q).map (·.2)).sum
  | [], _ => by simp [sal]
  | q :: Q, h => by
    obtain ⟨h1, h2⟩ := sal_sum (Q := Q) fun x hx => h x (List.mem_cons_of_mem _ hx)
    have hq := h q (by simp)
    rw [sal_cons, List.map_cons, List.sum_cons]
    cases e : salG m b q with
    | none => simp only; omega
    | some p =>
      unfold salG at e
      split at e
      · obtain ⟨d, _, rfl⟩ := Option.map_eq_some_iff.mp e
        simp only [List.map_cons, List.sum_cons]
        omega
      · cases e
theorem sal_by {d : Int} : ∀ {Q : List ((Int × Option Int) × Int)}, (∀ q ∈ Q, 0 ≤ q.2) → soldBy (sal m b Q) d = (Q.map fun q => match dayIn m q.1 b with | some e => if e ≤ d then q.2 else 0 | none => 0).sum
  | [], _ => rfl
  | q :: Q, h => by
    have ih := sal_by (d := d) (Q := Q) fun x hx => h x (List.mem_cons_of_mem _ hx)
    have hq := h q (by simp)
    have sc : ∀ (p : Int × Int) (r : List (Int × Int)), soldBy (p :: r) d = (if p.1 ≤ d then p.2 else 0) + soldBy r d := fun p r => by
      unfold soldBy
      by_cases hp : p.1 ≤ d <;> simp [hp]
    rw [sal_cons, List.map_cons, List.sum_cons, ← ih]
    unfold salG
    by_cases h0 : 0 < q.2
    · rw [if_pos h0]
      cases dayIn m q.1 b with
      | none => simp
      | some e => simp only [Option.map_some, sc]
    · rw [if_neg h0]
      have : q.2 = 0 := by omega
      cases dayIn m q.1 b with
      | none => simp
      | some e => simp [this]
theorem sal_credit {g : Option Int → Int} : ∀ {Q : List ((Int × Option Int) × Int)}, (∀ q ∈ Q, 0 ≤ q.2) → (Q.map fun q => q.2 * g (dayIn m q.1 b)).sum = ((Q.map (·.2)).sum - ((sal m b Q).map (·.2)).sum) * g none + ((sal m b Q).map fun p => p.2 * g (some p.1)).sum
  | [], _ => by simp [sal]
  | q :: Q, h => by
    have ih := sal_credit (g := g) (Q := Q) fun x hx => h x (List.mem_cons_of_mem _ hx)
    have hq := h q (by simp)
    rw [sal_cons, List.map_cons, List.sum_cons, List.map_cons, List.sum_cons, ih]
    unfold salG
    by_cases h0 : 0 < q.2
    · rw [if_pos h0]
      cases hd : dayIn m q.1 b with
      | none =>
        simp only [Option.map_none]
        rw [show q.2 + (Q.map (·.2)).sum - ((sal m b Q).map (·.2)).sum = q.2 + ((Q.map (·.2)).sum - ((sal m b Q).map (·.2)).sum) by omega, Int.add_mul]
        omega
      | some e =>
        simp only [Option.map_some, List.map_cons, List.sum_cons]
        rw [show q.2 + (Q.map (·.2)).sum - (q.2 + ((sal m b Q).map (·.2)).sum) = (Q.map (·.2)).sum - ((sal m b Q).map (·.2)).sum by omega]
        omega
    · rw [if_neg h0]
      have : q.2 = 0 := by omega
      simp only [this, Int.zero_mul, Int.zero_add]
end
theorem sm_cut {f : Nat → Int} {j : Nat} : ∀ {n : Nat}, j < n → sm n (fun k => if k ≤ j then f k else 0) = sm (j + 1) f
  | 0, h => by omega
  | n + 1, h => by
    by_cases e : j < n
    · rw [sm, sm_cut e, if_neg (by omega)]; omega
    · have : j = n := by omega
      subst this
      rw [sm, sm, sm_congr (g := f) fun i hi => by rw [if_pos (by omega)], if_pos (by omega)]
theorem spansGo_ok : ∀ (cs : List (Int × Int)) (f : Int), ascF (f - 1) cs → ∀ s ∈ spansGo f cs, f ≤ s.1 ∧ ∀ e, s.2 = some e → s.1 ≤ e
  | [], f, _, s, hs => by
    simp only [spansGo, List.mem_singleton] at hs
    subst hs
    exact ⟨Int.le_refl _, fun e he => by cases he⟩
  | c :: r, f, h, s, hs => by
    have h2 : ascF (c.1 + 1 - 1) r := by have := h.2; rw [show c.1 + 1 - 1 = c.1 by omega]; exact this
    have h1 := h.1
    rw [spansGo] at hs
    rcases List.mem_cons.mp hs with e | e
    · subst e
      exact ⟨Int.le_refl _, fun e he => by cases he; show f ≤ c.1; omega⟩
    · have := spansGo_ok r (c.1 + 1) h2 s e
      exact ⟨by omega, this.2⟩
theorem spansGo_hi {D : Int} : ∀ (cs : List (Int × Int)) (f : Int), (∀ c ∈ cs, c.1 + 1 ≤ D) → f ≤ D → ∀ s ∈ spansGo f cs, s.1 ≤ D ∧ ∀ e, s.2 = some e → e ≤ D
  | [], f, _, hf, s, hs => by
    simp only [spansGo, List.mem_singleton] at hs
    subst hs
    exact ⟨hf, fun e he => by cases he⟩
  | c :: r, f, h, hf, s, hs => by
    have hc := h c (by simp)
    rw [spansGo] at hs
    rcases List.mem_cons.mp hs with e | e
    · subst e
      exact ⟨hf, fun e he => by cases he; omega⟩
    · exact spansGo_hi r (c.1 + 1) (fun x hx => h x (List.mem_cons_of_mem _ hx)) hc s e
theorem mem_le_sum {α : Type} : ∀ {Q : List (α × Int)}, (∀ q ∈ Q, 0 ≤ q.2) → ∀ q ∈ Q, q.2 ≤ (Q.map (·.2)).sum ∧ 0 ≤ (Q.map (·.2)).sum
  | x :: Q, h, q, hq => by
    have hx := h x (by simp)
    have h0 : 0 ≤ (Q.map (·.2)).sum := by
      cases Q with
      | nil => simp
      | cons y r => exact (mem_le_sum (Q := y :: r) (fun z hz => h z (List.mem_cons_of_mem _ hz)) y (by simp)).2
    rw [List.map_cons, List.sum_cons]
    rcases List.mem_cons.mp hq with e | e
    · subst e; omega
    · have := (mem_le_sum (fun z hz => h z (List.mem_cons_of_mem _ hz)) q e).1
      omega
theorem sp_mem {l : L} {k : Nat} (hk : k < l.counts.length + 1) : sp l k ∈ spansL l := by
  have hk' : k < (spansL l).length := by rw [spansL_len]; exact hk
  rw [sp_get hk']
  exact List.getElem_mem hk'
theorem sp_first {l : L} (hl : l.Ok) {k j : Nat} (hj : j < l.counts.length) (hk : k < l.counts.length + 1) (h : j < k) : (l.counts[j]).1 < (sp l k).1 := by
  have hk' : k < (spansL l).length := by rw [spansL_len]; exact hk
  have hj' : j < (spansL l).length := by rw [spansL_len]; omega
  have pw := spansGo_pw l.counts 0 (counts_asc hl)
  rw [← spansL_go] at pw
  obtain ⟨e, he, hlt⟩ := List.pairwise_iff_getElem.mp pw j k hj' hk' h
  rw [spans_get hj] at he
  cases he
  rw [sp_get hk']
  exact hlt
/-- from a flow to a truth -/
theorem truth_of_flow {l : L} {m : Bool} {f : List (List Int)} {c : List (List (Option Int))} (hl : l.Ok) (hc : Shape l c) (hd : Dim l.lots.length (l.counts.length + 1) f) (hf : Full l.lots.length (l.counts.length + 1) (cs c) (iat (pcs l)) (iat (nums l)) (fw f)) :
    Truth l (salesOf l m f) ∧ creditWith l (salesOf l m f) = cost l.lots.length (l.counts.length + 1) (cs (worths l m)) (fw f) ∧ ∀ D, (∀ c ∈ l.counts, c.1 + 1 ≤ D) → (∀ x ∈ l.lots, x.1 ≤ D) → 0 ≤ D → ∀ s ∈ salesOf l m f, ∀ p ∈ s, p.1 ≤ D := by
  have l4 := hl.counts.len
  have hlen : (salesOf l m f).length = l.lots.length := by unfold salesOf; rw [List.length_map, List.length_zip, hd.len]; omega
  have spl : (spansL l).length = l.counts.length + 1 := spansL_len
  let row : Nat → List Int := fun i => (f[i]?).getD []
  let Q : Nat → List ((Int × Option Int) × Int) := fun i => (spansL l).zip (row i)
  have rlen : ∀ i, i < l.lots.length → (row i).length = (spansL l).length := fun i hi => by
    have hi' : i < f.length := by rw [hd.len]; exact hi
    show ((f[i]?).getD []).length = _
    rw [List.getElem?_eq_getElem hi', spl]
    exact hd.row _ (List.getElem_mem hi')
  have tat : ∀ i, i < l.lots.length → tAt (salesOf l m f) i = sal m (lAt l i).1 (Q i) := fun i hi => by
    have hi' : i < f.length := by rw [hd.len]; exact hi
    unfold tAt salesOf
    rw [List.getElem?_map, List.getElem?_eq_getElem (by rw [List.length_zip]; omega), Option.map_some, Option.getD_some, List.getElem_zip, salesR_sal]
    show sal m _ ((spansL l).zip _) = sal m _ ((spansL l).zip ((f[i]?).getD []))
    rw [List.getElem?_eq_getElem hi']
    simp [lAt, hi]
  have lot : ∀ i, i < l.lots.length → 0 ≤ (lAt l i).1 ∧ (lAt l i).1 ≤ 1000000000 ∧ 1 ≤ (lAt l i).2 := fun i hi => by
    have := hl.lots.rng _ (zip_at hlen hi).2
    omega
  have pat : ∀ i, i < l.lots.length → iat (pcs l) i = (lAt l i).2 := fun i hi => by simp [iat, pcs, lAt, hi]
  have cas : ∀ i k, i < l.lots.length → k < l.counts.length + 1 → 0 < fw f i k → canS (sp l k) (lAt l i).1 = true := fun i k hi hk h => by
    obtain ⟨x, hx⟩ := hf.al i hi k hk h
    have hk' : k < (spansL l).length := by rw [spl]; exact hk
    cases hcs : canS (sp l k) (lAt l i).1 with
    | true => rfl
    | false =>
      have := (hc.2 i k hi hk').mpr (by rw [← sp_get hk']; rw [← hcs]; simp [lAt, hi])
      rw [hx] at this
      cases this
  have ok : ∀ i, i < l.lots.length → QOk (lAt l i).1 (Q i) := fun i hi => by
    have pw := spansGo_pw l.counts 0 (counts_asc hl)
    rw [← spansL_go] at pw
    refine ⟨zip_pw pw, fun q hq => ?_⟩
    obtain ⟨k, hk, e⟩ := List.mem_iff_getElem.mp hq
    have hk1 : k < (spansL l).length := by simp only [Q, List.length_zip] at hk; omega
    have hk2 : k < (row i).length := by rw [rlen i hi]; exact hk1
    simp only [Q, List.getElem_zip] at e
    subst e
    have ef : fw f i k = (row i)[k] := by show iat (row i) k = _; simp [iat, hk2]
    refine ⟨?_, fun h => ?_, ?_⟩
    · simp only; rw [← ef]; exact hf.nn i hi k (by omega)
    · simp only at h ⊢
      rw [← ef] at h
      rw [← sp_get hk1]
      exact cas i k hi (by omega) h
    · simp only
      exact (spansGo_ok l.counts 0 (counts_asc hl) _ (by rw [← spansL_go]; exact List.getElem_mem hk1)).2
  have nn : ∀ i, i < l.lots.length → ∀ q ∈ Q i, 0 ≤ q.2 := fun i hi q hq => ((ok i hi).each q hq).1
  have zs : ∀ (g : (Int × Option Int) → Int → Int) i, i < l.lots.length → ((Q i).map fun q => g q.1 q.2).sum = sm (l.counts.length + 1) fun k => g (sp l k) (fw f i k) := fun g i hi => by
    have := zip_sm (g := g) (a0 := ((0, none) : Int × Option Int)) (b0 := (0 : Int)) (as := spansL l) (bs := row i) (rlen i hi)
    rw [spl] at this
    exact this
  have rowsum : ∀ i, i < l.lots.length → ((Q i).map (·.2)).sum = (lAt l i).2 := fun i hi => by
    have := zs (fun _ x => x) i hi
    rw [this, ← pat i hi]
    exact hf.row i hi
  have sales : ∀ i, i < l.lots.length → Sales (lAt l i) (tAt (salesOf l m f) i) := fun i hi => by
    rw [tat i hi]
    have h1 := sal_sum (m := m) (b := (lAt l i).1) (nn i hi)
    rw [rowsum i hi] at h1
    refine ⟨⟨?_, fun p hp => ?_, sal_asc (ok i hi)⟩, h1.1⟩
    · have : (sal m (lAt l i).1 (Q i)).length ≤ (Q i).length := List.length_filterMap_le _ _
      have : (Q i).length = l.counts.length + 1 := by simp only [Q, List.length_zip, rlen i hi, spl]; omega
      omega
    · obtain ⟨q, hq, h0, hdy, e⟩ := sal_mem hp
      have a := (ok i hi).each q hq
      have g := day_in (a.2.1 h0) a.2.2 hdy
      have le : q.2 ≤ (lAt l i).2 := by
        rw [← rowsum i hi]
        exact (mem_le_sum (nn i hi) q hq).1
      refine ⟨g.1, ?_, by omega, by omega⟩
      have hs := spansGo_hi (D := 2000000000) l.counts 0 (fun c hc => by have := hl.counts.rng c hc; omega) (by omega) q.1 (by rw [← spansL_go]; exact (List.of_mem_zip hq).1)
      have := lot i hi
      unfold dayIn at hdy
      split at hdy
      · exact hs.2 _ hdy
      · simp only [Option.some.injEq] at hdy; split at hdy <;> omega
  have allI : ∀ q ∈ l.lots.zip (salesOf l m f), ∃ i, i < l.lots.length ∧ q = (lAt l i, tAt (salesOf l m f) i) := fun q hq => by
    obtain ⟨i, hi, e⟩ := List.mem_iff_getElem.mp hq
    rw [List.length_zip] at hi
    refine ⟨i, by omega, ?_⟩
    rw [← e, List.getElem_zip]
    have h1 : i < l.lots.length := by omega
    have h2 : i < (salesOf l m f).length := by omega
    simp [lAt, tAt, h1, h2]
  refine ⟨⟨hlen, fun q hq => ?_, fun ct hct => ?_⟩, ?_, fun D hcD hlD h0D s hs p hp => ?_⟩
  · obtain ⟨i, hi, rfl⟩ := allI q hq
    exact sales i hi
  · obtain ⟨j, hj, rfl⟩ := List.mem_iff_getElem.mp hct
    rw [filter_zip_sum hlen]
    have by_ : ∀ i, i < l.lots.length → (if (lAt l i).1 ≤ (l.counts[j]).1 then (lAt l i).2 - soldBy (tAt (salesOf l m f) i) (l.counts[j]).1 else 0) = (if (lAt l i).1 ≤ (l.counts[j]).1 then (lAt l i).2 else 0) - sm (j + 1) (fw f i) := fun i hi => by
      by_cases h : (lAt l i).1 ≤ (l.counts[j]).1
      · rw [if_pos h, if_pos h, tat i hi, sal_by (nn i hi)]
        have := zs (fun s x => match dayIn m s (lAt l i).1 with | some e => if e ≤ (l.counts[j]).1 then x else 0 | none => 0) i hi
        rw [this, ← sm_cut (show j < l.counts.length + 1 by omega)]
        congr 1
        refine sm_congr fun k hk => ?_
        have fnn := hf.nn i hi k hk
        by_cases h0 : 0 < fw f i k
        · have hcan := cas i k hi hk h0
          have hso := (spansGo_ok l.counts 0 (counts_asc hl) _ (by rw [← spansL_go]; exact sp_mem hk)).2
          by_cases hkj : k ≤ j
          · rw [if_pos hkj]
            have hkl : k < l.counts.length := by omega
            have he := sp_end hkl
            have hmono : (l.counts[k]).1 ≤ (l.counts[j]).1 := by
              by_cases e : k = j
              · subst e; exact Int.le_refl _
              · have h1 := sp_first hl hkl (show j < l.counts.length + 1 by omega) (by omega)
                have h2 := (spansGo_ok l.counts 0 (counts_asc hl) _ (by rw [← spansL_go]; exact sp_mem (show j < l.counts.length + 1 by omega))).2 _ (sp_end hj)
                omega
            cases hdi : dayIn m (sp l k) (lAt l i).1 with
            | none =>
              exfalso
              unfold dayIn at hdi
              split at hdi
              · rw [he] at hdi; cases hdi
              · cases hdi
            | some e =>
              have g := (day_in hcan hso hdi).2.2 _ he
              simp only
              rw [if_pos (by omega)]
          · rw [if_neg hkj]
            cases hdi : dayIn m (sp l k) (lAt l i).1 with
            | none => rfl
            | some e =>
              have g := (day_in hcan hso hdi).2.1
              have h1 := sp_first hl hj hk (by omega)
              simp only
              rw [if_neg (by omega)]
        · have : fw f i k = 0 := by omega
          rw [this]
          cases dayIn m (sp l k) (lAt l i).1 with
          | none => simp
          | some e => simp
      · rw [if_neg h, if_neg h]
        have : sm (j + 1) (fw f i) = 0 := by
          rw [sm_congr (g := fun _ => 0) fun k hk => ?_, sm_zero]
          have fnn := hf.nn i hi k (by omega)
          by_cases h0 : 0 < fw f i k
          · exfalso
            have hcan := cas i k hi (by omega) h0
            unfold canS at hcan
            have hkl : k < l.counts.length := by omega
            rw [sp_end hkl] at hcan
            have hmono : (l.counts[k]).1 ≤ (l.counts[j]).1 := by
              by_cases e : k = j
              · subst e; exact Int.le_refl _
              · have h1 := sp_first hl hkl (show j < l.counts.length + 1 by omega) (by omega)
                have h2 := (spansGo_ok l.counts 0 (counts_asc hl) _ (by rw [← spansL_go]; exact sp_mem (show j < l.counts.length + 1 by omega))).2 _ (sp_end hj)
                omega
            simp only [decide_eq_true_eq] at hcan
            omega
          · omega
        omega
    rw [sm_congr by_, sm_sub]
    have h1 : sm l.lots.length (fun i => if (lAt l i).1 ≤ (l.counts[j]).1 then (lAt l i).2 else 0) = upTo l.lots (l.counts[j]).1 := upTo_sm.symm
    have h2 : sm l.lots.length (fun i => sm (j + 1) (fw f i)) = sm (j + 1) (iat (nums l)) := by
      rw [show sm l.lots.length (fun i => sm (j + 1) (fw f i)) = sm l.lots.length (fun i => sm (j + 1) fun k => fw f i k) from rfl, sm_swap]
      exact sm_congr fun k hk => hf.col k (by omega)
    have s := nl_sum (lots := l.lots) l.counts 0 0 (counts_asc hl) j hj
    rw [← nums_nl, upTo_neg fun p hp => by have := hl.lots.rng p hp; omega] at s
    rw [h1, h2, s]
    omega
  · rw [creditWith_sm hlen]
    unfold cost
    refine sm_congr fun i hi => ?_
    have h1 := sal_credit (m := m) (b := (lAt l i).1) (g := creditOf l (lAt l i).1) (nn i hi)
    rw [rowsum i hi] at h1
    have h2 := zs (fun s x => x * creditOf l (lAt l i).1 (dayIn m s (lAt l i).1)) i hi
    unfold lotC
    rw [tat i hi, ← h1, h2]
    refine sm_congr fun k hk => ?_
    have fnn := hf.nn i hi k hk
    by_cases h0 : 0 < fw f i k
    · rw [cv_worths hi hk (cas i k hi hk h0)]
    · have : fw f i k = 0 := by omega
      rw [this]; simp
  · obtain ⟨a, ha⟩ := mem_zip_right hlen s hs
    obtain ⟨i, hi, e⟩ := allI _ ha
    have hs' : s = tAt (salesOf l m f) i := congrArg Prod.snd e
    rw [hs', tat i hi] at hp
    obtain ⟨q, hq, h0, hdy, _⟩ := sal_mem hp
    have hsp := spansGo_hi (D := D) l.counts 0 hcD h0D q.1 (by rw [← spansL_go]; exact (List.of_mem_zip hq).1)
    have := hlD _ (zip_at hlen hi).2
    unfold dayIn at hdy
    split at hdy
    · exact hsp.2 _ hdy
    · simp only [Option.some.injEq] at hdy; split at hdy <;> omega
end My

/-! N19: the law's view of bounds. -/
namespace My
open Pv Fl
open PySem (Str)
/-- both bounds, or None -/
noncomputable def eB (l : L) : D := if hasTr l then .tup [.int (bnd l false), .int (bnd l true)] else .non
theorem mul_non4 : binD .mul (.lst [.non]) (.int 4) = some (.lst [.non, .non, .non, .non]) := by rfl
theorem eq_non4 : cmpD .eq (.lst [.non, .non, .non, .non]) (.lst [.non, .non, .non, .non]) = some (.bl true) := (cmp_eq (by decide +kernel) (by decide +kernel)).trans (congrArg (fun b => some (D.bl b)) (by decide +kernel))
section
variable {n : Nat} {l : L} {S : Sto}
/-- a truth with the bound is a truth, with the bound -/
theorem truth_with_ok {m : Bool} (hl : l.Ok) (h : hasTr l = true) : ∃ t, go (n + 6) i_truth_with [eL l, wD m] S = .ok (eT t) S ∧ Truth l t ∧ creditWith l t = bnd l m := by
  obtain ⟨f, e, hd, hb⟩ := r_truth_with (n0 := n) (S := S) (m := m) hl h
  have tf := truth_of_flow (m := m) hl (shape_worths hl) hd hb.1
  exact ⟨_, e, tf.1, by rw [tf.2.1]; exact (bnd_is ⟨_, rfl, hb⟩).symm⟩
theorem r_law_right_no (hl : l.Ok) (h : hasTr l = false) : go (n + 11) i_law_right [eL l, .non] S = .ok (.bl true) S := by
  rw [go_step e_law_right rfl]
  have hb : ∀ m, go (n + 10) i_bound [eL l, wD m] S = .ok .non S := fun m => by rw [r_bound (n0 := n + 2) hl, h]; rfl
  have ht : ∀ m, go (n + 10) i_truth_with [eL l, wD m] S = .ok .non S := fun m => r_truth_none (n0 := n + 4) hl h
  have hs : go (n + 10) i_spread [eL l] S = .ok .non S := by rw [r_spread hl, h]; rfl
  simp [f_law_right, t_law_right, t_law_right_s1, w_least, w_most, comps, mul_non4, eq_non4, hb, ht, hs]
theorem r_law_right_yes (hl : l.Ok) (h : hasTr l = true) : go (n + 11) i_law_right [eL l, .tup [.int (bnd l false), .int (bnd l true)]] S = .ok (.bl true) S := by
  rw [go_step e_law_right rfl]
  have hb : ∀ m, go (n + 10) i_bound [eL l, wD m] S = .ok (.int (bnd l m)) S := fun m => by rw [r_bound (n0 := n + 2) hl, h]; rfl
  obtain ⟨t1, e1, g1, c1⟩ := truth_with_ok (n := n + 4) (S := S) (m := false) hl h
  obtain ⟨t2, e2, g2, c2⟩ := truth_with_ok (n := n + 4) (S := S) (m := true) hl h
  have e1 : go (n + 10) i_truth_with [eL l, wD false] S = _ := e1
  have e2 : go (n + 10) i_truth_with [eL l, wD true] S = _ := e2
  have hs : go (n + 10) i_spread [eL l] S = .ok (.int (bnd l true - bnd l false)) S := by rw [r_spread hl, h]; rfl
  have i1 : go (n + 10) i_law_is_truth [eL l, eT t1] S = _ := r_law_is_truth (n := n + 8) (S := S) hl (plain_eT (n := 0) (t := t1))
  have i2 : go (n + 10) i_law_is_truth [eL l, eT t2] S = _ := r_law_is_truth (n := n + 8) (S := S) hl (plain_eT (n := 0) (t := t2))
  rw [truthB_iff.mpr ⟨t1, rfl, g1⟩] at i1
  rw [truthB_iff.mpr ⟨t2, rfl, g2⟩] at i2
  have s1 : go (n + 10) i_law_sum [eL l, eT t1] S = _ := r_law_sum (n := n + 8) (S := S) (t := t1) hl
  have s2 : go (n + 10) i_law_sum [eL l, eT t2] S = _ := r_law_sum (n := n + 8) (S := S) (t := t2) hl
  rw [c1] at s1
  rw [c2] at s2
  simp [f_law_right, t_law_right, t_law_right_s1, t_law_right_s2, t_law_right_s3, t_law_right_b1, w_least, w_most, fors, zipD, ix2_0, ix2_1, hb, hs, e1, e2, i1, i2, s1, s2]
theorem r_law_right (hl : l.Ok) : go (n + 11) i_law_right [eL l, eB l] S = .ok (.bl true) S := by
  unfold eB
  cases h : hasTr l with
  | false => exact r_law_right_no hl h
  | true => exact r_law_right_yes hl h
end
end My

/-! N20: so many times as many pieces. -/
namespace My
open Pv Fl
open PySem (Str)
def mulP (a : Int) (p : Int × Int) : Int × Int := (p.1, p.2 * a)
def timesL (l : L) (a : Int) : L := ⟨l.lots.map (mulP a), l.counts.map (mulP a), l.falls, l.win⟩
section
variable {l : L} {a : Int} {m : Bool}
theorem spans_times : spansL (timesL l a) = spansL l := by simp [spansL, timesL, mulP, Function.comp_def]
theorem sum_mulr : ∀ (ps : List (Int × Int)), ((ps.map (mulP a)).map (·.2)).sum = (ps.map (·.2)).sum * a
  | [] => by simp
  | p :: r => by
    have := sum_mulr r
    simp only [List.map_cons, List.sum_cons, this, mulP, Int.add_mul]
theorem bought_times {s : Int × Option Int} : boughtIn (timesL l a) s = boughtIn l s * a := by
  unfold boughtIn timesL
  simp only
  rw [List.filter_map, sum_mulr]
  rfl
theorem numsGo_times : ∀ (qs : List ((Int × Option Int) × Int)) (left : Int), numsGo (timesL l a) (left * a) (qs.map fun q => (q.1, q.2 * a)) = (numsGo l left qs).map (· * a)
  | [], _ => rfl
  | q :: r, left => by
    simp only [List.map_cons, numsGo, bought_times, numsGo_times r q.2, Int.sub_mul, Int.add_mul]
theorem nums_times : nums (timesL l a) = (nums l).map (· * a) := by
  unfold nums
  rw [spans_times]
  have e : (timesL l a).counts.map (·.2) ++ [0] = ((l.counts.map (·.2) ++ [0] : List Int).map (fun (x : Int) => x * a) : List Int) := by simp [timesL, mulP, Function.comp_def]
  rw [e, List.zip_map_right]
  have := numsGo_times (l := l) (a := a) ((spansL l).zip (l.counts.map (·.2) ++ [0])) 0
  rw [Int.zero_mul] at this
  rw [← this]
  rfl
theorem has_times (ha : 0 < a) : hasTr (timesL l a) = hasTr l := by
  unfold hasTr
  rw [nums_times, List.all_map]
  congr 1
  funext x
  simp only [Function.comp_apply, decide_eq_decide]
  constructor
  · intro h
    by_cases h0 : 0 ≤ x
    · exact h0
    · exact absurd (Int.mul_neg_of_neg_of_pos (show x < 0 by omega) ha) (by omega)
  · exact fun h => Int.mul_nonneg h (by omega)
theorem worths_times : worths (timesL l a) m = worths l m := by
  unfold worths
  rw [spans_times]
  simp only [timesL, List.map_map]
  rfl
theorem lots_times : (timesL l a).lots.length = l.lots.length := by simp [timesL]
theorem counts_times : (timesL l a).counts.length = l.counts.length := by simp [timesL]
theorem iat_mul {xs : List Int} {k : Nat} : iat (xs.map (· * a)) k = iat xs k * a := by
  unfold iat
  rw [List.getElem?_map]
  cases xs[k]? <;> simp
theorem cost_scale {n K : Nat} {c : Cs} {f : Fw} : cost n K c (fun i k => f i k * a) = cost n K c f * a := by
  unfold cost
  rw [← sm_mulr]
  refine sm_congr fun i _ => ?_
  rw [← sm_mulr]
  refine sm_congr fun k _ => ?_
  rw [Int.mul_assoc, Int.mul_comm a, Int.mul_assoc]
theorem full_scale {n K : Nat} {c : Cs} {p b p' b' : Nat → Int} {f : Fw} (ha : 0 < a) (h : Full n K c p b f) (hp : ∀ i, i < n → p' i = p i * a) (hb : ∀ k, k < K → b' k = b k * a) : Full n K c p' b' (fun i k => f i k * a) :=
  ⟨⟨fun i hi k hk => Int.mul_nonneg (h.nn i hi k hk) (by omega), fun i hi k hk h0 => h.al i hi k hk (by
    have := h.nn i hi k hk
    by_cases e : f i k = 0
    · rw [e] at h0; simp at h0
    · omega)⟩, fun i hi => by rw [hp i hi, ← h.row i hi, sm_mulr], fun k hk => by rw [hb k hk, ← h.col k hk, sm_mulr]⟩
theorem bound_times (hl : l.Ok) (ha : 0 < a) (h : hasTr l = true) : BoundIs (timesL l a) m (bnd l m * a) := by
  obtain ⟨f, _, hd, hb, π, hp⟩ := r_best_flow (n0 := 0) (S := []) (m := m) hl (hasTr_iff.mp h) (shape_worths (m := m) hl)
  have hv : bnd l m = _ := bnd_is ⟨_, rfl, hb⟩
  have hf := full_scale (p' := iat (pcs (timesL l a))) (b' := iat (nums (timesL l a))) ha hb.1 (fun i _ => by
    show iat ((l.lots.map (mulP a)).map (·.2)) i = _
    rw [List.map_map, ← iat_mul]
    unfold pcs
    rw [List.map_map]
    rfl) (fun k _ => by rw [nums_times, iat_mul])
  refine ⟨fun i k => fw f i k * a, ?_, ?_⟩
  · rw [lots_times, counts_times, worths_times, cost_scale, hv]
  · unfold Best
    rw [lots_times, counts_times, worths_times]
    refine ⟨hf, fun g hg => ?_⟩
    have lt := least (π := π) (full_signed (m := m) |>.mpr hf) (fun i hi h hh t ht h0 => hp i hi h hh t ht (by
      have := hb.1.nn i hi h hh
      by_cases e : fw f i h = 0
      · simp only [e, Int.zero_mul] at h0; omega
      · omega)) (full_signed (m := m) |>.mpr hg)
    rw [cost_signed, cost_signed] at lt
    cases m
    · simp only [sgn, Bool.false_eq_true, if_false] at lt ⊢; omega
    · simp only [sgn, if_true] at lt ⊢; omega
theorem bnd_times (hl : l.Ok) (ha : 0 < a) (h : hasTr l = true) : bnd (timesL l a) m = bnd l m * a := bnd_is (bound_times hl ha h)
end
theorem r_law_times {n : Nat} {l : L} {a : Int} {S : Sto} (hl : l.lots.length ≤ maxLen) (hc : l.counts.length ≤ maxLen) (h1 : ∀ p ∈ l.lots, p.2.natAbs < 2 ^ 64) (h2 : ∀ p ∈ l.counts, p.2.natAbs < 2 ^ 64) : go (n + 1) i_law_times [eL l, .int a] S = .ok (eL (timesL l a)) S := by
  rw [go_step e_law_times rfl]
  have as4 : ∀ (g : G) (ρ : Env), asg (.tup g) (eL l) ρ = asg.asgs g [eP l.lots, eP l.counts, eP l.falls, .int l.win] ρ := fun g ρ => rfl
  simp [f_law_times, t_law_times, as4]
  rw [comps_all (enc := ePr) (f := fun p => ePr (mulP a p)) (fun p hp => ⟨_, by simp; rfl, by simp, by simp [bin_mul (mulOk_l (h1 p hp))]; rfl⟩) hl]
  simp
  rw [comps_all (enc := ePr) (f := fun p => ePr (mulP a p)) (fun p hp => ⟨_, by simp; rfl, by simp, by simp [bin_mul (mulOk_l (h2 p hp))]; rfl⟩) hc]
  simp [eL, timesL, eP, Function.comp_def]
end My

/-! N21: all flows of the law. Plain lists. -/
namespace My
open Pv Fl
open PySem (Str)
/-- the most pieces that go into a stretch -/
def mostIn (b p : Int) (s : Int × Option Int) (r : List Int) : Int := if canS s b then p - r.sum else 0
def rowsNext (b p : Int) (rows : List (List Int)) (s : Int × Option Int) : List (List Int) := rows.flatMap fun r => (List.range (mostIn b p s r + 1).toNat).map fun (j : Nat) => r ++ [(j : Int)]
def rowsAll (b p : Int) (ss : List (Int × Option Int)) : List (List Int) := ss.foldl (rowsNext b p) [[]]
def subL (a b : List Int) : List Int := (a.zip b).map fun q => q.1 - q.2
def rowIn (p : Int) (free r : List Int) : Bool := decide (r.sum = p) && (subL free r).all fun x => decide (0 ≤ x)
def flowNext (ss : List (Int × Option Int)) (found : List (List (List Int) × List Int)) (lot : Int × Int) : List (List (List Int) × List Int) :=
  found.flatMap fun q => ((rowsAll lot.1 lot.2 ss).filter (rowIn lot.2 q.2)).map fun r => (q.1 ++ [r], subL q.2 r)
def zeroL (free : List Int) : Bool := free.all fun x => decide (x = 0)
def flowsL (l : L) : List (List (List Int)) := ((l.lots.foldl (flowNext (spansL l)) [([], nums l)]).filter fun q => zeroL q.2).map (·.1)
/-- all ends of a flow -/
def outs (ss : List (Int × Option Int)) : List (Int × Int) → List Int → List (List (List Int))
  | [], free => if zeroL free then [[]] else []
  | lot :: r, free => ((rowsAll lot.1 lot.2 ss).filter (rowIn lot.2 free)).flatMap fun row => (outs ss r (subL free row)).map (row :: ·)
theorem flows_outs {ss : List (Int × Option Int)} : ∀ (lots : List (Int × Int)) (found : List (List (List Int) × List Int)), ((lots.foldl (flowNext ss) found).filter fun q => zeroL q.2).map (·.1) = found.flatMap fun q => (outs ss lots q.2).map (q.1 ++ ·)
  | [], found => by
    simp only [List.foldl_nil, outs]
    induction found with
    | nil => rfl
    | cons q r ih =>
      simp only [List.filter_cons, List.flatMap_cons]
      cases h : zeroL q.2 <;> simp [ih]
  | lot :: lots, found => by
    rw [List.foldl_cons, flows_outs lots]
    unfold flowNext
    rw [List.flatMap_assoc]
    congr 1
    funext q
    simp only [outs]
    rw [List.map_flatMap, List.flatMap_map]
    congr 1
    funext r
    simp
theorem flowsL_outs {l : L} : flowsL l = outs (spansL l) l.lots (nums l) := by
  unfold flowsL
  rw [flows_outs]
  simp
/-- what goes on after a row that comes to s -/
def Suf (b p : Int) : Int → List (Int × Option Int) → List Int → Prop
  | _, [], [] => True
  | s, t :: ts, x :: xs => 0 ≤ x ∧ x ≤ (if canS t b then p - s else 0) ∧ Suf b p (s + x) ts xs
  | _, _, _ => False
theorem mem_rows {b p : Int} : ∀ (ss : List (Int × Option Int)) (rows : List (List Int)) (r : List Int), r ∈ ss.foldl (rowsNext b p) rows ↔ ∃ r0 ∈ rows, ∃ xs, r = r0 ++ xs ∧ Suf b p r0.sum ss xs
  | [], rows, r => by
    constructor
    · intro h
      exact ⟨r, h, [], by simp, trivial⟩
    · rintro ⟨r0, h, xs, rfl, hs⟩
      cases xs with
      | nil => simpa using h
      | cons x xs => exact hs.elim
  | t :: ts, rows, r => by
    rw [List.foldl_cons, mem_rows ts]
    constructor
    · rintro ⟨r1, h1, xs, rfl, hs⟩
      obtain ⟨r0, h0, h2⟩ := List.mem_flatMap.mp h1
      obtain ⟨j, hj, rfl⟩ := List.mem_map.mp h2
      rw [List.mem_range] at hj
      refine ⟨r0, h0, (j : Int) :: xs, by simp, by omega, ?_, ?_⟩
      · unfold mostIn at hj
        omega
      · simpa using hs
    · rintro ⟨r0, h0, xs, rfl, hs⟩
      cases xs with
      | nil => exact hs.elim
      | cons x xs =>
        obtain ⟨a, c, d⟩ := hs
        refine ⟨r0 ++ [x], List.mem_flatMap.mpr ⟨r0, h0, List.mem_map.mpr ⟨x.toNat, ?_, ?_⟩⟩, xs, by simp, by simpa using d⟩
        · rw [List.mem_range]
          unfold mostIn
          omega
        · rw [Int.toNat_of_nonneg a]
/-- a lot's row -/
def RowOk (b : Int) (ss : List (Int × Option Int)) (r : List Int) : Prop := r.length = ss.length ∧ ∀ q ∈ ss.zip r, 0 ≤ q.2 ∧ (0 < q.2 → canS q.1 b = true)
theorem suf_iff {b p : Int} : ∀ (ss : List (Int × Option Int)) (xs : List Int) (s : Int), s + xs.sum = p → (Suf b p s ss xs ↔ RowOk b ss xs)
  | [], [], _, _ => by simp [Suf, RowOk]
  | [], _ :: _, _, _ => by simp [Suf, RowOk]
  | _ :: _, [], _, _ => by simp [Suf, RowOk]
  | t :: ts, x :: xs, s, h => by
    rw [List.sum_cons] at h
    have ih := suf_iff (b := b) (p := p) ts xs (s + x) (by omega)
    simp only [Suf, ih, RowOk, List.length_cons, List.zip_cons_cons, List.forall_mem_cons]
    constructor
    · rintro ⟨h1, h2, h3, h4⟩
      refine ⟨by omega, ⟨h1, fun h0 => ?_⟩, h4⟩
      cases hc : canS t b with
      | true => rfl
      | false => rw [hc] at h2; simp at h2; omega
    · rintro ⟨h1, ⟨h2, h3⟩, h4⟩
      refine ⟨h2, ?_, by omega, h4⟩
      have nn : 0 ≤ xs.sum := by
        have hl : xs.length = ts.length := by omega
        clear ih h3 h h1
        induction xs generalizing ts with
        | nil => simp
        | cons y ys ihy =>
          cases ts with
          | nil => simp at hl
          | cons u us =>
            rw [List.zip_cons_cons, List.forall_mem_cons] at h4
            have := ihy us h4.2 (by simpa using hl)
            have := h4.1.1
            rw [List.sum_cons]; omega
      split
      · omega
      · rename_i hc
        by_cases h0 : 0 < x
        · exact absurd (h3 h0) hc
        · omega
theorem mem_rowsAll {b p : Int} {ss : List (Int × Option Int)} {r : List Int} : r ∈ rowsAll b p ss ∧ r.sum = p ↔ RowOk b ss r ∧ r.sum = p := by
  unfold rowsAll
  rw [mem_rows]
  constructor
  · rintro ⟨⟨r0, h0, xs, rfl, hs⟩, h⟩
    rw [List.mem_singleton] at h0
    subst h0
    exact ⟨(suf_iff ss xs 0 (by simpa using h)).mp (by simpa using hs), h⟩
  · rintro ⟨h1, h⟩
    exact ⟨⟨[], by simp, r, by simp, (suf_iff ss r 0 (by simpa using h)).mpr h1⟩, h⟩
theorem subL_len {a b : List Int} (h : b.length = a.length) : (subL a b).length = a.length := by unfold subL; rw [List.length_map, List.length_zip]; omega
theorem iat_sub {a b : List Int} {k : Nat} (h : b.length = a.length) (hk : k < a.length) : iat (subL a b) k = iat a k - iat b k := by
  have hb : k < b.length := by omega
  unfold iat subL
  rw [List.getElem?_map, List.getElem?_eq_getElem (by rw [List.length_zip]; omega), List.getElem?_eq_getElem hk, List.getElem?_eq_getElem hb]
  simp
theorem row_nn {b : Int} {ss : List (Int × Option Int)} {r : List Int} (h : RowOk b ss r) (k : Nat) : 0 ≤ iat r k := by
  by_cases hk : k < r.length
  · have hk2 : k < ss.length := by rw [← h.1]; exact hk
    have hz : k < (ss.zip r).length := by rw [List.length_zip]; omega
    have := (h.2 _ (List.getElem_mem hz)).1
    rw [List.getElem_zip] at this
    simpa [iat, hk] using this
  · unfold iat
    rw [List.getElem?_eq_none (by omega)]
    simp
theorem all_iat {P : Int → Bool} {xs : List Int} : xs.all P = true ↔ ∀ k, k < xs.length → P (iat xs k) = true := by
  rw [List.all_eq_true]
  constructor
  · intro h k hk
    have := h _ (List.getElem_mem hk)
    simpa [iat, hk] using this
  · intro h x hx
    obtain ⟨k, hk, rfl⟩ := List.mem_iff_getElem.mp hx
    have := h k hk
    simpa [iat, hk] using this
theorem fw_zero {r : List Int} {fl : List (List Int)} {k : Nat} : fw (r :: fl) 0 k = iat r k := by simp [fw]
theorem fw_succ {r : List Int} {fl : List (List Int)} {i k : Nat} : fw (r :: fl) (i + 1) k = fw fl i k := by simp [fw]
theorem mem_outs {ss : List (Int × Option Int)} : ∀ (lots : List (Int × Int)) (free : List Int) (fl : List (List Int)), free.length = ss.length →
    (fl ∈ outs ss lots free ↔ fl.length = lots.length ∧ (∀ q ∈ lots.zip fl, RowOk q.1.1 ss q.2 ∧ q.2.sum = q.1.2) ∧ ∀ k, k < ss.length → iat free k = sm lots.length (fun i => fw fl i k))
  | [], free, fl, hf => by
    unfold outs
    cases hz : zeroL free with
    | true =>
      rw [if_pos rfl, List.mem_singleton]
      constructor
      · rintro rfl
        refine ⟨rfl, by simp, fun k hk => ?_⟩
        have := all_iat.mp hz k (by omega)
        simpa [sm] using this
      · rintro ⟨h1, _, _⟩
        exact List.eq_nil_of_length_eq_zero h1
    | false =>
      rw [if_neg (by simp)]
      constructor
      · intro h; cases h
      · rintro ⟨h1, _, h3⟩
        have : zeroL free = true := all_iat.mpr fun k hk => by
          have := h3 k (by omega)
          simpa [sm] using this
        rw [this] at hz
        cases hz
  | lot :: lots, free, fl, hf => by
    simp only [outs, List.mem_flatMap, List.mem_map, List.mem_filter, rowIn, Bool.and_eq_true, decide_eq_true_eq]
    constructor
    · rintro ⟨row, ⟨h1, h2, h3⟩, fl', h4, rfl⟩
      have hr := (mem_rowsAll.mp ⟨h1, h2⟩).1
      have hl : row.length = free.length := by rw [hr.1, hf]
      obtain ⟨g1, g2, g3⟩ := (mem_outs lots (subL free row) fl' (by rw [subL_len hl, hf])).mp h4
      refine ⟨by simp [g1], ?_, fun k hk => ?_⟩
      · rw [List.zip_cons_cons, List.forall_mem_cons]
        exact ⟨⟨hr, h2⟩, g2⟩
      · have := g3 k hk
        rw [iat_sub hl (by omega)] at this
        rw [List.length_cons, sm_shift, fw_zero]
        simp only [fw_succ]
        omega
    · rintro ⟨h1, h2, h3⟩
      cases fl with
      | nil => simp at h1
      | cons row fl' =>
        rw [List.zip_cons_cons, List.forall_mem_cons] at h2
        obtain ⟨⟨hr, hs⟩, h2⟩ := h2
        simp only at hr hs
        have hl : row.length = free.length := by rw [hr.1, hf]
        have hl' : fl'.length = lots.length := by simpa using h1
        have col : ∀ k, k < ss.length → iat (subL free row) k = sm lots.length (fun i => fw fl' i k) := fun k hk => by
          have := h3 k hk
          rw [List.length_cons, sm_shift, fw_zero] at this
          simp only [fw_succ] at this
          rw [iat_sub hl (by omega)]
          omega
        refine ⟨row, ⟨(mem_rowsAll.mpr ⟨hr, hs⟩).1, hs, ?_⟩, fl', (mem_outs lots (subL free row) fl' (by rw [subL_len hl, hf])).mpr ⟨hl', h2, col⟩, rfl⟩
        rw [all_iat]
        intro k hk
        rw [subL_len hl] at hk
        rw [col k (by omega)]
        refine decide_eq_true (sm_nonneg fun i hi => ?_)
        have hi' : i < fl'.length := by omega
        have := (h2 (lots[i], fl'[i]) (by rw [List.mem_iff_getElem]; exact ⟨i, by rw [List.length_zip]; omega, by simp⟩)).1
        have := row_nn this k
        simpa [fw, hi'] using this
/-- the law's flows are all whole flows -/
theorem mem_flows {l : L} {m : Bool} {fl : List (List Int)} : fl ∈ flowsL l ↔ Dim l.lots.length (l.counts.length + 1) fl ∧ Full l.lots.length (l.counts.length + 1) (cs (worths l m)) (iat (pcs l)) (iat (nums l)) (fw fl) := by
  have spl : (spansL l).length = l.counts.length + 1 := spansL_len
  have nl : (nums l).length = (spansL l).length := by rw [nums_len, spl]
  have pat : ∀ i, i < l.lots.length → iat (pcs l) i = (lAt l i).2 := fun i hi => by simp [iat, pcs, lAt, hi]
  have wor : ∀ i k, i < l.lots.length → k < l.counts.length + 1 → ((∃ x, cs (worths l m) i k = some x) ↔ canS (sp l k) (lAt l i).1 = true) := fun i k hi hk => by
    rw [worths_at hi hk]
    unfold worthIn
    cases canS (sp l k) (lAt l i).1 <;> simp
  have get : ∀ (hl : fl.length = l.lots.length) i (hi : i < l.lots.length), (lAt l i, fl[i]) ∈ l.lots.zip fl := fun hl i hi => by
    rw [List.mem_iff_getElem]
    exact ⟨i, by rw [List.length_zip]; omega, by simp [lAt, hi]⟩
  have fwe : ∀ i (hi : i < fl.length) k, fw fl i k = iat fl[i] k := fun i hi k => by simp [fw, hi]
  rw [flowsL_outs, mem_outs _ _ _ nl]
  constructor
  · rintro ⟨h1, h2, h3⟩
    refine ⟨⟨h1, fun r hr => ?_⟩, ⟨⟨fun i hi k hk => ?_, fun i hi k hk h0 => ?_⟩, fun i hi => ?_, fun k hk => (h3 k (by omega)).symm⟩⟩
    · obtain ⟨a, ha⟩ := mem_zip_right h1 r hr
      rw [(h2 _ ha).1.1, spl]
    · rw [fwe i (by omega)]
      exact row_nn (h2 _ (get h1 i hi)).1 k
    · rw [wor i k hi hk]
      have hr := (h2 _ (get h1 i hi)).1
      simp only at hr
      rw [fwe i (by omega)] at h0
      have hk2 : k < (spansL l).length := by omega
      have hk3 : k < (fl[i]).length := by rw [hr.1]; omega
      have := (hr.2 (sp l k, iat fl[i] k) (by
        rw [List.mem_iff_getElem]
        exact ⟨k, by rw [List.length_zip]; omega, by rw [List.getElem_zip, sp_get hk2]; simp [iat, hk3]⟩)).2
      exact this h0
    · have hr := h2 _ (get h1 i hi)
      rw [pat i hi, ← hr.2, ← sm_list, hr.1.1, spl]
      exact sm_congr fun k hk => fwe i (by omega) k
  · rintro ⟨hd, hf⟩
    refine ⟨hd.len, fun q hq => ?_, fun k hk => (hf.col k (by omega)).symm⟩
    obtain ⟨i, hi, rfl⟩ := List.mem_iff_getElem.mp hq
    rw [List.length_zip, hd.len] at hi
    have hi1 : i < l.lots.length := by omega
    have hi2 : i < fl.length := by rw [hd.len]; exact hi1
    have rl : (fl[i]).length = (spansL l).length := by rw [spl]; exact hd.row _ (List.getElem_mem hi2)
    rw [List.getElem_zip]
    simp only
    have la : lAt l i = l.lots[i] := by simp [lAt, hi1]
    refine ⟨⟨rl, fun q hq => ?_⟩, ?_⟩
    · obtain ⟨k, hk, rfl⟩ := List.mem_iff_getElem.mp hq
      rw [List.length_zip, rl] at hk
      have hk1 : k < (spansL l).length := by omega
      have hk2 : k < (fl[i]).length := by omega
      have e : (fl[i])[k] = fw fl i k := by rw [fwe i hi2]; simp [iat, hk2]
      rw [List.getElem_zip]
      simp only
      rw [e]
      refine ⟨hf.nn i hi1 k (by omega), fun h0 => ?_⟩
      have := (wor i k hi1 (by omega)).mp (hf.al i hi1 k (by omega) h0)
      rw [sp_get hk1, la] at this
      exact this
    · rw [← la, ← pat i hi1, ← hf.row i hi1, ← sm_list, rl, spl]
      exact sm_congr fun k hk => (fwe i hi2 k).symm
end My

/-! N22: all flows of the law, walked. -/
namespace My
open Pv Fl
open PySem (Str)
def eRw (r : List Int) : D := .tup (r.map .int)
def eFl (f : List (List Int)) : D := .tup (f.map eRw)
def eFq (q : List (List Int) × List Int) : D := .tup [eFl q.1, eRw q.2]
@[simp] theorem seqI_eRw {r : List Int} {S : Sto} : seqI S (eRw r) = some (r.map .int) := rfl
@[simp] theorem seqW_eRw {r : List Int} : seqW (eRw r) = some (r.map .int) := rfl
@[simp] theorem seqOf_eRw {r : List Int} {S : Sto} : seqOf S (eRw r) = some (r.map .int) := rfl
@[simp] theorem seqW_eFl {f : List (List Int)} : seqW (eFl f) = some (f.map eRw) := rfl
theorem add_eRw {r : List Int} {i : Int} (h : lenOk (r.length + 1) = true) : binD .add (eRw r) (.tup [.int i]) = some (eRw (r ++ [i])) := by
  unfold eRw
  simp [h]
theorem add_eFl {f : List (List Int)} {r : List Int} (h : lenOk (f.length + 1) = true) : binD .add (eFl f) (.tup [eRw r]) = some (eFl (f ++ [r])) := by
  unfold eFl
  simp [h]
theorem asg_eFq {g : G} {q : List (List Int) × List Int} {ρ : Env} : asg (.tup g) (eFq q) ρ = asg.asgs g [eFl q.1, eRw q.2] ρ := rfl
def rowsG (b p : Int) (s : Int × Option Int) (r : List Int) : List (List Int) := (List.range (mostIn b p s r + 1).toNat).map fun (j : Nat) => r ++ [(j : Int)]
section
variable {n : Nat} {S : Sto} {a0 a1 a2 a5 a6 a7 a11 a12 a14 : Sl} {b p : Int} {s : Int × Option Int}
theorem flows_b3 {rows : List (List Int)} (hr : ∀ r ∈ rows, 0 ≤ r.sum ∧ r.sum ≤ p ∧ r.length ≤ 10) (hp : p ≤ 3) (hn : rows.length ≤ 1000) (j : Sl × Sl) :
    ∃ j' : Sl × Sl, fors (asg (.nm 10)) (exec wrd (go n) none t_law_flows_b3) (rows.map eRw) [a0, a1, a2, .v (.int b), .v (.int p), a5, a6, a7, .v (eO s.2), .v (.lst []), j.1, a11, a12, j.2, a14, .un, .un, .un] S =
      .nx [a0, a1, a2, .v (.int b), .v (.int p), a5, a6, a7, .v (eO s.2), .v (.lst ((rows.flatMap (rowsG b p s)).map eRw)), j'.1, a11, a12, j'.2, a14, .un, .un, .un] S := by
  obtain ⟨j', e⟩ := fors_foldI (bind := asg (.nm 10)) (body := exec wrd (go n) none t_law_flows_b3) (enc := eRw) (S := S)
    (fun (lg : List (List Int)) (j : Sl × Sl) => [a0, a1, a2, .v (.int b), .v (.int p), a5, a6, a7, .v (eO s.2), .v (.lst (lg.map eRw)), j.1, a11, a12, j.2, a14, .un, .un, .un])
    (fun lg r => lg ++ rowsG b p s r) (fun lg k => lg.length + 4 * k ≤ 4000) (xs := rows) [] j (by simp; omega) (fun lg j r k hm hk => by
      obtain ⟨h1, h2, h3⟩ := hr r hm
      have hmost : 0 ≤ mostIn b p s r ∧ mostIn b p s r ≤ 3 := by unfold mostIn; split <;> omega
      have hG : (rowsG b p s r).length = (mostIn b p s r + 1).toNat := by simp [rowsG]
      refine ⟨_, by simp; rfl, by rw [List.length_append, hG]; omega, (.v (eRw r), .v (.int (mostIn b p s r))), ?_⟩
      have rg : ∀ S : Sto, rg1 (.int (mostIn b p s r + 1)) S = .ok ((List.range (mostIn b p s r + 1).toNat).map fun (i : Nat) => .int (i : Int)) S := fun S => by
        have := rg1_ok (n := (mostIn b p s r + 1).toNat) (S := S) (by omega)
        rw [Int.toNat_of_nonneg (by omega)] at this
        exact this
      have cp := comps_all (bind := fun x => some [a0, a1, a2, .v (.int b), .v (.int p), a5, a6, a7, .v (eO s.2), .v (.lst (lg.map eRw)), .v (eRw r), a11, a12, .v (.int (mostIn b p s r)), a14, .v x, .un, .un])
        (cond := ev wrd (go n) (.lit (.bl true))) (elt := ev wrd (go n) (.bin .add (.var 10) (.tup (.cons (.var 15) .nil)))) (enc := fun (i : Nat) => D.int (i : Int)) (f := fun (i : Nat) => eRw (r ++ [(i : Int)])) (S := S)
        (xs := List.range (mostIn b p s r + 1).toNat) (fun i hi => ⟨_, rfl, by simp, by simp [add_eRw (lenOk_of (show r.length + 1 ≤ maxLen by unfold maxLen; omega))]⟩) (by simp; unfold maxLen; omega)
      have ll : lenOk ((mostIn b p s r + 1).toNat + lg.length) = true := lenOk_of (by unfold maxLen; omega)
      have ll2 : lenOk (lg.length + (mostIn b p s r + 1).toNat) = true := lenOk_of (by unfold maxLen; omega)
      have fin : ∀ v : D, v = .int (mostIn b p s r) → (exec wrd (go n) none (.seq (.set false 9 (.bin .add (.var 9) (.comp [15] (.nm 15) (.rng1 (.bin .add (.var 13) (.lit (.int 1)))) (.lit (.bl true)) (.bin .add (.var 10) (.tup (.cons (.var 15) .nil)))))) .skip) [a0, a1, a2, .v (.int b), .v (.int p), a5, a6, a7, .v (eO s.2), .v (.lst (lg.map eRw)), .v (eRw r), a11, a12, .v v, a14, .un, .un, .un] S) =
          .nx [a0, a1, a2, .v (.int b), .v (.int p), a5, a6, a7, .v (eO s.2), .v (.lst ((lg ++ rowsG b p s r).map eRw)), .v (eRw r), a11, a12, .v (.int (mostIn b p s r)), a14, .un, .un, .un] S := fun v hv => by
        subst hv
        simp [rg]
        rw [cp]
        simp [ll, ll2, rowsG, Function.comp_def]
      have v13 : ev wrd (go n) (.ite (.or (.cmp .is (.var 8) (.lit .non)) (.cmp .le (.var 3) (.var 8))) (.bin .sub (.var 4) (.blt .sum (.cons (.var 10) .nil))) (.lit (.int 0)))
          [a0, a1, a2, .v (.int b), .v (.int p), a5, a6, a7, .v (eO s.2), .v (.lst (lg.map eRw)), .v (eRw r), a11, a12, j.2, a14, .un, .un, .un] S = .ok (.int (mostIn b p s r)) S := by
        cases hs : s.2 with
        | none =>
          have hm2 : mostIn b p s r = p - r.sum := by simp [mostIn, canS, hs]
          simp [eO, hm2]
        | some e =>
          by_cases hb : b ≤ e
          · have hm2 : mostIn b p s r = p - r.sum := by simp [mostIn, canS, hs, hb]
            simp [eO, hm2, hb]
          · have hm2 : mostIn b p s r = 0 := by simp [mostIn, canS, hs, hb]
            simp [eO, hm2, hb]
      unfold t_law_flows_b3
      rw [x_seq, x_set, v13]
      exact fin _ rfl)
  rw [foldl_app, List.nil_append] at e
  exact ⟨j', e⟩
theorem rowsNext_G {rows : List (List Int)} : rowsNext b p rows s = rows.flatMap (rowsG b p s) := rfl
theorem flat_len {α β : Type} {g : α → List β} {m : Nat} : ∀ {xs : List α}, (∀ x ∈ xs, (g x).length ≤ m) → (xs.flatMap g).length ≤ xs.length * m
  | [], _ => by simp
  | x :: xs, h => by
    have h1 := h x (by simp)
    have h2 := flat_len (g := g) (m := m) (xs := xs) fun y hy => h y (List.mem_cons_of_mem _ hy)
    rw [List.flatMap_cons, List.length_append, List.length_cons, Nat.add_mul]
    omega
/-- what holds of rows, k stretches being left -/
structure RInv (p : Int) (rows : List (List Int)) (k : Nat) : Prop where
  each : ∀ r ∈ rows, 0 ≤ r.sum ∧ r.sum ≤ p ∧ r.length + k ≤ 4
  len : rows.length * 4 ^ k ≤ 256
theorem RInv.next {rows : List (List Int)} {k : Nat} (h : RInv p rows (k + 1)) (hp : p ≤ 3) : RInv p (rowsNext b p rows s) k := by
  refine ⟨fun r hr => ?_, ?_⟩
  · obtain ⟨r0, h0, h1⟩ := List.mem_flatMap.mp hr
    obtain ⟨j, hj, rfl⟩ := List.mem_map.mp h1
    rw [List.mem_range] at hj
    have hm := h.each r0 h0
    unfold mostIn at hj
    rw [List.sum_append, List.length_append]
    simp only [List.sum_cons, List.sum_nil, List.length_cons, List.length_nil]
    split at hj <;> omega
  · have := flat_len (g := rowsG b p s) (m := 4) (xs := rows) fun r hr => by
      have hm := h.each r hr
      simp only [rowsG, List.length_map, List.length_range]
      unfold mostIn
      split <;> omega
    have h2 := h.len
    rw [Nat.pow_succ, Nat.mul_comm (4 ^ k) 4, ← Nat.mul_assoc] at h2
    exact Nat.le_trans (Nat.mul_le_mul_right _ this) h2
theorem flows_b2 {ss : List (Int × Option Int)} (h0 : 0 ≤ p) (hp : p ≤ 3) (hss : ss.length ≤ 4) (j : Sl × Sl × Sl × Sl × Sl) :
    ∃ j' : Sl × Sl × Sl × Sl × Sl, fors (asg (.tup (.cons (.nm 7) (.cons (.nm 8) .nil)))) (exec wrd (go n) none t_law_flows_b2) (ss.map eS) [a0, a1, a2, .v (.int b), .v (.int p), .v (.lst [.tup []]), a6, j.1, j.2.1, j.2.2.1, j.2.2.2.1, a11, a12, j.2.2.2.2, a14, .un, .un, .un] S =
      .nx [a0, a1, a2, .v (.int b), .v (.int p), .v (.lst ((rowsAll b p ss).map eRw)), a6, j'.1, j'.2.1, j'.2.2.1, j'.2.2.2.1, a11, a12, j'.2.2.2.2, a14, .un, .un, .un] S := by
  obtain ⟨j', e⟩ := fors_foldI (bind := asg (.tup (.cons (.nm 7) (.cons (.nm 8) .nil)))) (body := exec wrd (go n) none t_law_flows_b2) (enc := eS) (S := S)
    (fun (rows : List (List Int)) (j : Sl × Sl × Sl × Sl × Sl) => [a0, a1, a2, .v (.int b), .v (.int p), .v (.lst (rows.map eRw)), a6, j.1, j.2.1, j.2.2.1, j.2.2.2.1, a11, a12, j.2.2.2.2, a14, .un, .un, .un])
    (rowsNext b p) (RInv p) (xs := ss) [[]] j ⟨by simp [h0]; exact hss, by
      have : (4 : Nat) ^ ss.length ≤ 4 ^ 4 := Nat.pow_le_pow_right (by omega) hss
      simpa using this⟩ (fun rows j s k hm hk => by
      refine ⟨_, by simp; rfl, hk.next hp, ?_⟩
      have hl : rows.length ≤ 1000 := by
        have h1 := hk.len
        have h2 : 1 ≤ 4 ^ (k + 1) := Nat.one_le_pow _ _ (by omega)
        have := Nat.mul_le_mul_left rows.length h2
        omega
      obtain ⟨j3, e3⟩ := flows_b3 (n := n) (S := S) (a0 := a0) (a1 := a1) (a2 := a2) (a5 := .v (.lst (rows.map eRw))) (a6 := a6) (a7 := .v (.int s.1)) (a11 := a11) (a12 := a12) (a14 := a14) (b := b) (p := p) (s := s) (rows := rows) (fun r hr => by have := hk.each r hr; omega) hp hl (j.2.2.2.1, j.2.2.2.2)
      refine ⟨(.v (.int s.1), .v (eO s.2), .v (.lst ((rowsNext b p rows s).map eRw)), j3.1, j3.2), ?_⟩
      simp [t_law_flows_b2]
      rw [e3]
      simp [rowsNext_G])
  exact ⟨j', e⟩
theorem minI_nn : ∀ {xs : List Int} {m : Int}, 0 ≤ minI m xs ↔ 0 ≤ m ∧ ∀ x ∈ xs, 0 ≤ x
  | [], m => by simp [minI]
  | x :: xs, m => by
    rw [minI, minI_nn (xs := xs), List.forall_mem_cons]
    constructor
    · rintro ⟨h1, h2⟩
      split at h1 <;> exact ⟨by omega, by omega, h2⟩
    · rintro ⟨h1, h2, h3⟩
      exact ⟨by split <;> omega, h3⟩
theorem maxI_np : ∀ {xs : List Int} {m : Int}, maxI m xs ≤ 0 ↔ m ≤ 0 ∧ ∀ x ∈ xs, x ≤ 0
  | [], m => by simp [maxI]
  | x :: xs, m => by
    rw [maxI, maxI_np (xs := xs), List.forall_mem_cons]
    constructor
    · rintro ⟨h1, h2⟩
      split at h1 <;> exact ⟨by omega, by omega, h2⟩
    · rintro ⟨h1, h2, h3⟩
      exact ⟨by split <;> omega, h3⟩
theorem maxI_nn : ∀ {xs : List Int} {m : Int}, 0 ≤ m → 0 ≤ maxI m xs
  | [], m, h => h
  | x :: xs, m, h => by
    rw [maxI]
    exact maxI_nn (by split <;> omega)
theorem minI_np : ∀ {xs : List Int} {m : Int}, m ≤ 0 → minI m xs ≤ 0
  | [], m, h => h
  | x :: xs, m, h => by
    rw [minI]
    exact minI_np (by split <;> omega)
theorem blt_minR {xs : List Int} (h : xs ≠ []) : ∃ v, (∀ S, bltD .min S [eRw xs] = some (.int v)) ∧ (decide (v ≥ 0) = xs.all fun x => decide (0 ≤ x)) ∧ ((∀ x ∈ xs, x = 0) → v = 0) ∧ (v = 0 → ∀ x ∈ xs, 0 ≤ x) := by
  cases xs with
  | nil => exact absurd rfl h
  | cons x xs =>
    refine ⟨minI x xs, fun S => ?_, ?_, ?_, ?_⟩
    · show (match (seqI S (eRw (x :: xs))).bind (allSome D.int?) with
        | some (n :: ns) => some (D.int (minI n ns))
        | some [] => none
        | none => (seqL S (eRw (x :: xs))).bind minW) = _
      rw [seqI_eRw, Option.bind_some, allSome_int']
    · rw [Bool.eq_iff_iff, decide_eq_true_eq, List.all_eq_true, List.forall_mem_cons]
      simp only [decide_eq_true_eq]
      exact minI_nn
    · intro h
      rw [List.forall_mem_cons] at h
      have a := (minI_nn (m := x) (xs := xs)).mpr ⟨by omega, fun y hy => by have := h.2 y hy; omega⟩
      have b := minI_np (m := x) (xs := xs) (by omega)
      omega
    · intro h
      have := (minI_nn (m := x) (xs := xs)).mp (by omega)
      rw [List.forall_mem_cons]
      exact this
theorem blt_maxR {xs : List Int} (h : xs ≠ []) : ∃ v, (∀ S, bltD .max S [eRw xs] = some (.int v)) ∧ ((∀ x ∈ xs, x = 0) → v = 0) ∧ (v = 0 → ∀ x ∈ xs, x ≤ 0) := by
  cases xs with
  | nil => exact absurd rfl h
  | cons x xs =>
    refine ⟨maxI x xs, fun S => ?_, ?_, ?_⟩
    · show (match (seqI S (eRw (x :: xs))).bind (allSome D.int?) with
        | some (n :: ns) => some (D.int (maxI n ns))
        | _ => none) = _
      rw [seqI_eRw, Option.bind_some, allSome_int']
    · intro h
      rw [List.forall_mem_cons] at h
      have a := (maxI_np (m := x) (xs := xs)).mpr ⟨by omega, fun y hy => by have := h.2 y hy; omega⟩
      have b := maxI_nn (m := x) (xs := xs) (by omega)
      omega
    · intro h
      have := (maxI_np (m := x) (xs := xs)).mp (by omega)
      rw [List.forall_mem_cons]
      exact this
def foundG (p : Int) (q : List (List Int) × List Int) (rows : List (List Int)) : List (List (List Int) × List Int) := (rows.filter (rowIn p q.2)).map fun r => (q.1 ++ [r], subL q.2 r)
def stepF (p : Int) (q : List (List Int) × List Int) (fu : List (List (List Int) × List Int)) (r : List Int) : List (List (List Int) × List Int) := if rowIn p q.2 r then fu ++ [(q.1 ++ [r], subL q.2 r)] else fu
theorem foldl_stepF {q : List (List Int) × List Int} : ∀ (rows : List (List Int)) (fu : List (List (List Int) × List Int)), rows.foldl (stepF p q) fu = fu ++ foundG p q rows
  | [], fu => by simp [foundG]
  | r :: rows, fu => by
    rw [List.foldl_cons, foldl_stepF rows]
    unfold stepF foundG
    cases h : rowIn p q.2 r <;> simp [h]
theorem flows_b5 {rows : List (List Int)} {q : List (List Int) × List Int} {fu : List (List (List Int) × List Int)} (hq : q.1.length ≤ 10) (hf : 1 ≤ q.2.length ∧ q.2.length ≤ 10) (hr : ∀ r ∈ rows, r.length = q.2.length) (hl : fu.length + rows.length ≤ maxLen) (j : Sl × Sl) :
    ∃ j' : Sl × Sl, fors (asg (.nm 10)) (exec wrd (go n) none t_law_flows_b5) (rows.map eRw) [a0, a1, a2, .v (.int b), .v (.int p), a5, .own (fu.map eFq), a6, a7, a11, j.1, .v (eFl q.1), .v (eRw q.2), a12, j.2, .un, .un, .un] S =
      .nx [a0, a1, a2, .v (.int b), .v (.int p), a5, .own ((fu ++ foundG p q rows).map eFq), a6, a7, a11, j'.1, .v (eFl q.1), .v (eRw q.2), a12, j'.2, .un, .un, .un] S := by
  obtain ⟨j', e⟩ := fors_foldI (bind := asg (.nm 10)) (body := exec wrd (go n) none t_law_flows_b5) (enc := eRw) (S := S)
    (fun (fu : List (List (List Int) × List Int)) (j : Sl × Sl) => [a0, a1, a2, .v (.int b), .v (.int p), a5, .own (fu.map eFq), a6, a7, a11, j.1, .v (eFl q.1), .v (eRw q.2), a12, j.2, .un, .un, .un])
    (stepF p q) (fun fu k => fu.length + k ≤ maxLen) (xs := rows) fu j hl (fun fu j r k hm hk => by
      have hlr := hr r hm
      have hsl : (subL q.2 r).length = q.2.length := subL_len hlr
      have hne : subL q.2 r ≠ [] := fun h => by rw [h] at hsl; simp at hsl; omega
      obtain ⟨v, hv1, hv2, _⟩ := blt_minR hne
      have cp := comps_all (bind := fun x => asg (.tup (.cons (.nm 16) (.cons (.nm 17) .nil))) x [a0, a1, a2, .v (.int b), .v (.int p), a5, .own (fu.map eFq), a6, a7, a11, .v (eRw r), .v (eFl q.1), .v (eRw q.2), a12, j.2, .un, .un, .un])
        (cond := ev wrd (go n) (.lit (.bl true))) (elt := ev wrd (go n) (.bin .sub (.var 16) (.var 17))) (enc := fun (x : Int × Int) => D.tup [.int x.1, .int x.2]) (f := fun (x : Int × Int) => D.int (x.1 - x.2)) (S := S)
        (xs := q.2.zip r) (fun x hx => ⟨_, by simp; rfl, by simp, by simp⟩) (by rw [List.length_zip]; unfold maxLen; omega)
      have e1 : D.tup ((q.2.zip r).map fun x => D.int (x.1 - x.2)) = eRw (subL q.2 r) := by simp [eRw, subL, Function.comp_def]
      refine ⟨_, by simp; rfl, ?_, (.v (eRw r), .v (eRw (subL q.2 r))), ?_⟩
      · unfold stepF; split
        · rw [List.length_append]; simp only [List.length_cons, List.length_nil]; omega
        · omega
      · simp [t_law_flows_b5]
        rw [cp]
        simp [e1]
        by_cases hs : r.sum = p
        · simp [hs, hv1]
          have hri : rowIn p q.2 r = decide (v ≥ 0) := by simp [rowIn, hs, hv2]
          by_cases h0 : 0 ≤ v
          · have : rowIn p q.2 r = true := by rw [hri]; exact decide_eq_true h0
            have l1 : lenOk (q.1.length + 1) = true := lenOk_of (by unfold maxLen; omega)
            have l2 : lenOk (fu.length + 1) = true := lenOk_of (by omega)
            simp [h0, stepF, this, add_eFl l1, l2, eFq]
          · have : rowIn p q.2 r = false := by rw [hri]; exact decide_eq_false h0
            simp [h0, stepF, this]
        · have : rowIn p q.2 r = false := by simp [rowIn, hs]
          simp [hs, stepF, this])
  rw [foldl_stepF] at e
  exact ⟨j', e⟩
end
end My

/-! N23: all flows of the law. -/
namespace My
open Pv Fl
open PySem (Str)
section
variable {n : Nat} {S : Sto} {a0 a1 a2 a5 a7 a11 a12 a14 : Sl} {b p : Int} {s : Int × Option Int}
theorem rinv_all (hp : p ≤ 3) : ∀ (ss : List (Int × Option Int)) (rows : List (List Int)), RInv p rows ss.length → RInv p (ss.foldl (rowsNext b p) rows) 0
  | [], rows, h => h
  | s :: ss, rows, h => rinv_all hp ss _ (h.next hp)
theorem rinv_start (h0 : 0 ≤ p) {k : Nat} (hk : k ≤ 4) : RInv p [[]] k := ⟨by simp [h0]; exact hk, by
  have : (4 : Nat) ^ k ≤ 4 ^ 4 := Nat.pow_le_pow_right (by omega) hk
  simpa using this⟩
theorem suf_len : ∀ {ss : List (Int × Option Int)} {xs : List Int} {s : Int}, Suf b p s ss xs → xs.length = ss.length
  | [], [], _, _ => rfl
  | [], _ :: _, _, h => h.elim
  | _ :: _, [], _, h => h.elim
  | _ :: ss, _ :: xs, _, h => by rw [List.length_cons, List.length_cons, suf_len h.2.2]
theorem rows_len {ss : List (Int × Option Int)} {r : List Int} (h : r ∈ rowsAll b p ss) : r.length = ss.length := by
  unfold rowsAll at h
  obtain ⟨r0, h0, xs, rfl, hs⟩ := (mem_rows ss [[]] r).mp h
  rw [List.mem_singleton] at h0
  subst h0
  simpa using suf_len hs
theorem foundG_len {q : List (List Int) × List Int} {rows : List (List Int)} : (foundG p q rows).length ≤ rows.length := by
  unfold foundG
  rw [List.length_map]
  exact List.length_filter_le _ _
theorem flows_b4 {rows : List (List Int)} {found : List (List (List Int) × List Int)} {K : Nat} (hK : 1 ≤ K ∧ K ≤ 10) (hq : ∀ q ∈ found, q.1.length ≤ 10 ∧ q.2.length = K) (hr : ∀ r ∈ rows, r.length = K) (h256 : rows.length ≤ 256) (hl : found.length * 256 ≤ maxLen) (j : Sl × Sl × Sl × Sl) :
    ∃ j' : Sl × Sl × Sl × Sl, fors (asg (.tup (.cons (.nm 11) (.cons (.nm 12) .nil)))) (exec wrd (go n) none t_law_flows_b4) (found.map eFq) [a0, a1, a2, .v (.int b), .v (.int p), .v (.lst (rows.map eRw)), .own [], a5, a7, a11, j.1, j.2.1, j.2.2.1, a12, j.2.2.2, .un, .un, .un] S =
      .nx [a0, a1, a2, .v (.int b), .v (.int p), .v (.lst (rows.map eRw)), .own ((found.flatMap fun q => foundG p q rows).map eFq), a5, a7, a11, j'.1, j'.2.1, j'.2.2.1, a12, j'.2.2.2, .un, .un, .un] S := by
  obtain ⟨j', e⟩ := fors_foldI (bind := asg (.tup (.cons (.nm 11) (.cons (.nm 12) .nil)))) (body := exec wrd (go n) none t_law_flows_b4) (enc := eFq) (S := S)
    (fun (fu : List (List (List Int) × List Int)) (j : Sl × Sl × Sl × Sl) => [a0, a1, a2, .v (.int b), .v (.int p), .v (.lst (rows.map eRw)), .own (fu.map eFq), a5, a7, a11, j.1, j.2.1, j.2.2.1, a12, j.2.2.2, .un, .un, .un])
    (fun fu q => fu ++ foundG p q rows) (fun fu k => fu.length + k * 256 ≤ maxLen) (xs := found) [] j (by simpa using hl) (fun fu j q k hm hk => by
      obtain ⟨h1, h2⟩ := hq q hm
      have hg := foundG_len (p := p) (q := q) (rows := rows)
      obtain ⟨j3, e3⟩ := flows_b5 (n := n) (S := S) (a0 := a0) (a1 := a1) (a2 := a2) (a5 := .v (.lst (rows.map eRw))) (a6 := a5) (a7 := a7) (a11 := a11) (a12 := a12) (b := b) (p := p) (rows := rows) (q := q) (fu := fu) h1 (by omega) (fun r h => by rw [hr r h, h2]) (by omega) (j.1, j.2.2.2)
      refine ⟨_, by simp [asg_eFq]; rfl, by rw [List.length_append]; omega, (j3.1, .v (eFl q.1), .v (eRw q.2), j3.2), ?_⟩
      simp [t_law_flows_b4]
      rw [e3]
      simp)
  rw [foldl_app, List.nil_append] at e
  exact ⟨j', e⟩
end
/-- a small ledger -/
structure Small (l : L) : Prop where
  ok : l.Ok
  lots : l.lots.length ≤ 3
  counts : l.counts.length ≤ 3
  pcs : ∀ p ∈ l.lots, 0 ≤ p.2 ∧ p.2 ≤ 3
/-- what holds of what is found, k lots being left -/
structure FoundInv (K : Nat) (found : List (List (List Int) × List Int)) (k : Nat) : Prop where
  each : ∀ q ∈ found, q.1.length + k ≤ 3 ∧ q.2.length = K
  len : found.length * 256 ^ k ≤ maxLen
theorem FoundInv.next {ss : List (Int × Option Int)} {found : List (List (List Int) × List Int)} {k : Nat} {lot : Int × Int} (h : FoundInv ss.length found (k + 1)) (hs : ss.length ≤ 4) (h0 : 0 ≤ lot.2) (hp : lot.2 ≤ 3) : FoundInv ss.length (flowNext ss found lot) k := by
  have ri := rinv_all (b := lot.1) hp ss [[]] (rinv_start h0 hs)
  have r256 : (rowsAll lot.1 lot.2 ss).length ≤ 256 := by have := ri.len; simpa [rowsAll] using this
  refine ⟨fun q hq => ?_, ?_⟩
  · obtain ⟨q0, h1, h2⟩ := List.mem_flatMap.mp hq
    obtain ⟨r, hr, rfl⟩ := List.mem_map.mp h2
    have hq0 := h.each q0 h1
    have hrl := rows_len (List.mem_filter.mp hr).1
    refine ⟨by rw [List.length_append]; simp only [List.length_cons, List.length_nil]; omega, ?_⟩
    rw [subL_len (by omega)]
    exact hq0.2
  · have := flat_len (g := fun q => foundG lot.2 q (rowsAll lot.1 lot.2 ss)) (m := 256) (xs := found) fun q hq => Nat.le_trans foundG_len r256
    have h2 := h.len
    rw [Nat.pow_succ, Nat.mul_comm (256 ^ k) 256, ← Nat.mul_assoc] at h2
    exact Nat.le_trans (Nat.mul_le_mul_right _ this) h2
theorem found_all {ss : List (Int × Option Int)} (hs : ss.length ≤ 4) : ∀ (lots : List (Int × Int)) (found : List (List (List Int) × List Int)), (∀ p ∈ lots, 0 ≤ p.2 ∧ p.2 ≤ 3) → FoundInv ss.length found lots.length → FoundInv ss.length (lots.foldl (flowNext ss) found) 0
  | [], _, _, h => h
  | lot :: lots, found, hp, h => found_all hs lots _ (fun p hp' => hp p (List.mem_cons_of_mem _ hp')) (h.next hs (hp lot (by simp)).1 (hp lot (by simp)).2)
theorem r_law_flows {n : Nat} {l : L} {S : Sto} (hl : Small l) : go (n + 3) i_law_flows [eL l] S = .ok (.lst ((flowsL l).map eFl)) S := by
  have c3 := hl.counts
  have l3 := hl.lots
  have spl : (spansL l).length = l.counts.length + 1 := spansL_len
  have nl : (nums l).length = (spansL l).length := by rw [nums_len, spl]
  rw [go_step e_law_flows rfl]
  have sp := r_law_spans (n := n + 1) (l := l) (S := S) (by omega)
  have nm := r_law_numbers (n := n) (l := l) (S := S) (by unfold maxLen; omega) (by omega)
  have e0 : (.lst [.tup [.tup [], .tup ((nums l).map .int)]] : D) = .lst ([(([], nums l) : List (List Int) × List Int)].map eFq) := rfl
  simp [f_law_flows, t_law_flows, sp, nm]
  rw [e0]
  obtain ⟨j, e⟩ := fors_foldI (bind := asg (.tup (.cons (.nm 3) (.cons (.nm 4) .nil)))) (body := exec wrd (go (n + 2)) none t_law_flows_b1) (enc := ePr) (S := S)
    (fun (found : List (List (List Int) × List Int)) (j : Nat → Sl) => [.v (eL l), .v (.lst ((spansL l).map eS)), .v (.lst (found.map eFq)), j 3, j 4, j 5, j 6, j 7, j 8, j 9, j 10, j 11, j 12, j 13, j 14, .un, .un, .un])
    (flowNext (spansL l)) (FoundInv (spansL l).length) (xs := l.lots) [([], nums l)] (fun _ => .un) ⟨by simp [nl]; exact l3, by
      have : (256 : Nat) ^ l.lots.length ≤ 256 ^ 3 := Nat.pow_le_pow_right (by omega) l3
      unfold maxLen
      simpa using this⟩ (fun found j lot k hm hk => by
      obtain ⟨h0, hp⟩ := hl.pcs lot hm
      have ri := rinv_all (b := lot.1) hp (spansL l) [[]] (rinv_start h0 (by omega))
      have r256 : (rowsAll lot.1 lot.2 (spansL l)).length ≤ 256 := by have := ri.len; simpa [rowsAll] using this
      have hlen : found.length * 256 ≤ maxLen := by
        have h2 := hk.len
        rw [Nat.pow_succ, Nat.mul_comm (256 ^ k) 256, ← Nat.mul_assoc] at h2
        exact Nat.le_trans (Nat.le_mul_of_pos_right _ (Nat.pow_pos (by omega))) h2
      obtain ⟨j2, e2⟩ := flows_b2 (n := n + 2) (S := S) (a0 := .v (eL l)) (a1 := .v (.lst ((spansL l).map eS))) (a2 := .v (.lst (found.map eFq))) (a6 := j 6) (a11 := j 11) (a12 := j 12) (a14 := j 14) (b := lot.1) (ss := spansL l) h0 hp (by omega) (j 7, j 8, j 9, j 10, j 13)
      obtain ⟨j4, e4⟩ := flows_b4 (n := n + 2) (S := S) (a0 := .v (eL l)) (a1 := .v (.lst ((spansL l).map eS))) (a2 := .v (.lst (found.map eFq))) (a5 := j2.1) (a7 := j2.2.1) (a11 := j2.2.2.1) (a12 := j2.2.2.2.2) (b := lot.1) (p := lot.2) (rows := rowsAll lot.1 lot.2 (spansL l)) (found := found) (K := (spansL l).length) (by omega) (fun q hq => by have := hk.each q hq; omega) (fun r hr => rows_len hr) r256 hlen (j2.2.2.2.1, j 11, j 12, j 14)
      refine ⟨_, by simp; rfl, hk.next (by omega) h0 hp, (fun i => [.un, .un, .un, .v (.int lot.1), .v (.int lot.2), .v (.lst ((rowsAll lot.1 lot.2 (spansL l)).map eRw)), .v (.lst ((flowNext (spansL l) found lot).map eFq)), j2.1, j2.2.1, j2.2.2.1, j4.1, j4.2.1, j4.2.2.1, j2.2.2.2.2, j4.2.2.2].getD i .un), ?_⟩
      simp [t_law_flows_b1]
      rw [e2]
      simp
      rw [e4]
      simp
      rfl)
  simp only at e
  rw [e]
  have fi := found_all (ss := spansL l) (by omega) l.lots [([], nums l)] hl.pcs ⟨by simp [nl]; exact l3, by
      have : (256 : Nat) ^ l.lots.length ≤ 256 ^ 3 := Nat.pow_le_pow_right (by omega) l3
      unfold maxLen
      simpa using this⟩
  simp
  rw [comps_fil (enc := eFq) (p := fun q => zeroL q.2) (f := fun q => eFl q.1) (fun q hq => by
    have hk := fi.each q hq
    have hne : q.2 ≠ [] := fun h => by rw [h] at hk; simp at hk; omega
    obtain ⟨v, hv, _, hv3, hv4⟩ := blt_minR hne
    obtain ⟨w, hw, hw3, hw4⟩ := blt_maxR hne
    refine ⟨_, by simp [asg_eFq]; rfl, ?_, by simp⟩
    simp [hv, hw]
    by_cases hz : ∀ x ∈ q.2, x = 0
    · have : zeroL q.2 = true := by simpa [zeroL] using hz
      simp [hv3 hz, hw3 hz, this]
    · have : zeroL q.2 = false := by
        cases h : zeroL q.2 with
        | false => rfl
        | true => exact absurd (by simpa [zeroL] using h) hz
      rw [this]
      by_cases h1 : w = 0
      · by_cases h2 : v = 0
        · exact absurd (fun x hx => by have := hv4 h2 x hx; have := hw4 h1 x hx; omega) hz
        · simp [h1, h2]
      · simp [h1]) (by have := fi.len; simpa using this)]
  simp [flowsL, Function.comp_def]
end My

/-! N24: the ends of all flows. -/
namespace My
open Pv Fl
open PySem (Str)
/-- what a row comes to -/
def rowTot (l : L) (m : Bool) (b : Int) (t : Int) (Q : List ((Int × Option Int) × Int)) : Int := Q.foldl (fun t q => t + q.2 * creditOf l b (dayIn m q.1 b)) t
def flowTot (l : L) (m : Bool) (fl : List (List Int)) : Int := (l.lots.zip fl).foldl (fun t q => rowTot l m q.1.1 t ((spansL l).zip q.2)) 0
section
variable {n : Nat} {l : L} {m : Bool} {S : Sto}
theorem r_law_sold {s : Int × Option Int} {b : Int} : go (n + 1) i_law_sold [eS s, .int b, wD m] S = .ok (eO (dayIn m s b)) S := by
  rw [go_step e_law_sold rfl]
  cases m <;> simp [f_law_sold, t_law_sold, dayIn, eO]
/-- one flow's total -/
theorem end_b1 (hl : Small l) {fl : List (List Int)} (hf : fl ∈ flowsL l) {ts : List Int} {j : Nat → Sl} (hlen : ts.length + 1 ≤ maxLen) :
    ∃ j' : Nat → Sl, exec wrd (go (n + 2)) none t_law_end_b1 [.v (eL l), .v (wD m), .own (ts.map .int), .v (eFl fl), j 4, j 5, j 6, j 7, j 8] S = .nx [.v (eL l), .v (wD m), .own ((ts ++ [flowTot l m fl]).map .int), .v (eFl fl), j' 4, j' 5, j' 6, j' 7, j' 8] S := by
  have c3 := hl.counts
  have spl : (spansL l).length = l.counts.length + 1 := spansL_len
  have nl : (nums l).length = (spansL l).length := by rw [nums_len, spl]
  have hm := (mem_outs (ss := spansL l) l.lots (nums l) fl nl).mp (by rw [← flowsL_outs]; exact hf)
  have sp := r_law_spans (n := n + 1) (l := l) (S := S) (by omega)
  have small : ∀ q ∈ l.lots.zip fl, ∀ x ∈ q.2, x.natAbs < 2 ^ 64 := fun q hq x hx => by
    obtain ⟨hr, hs⟩ := hm.2.1 q hq
    have hp := hl.pcs q.1 (List.of_mem_zip hq).1
    have nn : ∀ y ∈ q.2, 0 ≤ y := fun y hy => by
      obtain ⟨k, hk, rfl⟩ := List.mem_iff_getElem.mp hy
      have := row_nn hr k
      simpa [iat, hk] using this
    have := (mem_le_sum (Q := q.2.map fun y => ((), y)) (fun z hz => by
      obtain ⟨y, hy, rfl⟩ := List.mem_map.mp hz
      exact nn y hy) ((), x) (List.mem_map.mpr ⟨x, hx, rfl⟩)).1
    rw [List.map_map] at this
    have e : (q.2.map ((fun z : Unit × Int => z.2) ∘ fun y => ((), y))).sum = q.2.sum := by simp [Function.comp_def]
    rw [e] at this
    have := nn x hx
    omega
  obtain ⟨j1, e1⟩ := fors_fold (α := (Int × Int) × List Int) (bind := asg (.tup (.cons (.nm 5) (.cons (.nm 6) .nil)))) (body := exec wrd (go (n + 2)) none t_law_end_b2) (enc := fun q => D.tup [ePr q.1, eRw q.2]) (S := S)
    (fun (t : Int) (j : Nat → Sl) => [.v (eL l), .v (wD m), .own (ts.map .int), .v (eFl fl), .v (.int t), j 5, j 6, j 7, j 8])
    (fun t q => rowTot l m q.1.1 t ((spansL l).zip q.2)) (xs := l.lots.zip fl) 0 j (fun t j q hq => by
      obtain ⟨j2, e2⟩ := fors_fold (α := (Int × Option Int) × Int) (bind := asg (.tup (.cons (.nm 7) (.cons (.nm 8) .nil)))) (body := exec wrd (go (n + 2)) none t_law_end_b3) (enc := fun q => D.tup [eS q.1, .int q.2]) (S := S)
        (fun (t : Int) (j : Nat → Sl) => [.v (eL l), .v (wD m), .own (ts.map .int), .v (eFl fl), .v (.int t), .v (ePr q.1), .v (eRw q.2), j 7, j 8])
        (fun t x => t + x.2 * creditOf l q.1.1 (dayIn m x.1 q.1.1)) (xs := (spansL l).zip q.2) t (fun i => j i) (fun t j x hx => ⟨_, by simp; rfl, (fun i => [.un, .un, .un, .un, .un, .un, .un, .v (eS x.1), .v (.int x.2)].getD i .un), by
          have sd := r_law_sold (n := n + 1) (m := m) (S := S) (s := x.1) (b := q.1.1)
          have gn := r_law_gain (n := n + 1) (l := l) (S := S) (b := q.1.1) (s := dayIn m x.1 q.1.1)
          have hs := small q hq x.2 (List.of_mem_zip hx).2
          simp [t_law_end_b3, sd, gn, bin_mul (mulOk_l hs)]⟩)
      refine ⟨_, by simp; rfl, (fun i => [.un, .un, .un, .un, .un, .v (ePr q.1), .v (eRw q.2), j2 7, j2 8].getD i .un), ?_⟩
      simp [t_law_end_b2, sp]
      simp only at e2
      rw [e2]
      simp [rowTot])
  refine ⟨(fun i => [.un, .un, .un, .un, .v (.int (flowTot l m fl)), j1 5, j1 6, j1 7, j1 8].getD i .un), ?_⟩
  have hlo : lenOk (ts.length + 1) = true := lenOk_of hlen
  simp [t_law_end_b1]
  rw [e1]
  simp [hlo, flowTot]
theorem rowTot_sum {b : Int} : ∀ (Q : List ((Int × Option Int) × Int)) (t : Int), rowTot l m b t Q = t + (Q.map fun q => q.2 * creditOf l b (dayIn m q.1 b)).sum
  | [], t => by simp [rowTot]
  | q :: Q, t => by
    have := rowTot_sum (b := b) Q (t + q.2 * creditOf l b (dayIn m q.1 b))
    unfold rowTot at this ⊢
    rw [List.foldl_cons, this, List.map_cons, List.sum_cons]
    omega
theorem flowTot_cost {fl : List (List Int)} (hd : Dim l.lots.length (l.counts.length + 1) fl) {c : List (List (Option Int))} (hc : Shape l c) (hf : Full l.lots.length (l.counts.length + 1) (cs c) (iat (pcs l)) (iat (nums l)) (fw fl)) :
    flowTot l m fl = cost l.lots.length (l.counts.length + 1) (cs (worths l m)) (fw fl) := by
  have spl : (spansL l).length = l.counts.length + 1 := spansL_len
  have e1 : ∀ (zs : List ((Int × Int) × List Int)) (t : Int), zs.foldl (fun t q => rowTot l m q.1.1 t ((spansL l).zip q.2)) t = t + (zs.map fun q => (((spansL l).zip q.2).map fun x => x.2 * creditOf l q.1.1 (dayIn m x.1 q.1.1)).sum).sum := by
    intro zs
    induction zs with
    | nil => intro t; simp
    | cons z zs ih =>
      intro t
      rw [List.foldl_cons, ih, rowTot_sum, List.map_cons, List.sum_cons]
      omega
  unfold flowTot
  rw [e1, Int.zero_add]
  have := zip_sm (g := fun (lot : Int × Int) (r : List Int) => (((spansL l).zip r).map fun x => x.2 * creditOf l lot.1 (dayIn m x.1 lot.1)).sum) (a0 := (0, 0)) (b0 := []) (as := l.lots) (bs := fl) hd.len
  rw [this]
  unfold cost
  refine sm_congr fun i hi => ?_
  have hi' : i < fl.length := by rw [hd.len]; exact hi
  have rl : ((fl[i]?).getD []).length = (spansL l).length := by
    rw [List.getElem?_eq_getElem hi', Option.getD_some, spl]
    exact hd.row _ (List.getElem_mem hi')
  have z2 := zip_sm (g := fun (s : Int × Option Int) (x : Int) => x * creditOf l (lAt l i).1 (dayIn m s (lAt l i).1)) (a0 := (0, none)) (b0 := 0) (as := spansL l) (bs := (fl[i]?).getD []) rl
  rw [spl] at z2
  refine Eq.trans z2 (sm_congr fun k hk => ?_)
  show fw fl i k * creditOf l (lAt l i).1 (dayIn m (sp l k) (lAt l i).1) = _
  have nn := hf.nn i hi k hk
  by_cases h0 : 0 < fw fl i k
  · obtain ⟨x, hx⟩ := hf.al i hi k hk h0
    have hk' : k < (spansL l).length := by omega
    have hcan : canS (sp l k) (lAt l i).1 = true := by
      cases hcs : canS (sp l k) (lAt l i).1 with
      | true => rfl
      | false =>
        have := (hc.2 i k hi hk').mpr (by rw [← sp_get hk']; rw [← hcs]; simp [lAt, hi])
        rw [hx] at this
        cases this
    rw [cv_worths hi hk hcan]
  · have : fw fl i k = 0 := by omega
    rw [this]; simp
theorem has_of_full {c : Cs} {f : Fw} (h : Full l.lots.length (l.counts.length + 1) c (iat (pcs l)) (iat (nums l)) f) : hasTr l = true := by
  have spl : (spansL l).length = l.counts.length + 1 := spansL_len
  rw [hasTr_iff]
  intro x hx
  obtain ⟨k, hk, rfl⟩ := List.mem_iff_getElem.mp hx
  rw [nums_len] at hk
  have := h.col k (by omega)
  have e : iat (nums l) k = (nums l)[k]'(by rw [nums_len]; exact hk) := by
    have : k < (nums l).length := by rw [nums_len]; exact hk
    simp [iat, this]
  rw [← e, ← this]
  exact sm_nonneg fun i hi => h.nn i hi k (by omega)
theorem flows_ne (hl : l.Ok) : flowsL l ≠ [] ↔ hasTr l = true := by
  constructor
  · intro h
    obtain ⟨fl, hfl⟩ := List.exists_mem_of_ne_nil _ h
    exact has_of_full ((mem_flows (m := false)).mp hfl).2
  · intro h e
    obtain ⟨f, _, hd, hb, _⟩ := r_best_flow (n0 := 0) (S := []) (m := false) hl (hasTr_iff.mp h) (shape_worths (m := false) hl)
    have := (mem_flows (m := false)).mpr ⟨hd, hb.1⟩
    rw [e] at this
    cases this
theorem flow_ex (hl : l.Ok) (h : hasTr l = true) : ∃ fl ∈ flowsL l, flowTot l m fl = bnd l m := by
  obtain ⟨f, _, hd, hb, _⟩ := r_best_flow (n0 := 0) (S := []) (m := m) hl (hasTr_iff.mp h) (shape_worths (m := m) hl)
  refine ⟨f, (mem_flows (m := m)).mpr ⟨hd, hb.1⟩, ?_⟩
  rw [flowTot_cost hd (shape_worths hl) hb.1]
  exact (bnd_is ⟨_, rfl, hb⟩).symm
theorem flow_le (hl : l.Ok) {fl : List (List Int)} (hf : fl ∈ flowsL l) : if m then flowTot l m fl ≤ bnd l m else bnd l m ≤ flowTot l m fl := by
  have h1 := (mem_flows (m := m)).mp hf
  obtain ⟨g, hv, hg⟩ := bnd_spec (m := m) hl (has_of_full h1.2)
  rw [flowTot_cost h1.1 (shape_worths hl) h1.2, hv]
  exact hg.2 _ h1.2
theorem maxI_is {v : Int} : ∀ {xs : List Int} {x : Int}, (∀ y ∈ x :: xs, y ≤ v) → v ∈ x :: xs → maxI x xs = v
  | [], x, _, h => by simpa [maxI] using (List.mem_singleton.mp h).symm
  | y :: xs, x, h1, h2 => by
    rw [maxI]
    have hx := h1 x (by simp)
    have hy := h1 y (by simp)
    refine maxI_is (fun z hz => ?_) ?_
    · rcases List.mem_cons.mp hz with e | e
      · subst e; split <;> omega
      · exact h1 z (by simp [e])
    · rcases List.mem_cons.mp h2 with e | e
      · subst e; rw [if_neg (by omega)]; simp
      · rcases List.mem_cons.mp e with e | e
        · subst e
          by_cases h : x < v
          · rw [if_pos h]; simp
          · rw [if_neg h, show x = v by omega]; simp
        · simp [e]
theorem minI_is {v : Int} : ∀ {xs : List Int} {x : Int}, (∀ y ∈ x :: xs, v ≤ y) → v ∈ x :: xs → minI x xs = v
  | [], x, _, h => by simpa [minI] using (List.mem_singleton.mp h).symm
  | y :: xs, x, h1, h2 => by
    rw [minI]
    have hx := h1 x (by simp)
    have hy := h1 y (by simp)
    refine minI_is (fun z hz => ?_) ?_
    · rcases List.mem_cons.mp hz with e | e
      · subst e; split <;> omega
      · exact h1 z (by simp [e])
    · rcases List.mem_cons.mp h2 with e | e
      · subst e; rw [if_neg (by omega)]; simp
      · rcases List.mem_cons.mp e with e | e
        · subst e
          by_cases h : v < x
          · rw [if_pos h]; simp
          · rw [if_neg h, show x = v by omega]; simp
        · simp [e]
theorem flows_len (hl : Small l) : (flowsL l).length ≤ maxLen := by
  have spl : (spansL l).length = l.counts.length + 1 := spansL_len
  have nl : (nums l).length = (spansL l).length := by rw [nums_len, spl]
  have l3 := hl.lots
  have fi := found_all (ss := spansL l) (by have := hl.counts; omega) l.lots [([], nums l)] hl.pcs ⟨by simp [nl]; exact l3, by
      have : (256 : Nat) ^ l.lots.length ≤ 256 ^ 3 := Nat.pow_le_pow_right (by omega) l3
      unfold maxLen
      simpa using this⟩
  unfold flowsL
  rw [List.length_map]
  have := fi.len
  exact Nat.le_trans (List.length_filter_le _ _) (by simpa using this)
theorem blt_maxL {S : Sto} {x : Int} {xs : List Int} : bltD .max S [.lst ((x :: xs).map .int)] = some (.int (maxI x xs)) := by
  show (match (seqI S (.lst ((x :: xs).map .int))).bind (allSome D.int?) with
    | some (n :: ns) => some (D.int (maxI n ns))
    | _ => none) = _
  rw [seqI_lst, Option.bind_some, allSome_int']
theorem cmp_ints_nil {xs : List Int} : cmpD .eq (.lst (xs.map .int)) (.lst []) = some (.bl xs.isEmpty) := by
  have h1 : plainD (.lst (xs.map .int)) = true := plainD_of (m := 1) (plain_lst_of fun x hx => by
    obtain ⟨i, _, rfl⟩ := List.mem_map.mp hx
    exact plain_int) (by omega)
  have h2 : plainD (.lst []) = true := plainD_of (m := 1) (plain_lst_of fun x hx => by cases hx) (by omega)
  rw [cmp_eq h1 h2]
  cases xs <;> rfl
theorem cmp_nil_nil : cmpD .eq (.lst []) (.lst []) = some (.bl true) := cmp_ints_nil (xs := [])
theorem cmp_cons_nil {x : Int} {xs : List Int} : cmpD .eq (.lst (.int x :: xs.map .int)) (.lst []) = some (.bl false) := cmp_ints_nil (xs := x :: xs)
theorem blt_maxC {S : Sto} {x : Int} {xs : List Int} : bltD .max S [.lst (.int x :: xs.map .int)] = some (.int (maxI x xs)) := blt_maxL
theorem r_law_end (hl : Small l) : go (n + 4) i_law_end [eL l, wD m] S = .ok (if hasTr l then .int (bnd l m) else .non) S := by
  rw [go_step e_law_end rfl]
  have fl := r_law_flows (n := n) (l := l) (S := S) hl
  have hlen := flows_len hl
  obtain ⟨j, e⟩ := fors_foldI (bind := asg (.nm 3)) (body := exec wrd (go (n + 3)) none t_law_end_b1) (enc := eFl) (S := S)
    (fun (ts : List Int) (j : Nat → Sl) => [.v (eL l), .v (wD m), .own (ts.map .int), j 3, j 4, j 5, j 6, j 7, j 8])
    (fun ts f => ts ++ [flowTot l m f]) (fun ts k => ts.length + k ≤ maxLen) (xs := flowsL l) [] (fun _ => .un) (by simpa using hlen) (fun ts j f k hm hk => by
      obtain ⟨j', e'⟩ := end_b1 (n := n + 1) (S := S) (m := m) hl hm (ts := ts) (j := j) (by omega)
      exact ⟨_, by simp only [asg_nm]; rfl, by rw [List.length_append]; simp only [List.length_cons, List.length_nil]; omega, (fun i => [.un, .un, .un, .v (eFl f), j' 4, j' 5, j' 6, j' 7, j' 8].getD i .un), e'⟩)
  have ef : ∀ (xs : List (List (List Int))) (a : List Int), xs.foldl (fun ts f => ts ++ [flowTot l m f]) a = a ++ xs.map (flowTot l m) := by
    intro xs
    induction xs with
    | nil => intro a; simp
    | cons x xs ih => intro a; rw [List.foldl_cons, ih]; simp
  rw [ef, List.nil_append] at e
  have hend : ∀ ts : List Int, ts = (flowsL l).map (flowTot l m) → (if ts.isEmpty then D.non else match ts with
      | [] => D.non
      | x :: xs => if m then .int (maxI x xs) else .int (minI x xs)) = if hasTr l then .int (bnd l m) else .non := fun ts hts => by
    cases hh : hasTr l with
    | false =>
      have : flowsL l = [] := by
        by_cases h : flowsL l = []
        · exact h
        · exact absurd ((flows_ne hl.ok).mp h) (by rw [hh]; simp)
      rw [this] at hts
      subst hts
      rfl
    | true =>
      obtain ⟨f, hf, hv⟩ := flow_ex (m := m) hl.ok hh
      have hmem : bnd l m ∈ ts := by rw [hts]; exact List.mem_map.mpr ⟨f, hf, hv⟩
      have hle : ∀ y ∈ ts, if m then y ≤ bnd l m else bnd l m ≤ y := fun y hy => by
        rw [hts] at hy
        obtain ⟨g, hg, rfl⟩ := List.mem_map.mp hy
        exact flow_le hl.ok hg
      cases ts with
      | nil => cases hmem
      | cons x xs =>
        cases m
        · simp only [Bool.false_eq_true, if_false] at hle
          simp [minI_is hle hmem]
        · simp only [if_true] at hle
          simp [maxI_is hle hmem]
  simp [f_law_end, t_law_end, fl]
  simp at e
  rw [e]
  rw [show (flowsL l).map (D.int ∘ flowTot l m) = ((flowsL l).map (flowTot l m)).map .int by simp]
  rw [← hend _ rfl]
  cases (flowsL l).map (flowTot l m) with
  | nil => simp [cmp_nil_nil]
  | cons x xs => cases m <;> simp [cmp_cons_nil, blt_minI, blt_maxC]
theorem r_law_flow_ends (hl : Small l) : go (n + 5) i_law_flow_ends [eL l] S = .ok (eB l) S := by
  rw [go_step e_law_flow_ends rfl]
  have h1 := r_law_end (n := n) (m := false) (S := S) hl
  have h2 := r_law_end (n := n) (m := true) (S := S) hl
  unfold eB
  cases h : hasTr l
  · rw [h] at h1 h2
    simp at h1 h2
    simp [f_law_flow_ends, t_law_flow_ends, w_least, w_most, h1, h2]
  · rw [h] at h1 h2
    simp at h1 h2
    simp [f_law_flow_ends, t_law_flow_ends, w_least, w_most, h1, h2]
end
end My

/-! N25: all truths of a tiny ledger. -/
namespace My
open Pv Fl
open PySem (Str)
abbrev SQ := List (Int × Int) × Int
def salNext (found : List SQ) (d : Int) : List SQ := found.flatMap fun q => (q.1, q.2) :: (List.range q.2.toNat).map fun (j : Nat) => (q.1 ++ [(d, 1 + (j : Int))], q.2 - (1 + (j : Int)))
def daysFrom (b : Int) (k : Nat) : List Int := (List.range k).map fun (i : Nat) => b + (i : Int)
def salsL (lot : Int × Int) : List (List (Int × Int)) := ((daysFrom lot.1 (10 - lot.1).toNat).foldl salNext [([], lot.2)]).map (·.1)
theorem daysFrom_succ {b : Int} {k : Nat} : daysFrom b (k + 1) = b :: daysFrom (b + 1) k := by
  unfold daysFrom
  rw [List.range_succ_eq_map, List.map_cons, List.map_map]
  simp only [List.cons.injEq]
  refine ⟨by simp, List.map_congr_left fun i _ => ?_⟩
  simp only [Function.comp_apply]
  omega
/-- so many come of one -/
def cnt (r : Int) : Nat → Nat
  | 0 => 1
  | k + 1 => cnt r k + ((List.range r.toNat).map fun (j : Nat) => cnt (r - (1 + (j : Int))) k).sum
theorem cnt_pos {r : Int} : ∀ {k : Nat}, 1 ≤ cnt r k
  | 0 => Nat.le_refl _
  | k + 1 => Nat.le_trans (cnt_pos (k := k)) (Nat.le_add_right _ _)
def wsum (found : List SQ) (k : Nat) : Nat := (found.map fun q => cnt q.2 k).sum
theorem wsum_next {d : Int} {k : Nat} : ∀ {found : List SQ}, wsum (salNext found d) k = wsum found (k + 1)
  | [] => rfl
  | q :: r => by
    have ih := wsum_next (d := d) (k := k) (found := r)
    unfold wsum salNext at ih ⊢
    rw [List.flatMap_cons, List.map_append, List.sum_append, List.map_cons, List.sum_cons, ih]
    simp only [List.map_cons, List.sum_cons, List.map_map, cnt]
    rfl
theorem len_wsum {k : Nat} : ∀ {found : List SQ}, found.length ≤ wsum found k
  | [] => Nat.le_refl _
  | q :: r => by
    have ih := len_wsum (k := k) (found := r)
    have := cnt_pos (r := q.2) (k := k)
    unfold wsum at ih ⊢
    rw [List.length_cons, List.map_cons, List.sum_cons]
    omega
theorem cnt_le : ∀ r : Fin 3, ∀ k : Fin 11, cnt (r.val : Int) k.val ≤ 66 := by decide +kernel
theorem cnt_small {r : Int} {k : Nat} (h0 : 0 ≤ r) (h : r ≤ 2) (hk : k ≤ 10) : cnt r k ≤ 66 := by
  have := cnt_le ⟨r.toNat, by omega⟩ ⟨k, by omega⟩
  simp only at this
  rwa [Int.toNat_of_nonneg h0] at this
theorem mem_keep {found : List SQ} {q : SQ} {d : Int} (h : q ∈ found) : q ∈ salNext found d := List.mem_flatMap.mpr ⟨q, h, by simp⟩
theorem mem_sell {found : List SQ} {q : SQ} {d part : Int} (h : q ∈ found) (h1 : 1 ≤ part) (h2 : part ≤ q.2) : (q.1 ++ [(d, part)], q.2 - part) ∈ salNext found d :=
  List.mem_flatMap.mpr ⟨q, h, List.mem_cons_of_mem _ (List.mem_map.mpr ⟨(part - 1).toNat, List.mem_range.mpr (by omega), by
    rw [Int.toNat_of_nonneg (by omega), show 1 + (part - 1) = part by omega]⟩)⟩
/-- all sales are told -/
theorem mem_sales : ∀ (k : Nat) (b : Int) (found : List SQ) (q : SQ) (xs : List (Int × Int)), q ∈ found → ascB xs = true → (∀ p ∈ xs, b ≤ p.1 ∧ p.1 < b + k ∧ 1 ≤ p.2) → (xs.map (·.2)).sum ≤ q.2 →
    ∃ r, (q.1 ++ xs, r) ∈ (daysFrom b k).foldl salNext found
  | 0, b, found, q, xs, hq, _, hx, _ => by
    cases xs with
    | nil => exact ⟨q.2, by simpa [daysFrom] using hq⟩
    | cons p r => have := hx p (by simp); omega
  | k + 1, b, found, q, xs, hq, ha, hx, hs => by
    rw [daysFrom_succ, List.foldl_cons]
    cases xs with
    | nil => exact mem_sales k (b + 1) _ q [] (mem_keep hq) rfl (fun p hp => by cases hp) hs
    | cons p r =>
      have hp := hx p (by simp)
      have hf := ascF_iff.mpr ha
      rw [List.map_cons, List.sum_cons] at hs
      by_cases hb : p.1 = b
      · have nn : 0 ≤ (r.map (·.2)).sum := by
          cases r with
          | nil => simp
          | cons y ys => exact (mem_le_sum (Q := y :: ys) (fun z hz => by have := hx z (List.mem_cons_of_mem _ hz); omega) y (by simp)).2
        have := mem_sales k (b + 1) _ (q.1 ++ [(b, p.2)], q.2 - p.2) r (mem_sell hq hp.2.2 (by omega)) (ascB_of hf) (fun z hz => by
          have h1 := hx z (List.mem_cons_of_mem _ hz)
          have h2 := ascF_ge hf z hz
          omega) (by simp only; omega)
        obtain ⟨t, ht⟩ := this
        refine ⟨t, ?_⟩
        have e : p = (b, p.2) := by rw [← hb]
        rw [e]
        simpa using ht
      · exact mem_sales k (b + 1) _ q (p :: r) (mem_keep hq) ha (fun z hz => by
          have h1 := hx z hz
          rcases List.mem_cons.mp hz with e | e
          · subst e; omega
          · have h2 := ascF_ge hf z e
            omega) (by rw [List.map_cons, List.sum_cons]; exact hs)
theorem sales_in {lot : Int × Int} {xs : List (Int × Int)} (h : Sales lot xs) (h9 : ∀ p ∈ xs, p.1 ≤ 9) : xs ∈ salsL lot := by
  obtain ⟨r, hr⟩ := mem_sales (10 - lot.1).toNat lot.1 [([], lot.2)] ([], lot.2) xs (by simp) h.dt.asc (fun p hp => by
    have := h.dt.rng p hp
    have := h9 p hp
    omega) h.sum
  exact List.mem_map.mpr ⟨_, hr, by simp⟩
/-- rows of sales -/
def truthsL (lots : List (Int × Int)) : List (List (List (Int × Int))) := lots.foldl (fun rows lot => rows.flatMap fun h => (salsL lot).map fun s => h ++ [s]) [[]]
theorem mem_truths : ∀ (lots : List (Int × Int)) (rows : List (List (List (Int × Int)))) (h t : List (List (Int × Int))), h ∈ rows → t.length = lots.length → (∀ q ∈ lots.zip t, q.2 ∈ salsL q.1) →
    h ++ t ∈ lots.foldl (fun rows lot => rows.flatMap fun h => (salsL lot).map fun s => h ++ [s]) rows
  | [], rows, h, t, hh, hl, _ => by
    have : t = [] := List.eq_nil_of_length_eq_zero hl
    subst this
    simpa using hh
  | lot :: lots, rows, h, t, hh, hl, hs => by
    cases t with
    | nil => simp at hl
    | cons s t =>
      rw [List.zip_cons_cons, List.forall_mem_cons] at hs
      rw [List.foldl_cons]
      have := mem_truths lots (rows.flatMap fun h => (salsL lot).map fun s => h ++ [s]) (h ++ [s]) t (List.mem_flatMap.mpr ⟨h, hh, List.mem_map.mpr ⟨s, hs.1, rfl⟩⟩) (by simpa using hl) hs.2
      simpa using this
/-- a tiny ledger -/
structure Tiny (l : L) : Prop where
  ok : l.Ok
  lots : l.lots.length ≤ 2
  day : ∀ p ∈ l.lots, p.1 ≤ 6 ∧ 0 ≤ p.2 ∧ p.2 ≤ 2
  cday : ∀ p ∈ l.counts, p.1 ≤ 7
theorem truth_in {l : L} (hl : Tiny l) {t : List (List (Int × Int))} (ht : Truth l t) (h9 : ∀ s ∈ t, ∀ p ∈ s, p.1 ≤ 9) : t ∈ truthsL l.lots := by
  have := mem_truths l.lots [[]] [] t (by simp) ht.len (fun q hq => sales_in (ht.sales q hq) (h9 q.2 (List.of_mem_zip hq).2))
  simpa [truthsL] using this
/-- a truth with the bound stands in the list -/
theorem truth_best {l : L} {m : Bool} (hl : Tiny l) (h : hasTr l = true) : ∃ t ∈ truthsL l.lots, Truth l t ∧ creditWith l t = bnd l m := by
  obtain ⟨f, _, hd, hb, _⟩ := r_best_flow (n0 := 0) (S := []) (m := m) hl.ok (hasTr_iff.mp h) (shape_worths (m := m) hl.ok)
  obtain ⟨h1, h2, h3⟩ := truth_of_flow (m := m) hl.ok (shape_worths hl.ok) hd hb.1
  refine ⟨_, truth_in hl h1 fun s hs p hp => ?_, h1, by rw [h2]; exact (bnd_is ⟨_, rfl, hb⟩).symm⟩
  have := h3 8 (fun c hc => by have := hl.cday c hc; omega) (fun x hx => by have := hl.day x hx; omega) (by omega) s hs p hp
  omega
theorem truth_has {l : L} {t : List (List (Int × Int))} (hl : l.Ok) (ht : Truth l t) : hasTr l = true := has_of_full (flow_of_truth hl ht (shape_worths (m := false) hl))
theorem truth_within {l : L} {t : List (List (Int × Int))} (hl : l.Ok) (ht : Truth l t) : bnd l false ≤ creditWith l t ∧ creditWith l t ≤ bnd l true :=
  credit_bounds hl ht (bnd_spec hl (truth_has hl ht)) (bnd_spec hl (truth_has hl ht))
end My

/-! N26: all truths of a tiny ledger, walked. -/
namespace My
open Pv Fl
open PySem (Str)
def eSQ (q : SQ) : D := .tup [eP q.1, .int q.2]
theorem asg_eSQ {g : G} {q : SQ} {ρ : Env} : asg (.tup g) (eSQ q) ρ = asg.asgs g [eP q.1, .int q.2] ρ := rfl
structure SInv (found : List SQ) (k : Nat) : Prop where
  each : ∀ q ∈ found, 0 ≤ q.2 ∧ q.2 ≤ 2 ∧ q.1.length + q.2.toNat ≤ 2
  len : wsum found k ≤ 66
theorem SInv.next {found : List SQ} {k : Nat} {d : Int} (h : SInv found (k + 1)) : SInv (salNext found d) k := by
  refine ⟨fun q hq => ?_, by rw [wsum_next]; exact h.len⟩
  obtain ⟨q0, h0, h1⟩ := List.mem_flatMap.mp hq
  have := h.each q0 h0
  rcases List.mem_cons.mp h1 with e | e
  · rw [e]; exact this
  · obtain ⟨j, hj, rfl⟩ := List.mem_map.mp e
    rw [List.mem_range] at hj
    simp only [List.length_append, List.length_cons, List.length_nil]
    omega
theorem sinv_all : ∀ (ds : List Int) (found : List SQ), SInv found ds.length → SInv (ds.foldl salNext found) 0
  | [], _, h => h
  | d :: ds, found, h => sinv_all ds _ h.next
section
variable {n : Nat} {S : Sto}
theorem sales_b3 {a0 a1 : Sl} {d : Int} {q : SQ} {fu : List SQ} {j6 : Sl} (hq : q.2 ≤ 2) (hl : q.1.length ≤ 2) (hf : fu.length + q.2.toNat ≤ 10000) :
    ∃ j' : Sl, fors (asg (.nm 6)) (exec wrd (go n) none t_law_sales_b3) ((List.range q.2.toNat).map fun (i : Nat) => .int (1 + (i : Int))) [a0, a1, .v (.int d), .own (fu.map eSQ), .v (eP q.1), .v (.int q.2), j6] S =
      .nx [a0, a1, .v (.int d), .own ((fu ++ (List.range q.2.toNat).map fun (j : Nat) => (q.1 ++ [(d, 1 + (j : Int))], q.2 - (1 + (j : Int)))).map eSQ), .v (eP q.1), .v (.int q.2), j'] S := by
  obtain ⟨j', e⟩ := fors_foldI (bind := asg (.nm 6)) (body := exec wrd (go n) none t_law_sales_b3) (enc := fun (i : Nat) => D.int (1 + (i : Int))) (S := S)
    (fun (fu : List SQ) (j : Sl) => [a0, a1, .v (.int d), .own (fu.map eSQ), .v (eP q.1), .v (.int q.2), j])
    (fun fu i => fu ++ [(q.1 ++ [(d, 1 + (i : Int))], q.2 - (1 + (i : Int)))]) (fun fu k => fu.length + k ≤ 10000) (xs := List.range q.2.toNat) fu j6 (by simpa using hf) (fun fu j i k hm hk => by
      have l1 : lenOk (q.1.length + 1) = true := lenOk_of (by unfold maxLen; omega)
      have l2 : lenOk (fu.length + 1) = true := lenOk_of (by unfold maxLen; omega)
      refine ⟨_, by simp only [asg_nm]; rfl, by rw [List.length_append]; simp only [List.length_cons, List.length_nil]; omega, .v (.int (1 + (i : Int))), ?_⟩
      simp [t_law_sales_b3, l1, l2, eSQ])
  have := foldl_app (g := fun (i : Nat) => [(q.1 ++ [(d, 1 + (i : Int))], q.2 - (1 + (i : Int)))]) (List.range q.2.toNat) fu
  rw [this] at e
  rw [show (List.range q.2.toNat).flatMap (fun (i : Nat) => [(q.1 ++ [(d, 1 + (i : Int))], q.2 - (1 + (i : Int)))]) = (List.range q.2.toNat).map fun (j : Nat) => (q.1 ++ [(d, 1 + (j : Int))], q.2 - (1 + (j : Int))) from (by rw [List.map_eq_flatMap])] at e
  exact ⟨j', e⟩
theorem sales_b2 {a0 a1 : Sl} {d : Int} {found : List SQ} (hf : ∀ q ∈ found, 0 ≤ q.2 ∧ q.2 ≤ 2 ∧ q.1.length + q.2.toNat ≤ 2) (hl : found.length ≤ 66) (j : Sl × Sl × Sl) :
    ∃ j' : Sl × Sl × Sl, fors (asg (.tup (.cons (.nm 4) (.cons (.nm 5) .nil)))) (exec wrd (go n) none t_law_sales_b2) (found.map eSQ) [a0, a1, .v (.int d), .own [], j.1, j.2.1, j.2.2] S =
      .nx [a0, a1, .v (.int d), .own ((salNext found d).map eSQ), j'.1, j'.2.1, j'.2.2] S := by
  obtain ⟨j', e⟩ := fors_foldI (bind := asg (.tup (.cons (.nm 4) (.cons (.nm 5) .nil)))) (body := exec wrd (go n) none t_law_sales_b2) (enc := eSQ) (S := S)
    (fun (fu : List SQ) (j : Sl × Sl × Sl) => [a0, a1, .v (.int d), .own (fu.map eSQ), j.1, j.2.1, j.2.2])
    (fun fu q => fu ++ ((q.1, q.2) :: (List.range q.2.toNat).map fun (j : Nat) => (q.1 ++ [(d, 1 + (j : Int))], q.2 - (1 + (j : Int))))) (fun fu k => fu.length + 3 * k ≤ 1000) (xs := found) [] j (by simp; omega) (fun fu j q k hm hk => by
      obtain ⟨h0, h2, hq⟩ := hf q hm
      have l2 : lenOk (fu.length + 1) = true := lenOk_of (by unfold maxLen; omega)
      obtain ⟨j3, e3⟩ := sales_b3 (n := n) (S := S) (a0 := a0) (a1 := a1) (d := d) (q := q) (fu := fu ++ [(q.1, q.2)]) (j6 := j.2.2) h2 (by omega) (by rw [List.length_append]; simp only [List.length_cons, List.length_nil]; omega)
      have rg : ∀ S : Sto, rg2 (.int 1) (.int (q.2 + 1)) S = .ok ((List.range q.2.toNat).map fun (i : Nat) => .int (1 + (i : Int))) S := fun S => by
        rw [rg2_ok (by omega) (by omega), show q.2 + 1 - 1 = q.2 by omega]
      refine ⟨_, by simp [asg_eSQ]; rfl, by rw [List.length_append]; simp only [List.length_cons, List.length_map, List.length_range]; omega, (.v (eP q.1), .v (.int q.2), j3), ?_⟩
      simp [t_law_sales_b2, l2, rg]
      rw [show fu.map eSQ ++ [D.tup [eP q.1, .int q.2]] = (fu ++ [(q.1, q.2)]).map eSQ by simp [eSQ]]
      rw [e3]
      simp)
  rw [foldl_app, List.nil_append] at e
  exact ⟨j', e⟩
theorem r_law_sales {lot : Int × Int} (h0 : 0 ≤ lot.1) (h1 : lot.1 ≤ 9) (h2 : 0 ≤ lot.2 ∧ lot.2 ≤ 2) : go (n + 1) i_law_sales [ePr lot] S = .ok (.lst ((salsL lot).map eP)) S ∧ (salsL lot).length ≤ 66 := by
  have st : SInv [([], lot.2)] (10 - lot.1).toNat := ⟨by simp; omega, by
    show cnt lot.2 _ + 0 ≤ 66
    have := cnt_small h2.1 h2.2 (k := (10 - lot.1).toNat) (by omega)
    omega⟩
  have dl : (daysFrom lot.1 (10 - lot.1).toNat).length = (10 - lot.1).toNat := by simp [daysFrom]
  have fin := sinv_all (daysFrom lot.1 (10 - lot.1).toNat) [([], lot.2)] (by rw [dl]; exact st)
  have flen := Nat.le_trans (len_wsum (k := 0)) fin.len
  refine ⟨?_, by unfold salsL; rw [List.length_map]; exact flen⟩
  rw [go_step e_law_sales rfl]
  have rg : ∀ S : Sto, rg2 (.int lot.1) (.int 10) S = .ok ((List.range (10 - lot.1).toNat).map fun (i : Nat) => .int (lot.1 + (i : Int))) S := fun S => rg2_ok (by omega) (by omega)
  obtain ⟨j, e⟩ := fors_foldI (bind := asg (.nm 2)) (body := exec wrd (go n) none t_law_sales_b1) (enc := fun (i : Nat) => D.int (lot.1 + (i : Int))) (S := S)
    (fun (found : List SQ) (j : Nat → Sl) => [.v (ePr lot), .v (.lst (found.map eSQ)), j 2, j 3, j 4, j 5, j 6])
    (fun found i => salNext found (lot.1 + (i : Int))) SInv (xs := List.range (10 - lot.1).toNat) [([], lot.2)] (fun _ => .un) (by rw [List.length_range]; exact st) (fun found j i k hm hk => by
      have fl := Nat.le_trans (len_wsum (k := k + 1)) hk.len
      obtain ⟨j2, e2⟩ := sales_b2 (n := n) (S := S) (a0 := .v (ePr lot)) (a1 := .v (.lst (found.map eSQ))) (d := lot.1 + (i : Int)) (found := found) hk.each fl (j 4, j 5, j 6)
      refine ⟨_, by simp only [asg_nm]; rfl, hk.next, (fun x => [.un, .un, .v (.int (lot.1 + (i : Int))), .v (.lst ((salNext found (lot.1 + (i : Int))).map eSQ)), j2.1, j2.2.1, j2.2.2].getD x .un), ?_⟩
      simp [t_law_sales_b1]
      rw [e2]
      simp)
  have ef : (List.range (10 - lot.1).toNat).foldl (fun found (i : Nat) => salNext found (lot.1 + (i : Int))) [([], lot.2)] = (daysFrom lot.1 (10 - lot.1).toNat).foldl salNext [([], lot.2)] := by
    unfold daysFrom
    rw [List.foldl_map]
  rw [ef] at e
  have e0 : (.lst [.tup [.tup [], .int lot.2]] : D) = .lst ([(([], lot.2) : SQ)].map eSQ) := rfl
  simp [f_law_sales, t_law_sales, rg]
  rw [e0, e]
  simp
  rw [comps_all (enc := eSQ) (f := fun q => eP q.1) (fun q hq => ⟨_, by simp [asg_eSQ]; rfl, by simp, by simp⟩) (by unfold maxLen; omega)]
  simp [salsL, Function.comp_def]
end
theorem eT_toS {t : List (List (Int × Int))} : (t.map eP).map toS = t := by
  rw [List.map_map]
  conv => rhs; rw [← List.map_id t]
  exact List.map_congr_left fun s _ => toS_eP
theorem truthB_T {l : L} {t : List (List (Int × Int))} : truthB l (eT t) = true ↔ Truth l t := by
  constructor
  · intro h
    obtain ⟨t', e, ht⟩ := truthB_iff.mp h
    have e2 : t.map eP = t'.map eP := D.tup.inj e
    have : t = t' := by rw [← eT_toS (t := t), e2, eT_toS]
    rw [this]; exact ht
  · exact truthB_eT
def rowsT (rows : List (List (List (Int × Int)))) (lot : Int × Int) : List (List (List (Int × Int))) := rows.flatMap fun h => (salsL lot).map fun s => h ++ [s]
structure TInvA (rows : List (List (List (Int × Int)))) (k : Nat) : Prop where
  each : ∀ h ∈ rows, h.length + k ≤ 2
  len : rows.length * 66 ^ k ≤ 4356
section
variable {n : Nat} {S : Sto} {l : L}
theorem TInvA.next {rows : List (List (List (Int × Int)))} {k : Nat} {lot : Int × Int} (h : TInvA rows (k + 1)) (hs : (salsL lot).length ≤ 66) : TInvA (rowsT rows lot) k := by
  refine ⟨fun t ht => ?_, ?_⟩
  · obtain ⟨h0, h1, h2⟩ := List.mem_flatMap.mp ht
    obtain ⟨s, _, rfl⟩ := List.mem_map.mp h2
    have := h.each h0 h1
    rw [List.length_append]; simp only [List.length_cons, List.length_nil]; omega
  · have := flat_len (g := fun (h : List (List (Int × Int))) => (salsL lot).map fun s => h ++ [s]) (m := 66) (xs := rows) fun h _ => by rw [List.length_map]; exact hs
    have h2 := h.len
    rw [Nat.pow_succ, Nat.mul_comm (66 ^ k) 66, ← Nat.mul_assoc] at h2
    exact Nat.le_trans (Nat.mul_le_mul_right _ this) h2
theorem tinv_all : ∀ (lots : List (Int × Int)) (rows : List (List (List (Int × Int)))), (∀ p ∈ lots, (salsL p).length ≤ 66) → TInvA rows lots.length → TInvA (lots.foldl rowsT rows) 0
  | [], _, _, h => h
  | lot :: lots, rows, hp, h => tinv_all lots _ (fun p hp' => hp p (List.mem_cons_of_mem _ hp')) (h.next (hp lot (by simp)))
theorem ends_b2 {a0 a2 a3 a4 : Sl} {lot : Int × Int} {rows : List (List (List (Int × Int)))} (h0 : 0 ≤ lot.1) (h1 : lot.1 ≤ 9) (h2 : 0 ≤ lot.2 ∧ lot.2 ≤ 2) (hr : ∀ h ∈ rows, h.length ≤ 2) (hl : rows.length ≤ 4356) (j6 : Sl) :
    ∃ j' : Sl, fors (asg (.nm 6)) (exec wrd (go (n + 2)) none t_law_all_ends_b2) (rows.map eT) [a0, .v (ePr lot), a2, a3, a4, .v (.lst []), j6, .un] S =
      .nx [a0, .v (ePr lot), a2, a3, a4, .v (.lst ((rowsT rows lot).map eT)), j', .un] S := by
  obtain ⟨j', e⟩ := fors_foldI (bind := asg (.nm 6)) (body := exec wrd (go (n + 2)) none t_law_all_ends_b2) (enc := eT) (S := S)
    (fun (lg : List (List (List (Int × Int)))) (j : Sl) => [a0, .v (ePr lot), a2, a3, a4, .v (.lst (lg.map eT)), j, .un])
    (fun lg h => lg ++ (salsL lot).map fun s => h ++ [s]) (fun lg k => lg.length + 66 * k ≤ 300000) (xs := rows) [] j6 (by simp; omega) (fun lg j h k hm hk => by
      obtain ⟨sl, sll⟩ := r_law_sales (n := n + 1) (S := S) (lot := lot) h0 h1 h2
      have l1 : lenOk (h.length + 1) = true := lenOk_of (by have := hr h hm; unfold maxLen; omega)
      have cp := comps_all (bind := fun x => some [a0, .v (ePr lot), a2, a3, a4, .v (.lst (lg.map eT)), .v (eT h), .v x]) (cond := ev wrd (go (n + 2)) (.lit (.bl true))) (elt := ev wrd (go (n + 2)) (.bin .add (.var 6) (.tup (.cons (.var 7) .nil)))) (enc := eP) (f := fun s => eT (h ++ [s])) (S := S) (xs := salsL lot) (fun s hs => ⟨_, rfl, by simp, by simp [l1]⟩) (by unfold maxLen; omega)
      have l2 : lenOk ((salsL lot).length + lg.length) = true := lenOk_of (by unfold maxLen; omega)
      have l3 : lenOk (lg.length + (salsL lot).length) = true := lenOk_of (by unfold maxLen; omega)
      refine ⟨_, by simp only [asg_nm]; rfl, by rw [List.length_append, List.length_map]; omega, .v (eT h), ?_⟩
      simp [t_law_all_ends_b2, sl]
      rw [cp]
      simp [l2, l3, Function.comp_def])
  rw [foldl_app, List.nil_append] at e
  exact ⟨j', e⟩
theorem ne_ints_nil {xs : List Int} : cmpD .ne (.lst (xs.map .int)) (.lst []) = some (.bl (!xs.isEmpty)) := by
  have h1 : plainD (.lst (xs.map .int)) = true := plainD_of (m := 1) (plain_lst_of fun x hx => by
    obtain ⟨i, _, rfl⟩ := List.mem_map.mp hx
    exact plain_int) (by omega)
  have h2 : plainD (.lst []) = true := plainD_of (m := 1) (plain_lst_of fun x hx => by cases hx) (by omega)
  rw [cmp_ne h1 h2]
  cases xs <;> rfl
theorem ne_nil_nil : cmpD .ne (.lst []) (.lst []) = some (.bl false) := ne_ints_nil (xs := [])
theorem ne_cons_nil {x : Int} {xs : List Int} : cmpD .ne (.lst (.int x :: xs.map .int)) (.lst []) = some (.bl true) := ne_ints_nil (xs := x :: xs)
/-- the credits of all truths -/
def totsL (l : L) : List Int := ((truthsL l.lots).filter fun t => truthB l (eT t)).map (creditWith l)
theorem r_law_all_ends (hl : Tiny l) : go (n + 3) i_law_all_ends [eL l] S = .ok (eB l) S := by
  have l2 := hl.lots
  have sz : ∀ p ∈ l.lots, 0 ≤ p.1 ∧ p.1 ≤ 9 ∧ 0 ≤ p.2 ∧ p.2 ≤ 2 := fun p hp => by
    have := hl.ok.lots.rng p hp
    have := hl.day p hp
    omega
  have s66 : ∀ p ∈ l.lots, (salsL p).length ≤ 66 := fun p hp => by
    obtain ⟨a, b, c⟩ := sz p hp
    exact (r_law_sales (n := 0) (S := []) (lot := p) a b c).2
  have st : TInvA [[]] l.lots.length := ⟨by simp; exact l2, by
    have : (66 : Nat) ^ l.lots.length ≤ 66 ^ 2 := Nat.pow_le_pow_right (by omega) l2
    simpa using this⟩
  have fin := tinv_all l.lots [[]] s66 st
  have flen : (truthsL l.lots).length ≤ 4356 := by
    have := fin.len
    rw [Nat.pow_zero, Nat.mul_one] at this
    exact this
  rw [go_step e_law_all_ends rfl]
  obtain ⟨j, e⟩ := fors_foldI (bind := asg (.nm 1)) (body := exec wrd (go (n + 2)) none t_law_all_ends_b1) (enc := ePr) (S := S)
    (fun (rows : List (List (List (Int × Int)))) (j : Nat → Sl) => [.v (eL l), j 1, .un, .own [], .v (.lst (rows.map eT)), j 5, j 6, .un])
    rowsT TInvA (xs := l.lots) [[]] (fun _ => .un) st (fun rows j lot k hm hk => by
      obtain ⟨a, b, c⟩ := sz lot hm
      have rl : rows.length ≤ 4356 := by
        have h1 := hk.len
        have h2 : 1 ≤ 66 ^ (k + 1) := Nat.one_le_pow _ _ (by omega)
        have := Nat.mul_le_mul_left rows.length h2
        omega
      obtain ⟨j2, e2⟩ := ends_b2 (n := n) (S := S) (a0 := .v (eL l)) (a2 := .un) (a3 := .own []) (a4 := .v (.lst (rows.map eT))) (lot := lot) (rows := rows) a b c (fun h hh => by have := hk.each h hh; omega) rl (j 6)
      refine ⟨_, by simp only [asg_nm]; rfl, hk.next (s66 lot hm), (fun x => [.un, .v (ePr lot), .un, .un, .un, .v (.lst ((rowsT rows lot).map eT)), j2].getD x .un), ?_⟩
      simp [t_law_all_ends_b1]
      rw [e2]
      simp)
  have et : l.lots.foldl rowsT [[]] = truthsL l.lots := rfl
  rw [et] at e
  obtain ⟨i, e3⟩ := fors_foldI (bind := asg (.nm 2)) (body := exec wrd (go (n + 2)) none t_law_all_ends_b3) (enc := eT) (S := S)
    (fun (ts : List Int) (i : Sl) => [.v (eL l), j 1, i, .own (ts.map .int), .v (.lst ((truthsL l.lots).map eT)), j 5, j 6, .un])
    (fun ts t => if truthB l (eT t) then ts ++ [creditWith l t] else ts) (fun ts k => ts.length + k ≤ 4356) (xs := truthsL l.lots) [] .un (by simpa using flen) (fun ts i t k hm hk => by
      have it := r_law_is_truth (n := n) (S := S) hl.ok (plain_eT (n := 0) (t := t))
      have su := r_law_sum (n := n) (S := S) (t := t) hl.ok
      have lo : lenOk (ts.length + 1) = true := lenOk_of (by unfold maxLen; omega)
      refine ⟨_, by simp only [asg_nm]; rfl, ?_, .v (eT t), ?_⟩
      · split
        · rw [List.length_append]; simp only [List.length_cons, List.length_nil]; omega
        · omega
      · cases hb : truthB l (eT t)
        · rw [hb] at it
          simp [t_law_all_ends_b3, it]
        · rw [hb] at it
          simp [t_law_all_ends_b3, it, su, lo])
  have ef : ∀ (xs : List (List (List (Int × Int)))) (a : List Int), xs.foldl (fun ts t => if truthB l (eT t) then ts ++ [creditWith l t] else ts) a = a ++ (xs.filter fun t => truthB l (eT t)).map (creditWith l) := by
    intro xs
    induction xs with
    | nil => intro a; simp
    | cons x xs ih => intro a; rw [List.foldl_cons, ih, List.filter_cons]; split <;> simp
  rw [ef, List.nil_append] at e3
  have hend : ∀ ts : List Int, ts = totsL l → (match ts with
      | [] => D.non
      | x :: xs => .tup [.int (minI x xs), .int (maxI x xs)]) = eB l := fun ts hts => by
    unfold eB
    cases hh : hasTr l with
    | false =>
      have : totsL l = [] := by
        unfold totsL
        rw [List.filter_eq_nil_iff.mpr fun t ht hb => by
          have := truth_has hl.ok (truthB_T.mp hb)
          rw [hh] at this; cases this]
        rfl
      rw [this] at hts
      subst hts
      rfl
    | true =>
      have mem : ∀ m, bnd l m ∈ ts := fun m => by
        obtain ⟨t, h1, h2, h3⟩ := truth_best (m := m) hl hh
        rw [hts, ← h3]
        exact List.mem_map.mpr ⟨t, List.mem_filter.mpr ⟨h1, truthB_T.mpr h2⟩, rfl⟩
      have wi : ∀ y ∈ ts, bnd l false ≤ y ∧ y ≤ bnd l true := fun y hy => by
        rw [hts] at hy
        obtain ⟨t, ht, rfl⟩ := List.mem_map.mp hy
        exact truth_within hl.ok (truthB_T.mp (List.mem_filter.mp ht).2)
      cases ts with
      | nil => cases mem false
      | cons x xs =>
        simp [minI_is (fun y hy => (wi y hy).1) (mem false), maxI_is (fun y hy => (wi y hy).2) (mem true)]
  have e0 : (.lst [.tup []] : D) = .lst ([([] : List (List (Int × Int)))].map eT) := rfl
  have hE := hend _ rfl
  have e4 : fors (asg (.nm 2)) (exec wrd (go (n + 2)) none t_law_all_ends_b3) ((truthsL l.lots).map eT) [.v (eL l), j 1, .un, .own [], .v (.lst ((truthsL l.lots).map eT)), j 5, j 6, .un] S = .nx [.v (eL l), j 1, i, .own ((totsL l).map .int), .v (.lst ((truthsL l.lots).map eT)), j 5, j 6, .un] S := e3
  have e1 : fors (asg (.nm 1)) (exec wrd (go (n + 2)) none t_law_all_ends_b1) (l.lots.map ePr) [.v (eL l), .un, .un, .own [], .v (.lst [.tup []]), .un, .un, .un] S = .nx [.v (eL l), j 1, .un, .own [], .v (.lst ((truthsL l.lots).map eT)), j 5, j 6, .un] S := e
  simp [f_law_all_ends, t_law_all_ends]
  rw [e1]
  simp
  rw [e4]
  have hE : (match totsL l with
      | [] => D.non
      | x :: xs => .tup [.int (minI x xs), .int (maxI x xs)]) = eB l := hE
  rw [← hE]
  cases totsL l with
  | nil => simp [ne_nil_nil]
  | cons x xs => simp [ne_cons_nil, blt_minI, blt_maxC]
end
end My

/-! N27: odd values are refused. -/
namespace My
open Pv Fl
open PySem (Str)
theorem r_law_by_two {n k e : Nat} {a b : D} {w : Str} {S S' : Sto} (h : go n k [a, b] S = .exc e S') (hw : wrd e = some w) : go (n + 1) i_law_by_two [.fn k, a, b] S = .ok (.str w) S' := by
  rw [go_step e_law_by_two rfl]
  simp [f_law_by_two, t_law_by_two, h, rfR_exc hw]
theorem w_ledger : wrd c_InvalidLedger = some (Str.ofString "ledger") := w_InvalidLedger
theorem w_word : wrd c_InvalidWord = some (Str.ofString "word") := w_InvalidWord
theorem mul_word2 : binD .mul (.lst [.str (Str.ofString "word")]) (.int 2) = some (.lst [.str (Str.ofString "word"), .str (Str.ofString "word")]) := by rfl
theorem mul_ledger3 : binD .mul (.lst [.str (Str.ofString "ledger")]) (.int 3) = some (.lst [.str (Str.ofString "ledger"), .str (Str.ofString "ledger"), .str (Str.ofString "ledger")]) := by rfl
theorem ne_word2 : cmpD .ne (.lst [.str (Str.ofString "word"), .str (Str.ofString "word")]) (.lst [.str (Str.ofString "word"), .str (Str.ofString "word")]) = some (.bl false) := (cmp_ne (by decide +kernel) (by decide +kernel)).trans (congrArg (fun b => some (D.bl b)) (by decide +kernel))
theorem ne_ledger3 : cmpD .ne (.lst [.str (Str.ofString "ledger"), .str (Str.ofString "ledger"), .str (Str.ofString "ledger")]) (.lst [.str (Str.ofString "ledger"), .str (Str.ofString "ledger"), .str (Str.ofString "ledger")]) = some (.bl false) := (cmp_ne (by decide +kernel) (by decide +kernel)).trans (congrArg (fun b => some (D.bl b)) (by decide +kernel))
section
variable {n : Nat} {l : L} {S : Sto} {a2 a3 : Sl}
theorem ref_b1 {k : Nat} {odd : D} (hl : l.Ok) (hp : plain k odd = true) (hk : k ≤ 60) (hw : isWord odd = false) : exec wrd (go (n + 6)) none t_law_refusals_b1 [.v (eL l), .v odd, a2, a3] S = .nx [.v (eL l), .v odd, a2, a3] S := by
  have h1 := r_law_by_two (r_bound_odd (n0 := n) (S := S) hl hp hk hw) w_word
  have h2 := r_law_by_two (r_truth_with_odd (n0 := n) (S := S) hl hp hk hw) w_word
  simp [t_law_refusals_b1, comps, h1, h2, mul_word2, ne_word2]
theorem ref_b2 {k : Nat} {odd : D} (hp : plain k odd = true) (hb : ledB odd = false) : exec wrd (go (n + 6)) none t_law_refusals_b2 [.v (eL l), .v odd, a2, a3] S = .nx [.v (eL l), .v odd, .v (.lst [.str (Str.ofString "ledger"), .str (Str.ofString "ledger")]), a3] S := by
  have h1 := r_law_by_two (r_bound_bad (n0 := n) (v := .non) (S := S) hp hb) w_ledger
  have h2 := r_law_by_two (r_truth_with_bad (n0 := n) (v := .non) (S := S) hp hb) w_ledger
  have h3 : go (n + 6) i_spread [odd] S = .exc c_InvalidLedger S := r_spread_bad (n0 := n + 1) (S := S) hp hb
  simp [t_law_refusals_b2, comps, h1, h2, h3, rfR_exc w_ledger, mul_ledger3, ne_ledger3]
theorem r_law_refusals (hl : l.Ok) : go (n + 7) i_law_refusals [eL l] S = .ok (.bl true) S := by
  rw [go_step e_law_refusals rfl]
  have o1 := fun a2 a3 => ref_b1 (n := n) (S := S) (a2 := a2) (a3 := a3) (k := 1) (odd := .non) hl (by simp) (by decide) rfl
  have o2 := fun a2 a3 => ref_b1 (n := n) (S := S) (a2 := a2) (a3 := a3) (k := 1) (odd := .str (Str.ofString "")) hl (by decide +kernel) (by decide) (by decide +kernel)
  have o3 := fun a2 a3 => ref_b1 (n := n) (S := S) (a2 := a2) (a3 := a3) (k := 1) (odd := .str (Str.ofString "Least")) hl (by decide +kernel) (by decide) (by decide +kernel)
  have o4 := fun a2 a3 => ref_b1 (n := n) (S := S) (a2 := a2) (a3 := a3) (k := 1) (odd := .str (Str.ofString "greatest")) hl (by decide +kernel) (by decide) (by decide +kernel)
  have o5 := fun a2 a3 => ref_b1 (n := n) (S := S) (a2 := a2) (a3 := a3) (k := 1) (odd := .int 0) hl (by simp) (by decide) rfl
  have o6 := fun a2 a3 => ref_b1 (n := n) (S := S) (a2 := a2) (a3 := a3) (k := 2) (odd := .tup [.str (Str.ofString "least")]) hl (by decide +kernel) (by decide) rfl
  have p1 := fun a2 a3 => ref_b2 (n := n) (l := l) (S := S) (a2 := a2) (a3 := a3) (k := 1) (odd := .non) (by simp) rfl
  have p2 := fun a2 a3 => ref_b2 (n := n) (l := l) (S := S) (a2 := a2) (a3 := a3) (k := 1) (odd := .tup []) (by decide +kernel) rfl
  have p3 := fun a2 a3 => ref_b2 (n := n) (l := l) (S := S) (a2 := a2) (a3 := a3) (k := 3) (odd := .tup [eP l.lots, eP l.counts, eP l.falls]) (plain_tup_of fun x hx => by
    simp only [List.mem_cons, List.not_mem_nil, or_false] at hx
    rcases hx with rfl | rfl | rfl <;> exact plain_eP) rfl
  have p4 := fun a2 a3 => ref_b2 (n := n) (l := l) (S := S) (a2 := a2) (a3 := a3) (k := 3) (odd := .lst [eP l.lots, eP l.counts, eP l.falls, .int l.win]) (plain_lst_of fun x hx => by
    simp only [List.mem_cons, List.not_mem_nil, or_false] at hx
    rcases hx with rfl | rfl | rfl | rfl
    · exact plain_eP
    · exact plain_eP
    · exact plain_eP
    · simp) rfl
  have s3 : slD S (eL l) none (some 3) = some (.tup [eP l.lots, eP l.counts, eP l.falls]) := rfl
  have sL : seqOf S (eL l) = some [eP l.lots, eP l.counts, eP l.falls, .int l.win] := rfl
  simp [f_law_refusals, t_law_refusals, fors, o1, o2, o3, o4, o5, o6, s3, sL, p1, p2, p3, p4]
end
end My

/-! N28: the written ledgers. -/
namespace My
open Pv Fl
open PySem (Str)
/-- a bound, by the list of all flows -/
def bndB (l : L) (m : Bool) (v : Int) : Bool := (flowsL l).any (fun f => decide (flowTot l m f = v)) && (flowsL l).all fun f => if m then decide (flowTot l m f ≤ v) else decide (v ≤ flowTot l m f)
theorem bnd_of {l : L} {m : Bool} {v : Int} (hl : l.Ok) (h : bndB l m v = true) : hasTr l = true ∧ bnd l m = v := by
  unfold bndB at h
  rw [Bool.and_eq_true, List.any_eq_true, List.all_eq_true] at h
  obtain ⟨⟨f, hf, e⟩, h2⟩ := h
  have ht : hasTr l = true := (flows_ne hl).mp fun e => by rw [e] at hf; cases hf
  refine ⟨ht, ?_⟩
  have e := of_decide_eq_true e
  obtain ⟨g, hg, eg⟩ := flow_ex (m := m) hl ht
  have a := flow_le (m := m) hl hf
  have b := h2 g hg
  cases m
  · simp only [Bool.false_eq_true, if_false, decide_eq_true_eq] at a b; omega
  · simp only [if_true, decide_eq_true_eq] at a b; omega
theorem eB_of {l : L} {v w : Int} (hl : l.Ok) (h1 : bndB l false v = true) (h2 : bndB l true w = true) : eB l = .tup [.int v, .int w] := by
  unfold eB
  rw [(bnd_of hl h1).1, (bnd_of hl h1).2, (bnd_of hl h2).2]
  rfl
theorem eB_no {l : L} (h : hasTr l = false) : eB l = .non := by unfold eB; rw [h]; rfl
theorem times_asc {a : Int} : ∀ {ps : List (Int × Int)} , ascB (ps.map (mulP a)) = ascB ps
  | [] => rfl
  | [_] => rfl
  | p :: q :: r => by
    have := times_asc (a := a) (ps := q :: r)
    rw [List.map_cons, List.map_cons, ascB_cons, ascB_cons, ← List.map_cons, this]
    rfl
theorem times_ok {l : L} {a : Int} (hl : l.Ok) (h1 : ∀ p ∈ l.lots, p.2 ≤ 10) (h2 : ∀ p ∈ l.counts, p.2 ≤ 100) (ha : 1 ≤ a) (hb : a ≤ 100000000000000000000000000000) : (timesL l a).Ok := by
  refine ⟨⟨by rw [lots_times]; exact hl.lots.len, fun p hp => ?_, by show ascB (l.lots.map (mulP a)) = true; rw [times_asc]; exact hl.lots.asc⟩, ⟨by rw [counts_times]; exact hl.counts.len, fun p hp => ?_, by show ascB (l.counts.map (mulP a)) = true; rw [times_asc]; exact hl.counts.asc⟩, hl.falls, hl.win⟩
  · obtain ⟨q, hq, rfl⟩ := List.mem_map.mp hp
    have := hl.lots.rng q hq
    have h := h1 q hq
    refine ⟨this.1, this.2.1, ?_, ?_⟩
    · show 1 ≤ q.2 * a
      have := Int.mul_le_mul (show 1 ≤ q.2 by omega) ha (by omega) (by omega)
      omega
    · show q.2 * a ≤ _
      have := Int.mul_le_mul h hb (by omega) (by omega)
      omega
  · obtain ⟨q, hq, rfl⟩ := List.mem_map.mp hp
    have := hl.counts.rng q hq
    have h := h2 q hq
    refine ⟨this.1, this.2.1, ?_, ?_⟩
    · show 0 ≤ q.2 * a
      exact Int.mul_nonneg (by omega) (by omega)
    · show q.2 * a ≤ _
      have := Int.mul_le_mul h hb (by omega) (by omega)
      omega
theorem eB_times {l : L} {a : Int} (hl : l.Ok) (ha : 0 < a) : eB (timesL l a) = if hasTr l then .tup [.int (bnd l false * a), .int (bnd l true * a)] else .non := by
  unfold eB
  rw [has_times ha]
  cases h : hasTr l with
  | false => rfl
  | true => simp only [if_true, bnd_times hl ha h]
theorem right_of {n : Nat} {l : L} {S : Sto} {E : D} (hl : l.Ok) (h : eB l = E) : go (n + 11) i_law_right [eL l, E] S = .ok (.bl true) S := h ▸ r_law_right hl
def one : L := ⟨[(0, 10), (5, 4)], [(8, 6)], [(3, 2), (9, 5)], 7⟩
def two : L := ⟨[(0, 6), (2, 6)], [(1, 4), (4, 5)], [(1, 1), (3, 2), (4, 4)], 3⟩
def three : L := ⟨[(0, 5)], [], [(2, 3)], 2⟩
def four : L := ⟨[(0, 5)], [(1, 3), (2, 4)], [], 0⟩
def five : L := ⟨[(0, 3), (3, 3)], [(2, 3), (5, 3)], [(2, 1), (4, 7)], 9⟩
def six : L := ⟨[], [], [(1, 5)], 3⟩
def seven : L := ⟨[], [(1, 0), (4, 0)], [], 3⟩
def eight : L := ⟨[], [(1, 1)], [], 3⟩
def nine : L := ⟨[(2, 3)], [], [(5, 1)], 9⟩
theorem ok_one : one.Ok := ⟨⟨by decide, by simp [one], rfl⟩, ⟨by decide, by simp [one], rfl⟩, ⟨by decide, by simp [one], rfl⟩, by decide⟩
theorem ok_two : two.Ok := ⟨⟨by decide, by simp [two], rfl⟩, ⟨by decide, by simp [two], rfl⟩, ⟨by decide, by simp [two], rfl⟩, by decide⟩
theorem ok_three : three.Ok := ⟨⟨by decide, by simp [three], rfl⟩, ⟨by decide, by simp [three], rfl⟩, ⟨by decide, by simp [three], rfl⟩, by decide⟩
theorem ok_four : four.Ok := ⟨⟨by decide, by simp [four], rfl⟩, ⟨by decide, by simp [four], rfl⟩, ⟨by decide, by simp [four], rfl⟩, by decide⟩
theorem ok_five : five.Ok := ⟨⟨by decide, by simp [five], rfl⟩, ⟨by decide, by simp [five], rfl⟩, ⟨by decide, by simp [five], rfl⟩, by decide⟩
theorem ok_six : six.Ok := ⟨⟨by decide, by simp [six], rfl⟩, ⟨by decide, by simp [six], rfl⟩, ⟨by decide, by simp [six], rfl⟩, by decide⟩
theorem ok_seven : seven.Ok := ⟨⟨by decide, by simp [seven], rfl⟩, ⟨by decide, by simp [seven], rfl⟩, ⟨by decide, by simp [seven], rfl⟩, by decide⟩
theorem ok_eight : eight.Ok := ⟨⟨by decide, by simp [eight], rfl⟩, ⟨by decide, by simp [eight], rfl⟩, ⟨by decide, by simp [eight], rfl⟩, by decide⟩
theorem ok_nine : nine.Ok := ⟨⟨by decide, by simp [nine], rfl⟩, ⟨by decide, by simp [nine], rfl⟩, ⟨by decide, by simp [nine], rfl⟩, by decide⟩
theorem b_one1 : bndB one false 4 = true := by decide +kernel
theorem b_one2 : bndB one true 40 = true := by decide +kernel
theorem b_two1 : bndB two false 18 = true := by decide +kernel
theorem b_two2 : bndB two true 44 = true := by decide +kernel
theorem b_three1 : bndB three false 0 = true := by decide +kernel
theorem b_three2 : bndB three true 15 = true := by decide +kernel
theorem b_five1 : bndB five false 24 = true := by decide +kernel
theorem b_five2 : bndB five true 45 = true := by decide +kernel
theorem b_six1 : bndB six false 0 = true := by decide +kernel
theorem b_six2 : bndB six true 0 = true := by decide +kernel
theorem b_seven1 : bndB seven false 0 = true := by decide +kernel
theorem b_seven2 : bndB seven true 0 = true := by decide +kernel
theorem b_nine1 : bndB nine false 0 = true := by decide +kernel
theorem b_nine2 : bndB nine true 3 = true := by decide +kernel
end My

/-! N29: the written ledgers, walked. -/
namespace My
open Pv Fl
open PySem (Str)
section
variable {n : Nat} {S : Sto}
theorem pow29 : binD .pow (.int 10) (.int 29) = some (.int 100000000000000000000000000000) := bin_pow (k := 29) (by decide) (by decide)
theorem wr_one : go (n + 11) i_law_right [.tup [.tup [.tup [.int 0, .int 10], .tup [.int 5, .int 4]], .tup [.tup [.int 8, .int 6]], .tup [.tup [.int 3, .int 2], .tup [.int 9, .int 5]], .int 7], .tup [.int 4, .int 40]] S = .ok (.bl true) S := right_of (l := one) ok_one (eB_of ok_one b_one1 b_one2)
theorem wr_two : go (n + 11) i_law_right [.tup [.tup [.tup [.int 0, .int 6], .tup [.int 2, .int 6]], .tup [.tup [.int 1, .int 4], .tup [.int 4, .int 5]], .tup [.tup [.int 1, .int 1], .tup [.int 3, .int 2], .tup [.int 4, .int 4]], .int 3], .tup [.int 18, .int 44]] S = .ok (.bl true) S := right_of (l := two) ok_two (eB_of ok_two b_two1 b_two2)
theorem wr_three : go (n + 11) i_law_right [.tup [.tup [.tup [.int 0, .int 5]], .tup [], .tup [.tup [.int 2, .int 3]], .int 2], .tup [.int 0, .int 15]] S = .ok (.bl true) S := right_of (l := three) ok_three (eB_of ok_three b_three1 b_three2)
theorem wr_four : go (n + 11) i_law_right [.tup [.tup [.tup [.int 0, .int 5]], .tup [.tup [.int 1, .int 3], .tup [.int 2, .int 4]], .tup [], .int 0], .non] S = .ok (.bl true) S := right_of (l := four) ok_four (eB_no (by decide +kernel))
theorem wr_six : go (n + 11) i_law_right [.tup [.tup [], .tup [], .tup [.tup [.int 1, .int 5]], .int 3], .tup [.int 0, .int 0]] S = .ok (.bl true) S := right_of (l := six) ok_six (eB_of ok_six b_six1 b_six2)
theorem wr_seven : go (n + 11) i_law_right [.tup [.tup [], .tup [.tup [.int 1, .int 0], .tup [.int 4, .int 0]], .tup [], .int 3], .tup [.int 0, .int 0]] S = .ok (.bl true) S := right_of (l := seven) ok_seven (eB_of ok_seven b_seven1 b_seven2)
theorem wr_eight : go (n + 11) i_law_right [.tup [.tup [], .tup [.tup [.int 1, .int 1]], .tup [], .int 3], .non] S = .ok (.bl true) S := right_of (l := eight) ok_eight (eB_no (by decide +kernel))
theorem wr_nine : go (n + 11) i_law_right [.tup [.tup [.tup [.int 2, .int 3]], .tup [], .tup [.tup [.int 5, .int 1]], .int 9], .tup [.int 0, .int 3]] S = .ok (.bl true) S := right_of (l := nine) ok_nine (eB_of ok_nine b_nine1 b_nine2)
theorem wr_five : go (n + 11) i_law_right [.tup [.tup [.tup [.int 0, .int 3], .tup [.int 3, .int 3]], .tup [.tup [.int 2, .int 3], .tup [.int 5, .int 3]], .tup [.tup [.int 2, .int 1], .tup [.int 4, .int 7]], .int 9], .tup [.int 24, .int 45]] S = .ok (.bl true) S := right_of (l := five) ok_five (eB_of ok_five b_five1 b_five2)
theorem wt_one {a : Int} : go (n + 11) i_law_times [.tup [.tup [.tup [.int 0, .int 10], .tup [.int 5, .int 4]], .tup [.tup [.int 8, .int 6]], .tup [.tup [.int 3, .int 2], .tup [.int 9, .int 5]], .int 7], .int a] S = .ok (eL (timesL one a)) S := r_law_times (l := one) (by decide) (by decide) (by simp [one]) (by simp [one])
theorem wt_five {a : Int} : go (n + 11) i_law_times [.tup [.tup [.tup [.int 0, .int 3], .tup [.int 3, .int 3]], .tup [.tup [.int 2, .int 3], .tup [.int 5, .int 3]], .tup [.tup [.int 2, .int 1], .tup [.int 4, .int 7]], .int 9], .int a] S = .ok (eL (timesL five a)) S := r_law_times (l := five) (by decide) (by decide) (by simp [five]) (by simp [five])
theorem wx_one : go (n + 11) i_law_right [eL (timesL one 99999999999999999999999999993), .tup [.int (4 * 99999999999999999999999999993), .int (40 * 99999999999999999999999999993)]] S = .ok (.bl true) S := right_of (l := timesL one 99999999999999999999999999993) (times_ok ok_one (by simp [one]) (by simp [one]) (by decide) (by decide)) (by
  rw [eB_times ok_one (by decide), (bnd_of ok_one b_one1).1, (bnd_of ok_one b_one1).2, (bnd_of ok_one b_one2).2]
  rfl)
theorem wx_five : go (n + 11) i_law_right [eL (timesL five 100000000000000000000000000000), .tup [.int (24 * 100000000000000000000000000000), .int (45 * 100000000000000000000000000000)]] S = .ok (.bl true) S := right_of (l := timesL five 100000000000000000000000000000) (times_ok ok_five (by simp [five]) (by simp [five]) (by decide) (by decide)) (by
  rw [eB_times ok_five (by decide), (bnd_of ok_five b_five1).1, (bnd_of ok_five b_five1).2, (bnd_of ok_five b_five2).2]
  rfl)
theorem mul_lit {i j : Int} (h : i.natAbs < 2 ^ 64) : binD .mul (.int i) (.int j) = some (.int (i * j)) := bin_mul (mulOk_l h)
theorem r_law_written : go (n + 12) i_law_written [] S = .ok (.bl true) S := by
  rw [go_step e_law_written rfl]
  have m4 : ∀ j : Int, binD .mul (.int 4) (.int j) = some (.int (4 * j)) := fun j => mul_lit (by decide)
  have m40 : ∀ j : Int, binD .mul (.int 40) (.int j) = some (.int (40 * j)) := fun j => mul_lit (by decide)
  have m24 : ∀ j : Int, binD .mul (.int 24) (.int j) = some (.int (24 * j)) := fun j => mul_lit (by decide)
  have m45 : ∀ j : Int, binD .mul (.int 45) (.int j) = some (.int (45 * j)) := fun j => mul_lit (by decide)
  have x1 := wx_one (n := n) (S := S)
  have x5 := wx_five (n := n) (S := S)
  simp only [Int.reduceMul] at x1 x5
  simp [f_law_written, t_law_written, wr_one, wr_two, wr_three, wr_four, wr_six, wr_seven, wr_eight, wr_nine, wr_five, pow29, wt_one, wt_five, m4, m40, m24, m45, x1, x5]
end
end My

/-! N30: small bounds. -/
namespace My
open Pv Fl
open PySem (Str)
theorem sm_const {a : Int} : ∀ {n : Nat}, sm n (fun _ => a) = n * a
  | 0 => by simp [sm]
  | n + 1 => by rw [sm, sm_const (n := n)]; rw [Int.natCast_add, Int.add_mul]; simp
theorem cv_bound {l : L} (hl : l.Ok) {m : Bool} {i k : Nat} (hi : i < l.lots.length) (hk : k < l.counts.length + 1) : 0 ≤ cv (cs (worths l m)) i k ∧ cv (cs (worths l m)) i k ≤ 4000000 := by
  unfold cv
  rw [worths_at hi hk]
  unfold worthIn
  split
  · have := credit_bound hl (b := (lAt l i).1) (s := dayIn m (sp l k) (lAt l i).1)
    simp only [Option.getD_some]
    omega
  · simp
theorem bnd_small {l : L} {m : Bool} (hl : Small l) (h : hasTr l = true) : 0 ≤ bnd l m ∧ bnd l m ≤ 36000000 := by
  obtain ⟨f, hv, hb⟩ := bnd_spec (m := m) hl.ok h
  have l3 := hl.lots
  have pat : ∀ i, i < l.lots.length → iat (pcs l) i = (lAt l i).2 := fun i hi => by simp [iat, pcs, lAt, hi]
  have row : ∀ i, i < l.lots.length → 0 ≤ sm (l.counts.length + 1) (fun k => f i k * cv (cs (worths l m)) i k) ∧ sm (l.counts.length + 1) (fun k => f i k * cv (cs (worths l m)) i k) ≤ 12000000 := fun i hi => by
    have h1 : sm (l.counts.length + 1) (fun k => f i k * cv (cs (worths l m)) i k) ≤ sm (l.counts.length + 1) (fun k => f i k * 4000000) := sm_le fun k hk => Int.mul_le_mul_of_nonneg_left (cv_bound hl.ok hi hk).2 (hb.1.nn i hi k hk)
    rw [sm_mulr, hb.1.row i hi, pat i hi] at h1
    have hp := hl.pcs (lAt l i) (by simp [lAt, hi])
    exact ⟨sm_nonneg fun k hk => Int.mul_nonneg (hb.1.nn i hi k hk) (cv_bound hl.ok hi hk).1, by omega⟩
  have up : cost l.lots.length (l.counts.length + 1) (cs (worths l m)) f ≤ sm l.lots.length (fun _ => 12000000) := sm_le fun i hi => (row i hi).2
  rw [sm_const] at up
  have lo : 0 ≤ cost l.lots.length (l.counts.length + 1) (cs (worths l m)) f := sm_nonneg fun i hi => (row i hi).1
  rw [hv]
  omega
end My

/-! N31: the law. -/
namespace My
open Pv Fl
open PySem (Str)
theorem fors_any {α β : Type} {bind : D → Env → Option Env} {body : Env → Sto → Out} {enc : α → D} (mk : β → Env) :
    ∀ {xs : List α} {S : Sto} (j : β), (∀ j x S, x ∈ xs → ∃ ρ, bind (enc x) (mk j) = some ρ ∧ ∃ j' S', body ρ S = .nx (mk j') S') → ∃ j' S', fors bind body (xs.map enc) (mk j) S = .nx (mk j') S'
  | [], S, j, h => ⟨j, S, rfl⟩
  | x :: xs, S, j, h => by
    obtain ⟨ρ, h1, j1, S1, e1⟩ := h j x S (by simp)
    obtain ⟨j2, S2, e2⟩ := fors_any (bind := bind) (body := body) (enc := enc) mk (xs := xs) (S := S1) j1 fun j y S hy => h j y S (by simp [hy])
    refine ⟨j2, S2, ?_⟩
    simp only [List.map_cons, fors, h1, e1]
    exact e2
/-- loops that keep a source -/
theorem fors_src {α β : Type} {bind : D → Env → Option Env} {body : Env → Sto → Out} {enc : α → D} (mk : β → Env) {c : Nat} :
    ∀ {xs : List α} {S : Sto} (j : β), Src S c → (∀ j x S, x ∈ xs → Src S c → ∃ ρ, bind (enc x) (mk j) = some ρ ∧ ∃ j' S', body ρ S = .nx (mk j') S' ∧ Src S' c) → ∃ j' S', fors bind body (xs.map enc) (mk j) S = .nx (mk j') S' ∧ Src S' c
  | [], S, j, hs, h => ⟨j, S, rfl, hs⟩
  | x :: xs, S, j, hs, h => by
    obtain ⟨ρ, h1, j1, S1, e1, hs1⟩ := h j x S (by simp) hs
    obtain ⟨j2, S2, e2, hs2⟩ := fors_src (bind := bind) (body := body) (enc := enc) mk (xs := xs) (S := S1) j1 hs1 fun j y S hy => h j y S (by simp [hy])
    refine ⟨j2, S2, ?_, hs2⟩
    simp only [List.map_cons, fors, h1, e1]
    exact e2
theorem fors_srcD {β : Type} {bind : D → Env → Option Env} {body : Env → Sto → Out} (mk : β → Env) {c : Nat} {xs : List D} {S : Sto} (j : β) (hs : Src S c) (h : ∀ j x S, x ∈ xs → Src S c → ∃ ρ, bind x (mk j) = some ρ ∧ ∃ j' S', body ρ S = .nx (mk j') S' ∧ Src S' c) : ∃ j' S', fors bind body xs (mk j) S = .nx (mk j') S' ∧ Src S' c := by
  have := fors_src (enc := id) (bind := bind) (body := body) mk (xs := xs) j hs h
  simpa using this
theorem Drawn.tiny {l : L} (h : Drawn 2 2 l) : Tiny l := by
  have h1 := h.lots.rng
  have h2 := h.counts.rng
  have h3 := h.falls.rng
  have h4 := h.win
  have l1 := h.lots.len
  have l2 := h.counts.len
  have l3 := h.falls.len
  exact ⟨⟨⟨by omega, fun p hp => by have := h1 p hp; omega, h.lots.asc⟩, ⟨by omega, fun p hp => by have := h2 p hp; omega, h.counts.asc⟩, ⟨by omega, fun p hp => by have := h3 p hp; omega, h.falls.asc⟩, by omega⟩, by omega, fun p hp => by have := h1 p hp; omega, fun p hp => by have := h2 p hp; omega⟩
theorem Drawn.small {l : L} (h : Drawn 3 3 l) : Small l ∧ ∀ p ∈ l.counts, p.2 ≤ 14 := by
  have h1 := h.lots.rng
  have h2 := h.counts.rng
  have h3 := h.falls.rng
  have h4 := h.win
  have l1 := h.lots.len
  have l2 := h.counts.len
  have l3 := h.falls.len
  exact ⟨⟨⟨⟨by omega, fun p hp => by have := h1 p hp; omega, h.lots.asc⟩, ⟨by omega, fun p hp => by have := h2 p hp; omega, h.counts.asc⟩, ⟨by omega, fun p hp => by have := h3 p hp; omega, h.falls.asc⟩, by omega⟩, by omega, by omega, fun p hp => by have := h1 p hp; omega⟩, fun p hp => by have := h2 p hp; omega⟩
section
variable {n c : Nat} {S : Sto}
theorem turn_b2 {s0 s1 : Sl} {j : Sl × Sl × Sl × Sl × Sl} (hs : Src S c) : ∃ (j' : Sl × Sl × Sl × Sl × Sl) (S' : Sto), exec wrd (go (n + 12)) none t_law_b2 [s0, s1, .v (.cell c), j.1, j.2.1, j.2.2.1, j.2.2.2.1, j.2.2.2.2] S = .nx [s0, s1, .v (.cell c), j'.1, j'.2.1, j'.2.2.1, j'.2.2.2.1, j'.2.2.2.2] S' ∧ Src S' c := by
  obtain ⟨_, S1, e1, ⟨l, rfl, hd⟩, hs1⟩ := r_law_drawn (n := n + 9) (ln := 3) (mp := 3) hs (by decide) (by decide)
  obtain ⟨sm, c14⟩ := hd.small
  have fe := r_law_flow_ends (n := n + 7) (S := S1) sm
  obtain ⟨_, S2, e2, ⟨r, rfl, r0, r1⟩, hs2⟩ := r_law_pick (n := n + 11) (many := 100000000000000000000000000000) hs1 (by decide) (sm_of (by decide))
  have ri := fun S => r_law_right (n := n + 1) (l := l) (S := S) sm.ok
  have rf := fun S => r_law_refusals (n := n + 5) (l := l) (S := S) sm.ok
  have ti := fun S => r_law_times (n := n + 11) (l := l) (a := 1 + r) (S := S) (by have := sm.lots; unfold maxLen; omega) (by have := sm.counts; unfold maxLen; omega) (fun p hp => by have := sm.pcs p hp; omega) (fun p hp => by have := c14 p hp; have := sm.ok.counts.rng p hp; omega)
  have tok := times_ok (a := 1 + r) sm.ok (fun p hp => by have := sm.pcs p hp; omega) (fun p hp => by have := c14 p hp; omega) (by omega) (by omega)
  have rt := fun S => r_law_right (n := n + 1) (l := timesL l (1 + r)) (S := S) tok
  have eb := eB_times (a := 1 + r) sm.ok (by omega)
  cases hh : hasTr l with
  | false =>
    rw [hh] at eb
    simp only [Bool.false_eq_true, if_false] at eb
    have e0 : eB l = .non := eB_no hh
    rw [eb] at rt
    rw [e0] at ri fe
    refine ⟨(.v (eL l), j.2.1, .v .non, .v .non, .v (.int (1 + r))), S2, ?_, hs2⟩
    simp [t_law_b2, e1, fe, pow29, e2, ri, rf, ti, rt]
  | true =>
    rw [hh] at eb
    simp only [if_true] at eb
    have e0 : eB l = .tup [.int (bnd l false), .int (bnd l true)] := by unfold eB; rw [hh]; rfl
    rw [eb] at rt
    rw [e0] at ri fe
    have b1 := bnd_small (m := false) sm hh
    have b2 := bnd_small (m := true) sm hh
    have m1 : binD .mul (.int (bnd l false)) (.int (1 + r)) = some (.int (bnd l false * (1 + r))) := mul_lit (by omega)
    have m2 : binD .mul (.int (bnd l true)) (.int (1 + r)) = some (.int (bnd l true * (1 + r))) := mul_lit (by omega)
    refine ⟨(.v (eL l), j.2.1, .v (.tup [.int (bnd l false * (1 + r)), .int (bnd l true * (1 + r))]), .v (.tup [.int (bnd l false), .int (bnd l true)]), .v (.int (1 + r))), S2, ?_, hs2⟩
    simp [t_law_b2, e1, fe, pow29, e2, ri, rf, ti, rt, ix2_0, ix2_1, m1, m2]
theorem law_b1 {k : Nat} {ns : List Int} (hk : k < 100) {j : Sl × Sl × Sl × Sl × Sl × Sl} : ∃ (j' : Sl × Sl × Sl × Sl × Sl × Sl) (S' : Sto), exec wrd (go (n + 12)) none t_law_b1 [.v (.scr ns), .v (.int k), j.1, j.2.1, j.2.2.1, j.2.2.2.1, j.2.2.2.2.1, j.2.2.2.2.2] S = .nx [.v (.scr ns), .v (.int k), j'.1, j'.2.1, j'.2.2.1, j'.2.2.2.1, j'.2.2.2.2.1, j'.2.2.2.2.2] S' := by
  obtain ⟨S1, e1, hs1⟩ := r_law_source (n := n + 11) (k := k) (ns := ns) (S := S) hk
  obtain ⟨_, S2, e2, ⟨l, rfl, hd⟩, hs2⟩ := r_law_drawn (n := n + 9) (ln := 2) (mp := 2) hs1 (by decide) (by decide)
  have ti := hd.tiny
  have ae := fun S => r_law_all_ends (n := n + 9) (l := l) (S := S) ti
  have ri := fun S => r_law_right (n := n + 1) (l := l) (S := S) ti.ok
  obtain ⟨i, S3, e3, hs3⟩ := fors_src (α := Nat) (bind := asg (.nm 4)) (body := exec wrd (go (n + 12)) none t_law_b2) (enc := fun (i : Nat) => .int (i : Int)) (fun (q : Sl × Sl × Sl × Sl × Sl) => [.v (.scr ns), .v (.int k), .v (.cell S.length), q.1, q.2.1, q.2.2.1, q.2.2.2.1, q.2.2.2.2]) (c := S.length) (xs := List.range 3) (S := S2) (.v (eL l), j.2.2.1, j.2.2.2.1, j.2.2.2.2.1, j.2.2.2.2.2) hs2 (fun q x S hx hS => ⟨_, by simp only [asg_nm]; rfl, turn_b2 (n := n) (s0 := .v (.scr ns)) (s1 := .v (.int k)) (j := (q.1, .v (.int x), q.2.2.1, q.2.2.2.1, q.2.2.2.2)) hS⟩)
  have rg3 : rg1 (.int 3) S2 = .ok ((List.range 3).map fun (i : Nat) => .int (i : Int)) S2 := rg1_ok (n := 3) (by decide)
  refine ⟨(.v (.cell S.length), i.1, i.2.1, i.2.2.1, i.2.2.2.1, i.2.2.2.2), S3, ?_⟩
  simp [t_law_b1, e1, e2, ae, ri, rg3]
  rw [e3]
  simp
end
theorem r_law (ns : List Int) : ∃ S, go 30 i_law [.scr ns] [] = .ok (.bl true) S := by
  obtain ⟨m, hm, hm2⟩ : ∃ m : Nat, (if (3 : Int) < (if (ns.length : Int) < 7 then (ns.length : Int) else 7) then (if (ns.length : Int) < 7 then (ns.length : Int) else 7) else 3) = m ∧ m ≤ 7 := by
    refine ⟨(if (3 : Int) < (if (ns.length : Int) < 7 then (ns.length : Int) else 7) then (if (ns.length : Int) < 7 then (ns.length : Int) else 7) else 3).toNat, ?_, ?_⟩ <;> split <;> split <;> omega
  obtain ⟨j, S', e⟩ := fors_any (α := Nat) (bind := asg (.nm 1)) (body := exec wrd (go 29) none t_law_b1) (enc := fun (i : Nat) => .int (i : Int)) (fun (j : Sl × Sl × Sl × Sl × Sl × Sl × Sl) => [.v (.scr ns), j.1, j.2.1, j.2.2.1, j.2.2.2.1, j.2.2.2.2.1, j.2.2.2.2.2.1, j.2.2.2.2.2.2]) (xs := List.range m) (S := []) (.un, .un, .un, .un, .un, .un, .un) (fun j i S hi => ⟨_, by simp; rfl, by
    obtain ⟨k, S', e⟩ := law_b1 (n := 17) (S := S) (k := i) (ns := ns) (j := (j.2.1, j.2.2.1, j.2.2.2.1, j.2.2.2.2.1, j.2.2.2.2.2.1, j.2.2.2.2.2.2)) (by have := List.mem_range.mp hi; omega)
    exact ⟨⟨_, k.1, k.2.1, k.2.2.1, k.2.2.2.1, k.2.2.2.2.1, k.2.2.2.2.2⟩, S', e⟩⟩)
  refine ⟨S', ?_⟩
  have sc : ∀ S, seqOf S (.scr ns) = some (ns.map .int) := fun S => rfl
  have rg : rg1 (.int m) [] = .ok ((List.range m).map fun (i : Nat) => .int (i : Int)) [] := rg1_ok (by omega)
  have w := fun S => r_law_written (n := 17) (S := S)
  rw [go_step (n := 29) e_law rfl]
  simp [f_law, t_law, t_law_s1, t_law_s2, sc, hm, rg, e, w]
end My

set_option maxHeartbeats 0
namespace My
open PySem PySem.Spec PyProof.Rows L2 Pv
def ents : List Ent := [⟨f_moves_of, top 1, Str.ofString "moves_of", [Str.ofString "costs", Str.ofString "flow", Str.ofString "found", Str.ofString "lot", Str.ofString "row", Str.ofString "here", Str.ofString "cost", Str.ofString "there", Str.ofString "other"], [Str.ofString "costs", Str.ofString "flow"], false⟩,
  ⟨f_ways_from, top 2, Str.ofString "ways_from", [Str.ofString "costs", Str.ofString "flow", Str.ofString "lot", Str.ofString "best", Str.ofString "moves", Str.ofString "moved", Str.ofString "cost", Str.ofString "here", Str.ofString "there", Str.ofString "more", Str.ofString "other", Str.ofString "new"], [Str.ofString "costs", Str.ofString "flow", Str.ofString "lot"], false⟩,
  ⟨f_cheapest_flow, top 3, Str.ofString "cheapest_flow", [Str.ofString "costs", Str.ofString "pieces", Str.ofString "numbers", Str.ofString "flow", Str.ofString "free", Str.ofString "lot", Str.ofString "many", Str.ofString "row", Str.ofString "ways", Str.ofString "part", Str.ofString "size", Str.ofString "there", Str.ofString "steps", Str.ofString "way", Str.ofString "here", Str.ofString "other"], [Str.ofString "costs", Str.ofString "pieces", Str.ofString "numbers"], false⟩,
  ⟨f_shifted, top 4, Str.ofString "shifted", [Str.ofString "flow", Str.ofString "lot", Str.ofString "steps", Str.ofString "end", Str.ofString "part", Str.ofString "found", Str.ofString "now", Str.ofString "here", Str.ofString "other"], [Str.ofString "flow", Str.ofString "lot", Str.ofString "steps", Str.ofString "end", Str.ofString "part"], false⟩,
  ⟨f_with_part, top 5, Str.ofString "with_part", [Str.ofString "flow", Str.ofString "lot", Str.ofString "stretch", Str.ofString "part", Str.ofString "row"], [Str.ofString "flow", Str.ofString "lot", Str.ofString "stretch", Str.ofString "part"], false⟩,
  ⟨f_cost_of, top 6, Str.ofString "cost_of", [Str.ofString "costs", Str.ofString "flow", Str.ofString "rows", Str.ofString "one", Str.ofString "row", Str.ofString "many", Str.ofString "cost"], [Str.ofString "costs", Str.ofString "flow"], false⟩,
  ⟨f_is_int, top 31, Str.ofString "is_int", [Str.ofString "value", Str.ofString "low", Str.ofString "high"], [Str.ofString "value", Str.ofString "low", Str.ofString "high"], false⟩,
  ⟨f_are_dated, top 32, Str.ofString "are_dated", [Str.ofString "value", Str.ofString "most", Str.ofString "low", Str.ofString "high", Str.ofString "pair", Str.ofString "one", Str.ofString "other"], [Str.ofString "value", Str.ofString "most", Str.ofString "low", Str.ofString "high"], false⟩,
  ⟨f_is_right_ledger, top 33, Str.ofString "is_right_ledger", [Str.ofString "value"], [Str.ofString "value"], false⟩,
  ⟨f_credit_of, top 34, Str.ofString "credit_of", [Str.ofString "ledger", Str.ofString "bought", Str.ofString "sold", Str.ofString "day", Str.ofString "amount"], [Str.ofString "ledger", Str.ofString "bought", Str.ofString "sold"], false⟩,
  ⟨f_stretches_of, top 35, Str.ofString "stretches_of", [Str.ofString "ledger", Str.ofString "days", Str.ofString "firsts", Str.ofString "day", Str.ofString "pieces"], [Str.ofString "ledger"], false⟩,
  ⟨f_bought_in, top 36, Str.ofString "bought_in", [Str.ofString "ledger", Str.ofString "stretch", Str.ofString "first", Str.ofString "last", Str.ofString "day", Str.ofString "pieces"], [Str.ofString "ledger", Str.ofString "stretch"], false⟩,
  ⟨f_numbers_of, top 37, Str.ofString "numbers_of", [Str.ofString "ledger", Str.ofString "left", Str.ofString "found", Str.ofString "stretch", Str.ofString "count", Str.ofString "day", Str.ofString "pieces"], [Str.ofString "ledger"], false⟩,
  ⟨f_has_truth, top 38, Str.ofString "has_truth", [Str.ofString "ledger", Str.ofString "number"], [Str.ofString "ledger"], false⟩,
  ⟨f_need_ledger, top 39, Str.ofString "need_ledger", [Str.ofString "value"], [Str.ofString "value"], false⟩,
  ⟨f_need_word, top 40, Str.ofString "need_word", [Str.ofString "value"], [Str.ofString "value"], false⟩,
  ⟨f_day_in, top 42, Str.ofString "day_in", [Str.ofString "stretch", Str.ofString "bought", Str.ofString "word"], [Str.ofString "stretch", Str.ofString "bought", Str.ofString "word"], false⟩,
  ⟨f_can_be_sold, top 43, Str.ofString "can_be_sold", [Str.ofString "stretch", Str.ofString "bought"], [Str.ofString "stretch", Str.ofString "bought"], false⟩,
  ⟨f_worth_in, top 44, Str.ofString "worth_in", [Str.ofString "ledger", Str.ofString "word", Str.ofString "lot", Str.ofString "stretch"], [Str.ofString "ledger", Str.ofString "word", Str.ofString "lot", Str.ofString "stretch"], false⟩,
  ⟨f_worths_of, top 45, Str.ofString "worths_of", [Str.ofString "ledger", Str.ofString "word", Str.ofString "lot", Str.ofString "stretch"], [Str.ofString "ledger", Str.ofString "word"], false⟩,
  ⟨f_costs_for, top 46, Str.ofString "costs_for", [Str.ofString "worths", Str.ofString "word", Str.ofString "sign", Str.ofString "row", Str.ofString "worth"], [Str.ofString "worths", Str.ofString "word"], false⟩,
  ⟨f_best_flow, top 47, Str.ofString "best_flow", [Str.ofString "ledger", Str.ofString "worths", Str.ofString "word", Str.ofString "lot"], [Str.ofString "ledger", Str.ofString "worths", Str.ofString "word"], false⟩,
  ⟨f_best_sum, top 48, Str.ofString "best_sum", [Str.ofString "ledger", Str.ofString "worths", Str.ofString "word"], [Str.ofString "ledger", Str.ofString "worths", Str.ofString "word"], false⟩,
  ⟨f_bound_of, top 49, Str.ofString "bound_of", [Str.ofString "ledger", Str.ofString "word"], [Str.ofString "ledger", Str.ofString "word"], false⟩,
  ⟨f_sales_of, top 50, Str.ofString "sales_of", [Str.ofString "ledger", Str.ofString "word", Str.ofString "flow", Str.ofString "found", Str.ofString "lot", Str.ofString "row", Str.ofString "days", Str.ofString "stretch", Str.ofString "many", Str.ofString "day"], [Str.ofString "ledger", Str.ofString "word", Str.ofString "flow"], false⟩,
  ⟨f_both_bounds, top 51, Str.ofString "both_bounds", [Str.ofString "ledger"], [Str.ofString "ledger"], false⟩,
  ⟨f_spread_of, top 52, Str.ofString "spread_of", [Str.ofString "ledger", Str.ofString "both"], [Str.ofString "ledger"], false⟩,
  ⟨f_bound, top 53, Str.ofString "bound", [Str.ofString "ledger", Str.ofString "word"], [Str.ofString "ledger", Str.ofString "word"], false⟩,
  ⟨f_truth_with, top 54, Str.ofString "truth_with", [Str.ofString "ledger", Str.ofString "word"], [Str.ofString "ledger", Str.ofString "word"], false⟩,
  ⟨f_spread, top 55, Str.ofString "spread", [Str.ofString "ledger"], [Str.ofString "ledger"], false⟩,
  ⟨f_law_source, top 57, Str.ofString "_law_source", [Str.ofString "script", Str.ofString "k", Str.ofString "number", Str.ofString "start"], [Str.ofString "script", Str.ofString "k"], false⟩,
  ⟨f_law_pick, top 58, Str.ofString "_law_pick", [Str.ofString "source", Str.ofString "many", Str.ofString "found"], [Str.ofString "source", Str.ofString "many"], false⟩,
  ⟨f_law_chosen, top 59, Str.ofString "_law_chosen", [Str.ofString "source", Str.ofString "things"], [Str.ofString "source", Str.ofString "things"], false⟩,
  ⟨f_law_whole, top 60, Str.ofString "_law_whole", [Str.ofString "value", Str.ofString "low", Str.ofString "high"], [Str.ofString "value", Str.ofString "low", Str.ofString "high"], false⟩,
  ⟨f_law_by_two, top 61, Str.ofString "_law_by_two", [Str.ofString "call", Str.ofString "one", Str.ofString "other"], [Str.ofString "call", Str.ofString "one", Str.ofString "other"], true⟩,
  ⟨f_law_days, top 64, Str.ofString "_law_days", [Str.ofString "source", Str.ofString "many", Str.ofString "end", Str.ofString "turn"], [Str.ofString "source", Str.ofString "many", Str.ofString "end"], false⟩,
  ⟨f_law_drawn, top 65, Str.ofString "_law_drawn", [Str.ofString "source", Str.ofString "lots_so", Str.ofString "most_so", Str.ofString "lots", Str.ofString "day", Str.ofString "falls", Str.ofString "counts", Str.ofString "rest", Str.ofString "last", Str.ofString "bought", Str.ofString "pieces"], [Str.ofString "source", Str.ofString "lots_so", Str.ofString "most_so"], false⟩,
  ⟨f_law_spans, top 66, Str.ofString "_law_spans", [Str.ofString "ledger_so", Str.ofString "first", Str.ofString "found", Str.ofString "day", Str.ofString "pieces_so"], [Str.ofString "ledger_so"], false⟩,
  ⟨f_law_numbers, top 67, Str.ofString "_law_numbers", [Str.ofString "ledger_so", Str.ofString "rest", Str.ofString "found", Str.ofString "at", Str.ofString "span", Str.ofString "more", Str.ofString "count_so", Str.ofString "day", Str.ofString "pieces"], [Str.ofString "ledger_so"], false⟩,
  ⟨f_law_gain, top 68, Str.ofString "_law_gain", [Str.ofString "ledger_so", Str.ofString "bought", Str.ofString "sold", Str.ofString "total", Str.ofString "day", Str.ofString "amount"], [Str.ofString "ledger_so", Str.ofString "bought", Str.ofString "sold"], false⟩,
  ⟨f_law_sum, top 69, Str.ofString "_law_sum", [Str.ofString "ledger_so", Str.ofString "truth_so", Str.ofString "total", Str.ofString "lot", Str.ofString "sales_so", Str.ofString "rest", Str.ofString "day", Str.ofString "pieces"], [Str.ofString "ledger_so", Str.ofString "truth_so"], false⟩,
  ⟨f_law_is_truth, top 70, Str.ofString "_law_is_truth", [Str.ofString "ledger_so", Str.ofString "value", Str.ofString "lot", Str.ofString "sales_so", Str.ofString "pair", Str.ofString "day", Str.ofString "count_so", Str.ofString "here", Str.ofString "before", Str.ofString "rest", Str.ofString "sold", Str.ofString "pieces"], [Str.ofString "ledger_so", Str.ofString "value"], false⟩,
  ⟨f_law_flows, top 71, Str.ofString "_law_flows", [Str.ofString "ledger_so", Str.ofString "spans", Str.ofString "found", Str.ofString "bought", Str.ofString "pieces", Str.ofString "rows_so", Str.ofString "further", Str.ofString "first", Str.ofString "last", Str.ofString "longer", Str.ofString "row_so", Str.ofString "flow", Str.ofString "free", Str.ofString "most_so", Str.ofString "left_so", Str.ofString "many", Str.ofString "one", Str.ofString "two"], [Str.ofString "ledger_so"], false⟩,
  ⟨f_law_sold, top 72, Str.ofString "_law_sold", [Str.ofString "span", Str.ofString "bought", Str.ofString "word_so"], [Str.ofString "span", Str.ofString "bought", Str.ofString "word_so"], false⟩,
  ⟨f_law_end, top 73, Str.ofString "_law_end", [Str.ofString "ledger_so", Str.ofString "word_so", Str.ofString "totals", Str.ofString "flow", Str.ofString "total", Str.ofString "lot", Str.ofString "row_so", Str.ofString "span", Str.ofString "many"], [Str.ofString "ledger_so", Str.ofString "word_so"], false⟩,
  ⟨f_law_times, top 74, Str.ofString "_law_times", [Str.ofString "ledger_so", Str.ofString "many", Str.ofString "lots", Str.ofString "counts", Str.ofString "falls", Str.ofString "window", Str.ofString "day", Str.ofString "pieces"], [Str.ofString "ledger_so", Str.ofString "many"], false⟩,
  ⟨f_law_sales, top 75, Str.ofString "_law_sales", [Str.ofString "lot", Str.ofString "found", Str.ofString "day", Str.ofString "further", Str.ofString "sales_so", Str.ofString "rest", Str.ofString "part"], [Str.ofString "lot"], false⟩,
  ⟨f_law_all_ends, top 76, Str.ofString "_law_all_ends", [Str.ofString "ledger_so", Str.ofString "lot", Str.ofString "truth_so", Str.ofString "totals", Str.ofString "rows_so", Str.ofString "longer", Str.ofString "head", Str.ofString "sales_so"], [Str.ofString "ledger_so"], false⟩,
  ⟨f_law_right, top 77, Str.ofString "_law_right", [Str.ofString "ledger_so", Str.ofString "ends_so", Str.ofString "words_so", Str.ofString "word_so", Str.ofString "due", Str.ofString "truth_so"], [Str.ofString "ledger_so", Str.ofString "ends_so"], false⟩,
  ⟨f_law_flow_ends, top 78, Str.ofString "_law_flow_ends", [Str.ofString "ledger_so", Str.ofString "least"], [Str.ofString "ledger_so"], false⟩,
  ⟨f_law_refusals, top 79, Str.ofString "_law_refusals", [Str.ofString "ledger_so", Str.ofString "odd", Str.ofString "words_so", Str.ofString "call"], [Str.ofString "ledger_so"], true⟩,
  ⟨f_law_written, top 80, Str.ofString "_law_written", [Str.ofString "one", Str.ofString "two", Str.ofString "many", Str.ofString "five", Str.ofString "three", Str.ofString "four"], [], false⟩,
  ⟨f_law, top 81, Str.ofString "law", [Str.ofString "script", Str.ofString "k", Str.ofString "source", Str.ofString "ledger_so", Str.ofString "turn", Str.ofString "due", Str.ofString "ends_so", Str.ofString "many"], [Str.ofString "script"], false⟩]
theorem wrd_eq : dat.wrd = wrd := by
  funext k
  match k with
  | 0 => decide +kernel
  | 1 => decide +kernel
  | 2 => decide +kernel
  | 3 => decide +kernel
  | 4 => decide +kernel
  | 5 => decide +kernel
  | 6 => decide +kernel
  | 7 => decide +kernel
  | 8 => decide +kernel
  | 9 => decide +kernel
  | 10 => decide +kernel
  | 11 => decide +kernel
  | 12 => decide +kernel
  | 13 => decide +kernel
  | n + 14 => rfl
theorem dat_ok : dat.okB = true := by decide +kernel
theorem dat_say : dat.sayB = true := by decide +kernel
theorem ents_ok : ents.all (Ent.ok dat.ck) = true := by decide +kernel
theorem b_0 : (ents.getD 0 ⟨f_law, top 0, "", [], [], false⟩).binds := fun _ _ _ _ _ _ us hl => match us, hl with | [_, _], _ => rfl
theorem b_1 : (ents.getD 1 ⟨f_law, top 0, "", [], [], false⟩).binds := fun _ _ _ _ _ _ us hl => match us, hl with | [_, _, _], _ => rfl
theorem b_2 : (ents.getD 2 ⟨f_law, top 0, "", [], [], false⟩).binds := fun _ _ _ _ _ _ us hl => match us, hl with | [_, _, _], _ => rfl
theorem b_3 : (ents.getD 3 ⟨f_law, top 0, "", [], [], false⟩).binds := fun _ _ _ _ _ _ us hl => match us, hl with | [_, _, _, _, _], _ => rfl
theorem b_4 : (ents.getD 4 ⟨f_law, top 0, "", [], [], false⟩).binds := fun _ _ _ _ _ _ us hl => match us, hl with | [_, _, _, _], _ => rfl
theorem b_5 : (ents.getD 5 ⟨f_law, top 0, "", [], [], false⟩).binds := fun _ _ _ _ _ _ us hl => match us, hl with | [_, _], _ => rfl
theorem b_6 : (ents.getD 6 ⟨f_law, top 0, "", [], [], false⟩).binds := fun _ _ _ _ _ _ us hl => match us, hl with | [_, _, _], _ => rfl
theorem b_7 : (ents.getD 7 ⟨f_law, top 0, "", [], [], false⟩).binds := fun _ _ _ _ _ _ us hl => match us, hl with | [_, _, _, _], _ => rfl
theorem b_8 : (ents.getD 8 ⟨f_law, top 0, "", [], [], false⟩).binds := fun _ _ _ _ _ _ us hl => match us, hl with | [_], _ => rfl
theorem b_9 : (ents.getD 9 ⟨f_law, top 0, "", [], [], false⟩).binds := fun _ _ _ _ _ _ us hl => match us, hl with | [_, _, _], _ => rfl
theorem b_10 : (ents.getD 10 ⟨f_law, top 0, "", [], [], false⟩).binds := fun _ _ _ _ _ _ us hl => match us, hl with | [_], _ => rfl
theorem b_11 : (ents.getD 11 ⟨f_law, top 0, "", [], [], false⟩).binds := fun _ _ _ _ _ _ us hl => match us, hl with | [_, _], _ => rfl
theorem b_12 : (ents.getD 12 ⟨f_law, top 0, "", [], [], false⟩).binds := fun _ _ _ _ _ _ us hl => match us, hl with | [_], _ => rfl
theorem b_13 : (ents.getD 13 ⟨f_law, top 0, "", [], [], false⟩).binds := fun _ _ _ _ _ _ us hl => match us, hl with | [_], _ => rfl
theorem b_14 : (ents.getD 14 ⟨f_law, top 0, "", [], [], false⟩).binds := fun _ _ _ _ _ _ us hl => match us, hl with | [_], _ => rfl
theorem b_15 : (ents.getD 15 ⟨f_law, top 0, "", [], [], false⟩).binds := fun _ _ _ _ _ _ us hl => match us, hl with | [_], _ => rfl
theorem b_16 : (ents.getD 16 ⟨f_law, top 0, "", [], [], false⟩).binds := fun _ _ _ _ _ _ us hl => match us, hl with | [_, _, _], _ => rfl
theorem b_17 : (ents.getD 17 ⟨f_law, top 0, "", [], [], false⟩).binds := fun _ _ _ _ _ _ us hl => match us, hl with | [_, _], _ => rfl
theorem b_18 : (ents.getD 18 ⟨f_law, top 0, "", [], [], false⟩).binds := fun _ _ _ _ _ _ us hl => match us, hl with | [_, _, _, _], _ => rfl
theorem b_19 : (ents.getD 19 ⟨f_law, top 0, "", [], [], false⟩).binds := fun _ _ _ _ _ _ us hl => match us, hl with | [_, _], _ => rfl
theorem b_20 : (ents.getD 20 ⟨f_law, top 0, "", [], [], false⟩).binds := fun _ _ _ _ _ _ us hl => match us, hl with | [_, _], _ => rfl
theorem b_21 : (ents.getD 21 ⟨f_law, top 0, "", [], [], false⟩).binds := fun _ _ _ _ _ _ us hl => match us, hl with | [_, _, _], _ => rfl
theorem b_22 : (ents.getD 22 ⟨f_law, top 0, "", [], [], false⟩).binds := fun _ _ _ _ _ _ us hl => match us, hl with | [_, _, _], _ => rfl
theorem b_23 : (ents.getD 23 ⟨f_law, top 0, "", [], [], false⟩).binds := fun _ _ _ _ _ _ us hl => match us, hl with | [_, _], _ => rfl
theorem b_24 : (ents.getD 24 ⟨f_law, top 0, "", [], [], false⟩).binds := fun _ _ _ _ _ _ us hl => match us, hl with | [_, _, _], _ => rfl
theorem b_25 : (ents.getD 25 ⟨f_law, top 0, "", [], [], false⟩).binds := fun _ _ _ _ _ _ us hl => match us, hl with | [_], _ => rfl
theorem b_26 : (ents.getD 26 ⟨f_law, top 0, "", [], [], false⟩).binds := fun _ _ _ _ _ _ us hl => match us, hl with | [_], _ => rfl
theorem b_27 : (ents.getD 27 ⟨f_law, top 0, "", [], [], false⟩).binds := fun _ _ _ _ _ _ us hl => match us, hl with | [_, _], _ => rfl
theorem b_28 : (ents.getD 28 ⟨f_law, top 0, "", [], [], false⟩).binds := fun _ _ _ _ _ _ us hl => match us, hl with | [_, _], _ => rfl
theorem b_29 : (ents.getD 29 ⟨f_law, top 0, "", [], [], false⟩).binds := fun _ _ _ _ _ _ us hl => match us, hl with | [_], _ => rfl
theorem b_30 : (ents.getD 30 ⟨f_law, top 0, "", [], [], false⟩).binds := fun _ _ _ _ _ _ us hl => match us, hl with | [_, _], _ => rfl
theorem b_31 : (ents.getD 31 ⟨f_law, top 0, "", [], [], false⟩).binds := fun _ _ _ _ _ _ us hl => match us, hl with | [_, _], _ => rfl
theorem b_32 : (ents.getD 32 ⟨f_law, top 0, "", [], [], false⟩).binds := fun _ _ _ _ _ _ us hl => match us, hl with | [_, _], _ => rfl
theorem b_33 : (ents.getD 33 ⟨f_law, top 0, "", [], [], false⟩).binds := fun _ _ _ _ _ _ us hl => match us, hl with | [_, _, _], _ => rfl
theorem b_34 : (ents.getD 34 ⟨f_law, top 0, "", [], [], false⟩).binds := fun _ _ _ _ _ _ us hl => match us, hl with | [_, _, _], _ => rfl
theorem b_35 : (ents.getD 35 ⟨f_law, top 0, "", [], [], false⟩).binds := fun _ _ _ _ _ _ us hl => match us, hl with | [_, _, _], _ => rfl
theorem b_36 : (ents.getD 36 ⟨f_law, top 0, "", [], [], false⟩).binds := fun _ _ _ _ _ _ us hl => match us, hl with | [_, _, _], _ => rfl
theorem b_37 : (ents.getD 37 ⟨f_law, top 0, "", [], [], false⟩).binds := fun _ _ _ _ _ _ us hl => match us, hl with | [_], _ => rfl
theorem b_38 : (ents.getD 38 ⟨f_law, top 0, "", [], [], false⟩).binds := fun _ _ _ _ _ _ us hl => match us, hl with | [_], _ => rfl
theorem b_39 : (ents.getD 39 ⟨f_law, top 0, "", [], [], false⟩).binds := fun _ _ _ _ _ _ us hl => match us, hl with | [_, _, _], _ => rfl
theorem b_40 : (ents.getD 40 ⟨f_law, top 0, "", [], [], false⟩).binds := fun _ _ _ _ _ _ us hl => match us, hl with | [_, _], _ => rfl
theorem b_41 : (ents.getD 41 ⟨f_law, top 0, "", [], [], false⟩).binds := fun _ _ _ _ _ _ us hl => match us, hl with | [_, _], _ => rfl
theorem b_42 : (ents.getD 42 ⟨f_law, top 0, "", [], [], false⟩).binds := fun _ _ _ _ _ _ us hl => match us, hl with | [_], _ => rfl
theorem b_43 : (ents.getD 43 ⟨f_law, top 0, "", [], [], false⟩).binds := fun _ _ _ _ _ _ us hl => match us, hl with | [_, _, _], _ => rfl
theorem b_44 : (ents.getD 44 ⟨f_law, top 0, "", [], [], false⟩).binds := fun _ _ _ _ _ _ us hl => match us, hl with | [_, _], _ => rfl
theorem b_45 : (ents.getD 45 ⟨f_law, top 0, "", [], [], false⟩).binds := fun _ _ _ _ _ _ us hl => match us, hl with | [_, _], _ => rfl
theorem b_46 : (ents.getD 46 ⟨f_law, top 0, "", [], [], false⟩).binds := fun _ _ _ _ _ _ us hl => match us, hl with | [_], _ => rfl
theorem b_47 : (ents.getD 47 ⟨f_law, top 0, "", [], [], false⟩).binds := fun _ _ _ _ _ _ us hl => match us, hl with | [_], _ => rfl
theorem b_48 : (ents.getD 48 ⟨f_law, top 0, "", [], [], false⟩).binds := fun _ _ _ _ _ _ us hl => match us, hl with | [_, _], _ => rfl
theorem b_49 : (ents.getD 49 ⟨f_law, top 0, "", [], [], false⟩).binds := fun _ _ _ _ _ _ us hl => match us, hl with | [_], _ => rfl
theorem b_50 : (ents.getD 50 ⟨f_law, top 0, "", [], [], false⟩).binds := fun _ _ _ _ _ _ us hl => match us, hl with | [_], _ => rfl
theorem b_51 : (ents.getD 51 ⟨f_law, top 0, "", [], [], false⟩).binds := fun _ _ _ _ _ _ us hl => match us, hl with | [], _ => rfl
theorem b_52 : (ents.getD 52 ⟨f_law, top 0, "", [], [], false⟩).binds := fun _ _ _ _ _ _ us hl => match us, hl with | [_], _ => rfl
theorem ents_b : ∀ k, k < 53 → (ents.getD k ⟨f_law, top 0, "", [], [], false⟩).binds
  | 0, _ => b_0
  | 1, _ => b_1
  | 2, _ => b_2
  | 3, _ => b_3
  | 4, _ => b_4
  | 5, _ => b_5
  | 6, _ => b_6
  | 7, _ => b_7
  | 8, _ => b_8
  | 9, _ => b_9
  | 10, _ => b_10
  | 11, _ => b_11
  | 12, _ => b_12
  | 13, _ => b_13
  | 14, _ => b_14
  | 15, _ => b_15
  | 16, _ => b_16
  | 17, _ => b_17
  | 18, _ => b_18
  | 19, _ => b_19
  | 20, _ => b_20
  | 21, _ => b_21
  | 22, _ => b_22
  | 23, _ => b_23
  | 24, _ => b_24
  | 25, _ => b_25
  | 26, _ => b_26
  | 27, _ => b_27
  | 28, _ => b_28
  | 29, _ => b_29
  | 30, _ => b_30
  | 31, _ => b_31
  | 32, _ => b_32
  | 33, _ => b_33
  | 34, _ => b_34
  | 35, _ => b_35
  | 36, _ => b_36
  | 37, _ => b_37
  | 38, _ => b_38
  | 39, _ => b_39
  | 40, _ => b_40
  | 41, _ => b_41
  | 42, _ => b_42
  | 43, _ => b_43
  | 44, _ => b_44
  | 45, _ => b_45
  | 46, _ => b_46
  | 47, _ => b_47
  | 48, _ => b_48
  | 49, _ => b_49
  | 50, _ => b_50
  | 51, _ => b_51
  | 52, _ => b_52
  | n + 53, h => absurd h (by omega)
theorem fnl_ents : fnl.map (fun p => dd p.1 p.2) = ents.map (fun e => ⟨(e.name, none), e.name, e.name, defArgs e.st, defBody e.st, defScope e.st, [], []⟩) := rfl
/-- the tables of the lambdas' code objects -/
def tabsOf (K : PySem.W.Frag) : List (Addr × Str) := tf.map fun p => ((He.cT K p).2, p.1 ++ (".<locals>." : Str) ++ ("<lambda>" : Str))
theorem bErr : ∀ (kV doc pm : Value) (an : Option Addr) (cdv ct : Value) (us : List Value), us.length = 1 → bindArgs (PySem.W.fnOf "_law_error" "_law_error" (defArgs (top 63)) (defBody (top 63)) (defScope (top 63)) .none kV doc pm an cdv ct) ⟨us, []⟩ = pure ((["e"] : List Str).zip us) := fun _ _ _ _ _ _ us hl => match us, hl with | [_], _ => rfl
theorem bRef : ∀ (kV doc pm : Value) (an : Option Addr) (cdv ct : Value) (us : List Value), us.length = (["call"] : List Str).length → bindArgs (PySem.W.fnOf "_law_refused" "_law_refused" (defArgs (top 62)) (defBody (top 62)) (defScope (top 62)) .none kV doc pm an cdv ct) ⟨us, []⟩ = pure ((["call"] : List Str).zip us) := fun _ _ _ _ _ _ us hl => match us, hl with | [_], _ => rfl
theorem errs : errBody ["e", "some", "word_so", "good"] (defScope (top 63)) "e" (defBody (top 63)) = some dat.words := by decide +kernel
theorem errSc : fnScB ["e", "some", "word_so", "good"] ["e"] (defScope (top 63)) = true := by decide +kernel
theorem refSc : fnScB ["call", "e"] ["call"] (defScope (top 62)) = true := by decide +kernel
theorem refB : rfB "call" "e" "ShelfError" "_law_error" (defBody (top 62)) = true := by decide +kernel
theorem refL : (locB (defScope (top 62)) "call" && locB (defScope (top 62)) "e" && plainName "call" && plainName "e" && glB (defScope (top 62)) "ShelfError" && plainName "ShelfError" && glB (defScope (top 62)) "_law_error" && plainName "_law_error") = true := by decide +kernel
theorem words_cls : ∀ p ∈ dat.words, p.2 ∈ dat.cls := by decide +kernel
theorem nm_all : ∀ k : _root_.Fin ents.length, dat.fnm k.1 = (ents[k.1]).name := by decide +kernel
theorem lm_all : ∀ k : _root_.Fin ents.length, (ents[k.1]).lam = true → ((ents[k.1]).name, none) ∈ tf := by decide +kernel
theorem tab_all : tab = ents.map (·.f) := by rfl
section
variable {P : Program} {w : World} {K : PySem.W.Frag} {mg : Str → Option Value} {h base : Heap}
theorem defs_ok (c : He.SaysX dat.fa fn [] tf (fun K => dat.exT K) w h K) {d : He.DefD} (hd : d ∈ fn) (h1 : d.dfl = []) (h2 : d.kwd = []) : ∃ fd, FunD K d.name d.qual d.params d.body d.scope [] [] (He.fAd K d.at_) fd := by
  obtain ⟨fd, F⟩ := He.SaysD.defs c.t.d hd
  unfold He.DefD.dvs He.DefD.kws at F
  rw [h1, h2] at F
  exact ⟨fd, F⟩
theorem errX (c : He.SaysX dat.fa fn [] tf (fun K => dat.exT K) w h K) (KX : K.In h) (G : h.Ns mainGlobals mg) : ∃ fdE, FunD K "_law_error" "_law_error" (defArgs (top 63)) (defBody (top 63)) (defScope (top 63)) [] [] (He.ga K "_law_error") fdE ∧ FnX P w K mg base 1 (He.ga K "_law_error") fdE ["e"] (spX K (dat.toRow.gn (tabsOf K) K) dat.toRow.wrd) := by
  have fc : ∀ f ∈ dat.fa, f.ok K = true := fun f hf => He.SaysD.facts c.t.d hf
  obtain ⟨fdE, FE⟩ := defs_ok c (d := dd "_law_error" 63) (by unfold fn; simp) rfl rfl
  exact ⟨fdE, FE, fnX_row (r := dat.toRow) (T := tabsOf K) (P := P) (w := w) (mg := mg) (base := base) FE errSc errs (exT_ex c.more) dat_say (fun p hp => mg_cls fc KX G (words_cls p hp)) (mg_free fc KX G (by decide))⟩
theorem mods (c : He.SaysX dat.fa fn [] tf (fun K => dat.exT K) w h K) (KX : K.In h) (G : h.Ns mainGlobals mg) : ModOk (dat.gn (tabsOf K) K) dat.wrd dat.ck P w K mg base := by
  have fc : ∀ f ∈ dat.fa, f.ok K = true := fun f hf => He.SaysD.facts c.t.d hf
  obtain ⟨fdE, FE, FX⟩ := errX (P := P) (base := base) c KX G
  have mE := mg_def fc KX G (x := "_law_error") (List.mem_append_right _ (by decide))
  refine mod_ok dat_ok c.more fc KX G ?_ (fun ec er h => by cases h)
  obtain ⟨fdR, FR⟩ := defs_ok c (d := dd "_law_refused" 62) (by unfold fn; simp) rfl rfl
  have mR := mg_def fc KX G (x := "_law_refused") (List.mem_append_right _ (by decide))
  exact rf_row (r := dat.toRow) (T := tabsOf K) (er := "_law_error") FR mR refSc refB bRef refL rfl (mg_cls fc KX G (by decide)) (exT_ex c.more) FX (FE.bindsN bErr) mE FE.kp
theorem ent_ok (c : He.SaysX dat.fa fn [] tf (fun K => dat.exT K) w h K) (TB : ∀ p ∈ tf, LamX.TabB base mg (He.cT K p).1 (He.cT K p).2) (nd : ∀ p ∈ tf, ∀ q ∈ tf, (He.cT K p).2 = (He.cT K q).2 → p = q) : ∀ k, k < (dat.gn (tabsOf K) K).nf → EntOk (dat.gn (tabsOf K) K) dat.ck tab K mg base k := by
  intro k hk
  have hk' : k < ents.length := hk
  have he : ents[k] ∈ ents := List.getElem_mem _
  have hd : ents.getD k ⟨f_law, top 0, "", [], [], false⟩ = ents[k] := by rw [List.getD_eq_getElem?_getD, List.getElem?_eq_getElem hk']; rfl
  have ok := List.all_eq_true.mp ents_ok _ he
  have bn := ents_b k hk
  rw [hd] at bn
  obtain ⟨fd, F⟩ := defs_ok c (d := ⟨((ents[k]).name, none), (ents[k]).name, (ents[k]).name, defArgs (ents[k]).st, defBody (ents[k]).st, defScope (ents[k]).st, [], []⟩) (List.mem_append_left _ (by rw [fnl_ents]; exact List.mem_map.mpr ⟨_, he, rfl⟩)) rfl rfl
  have nm : dat.fnm k = (ents[k]).name := nm_all ⟨k, hk'⟩
  have tb : tab[k]? = some (ents[k]).f := by
    rw [tab_all, List.getElem?_map, List.getElem?_eq_getElem hk']
    rfl
  have lm : (ents[k]).lam = true → ((ents[k]).name, none) ∈ tf := lm_all ⟨k, hk'⟩
  refine ⟨(ents[k]).f, _, _, _, _, _, _, _, (ents[k]).lam, fd, tb, Ent.defOk ok bn, ?_, fun hl => ?_⟩
  · have e : (dat.gn (tabsOf K) K).fa k = He.fAd K ((ents[k]).name, none) := by
      show He.ga K (dat.fnm k) = _
      rw [nm]
      rfl
    rw [e]
    exact F
  · have hp := lm hl
    obtain ⟨oc, od, dV, kV, doc, pm, an, cdv, ct, osl, e1, lk, hcd, _, _⟩ := F.ex
    obtain ⟨cc, hcc⟩ := He.codeIn_ref hcd
    subst e1
    have ec : He.codeOf K ((ents[k]).name, none) = cc := He.codeOf_eq lk hcc
    refine ⟨cc, (He.cT K ((ents[k]).name, none)).2, hcc, ?_, List.mem_map.mpr ⟨_, hp, rfl⟩, fun p hp2 e => ?_⟩
    · rw [← ec]
      exact TB _ hp
    · obtain ⟨q, hq, rfl⟩ := List.mem_map.mp hp2
      rw [nd q hq _ hp e]
end
end My
namespace My
open PySem PySem.Spec PyProof.Rows L2 Pv
/-- the law's mathematics -/
def Math : Prop := ∀ ns : List Int, ∃ S, run none dat.wrd tab 30 52 [.scr ns] [] = .ok (.bl true) S
theorem law_fn {w : World} {K : PySem.W.Frag} {mg : Str → Option Value} {h : Heap} {f : Addr} (m : Math) (KX : K.In h) (G : h.Ns mainGlobals mg) (c : He.SaysX dat.fa fn [] tf (fun K => dat.exT K) w h K) (hfa : mg ("law" : Str) = some (.ref f)) (nmost : Nat) :
    LamX.LawAtS PySem.Challenge.rw_shelfcredits_k11_whole_bounds_by_all_tru w K (L2N.CX (PySem.Challenge.rw_shelfcredits_k11_whole_bounds_by_all_tru).prog w) (3 * 30 + 1) nmost "script" mg f h := by
  have fc : ∀ f ∈ dat.fa, f.ok K = true := fun f hf => He.SaysD.facts c.t.d hf
  have hkl : 52 < (dat.gn (tabsOf K) K).nf := by show 52 < dat.names.length; decide +kernel
  have nd : ∀ p ∈ tf, ∀ q ∈ tf, (He.cT K p).2 = (He.cT K q).2 → p = q := exT_lam c.more
  have hl : 52 < ents.length := by decide
  have he : ents[52] ∈ ents := List.getElem_mem hl
  obtain ⟨fd, F⟩ := defs_ok c (d := ⟨((ents[52]).name, none), (ents[52]).name, (ents[52]).name, defArgs (ents[52]).st, defBody (ents[52]).st, defScope (ents[52]).st, [], []⟩) (List.mem_append_left _ (by rw [fnl_ents]; exact List.mem_map.mpr ⟨_, he, rfl⟩)) rfl rfl
  have e0 := hfa.symm.trans (mg_def fc KX G (x := "law") (List.mem_append_left _ (by decide)))
  obtain rfl : f = He.ga K "law" := by injection e0 with e0; injection e0
  have bA := FunD.bindsA (ps := ["script"]) F fun _ _ _ _ _ _ us hl => match us, hl with | [_], _ => rfl
  have cs_hd : ∀ p ∈ tf.map (He.cT K), ∃ q ∈ tf, He.cT K q = p := fun p hp => by
    obtain ⟨q, hq, e⟩ := List.mem_map.mp hp
    exact ⟨q, hq, e⟩
  refine ⟨fd, tf.map (He.cT K), spF K (dat.gn (tabsOf K) K) (run none dat.wrd tab 30) 52 1, fun p hp => ?_, fun p hp => ?_, fun p hp => ?_, fun s u => bA s [u] rfl, fun H a ns hl hb hT hS => ?_, fun base hKb hNs TB => ?_⟩
  · obtain ⟨q, hq, rfl⟩ := cs_hd p hp
    exact c.empty q hq
  · obtain ⟨q, hq, rfl⟩ := cs_hd p hp
    exact c.out q hq
  · obtain ⟨q, hq, rfl⟩ := cs_hd p hp
    exact PySem.W.codeHd_of_K KX (c.hd q hq)
  · obtain ⟨S, hr⟩ := m ns
    refine law_sp hS (fun p hp => ?_) hr
    obtain ⟨q, hq, rfl⟩ := List.mem_map.mp hp
    exact hT _ (List.mem_map.mpr ⟨q, hq, rfl⟩)
  · have TB' : ∀ p ∈ tf, LamX.TabB base mg (He.cT K p).1 (He.cT K p).2 := fun p hp => TB _ (List.mem_map.mpr ⟨p, hp, rfl⟩)
    have MO := mods (P := (PySem.Challenge.rw_shelfcredits_k11_whole_bounds_by_all_tru).prog) (w := w) (base := base) c KX G
    have ok := List.all_eq_true.mp ents_ok _ he
    exact fn_step (w' := none) (k := 52) MO 29 (fns_ok MO (ent_ok c TB' nd) 29) (f := (ents[52]).f) rfl (Ent.defOk ok (ents_b 52 (by decide))) F (fun z => by cases z)
end My
theorem My.math : My.Math := fun ns => by
  rw [My.wrd_eq]
  exact My.r_law ns
open PySem PySem.W PySem.Calls PyProof.Rows
theorem PySem.Challenge.cw_shelfcredits_k11_whole_bounds_by_all_tru_holds : PySem.Challenge.rw_shelfcredits_k11_whole_bounds_by_all_tru.Holds := by
  w_on; o_law
  refine HandSHeadRun.head_any (r := OpenLaw.row PySem.Challenge.rw_shelfcredits_k11_whole_bounds_by_all_tru) (q := view (OpenLaw.row PySem.Challenge.rw_shelfcredits_k11_whole_bounds_by_all_tru).prog [81]) (H := My.hk) (ob := My.ob) (M := 6000) (loose := My.loose) (d := HandSHeadRun.topDef (OpenLaw.row PySem.Challenge.rw_shelfcredits_k11_whole_bounds_by_all_tru).prog 81) (kwd := []) My.ob_eq
    (by kernel_rfl) (fun s => by kernel_rfl) My.runs (by kernel_rfl) (by kernel_rfl) (by kernel_rfl) (by rfl) (by first | assumption | decide +kernel) (by decide +kernel) ⟨rfl, rfl, rfl, rfl, rfl, by decide +kernel⟩ ?hw ?hc
  case hw => w_witness2
  case hc =>
    refine LamX.walk_ofTsE (l := PySem.Challenge.rw_shelfcredits_k11_whole_bounds_by_all_tru) (n := 63) (k := 3 * 30 + 1) (x := "script") (CX := fun w => L2N.CX (PySem.Challenge.rw_shelfcredits_k11_whole_bounds_by_all_tru).prog w) rfl (by decide) (by kernel_rfl) ⟨rfl, by decide, by decide⟩ ?F (fun w H s e s' h => by
      obtain ⟨_, _, _, _, _, _, _, _, _, _, _, _, z⟩ := h
      exact z.elim)
    intro w mg fa h Y G hmg0
    obtain ⟨K, KX, c⟩ := Y
    have hmg : mg ("law" : PySem.Str) = some (.ref fa) := by
      have e : (HandSHeadRun.topDef (OpenLaw.row PySem.Challenge.rw_shelfcredits_k11_whole_bounds_by_all_tru).prog 81).name = ("law" : PySem.Str) := by kernel_rfl
      rw [← e]
      exact hmg0
    exact ⟨K, KX, My.law_fn My.math KX G c hmg 63⟩
