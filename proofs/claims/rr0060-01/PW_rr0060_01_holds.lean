import PyProof.Rows.All
import Wide.All
import OpenK.AllK
import Wide.FinOn
import Lean
import PySem.Challenge.RW_rr0060_01
set_option Elab.async false
set_option autoImplicit false
set_option linter.all false
set_option genSizeOf false
set_option genSizeOfSpec false
namespace Mine
open PySem

/-! the mini interpreter: plain data, plain values; a run is a predicate transformer -/

inductive D where
  | none | bool (b : Bool) | int (i : Int) | str (s : List Nat)
  | list (xs : List D) | tup (xs : List D)
  | fn (k : Nat) | thr (a b c d : Int) | clo (told : D) (many : Int)

inductive Slot where
  | unset | cel | val (d : D) | own (xs : List D) | io (xs : List D)
abbrev MEnv := List Slot

inductive BI where
  | len | abs | tolist
inductive BM where
  | max | min
inductive CO where
  | eq | ne | lt | le | gt | ge

/-- the targets of a store -/
inductive TG where
  | one (i p : Nat) | many (is : List (Nat × Nat)) (p : Nat)

set_option genInjectivity false
mutual
inductive ME where
  | cint (i : Int) (p : Nat) | cstr (s : List Nat) (p : Nat) | cbool (b : Bool) (p : Nat)
  | var (i p : Nat) | fn (k p : Nat) | glob (g p : Nat)
  | bin (op : Operator) (a b : ME) (p : Nat)
  | neg (a : ME) (p : Nat) | not (a : ME) (p : Nat)
  | and (a : ME) (es : List ME) (p : Nat)
  | cmp (a : ME) (op : CO) (b : ME) (p : Nat)
  | cmp2 (a : ME) (op : CO) (b : ME) (op' : CO) (c : ME) (p : Nat)
  | ite (t a b : ME) (p : Nat)
  | call (k q : Nat) (args : List ME) (p : Nat)
  | callv (i q : Nat) (args : List ME) (p : Nat)
  | callio (k q i qi : Nat) (args : List ME) (p : Nat)
  | b1 (f : BI) (q : Nat) (a : ME) (p : Nat)
  | bn (f : BM) (q : Nat) (args : List ME) (p : Nat)
  | thr (q : Nat) (args : List ME) (p : Nat)
  | clo (q : Nat) (args : List ME) (p : Nat)
  | bitlen (a : ME) (q p : Nat) | lower (a : ME) (q p : Nat) | find (a b : ME) (q p : Nat)
  | joinr (p0 q q2 : Nat) (a : ME) (p2 p : Nat)
  | idx (a i : ME) (p : Nat)
  | cut (i pi : Nat) (lo hi : Option ME) (q p : Nat)
  | rev (i pi p1 p2 q p : Nat)
  | attr (i pi f p : Nat)
  | list (es : List ME) (p : Nat) | tup (es : List ME) (p : Nat)
  | comp (sc : Scope) (xs : List PySem.Str) (fr : List Nat) (elt : ME) (tg : TG) (it : It) (p : Nat)
inductive It where
  | range (q : Nat) (args : List ME) (p : Nat)
  | seq (e : ME)
  | rever (q : Nat) (e : ME) (p : Nat)
  | enum (q : Nat) (e : ME) (p : Nat)
  | zip (q : Nat) (a b : ME) (p : Nat)
end

inductive MS where
  | asg (t : TG) (e : ME) (p : Nat)
  | asgC (i pi : Nat) (e : ME) (p : Nat)
  | asgL (is : List (Nat × Nat)) (q : Nat) (es : List ME) (q' p : Nat)
  | asgTC (is : List (Nat × Nat)) (q : Nat) (es : List ME) (q' p : Nat)
  | setI (i pi : Nat) (ix e : ME) (q p : Nat)
  | aug (i pi : Nat) (op : Operator) (e : ME) (p : Nat)
  | app (i pi : Nat) (e : ME) (q q' p : Nat)
  | ite (t : ME) (a b : List MS) (p : Nat)
  | whl (t : ME) (body : List MS) (p : Nat)
  | for_ (tg : TG) (it : It) (body : List MS) (p : Nat)
  | ret (e : ME) (p : Nat)
  | expr (e : ME) (p : Nat)
  | raise (q : Nat) (s : PySem.Str) (q' q'' p : Nat)
  | bad (path : List Nat)

set_option genInjectivity true
/-! pure operations -/

def small (i : Int) : Prop := i.natAbs < 2 ^ 256

noncomputable def intP : D → (Int → Prop) → Prop
  | .int i, Q => Q i
  | _, _ => False
noncomputable def boolP : D → (Bool → Prop) → Prop
  | .bool b, Q => Q b
  | _, _ => False
noncomputable def tupP : D → (List D → Prop) → Prop
  | .tup b, Q => Q b
  | _, _ => False
noncomputable def listP : D → (List D → Prop) → Prop
  | .list b, Q => Q b
  | _, _ => False
noncomputable def noneP : D → Prop → Prop
  | .none, Q => Q
  | _, _ => False
/-- a branch -/
def brP (b : Bool) (t f : Prop) : Prop := (b = true → t) ∧ (b = false → f)

noncomputable def binI : Operator → Int → Int → (Int → Prop) → Prop
  | .Add, a, b, Q => Q (a + b)
  | .Sub, a, b, Q => Q (a - b)
  | .Mult, a, b, Q => small a ∧ small b ∧ Q (a * b)
  | .FloorDiv, a, b, Q => b ≠ 0 ∧ small a ∧ Q (a.fdiv b)
  | .Mod, a, b, Q => b ≠ 0 ∧ Q (a.fmod b)
  | .LShift, a, b, Q => 0 ≤ b ∧ b ≤ 4096 ∧ small a ∧ Q (a * 2 ^ b.toNat)
  | .RShift, a, b, Q => 0 ≤ b ∧ Q (a.fdiv (2 ^ b.toNat))
  | .Pow, a, b, Q => 0 ≤ b ∧ b ≤ 4096 ∧ small a ∧ Q (a ^ b.toNat)
  | .BitAnd, a, b, Q => Q (Builtin.bitAnd a b)
  | .BitOr, a, b, Q => Q (Builtin.bitOr a b)
  | _, _, _, _ => False
noncomputable def addSeq {α : Type} (op : Operator) (a b : List α) (Q : List α → Prop) : Prop := op = .Add ∧ a.length + b.length ≤ 4096 ∧ Q (a ++ b)
noncomputable def mulSeq (op : Operator) (a : List D) (n : Int) (Q : List D → Prop) : Prop := op = .Mult ∧ (a.length * n.toNat ≤ 4096 ∧ n ≤ 4096 ∧ -4096 ≤ n ∧ a ≠ []) ∧ Q (List.replicate n.toNat a).flatten
noncomputable def binP (op : Operator) (x y : D) (Q : D → Prop) : Prop := match x with
  | .int a => intP y fun b => binI op a b fun z => Q (.int z)
  | .str a => (match y with | .str b => addSeq op a b fun z => Q (.str z) | _ => False)
  | .list a => (match y with | .list b => addSeq op a b fun z => Q (.list z) | .int n => mulSeq op a n fun z => Q (.list z) | _ => False)
  | _ => False

mutual
noncomputable def toPy : D → Option PyData
  | .bool b => some (.bool b)
  | .int i => some (.int i)
  | .list xs => (toPys xs).map .list
  | .tup xs => (toPys xs).map .tuple
  | _ => Option.none
noncomputable def toPys : List D → Option (List PyData)
  | [] => some []
  | x :: r => (toPy x).bind fun a => (toPys r).map fun b => a :: b
end
noncomputable def eqPy (x y : D) (Q : Bool → Prop) : Prop := ∃ a b, toPy x = some a ∧ toPy y = some b ∧ a.depth ≤ 64 ∧ Q (PyData.eqv a b)
noncomputable def eqP (x y : D) (Q : Bool → Prop) : Prop := match x with
  | .int a => (match y with | .int b => Q (decide (a = b)) | _ => False)
  | .str a => (match y with | .str b => Q (a == b) | _ => False)
  | x => eqPy x y Q
noncomputable def cmpI : CO → Int → Int → Bool
  | .lt, a, b => decide (a < b)
  | .le, a, b => decide (a ≤ b)
  | .gt, a, b => decide (a > b)
  | .ge, a, b => decide (a ≥ b)
  | .eq, a, b => decide (a = b)
  | .ne, a, b => !decide (a = b)
noncomputable def geS (x y : D) (Q : Bool → Prop) : Prop := match x with
  | .int a => intP y fun b => Q (decide (a ≥ b))
  | .str a => (match y with | .str b => Q (!decide (a < b)) | _ => False)
  | _ => False
noncomputable def cmpP (op : CO) (x y : D) (Q : Bool → Prop) : Prop := match op with
  | .eq => eqP x y Q
  | .ne => eqP x y fun b => Q (!b)
  | .ge => geS x y Q
  | op => intP x fun a => intP y fun b => Q (cmpI op a b)

/-- the place of an index in a sequence of n items -/
noncomputable def placeP (n : Nat) (i : Int) (Q : Nat → Prop) : Prop := n ≤ 4096 ∧ ((0 ≤ i ∧ i < n ∧ Q i.toNat) ∨ (i < 0 ∧ -(n : Int) ≤ i ∧ Q (i + n).toNat))
noncomputable def idxP (x j : D) (Q : D → Prop) : Prop := intP j fun i => match x with
  | .list xs => placeP xs.length i fun k => ∃ y, xs[k]? = some y ∧ Q y
  | .tup xs => placeP xs.length i fun k => ∃ y, xs[k]? = some y ∧ Q y
  | .str xs => placeP xs.length i fun k => ∃ y, xs[k]? = some y ∧ Q (.str [y])
  | _ => False
/-- a cut -/
noncomputable def cutL {α : Type} (xs : List α) (lo hi : Option Int) : List α :=
  let l := match lo with | some i => clipAt xs.length i | Option.none => 0
  let h := match hi with | some i => clipAt xs.length i | Option.none => xs.length
  (xs.drop l).take (h - l)
noncomputable def optP : Option D → (Option Int → Prop) → Prop
  | Option.none, Q => Q Option.none
  | some d, Q => intP d fun i => Q (some i)
noncomputable def cutS (s : List Nat) (Q : List Nat → Prop) : Option Int → Option Int → Prop
  | Option.none, some j => 0 ≤ j ∧ ((j ≤ s.length ∧ Q (s.take j.toNat)) ∨ (s = [] ∧ Q []))
  | some i, some j => 0 ≤ i ∧ i ≤ j ∧ j ≤ s.length ∧ Q ((s.drop i.toNat).take (j - i).toNat)
  | some i, Option.none => 0 ≤ i ∧ i ≤ s.length ∧ Q (s.drop i.toNat)
  | _, _ => False
noncomputable def cutP (d : D) (lo hi : Option D) (Q : D → Prop) : Prop := optP lo fun l => optP hi fun h => match d with
  | .list xs => xs.length ≤ 4096 ∧ Q (.list (cutL xs l h))
  | .str s => s.length ≤ 4096 ∧ cutS s (fun t => Q (.str t)) l h
  | _ => False
noncomputable def bitLength (i : Int) : Int := if i = 0 then 0 else i.natAbs.log2 + 1
noncomputable def findIn (s : List Nat) (c : Nat) : Int := match s.findIdx? (· == c) with | some i => i | Option.none => -1
noncomputable def lenP (n : Nat) (Q : D → Prop) : Prop := n ≤ 4096 ∧ Q (.int n)
noncomputable def b1P (f : BI) (x : D) (Q : D → Prop) : Prop := match f with
  | .len => (match x with | .list xs => lenP xs.length Q | .tup xs => lenP xs.length Q | .str xs => lenP xs.length Q | _ => False)
  | .abs => intP x fun i => Q (.int i.natAbs)
  | .tolist => tupP x fun xs => xs.length ≤ 4096 ∧ Q (.list xs)
noncomputable def max2 (a b : Int) : Int := if b > a then b else a
noncomputable def min2 (a b : Int) : Int := if b < a then b else a
noncomputable def int2P (ds : List D) (Q : Int → Int → List D → Prop) : Prop := match ds with
  | x :: y :: r => intP x fun a => intP y fun b => Q a b r
  | _ => False
noncomputable def bnP (f : BM) (ds : List D) (Q : D → Prop) : Prop := int2P ds fun a b r => match f, r with
  | .max, [] => Q (.int (max2 a b))
  | .max, [c] => intP c fun c => Q (.int (max2 (max2 a b) c))
  | .min, [] => Q (.int (min2 a b))
  | _, _ => False
noncomputable def thrP (ds : List D) (Q : D → Prop) : Prop := int2P ds fun a b r => int2P r fun c d _ => r.length = 2 ∧ Q (.thr (max2 a 2) (max2 b 3) (max2 c 4) (max2 d 6))
noncomputable def cloP (ds : List D) (Q : D → Prop) : Prop := match ds with
  | [t, m] => intP m fun m => Q (.clo t m)
  | _ => False
/-- what is called is a function or a closure -/
noncomputable def clP (f : D) (a : Nat → Prop) (b : D → Int → Prop) : Prop := match f with
  | .fn k => a k
  | .clo t n => b t n
  | _ => False
noncomputable def strP : D → (List Nat → Prop) → Prop
  | .str i, Q => Q i
  | _, _ => False
noncomputable def chP (x : D) (Q : Nat → Prop) : Prop := strP x fun s => ∃ c, s = [c] ∧ Q c
noncomputable def joinP : List D → (List Nat → Prop) → Prop
  | [], Q => Q []
  | x :: r, Q => strP x fun s => joinP r fun t => Q (s ++ t)
noncomputable def attrP (x : D) (f : Nat) (Q : D → Prop) : Prop := match x with
  | .thr a b c d => (match f with | 0 => Q (.int a) | 1 => Q (.int b) | 2 => Q (.int c) | _ => Q (.int d))
  | _ => False
/-- what a loop goes over -/
noncomputable def rangeN (a b c : Int) : Nat := (if c > 0 then (if a < b then (b - a - 1) / c + 1 else 0) else (if a > b then (a - b - 1) / (-c) + 1 else 0)).toNat
noncomputable def rangeL (a b c : Int) : List D := (List.range (rangeN a b c)).map fun i : Nat => .int (a + (i : Int) * c)
def rb (i : Int) : Prop := i.natAbs ≤ 4096
noncomputable def rangeP (ds : List D) (Q : List D → Prop) : Prop := match ds with
  | [x] => intP x fun b => rb b ∧ Q (rangeL 0 b 1)
  | [x, y] => intP x fun a => intP y fun b => rb a ∧ rb b ∧ Q (rangeL a b 1)
  | [x, y, z] => intP x fun a => intP y fun b => intP z fun c => rb a ∧ rb b ∧ rb c ∧ c ≠ 0 ∧ Q (rangeL a b c)
  | _ => False
noncomputable def enumL (xs : List D) : List D := (List.range xs.length).zipWith (fun i x => .tup [.int (i : Nat), x]) xs
noncomputable def zipL (xs ys : List D) : List D := xs.zipWith (fun x y => .tup [x, y]) ys
noncomputable def seqP (x : D) (Q : List D → Prop) : Prop := match x with
  | .list xs => Q xs
  | .tup xs => Q xs
  | _ => False
noncomputable def enumP (x : D) (Q : List D → Prop) : Prop := match x with
  | .list xs => Q (enumL xs)
  | .str xs => Q (enumL (xs.map fun c => .str [c]))
  | _ => False

/-- what is called but not defined here -/
structure Orc where
  fn : Prop → Nat → List D → (D → Prop) → Prop
  io : Nat → List D → List D → (D → List D → Prop) → Prop
  clo : D → Int → List D → (D → Prop) → Prop
  glob : Nat → D

noncomputable def bindP : List (Nat × Nat) → List D → MEnv → (MEnv → Prop) → Prop
  | [], [], ρ, Q => Q ρ
  | i :: is, d :: ds, ρ, Q => bindP is ds (ρ.set i.1 (.val d)) Q
  | _, _, _, _ => False
/-- an item bound to the targets -/
noncomputable def stT (t : TG) (d : D) (ρ : MEnv) (Q : MEnv → Prop) : Prop := match t with
  | .one i _ => Q (ρ.set i (.val d))
  | .many is _ => tupP d fun ds => bindP is ds ρ Q
noncomputable def varP (ρ : MEnv) (i : Nat) (Q : D → MEnv → Prop) : Prop := match ρ[i]? with
  | some (.val d) => Q d ρ
  | some (.own xs) => Q (.list xs) (ρ.set i (.val (.list xs)))
  | _ => False
noncomputable def valP (ρ : MEnv) (i : Nat) (Q : D → Prop) : Prop := match ρ[i]? with
  | some (.val d) => Q d
  | _ => False
noncomputable def ownP (ρ : MEnv) (i : Nat) (Q : Slot → List D → Prop) : Prop := match ρ[i]? with
  | some (.own xs) => Q (.own xs) xs
  | some (.io xs) => Q (.io xs) xs
  | _ => False
noncomputable def Slot.repl : Slot → List D → Slot
  | .io _, ys => .io ys
  | _, ys => .own ys
noncomputable def freesP (ρ : MEnv) : List Nat → (List Slot → Prop) → Prop
  | [], Q => Q []
  | i :: is, Q => valP ρ i fun d => freesP ρ is fun r => Q (.val d :: r)
noncomputable def mapP {α : Type} (f : α → (D → Prop) → Prop) : List α → (List D → Prop) → Prop
  | [], Q => Q []
  | x :: xs, Q => f x fun y => mapP f xs fun ys => Q (y :: ys)

/-- what stands before a bracket: a value, or a list of the frame's own -/
inductive Pk where
  | d (x : D) | own (i : Nat)
noncomputable def pkGet (ρ : MEnv) (p : Pk) (Q : D → Prop) : Prop := match p with
  | .d x => Q x
  | .own i => ownP ρ i fun _ xs => Q (.list xs)
noncomputable def pkVar (ρ : MEnv) (i : Nat) (Q : Pk → Prop) : Prop := match ρ[i]? with
  | some (.val d) => Q (.d d)
  | some (.own _) => Q (.own i)
  | some (.io _) => Q (.own i)
  | _ => False
noncomputable def varOf (e : ME) : Option Nat := match e with
  | .var i _ => some i
  | _ => Option.none
noncomputable def pkP (v : Option Nat) (ev : (D → MEnv → Prop) → Prop) (ρ : MEnv) (Q : Pk → MEnv → Prop) : Prop := match v with
  | some i => pkVar ρ i fun p => Q p ρ
  | Option.none => ev fun d ρ => Q (.d d) ρ

mutual
noncomputable def wpE (C : Orc) : ME → Prop → MEnv → (D → MEnv → Prop) → Prop
  | .cint i _, _, ρ, Q => Q (.int i) ρ
  | .cstr s _, _, ρ, Q => Q (.str s) ρ
  | .cbool b _, _, ρ, Q => Q (.bool b) ρ
  | .var i _, _, ρ, Q => varP ρ i Q
  | .fn k _, _, ρ, Q => Q (.fn k) ρ
  | .glob g _, _, ρ, Q => Q (C.glob g) ρ
  | .bin op a b _, R, ρ, Q => wpE C a R ρ fun x ρ => wpE C b R ρ fun y ρ => binP op x y fun z => Q z ρ
  | .neg a _, R, ρ, Q => wpE C a R ρ fun x ρ => intP x fun i => Q (.int (-i)) ρ
  | .not a _, R, ρ, Q => wpE C a R ρ fun x ρ => boolP x fun b => Q (.bool !b) ρ
  | .and a es _, R, ρ, Q => wpE C a R ρ fun x ρ => wpAnd C es R x ρ Q
  | .cmp a op b _, R, ρ, Q => wpE C a R ρ fun x ρ => wpE C b R ρ fun y ρ => cmpP op x y fun b => Q (.bool b) ρ
  | .cmp2 a op b op' c _, R, ρ, Q => wpE C a R ρ fun x ρ => wpE C b R ρ fun y ρ => cmpP op x y fun t => brP t (wpE C c R ρ fun z ρ => cmpP op' y z fun b => Q (.bool b) ρ) (Q (.bool false) ρ)
  | .ite t a b _, R, ρ, Q => wpE C t R ρ fun x ρ => boolP x fun c => brP c (wpE C a R ρ Q) (wpE C b R ρ Q)
  | .call k _ args _, R, ρ, Q => wpEs C args R ρ fun ds ρ => C.fn R k ds fun d => Q d ρ
  | .callv i _ args _, R, ρ, Q => valP ρ i fun f => clP f (fun k => wpEs C args R ρ fun ds ρ => C.fn R k ds fun d => Q d ρ) fun t n => wpEs C args R ρ fun ds ρ => C.clo t n ds fun d => Q d ρ
  | .callio k _ i _ args _, R, ρ, Q => ownP ρ i fun _ _ => wpEs C args R ρ fun ds ρ => ownP ρ i fun sl xs => C.io k xs ds fun d ys => Q d (ρ.set i (sl.repl ys))
  | .b1 f _ a _, R, ρ, Q => pkP (varOf a) (wpE C a R ρ) ρ fun p ρ => pkGet ρ p fun x => b1P f x fun d => Q d ρ
  | .bn f _ args _, R, ρ, Q => wpEs C args R ρ fun ds ρ => bnP f ds fun d => Q d ρ
  | .thr _ args _, R, ρ, Q => wpEs C args R ρ fun ds ρ => thrP ds fun d => Q d ρ
  | .clo _ args _, R, ρ, Q => wpEs C args R ρ fun ds ρ => cloP ds fun d => Q d ρ
  | .bitlen a _ _, R, ρ, Q => wpE C a R ρ fun x ρ => intP x fun i => Q (.int (bitLength i)) ρ
  | .lower a _ _, R, ρ, Q => wpE C a R ρ fun x ρ => chP x fun c => (48 ≤ c ∧ c ≤ 57) ∧ Q (.str [c]) ρ
  | .find a b _ _, R, ρ, Q => wpE C a R ρ fun x ρ => strP x fun s => wpE C b R ρ fun y ρ => chP y fun c => Q (.int (findIn s c)) ρ
  | .joinr _ _ _ a _ _, R, ρ, Q => wpE C a R ρ fun x ρ => listP x fun xs => xs.length ≤ 4096 ∧ joinP xs.reverse fun s => s.length ≤ 4096 ∧ Q (.str s) ρ
  | .idx a i _, R, ρ, Q => pkP (varOf a) (wpE C a R ρ) ρ fun p ρ => wpE C i R ρ fun j ρ => pkGet ρ p fun x => idxP x j fun d => Q d ρ
  | .cut i _ lo hi _ _, R, ρ, Q => pkVar ρ i fun p => wpO C lo R ρ fun l ρ => wpO C hi R ρ fun h ρ => pkGet ρ p fun x => cutP x l h fun d => Q d ρ
  | .rev i _ _ _ _ _, _, ρ, Q => pkVar ρ i fun p => pkGet ρ p fun x => listP x fun xs => xs.length ≤ 4096 ∧ Q (.list xs.reverse) ρ
  | .attr i _ f _, _, ρ, Q => varP ρ i fun x ρ => attrP x f fun d => Q d ρ
  | .list es _, R, ρ, Q => wpEs C es R ρ fun ds ρ => Q (.list ds) ρ
  | .tup es _, R, ρ, Q => wpEs C es R ρ fun ds ρ => Q (.tup ds) ρ
  | .comp _ xs fr elt tg it _, _, ρ, Q => wpIt C it False ρ fun ds ρ => freesP ρ fr fun fs => ds.length ≤ 4096 ∧
      mapP (fun d Q => stT tg d (List.replicate xs.length .unset ++ fs) fun ρ' => wpE C elt False ρ' fun y _ => Q y) ds fun ys => Q (.list ys) ρ
noncomputable def wpO (C : Orc) : Option ME → Prop → MEnv → (Option D → MEnv → Prop) → Prop
  | Option.none, _, ρ, Q => Q Option.none ρ
  | some e, R, ρ, Q => wpE C e R ρ fun d ρ => Q (some d) ρ
noncomputable def wpEs (C : Orc) : List ME → Prop → MEnv → (List D → MEnv → Prop) → Prop
  | [], _, ρ, Q => Q [] ρ
  | e :: r, R, ρ, Q => wpE C e R ρ fun d ρ => wpEs C r R ρ fun ds ρ => Q (d :: ds) ρ
/-- the rest of an `and`, behind its value so far -/
noncomputable def wpAnd (C : Orc) : List ME → Prop → D → MEnv → (D → MEnv → Prop) → Prop
  | [], _, x, ρ, Q => Q x ρ
  | e :: r, R, x, ρ, Q => boolP x fun b => brP b (wpE C e R ρ fun y ρ => wpAnd C r R y ρ Q) (Q (.bool false) ρ)
noncomputable def wpIt (C : Orc) : It → Prop → MEnv → (List D → MEnv → Prop) → Prop
  | .range _ args _, R, ρ, Q => wpEs C args R ρ fun ds ρ => rangeP ds fun l => Q l ρ
  | .seq e, R, ρ, Q => wpE C e R ρ fun d ρ => seqP d fun l => Q l ρ
  | .rever _ e _, R, ρ, Q => wpE C e R ρ fun d ρ => listP d fun l => Q l.reverse ρ
  | .enum _ e _, R, ρ, Q => wpE C e R ρ fun d ρ => enumP d fun l => Q l ρ
  | .zip _ a b _, R, ρ, Q => wpE C a R ρ fun x ρ => wpE C b R ρ fun y ρ => listP x fun xs => listP y fun ys => Q (zipL xs ys) ρ
end

inductive Fl where
  | next | ret (d : D)
noncomputable def flP (f : Fl) (n : Prop) (r : D → Prop) : Prop := match f with
  | .next => n
  | .ret d => r d
noncomputable def whP (test : MEnv → (D → MEnv → Prop) → Prop) (body : MEnv → (Fl → MEnv → Prop) → Prop) (Q : Fl → MEnv → Prop) : Nat → MEnv → Prop
  | 0, _ => False
  | n + 1, ρ => test ρ fun d ρ => boolP d fun c => brP c (body ρ fun f ρ => flP f (whP test body Q n ρ) fun d => Q (.ret d) ρ) (Q .next ρ)
noncomputable def foP (tg : TG) (body : MEnv → (Fl → MEnv → Prop) → Prop) (Q : Fl → MEnv → Prop) : List D → MEnv → Prop
  | [], ρ => Q .next ρ
  | d :: ds, ρ => stT tg d ρ fun ρ => body ρ fun f ρ => flP f (foP tg body Q ds ρ) fun d => Q (.ret d) ρ

/-- the texts whose value is a new list -/
noncomputable def isListM (e : ME) : Bool := match e with
  | .list _ _ => true
  | _ => false
noncomputable def isMult : Operator → Bool
  | .Mult => true
  | _ => false
noncomputable def isAdd : Operator → Bool
  | .Add => true
  | _ => false
noncomputable def isMulL (e : ME) : Bool := match e with
  | .bin op a _ _ => isMult op && isListM a
  | _ => false
noncomputable def newL (e : ME) : Bool := match e with
  | .list _ _ => true
  | .bin op a b _ => (isMult op && isListM a) || (isAdd op && isMulL b)
  | _ => false
noncomputable def slotOf (n : Bool) (d : D) : Slot := match n with
  | true => (match d with | .list xs => .own xs | d => .val d)
  | false => .val d
noncomputable def stN (n : Bool) (t : TG) (d : D) (ρ : MEnv) (Q : MEnv → Prop) : Prop := match t with
  | .one i _ => Q (ρ.set i (slotOf n d))
  | .many is _ => tupP d fun ds => bindP is ds ρ Q
noncomputable def wpSl (C : Orc) : List ME → Prop → MEnv → (List Slot → MEnv → Prop) → Prop
  | [], _, ρ, Q => Q [] ρ
  | e :: r, R, ρ, Q => wpE C e R ρ fun d ρ => wpSl C r R ρ fun ds ρ => Q (slotOf (newL e) d :: ds) ρ
noncomputable def bindS : List (Nat × Nat) → List Slot → MEnv → (MEnv → Prop) → Prop
  | [], [], ρ, Q => Q ρ
  | i :: is, d :: ds, ρ, Q => bindS is ds (ρ.set i.1 d) Q
  | _, _, _, _ => False
noncomputable def bindC : List (Nat × Nat) → List D → MEnv → (MEnv → Prop) → Prop
  | [], [], ρ, Q => Q ρ
  | i :: is, d :: ds, ρ, Q => ρ[i.1]? = some .cel ∧ bindC is ds (ρ.set i.1 (.val d)) Q
  | _, _, _, _ => False
noncomputable def augP (ρ : MEnv) (i : Nat) (Q : Int → Prop) : Prop := valP ρ i fun x => intP x Q
noncomputable def appP (ρ : MEnv) (i : Nat) (d : D) (Q : MEnv → Prop) : Prop := match ρ[i]? with
  | some (.own xs) => xs.length < 4096 ∧ Q (ρ.set i (.own (xs ++ [d])))
  | _ => False

mutual
noncomputable def wpS (C : Orc) : MS → Prop → MEnv → (Fl → MEnv → Prop) → Prop
  | .asg t e _, R, ρ, Q => wpE C e R ρ fun d ρ => stN (newL e) t d ρ fun ρ => Q .next ρ
  | .asgL is _ es _ _, R, ρ, Q => wpSl C es R ρ fun sl ρ => bindS is sl ρ fun ρ => Q .next ρ
  | .asgC i pi e _, R, ρ, Q => wpE C e R ρ fun d ρ => bindC [(i, pi)] [d] ρ fun ρ => Q .next ρ
  | .asgTC is _ es _ _, R, ρ, Q => wpEs C es R ρ fun ds ρ => bindC is ds ρ fun ρ => Q .next ρ
  | .setI i _ ix e _ _, R, ρ, Q => wpE C e R ρ fun d ρ => ownP ρ i fun _ _ => wpE C ix R ρ fun j ρ => intP j fun j => ownP ρ i fun sl xs =>
      0 ≤ j ∧ j < xs.length ∧ xs.length ≤ 4096 ∧ Q .next (ρ.set i (sl.repl (xs.set j.toNat d)))
  | .aug i _ op e _, R, ρ, Q => augP ρ i fun x => wpE C e R ρ fun y ρ => intP y fun y => binI op x y fun z => Q .next (ρ.set i (.val (.int z)))
  | .app i _ e _ _ _, R, ρ, Q => ownP ρ i fun _ _ => wpE C e R ρ fun d ρ => appP ρ i d fun ρ => Q .next ρ
  | .ite t a b _, R, ρ, Q => wpE C t R ρ fun d ρ => boolP d fun c => brP c (wpB C a R ρ Q) (wpB C b R ρ Q)
  | .whl t body _, _, ρ, Q => ∃ n, whP (wpE C t False) (wpB C body False) Q n ρ
  | .for_ tg it body _, _, ρ, Q => wpIt C it False ρ fun ds ρ => foP tg (wpB C body False) Q ds ρ
  | .ret e _, R, ρ, Q => wpE C e R ρ fun d ρ => Q (.ret d) ρ
  | .expr e _, R, ρ, Q => wpE C e R ρ fun d ρ => noneP d (Q .next ρ)
  | .raise _ _ _ _ _, R, _, _ => R
  | .bad _, _, _, _ => False
noncomputable def wpB (C : Orc) : List MS → Prop → MEnv → (Fl → MEnv → Prop) → Prop
  | [], _, ρ, Q => Q .next ρ
  | s :: r, R, ρ, Q => wpS C s R ρ fun f ρ => flP f (wpB C r R ρ Q) fun d => Q (.ret d) ρ
end

structure FnDef where
  io : Bool
  np : Nat
  ns : Nat
  body : List MS
noncomputable def retOf : Fl → D
  | .ret d => d
  | .next => .none
/-- a call, its first slots given -/
noncomputable def runP (C : Orc) (R : Prop) (f : FnDef) (sl : List Slot) (Q : D → MEnv → Prop) : Prop :=
  wpB C f.body R (sl ++ List.replicate (f.ns - f.np) .unset) fun fl ρ => Q (retOf fl) ρ
noncomputable def ioP (ρ : MEnv) (Q : List D → Prop) : Prop := match ρ[0]? with
  | some (Slot.io ys) => Q ys
  | _ => False
noncomputable def orc (tbl : Nat → Option FnDef) (wf : FnDef) (gl : Nat → D) : Nat → Orc
  | 0 => ⟨fun _ _ _ _ => False, fun _ _ _ _ => False, fun _ _ _ _ => False, gl⟩
  | n + 1 => {
      fn := fun R k ds Q => ∃ f, tbl k = some f ∧ f.io = false ∧ ds.length = f.np ∧ runP (orc tbl wf gl n) R f (ds.map .val) fun d _ => Q d
      io := fun k xs ds Q => ∃ f, tbl k = some f ∧ f.io = true ∧ ds.length + 1 = f.np ∧ runP (orc tbl wf gl n) False f (.io xs :: ds.map .val) fun d ρ => ioP ρ fun ys => Q d ys
      clo := fun t m ds Q => ds.length + 2 = wf.np ∧ runP (orc tbl wf gl n) False wf (ds.map .val ++ [.val (.int m), .val t]) fun d _ => Q d
      glob := gl }
end Mine

set_option autoImplicit false
set_option linter.all false
set_option maxRecDepth 100000
namespace Mine
open PySem PySem.W PySem.Calls PyProof.Rows

/-! the model's text of a mini text -/

noncomputable def dp (n : Nat) : Pos := ⟨n / 1073741824, n / 1024 % 1024, n / 1073741824 + n / 1048576 % 1024, n % 1024⟩
noncomputable def nmL : List PySem.Str := (["normal", "nat_of", "compare", "add", "sub", "add_at", "divrem_limb", "shift_left", "shift_right", "bits", "split", "piece", "common", "signed_of", "r_make", "plain_of", "need_base", "nat_text", "r_text", "nat_from_text", "r_from_text", "difference", "put_together_karatsuba", "middle_of", "mul_karatsuba", "mul_school", "divrem_small", "guessed_limb", "take_away", "put_back", "divide_rows", "divrem_school", "signed", "s_neg", "s_add", "s_sub", "s_mul", "pieces", "piece_size", "scaled", "exact_small", "both_values", "value_at_two", "natural", "from_five", "recomposed", "products_of", "ends_of", "values_four", "values_five", "joined_five", "common_size", "toom3", "toom42", "by_slices", "way_for", "multiplied", "mul_balanced", "multiplied_slices", "_law_next", "_law_row", "_law_number"] : List String).map PySem.Str.ofString
noncomputable def nm (k : Nat) : PySem.Str := nmL.getD k "normal"
noncomputable def gn (g : Nat) : PySem.Str := match g with | 0 => "SIGNS" | 1 => "FEWEST" | _ => "BALANCE"
noncomputable def gl (g : Nat) : D := match g with | 0 => .str [48, 49, 50, 51, 52, 53, 54, 55, 56, 57, 97, 98, 99, 100, 101, 102, 103, 104, 105, 106, 107, 108, 109, 110, 111, 112, 113, 114, 115, 116, 117, 118, 119, 120, 121, 122] | _ => .int 2
noncomputable def nmAt (N : List PySem.Str) (i : Nat) : PySem.Str := N.getD i ""
noncomputable def coOp : CO → CmpOp
  | .eq => .Eq | .ne => .NotEq | .lt => .Lt | .le => .LtE | .gt => .Gt | .ge => .GtE
noncomputable def biNm : BI → PySem.Str
  | .len => "len" | .abs => "abs" | .tolist => "list"
noncomputable def bmNm : BM → PySem.Str
  | .max => "max" | .min => "min"
noncomputable def atNm : Nat → PySem.Str
  | 0 => "karatsuba" | 1 => "toom3" | 2 => "toom4" | _ => "rings"
noncomputable def isDebug (x : PySem.Str) : Bool := x == ("__debug__" : PySem.Str)
noncomputable def plainNm (x : PySem.Str) : Bool := !isDebug x && !(x == ("__classdict__" : PySem.Str))
noncomputable def nmE (N : List PySem.Str) (i p : Nat) : Expr := .Name (nmAt N i) (dp p)
noncomputable def nmsE (N : List PySem.Str) (is : List (Nat × Nat)) : List Expr := is.map fun i => nmE N i.1 i.2
noncomputable def toT (t : TG) (N : List PySem.Str) : Expr := match t with
  | .one i p => nmE N i p
  | .many is p => .Tuple (nmsE N is) 0 (dp p)
noncomputable def callE (f : PySem.Str) (q : Nat) (args : List Expr) (p : Nat) : Expr := .Call (.Name f (dp q)) args [] (dp p)
noncomputable def methE (o : Expr) (f : PySem.Str) (q : Nat) (args : List Expr) (p : Nat) : Expr := .Call (.Attribute o f (dp q)) args [] (dp p)

mutual
noncomputable def toE : ME → List PySem.Str → Expr
  | .cint i p, _ => .Constant (.int i) 0 (dp p)
  | .cstr s p, _ => .Constant (.str ⟨s.toArray⟩) 0 (dp p)
  | .cbool b p, _ => .Constant (.bool b) 0 (dp p)
  | .var i p, N => nmE N i p
  | .fn k p, _ => .Name (nm k) (dp p)
  | .glob g p, _ => .Name (gn g) (dp p)
  | .bin op a b p, N => .BinOp (toE a N) op (toE b N) (dp p)
  | .neg a p, N => .UnaryOp .USub (toE a N) (dp p)
  | .not a p, N => .UnaryOp .Not (toE a N) (dp p)
  | .and a es p, N => .BoolOp .And (toE a N :: toEs es N) (dp p)
  | .cmp a op b p, N => .Compare (toE a N) [coOp op] [toE b N] (dp p)
  | .cmp2 a op b op' c p, N => .Compare (toE a N) [coOp op, coOp op'] [toE b N, toE c N] (dp p)
  | .ite t a b p, N => .IfExp (toE t N) (toE a N) (toE b N) (dp p)
  | .call k q args p, N => callE (nm k) q (toEs args N) p
  | .callv i q args p, N => callE (nmAt N i) q (toEs args N) p
  | .callio k q i qi args p, N => callE (nm k) q (nmE N i qi :: toEs args N) p
  | .b1 f q a p, N => callE (biNm f) q [toE a N] p
  | .bn f q args p, N => callE (bmNm f) q (toEs args N) p
  | .thr q args p, N => callE "Thresholds" q (toEs args N) p
  | .clo q args p, N => callE "way_within" q (toEs args N) p
  | .bitlen a q p, N => methE (toE a N) "bit_length" q [] p
  | .lower a q p, N => methE (toE a N) "lower" q [] p
  | .find a b q p, N => methE (toE a N) "find" q [toE b N] p
  | .joinr p0 q q2 a p2 p, N => methE (.Constant (.str ⟨#[]⟩) 0 (dp p0)) "join" q [callE "reversed" q2 [toE a N] p2] p
  | .idx a i p, N => .Subscript (toE a N) (toE i N) (dp p)
  | .cut i pi lo hi q p, N => .Subscript (nmE N i pi) (.Slice (toO lo N) (toO hi N) none (dp q)) (dp p)
  | .rev i pi p1 p2 q p, N => .Subscript (nmE N i pi) (.Slice none none (some (.UnaryOp .USub (.Constant (.int 1) 0 (dp p1)) (dp p2))) (dp q)) (dp p)
  | .attr i pi f p, N => .Attribute (nmE N i pi) (atNm f) (dp p)
  | .list es p, N => .List (toEs es N) (dp p)
  | .tup es p, N => .Tuple (toEs es N) 0 (dp p)
  | .comp sc xs fr elt tg it p, N => .ListComp (toE elt (xs ++ fr.map (nmAt N))) [⟨toT tg (xs ++ fr.map (nmAt N)), toIt it N, [], 0⟩] sc (dp p)
noncomputable def toO : Option ME → List PySem.Str → Option Expr
  | Option.none, _ => none
  | some e, N => some (toE e N)
noncomputable def toEs : List ME → List PySem.Str → List Expr
  | [], _ => []
  | e :: r, N => toE e N :: toEs r N
noncomputable def toIt : It → List PySem.Str → Expr
  | .range q args p, N => callE "range" q (toEs args N) p
  | .seq e, N => toE e N
  | .rever q e p, N => callE "reversed" q [toE e N] p
  | .enum q e p, N => callE "enumerate" q [toE e N] p
  | .zip q a b p, N => callE "zip" q [toE a N, toE b N] p
end

/-- a statement of a text, by its place -/
noncomputable def subB : Stmt → Nat → List Stmt
  | .If _ a b _, n => if n = 0 then a else b
  | .For _ _ a _ _, _ => a
  | .While _ a _ _, _ => a
  | _, _ => []
noncomputable def pick (b : List Stmt) : List Nat → Stmt
  | [] => .Pass ⟨0, 0, 0, 0⟩
  | [i] => b.getD i (.Pass ⟨0, 0, 0, 0⟩)
  | i :: n :: r => pick (subB (b.getD i (.Pass ⟨0, 0, 0, 0⟩)) n) r

mutual
noncomputable def toS : MS → List PySem.Str → List Stmt → Stmt
  | .asg t e p, N, _ => .Assign [toT t N] (toE e N) (dp p)
  | .asgC i pi e p, N, _ => .Assign [nmE N i pi] (toE e N) (dp p)
  | .asgL is q es q' p, N, _ => .Assign [.Tuple (nmsE N is) 0 (dp q)] (.Tuple (toEs es N) 0 (dp q')) (dp p)
  | .asgTC is q es q' p, N, _ => .Assign [.Tuple (nmsE N is) 0 (dp q)] (.Tuple (toEs es N) 0 (dp q')) (dp p)
  | .setI i pi ix e q p, N, _ => .Assign [.Subscript (nmE N i pi) (toE ix N) (dp q)] (toE e N) (dp p)
  | .aug i pi op e p, N, _ => .AugAssign (nmE N i pi) op (toE e N) (dp p)
  | .app i pi e q q' p, N, _ => .Expr (methE (nmE N i pi) "append" q [toE e N] q') (dp p)
  | .ite t a b p, N, src => .If (toE t N) (toB a N src) (toB b N src) (dp p)
  | .whl t a p, N, src => .While (toE t N) (toB a N src) [] (dp p)
  | .for_ tg it a p, N, src => .For (toT tg N) (toIt it N) (toB a N src) [] (dp p)
  | .ret e p, N, _ => .Return (some (toE e N)) (dp p)
  | .expr e p, N, _ => .Expr (toE e N) (dp p)
  | .raise q s q' q'' p, _, _ => .Raise (some (callE "OutOfRange" q [.Constant (.str s) 0 (dp q')] q'')) none (dp p)
  | .bad path, _, src => pick src path
noncomputable def toB : List MS → List PySem.Str → List Stmt → List Stmt
  | [], _, _ => []
  | s :: r, N, src => toS s N src :: toB r N src
end
noncomputable abbrev lst (vs : Array Value) (n : Nat) : Obj := { cls := .type "list", data := .seq vs n }
noncomputable abbrev tpl (vs : Array Value) (n : Nat) : Obj := { cls := .type "tuple", data := .seq vs n }
noncomputable abbrev PH := Addr → Option Obj

set_option genInjectivity false in
/-- what does not change: the program, the world, the heap behind the top, where its defs stand -/
structure Cfg where
  prog : Program
  w : World
  hT : Heap
  fa : Nat → Addr
  cThr : Addr
  /-- the class OutOfRange -/
  cOut : Addr
  within : FuncData
  mg : PySem.Str → Option Value
  mb : PySem.Str → Option Value
  /-- the one object of before that a call may change: the table of the codes made within -/
  pT : Addr
  TabOk : PH → Obj → Prop
  tabMono : ∀ (G G' : PH) (o : Obj), (∀ b x, G b = some x → G' b = some x) → TabOk G o → TabOk G' o

noncomputable def likeFn (w fd : FuncData) : Prop := fd.qualname = w.qualname ∧ fd.params = w.params ∧ fd.body = w.body ∧ fd.scope = w.scope ∧ fd.globals = w.globals ∧ fd.builtins = w.builtins ∧ fd.defaults = w.defaults ∧ fd.kwdefaults = w.kwdefaults

noncomputable def ThrEs (es : List DictEntry) (a b c d : Int) : Prop := ∃ e1 e2 e3 e4 t1 t2 t3 t4 u1 u2 u3 u4, es = [⟨e1, .str (PySem.Str.ofString "karatsuba") t1, .int a u1⟩, ⟨e2, .str (PySem.Str.ofString "toom3") t2, .int b u2⟩, ⟨e3, .str (PySem.Str.ofString "toom4") t3, .int c u3⟩, ⟨e4, .str (PySem.Str.ofString "rings") t4, .int d u4⟩]
noncomputable def CloFn (K : Cfg) (o : Obj) (cd : Addr) (oc : Obj) (c1 : Addr) (o1 : Obj) (c2 : Addr) (o2 : Obj) (m : Int) (v1 : Value) : Prop := ∃ fd vs tq tk, o.data = .func fd ∧ likeFn K.within fd ∧ fd.code = .ref cd ∧ oc.data = .fields vs ∧ vs[1]? = some (.str fd.qualname tq) ∧
  fd.closure.lookup (PySem.Str.ofString "told") = some c1 ∧ fd.closure.lookup (PySem.Str.ofString "many") = some c2 ∧ o1.data = .cell (some v1) ∧ o2.data = .cell (some (.int m tk))
mutual
noncomputable def Rep (K : Cfg) (G : PH) : D → Value → Prop
  | .none, v => v = .none
  | .bool b, v => v = .bool b
  | .int i, v => ∃ t, v = .int i t
  | .str s, v => ∃ t, v = .str ⟨s.toArray⟩ t
  | .list xs, v => ∃ a vs n, v = .ref a ∧ G a = some (lst vs n) ∧ RepL K G xs vs.toList
  | .tup xs, v => ∃ a o vs n, v = .ref a ∧ G a = some o ∧ (o.cls = .type "tuple" ∧ o.data = .seq vs n) ∧ RepL K G xs vs.toList
  | .fn k, v => v = .ref (K.fa k)
  | .thr a b c d, v => ∃ x dx es n, v = .ref x ∧ G x = some (instObj K.cThr dx) ∧ G dx = some (dictOf es n) ∧ ThrEs es a b c d
  | .clo told m, v => ∃ a o cd oc c1 o1 c2 o2 v1, v = .ref a ∧ G a = some o ∧ G cd = some oc ∧ G c1 = some o1 ∧ G c2 = some o2 ∧ CloFn K o cd oc c1 o1 c2 o2 m v1 ∧ Rep K G told v1
noncomputable def RepL (K : Cfg) (G : PH) : List D → List Value → Prop
  | [], vs => vs = []
  | x :: xs, vs => ∃ v r, vs = v :: r ∧ Rep K G x v ∧ RepL K G xs r
end

noncomputable def Sub (G G' : PH) : Prop := ∀ b o, G b = some o → G' b = some o
theorem Sub.refl (G : PH) : Sub G G := fun _ _ e => e
theorem Sub.trans {G G' G'' : PH} (x : Sub G G') (y : Sub G' G'') : Sub G G'' := fun b o e => y b o (x b o e)

mutual
theorem Rep.mono {K : Cfg} {G G' : PH} (h : Sub G G') : ∀ (d : D) (v : Value), Rep K G d v → Rep K G' d v
  | .none, _, x => x
  | .bool _, _, x => x
  | .int _, _, x => x
  | .str _, _, x => x
  | .fn _, _, x => x
  | .list xs, _, x => by obtain ⟨a, vs, n, e, g, r⟩ := x; exact ⟨a, vs, n, e, h _ _ g, RepL.mono h xs _ r⟩
  | .tup xs, _, x => by obtain ⟨a, o, vs, n, e, g, c, r⟩ := x; exact ⟨a, o, vs, n, e, h _ _ g, c, RepL.mono h xs _ r⟩
  | .thr _ _ _ _, _, x => by obtain ⟨x, dx, es, n, e, g1, g2, r⟩ := x; exact ⟨x, dx, es, n, e, h _ _ g1, h _ _ g2, r⟩
  | .clo told _, _, x => by obtain ⟨a, o, cd, oc, c1, o1, c2, o2, v1, e, g, gc, g1, g2, q, r⟩ := x; exact ⟨a, o, cd, oc, c1, o1, c2, o2, v1, e, h _ _ g, h _ _ gc, h _ _ g1, h _ _ g2, q, Rep.mono h told v1 r⟩
theorem RepL.mono {K : Cfg} {G G' : PH} (h : Sub G G') : ∀ (xs : List D) (vs : List Value), RepL K G xs vs → RepL K G' xs vs
  | [], _, x => x
  | x :: xs, _, ⟨v, r, e, a, b⟩ => ⟨v, r, e, Rep.mono h x v a, RepL.mono h xs r b⟩
end

theorem RepL.length {K : Cfg} {G : PH} : ∀ {xs : List D} {vs : List Value}, RepL K G xs vs → vs.length = xs.length
  | [], _, x => congrArg List.length x
  | _ :: _, _, ⟨_, _, e, _, b⟩ => (congrArg List.length e).trans (congrArg Nat.succ (RepL.length b))
theorem RepL.get {K : Cfg} {G : PH} : ∀ {xs : List D} {vs : List Value} {i : Nat} {d : D}, RepL K G xs vs → xs[i]? = some d → ∃ v, vs[i]? = some v ∧ Rep K G d v
  | [], _, _, _, _, h => nomatch h
  | _ :: _, _, 0, _, ⟨v, _, e, a, _⟩, h => ⟨v, e ▸ rfl, Option.some.inj h ▸ a⟩
  | _ :: _, _, _ + 1, _, ⟨_, _, e, _, b⟩, h => let ⟨w, h1, h2⟩ := RepL.get b h; ⟨w, e ▸ h1, h2⟩
theorem RepL.set {K : Cfg} {G : PH} {d : D} {v : Value} (hr : Rep K G d v) : ∀ {xs : List D} {vs : List Value} {i : Nat}, RepL K G xs vs → RepL K G (xs.set i d) (vs.set i v)
  | [], _, _, x => (show _ = _ from x) ▸ rfl
  | _ :: _, _, 0, ⟨_, r, e, _, b⟩ => e ▸ ⟨v, r, rfl, hr, b⟩
  | _ :: _, _, _ + 1, ⟨u, _, e, a, b⟩ => e ▸ ⟨u, _, rfl, a, RepL.set hr b⟩
theorem RepL.append {K : Cfg} {G : PH} : ∀ {xs ys : List D} {vs us : List Value}, RepL K G xs vs → RepL K G ys us → RepL K G (xs ++ ys) (vs ++ us)
  | [], _, _, _, x, y => (show _ = _ from x) ▸ y
  | _ :: _, _, _, _, ⟨u, _, e, a, b⟩, y => e ▸ ⟨u, _, rfl, a, RepL.append b y⟩
theorem RepL.single {K : Cfg} {G : PH} {d : D} {v : Value} (h : Rep K G d v) : RepL K G [d] [v] := ⟨v, [], rfl, h, rfl⟩
theorem RepL.drop {K : Cfg} {G : PH} : ∀ (k : Nat) {xs : List D} {vs : List Value}, RepL K G xs vs → RepL K G (xs.drop k) (vs.drop k)
  | 0, _, _, x => x
  | _ + 1, [], _, x => (show _ = _ from x) ▸ rfl
  | k + 1, _ :: _, _, ⟨_, _, e, _, b⟩ => e ▸ RepL.drop k b
theorem RepL.take {K : Cfg} {G : PH} : ∀ (k : Nat) {xs : List D} {vs : List Value}, RepL K G xs vs → RepL K G (xs.take k) (vs.take k)
  | 0, _, _, _ => rfl
  | _ + 1, [], _, x => (show _ = _ from x) ▸ rfl
  | k + 1, _ :: _, _, ⟨u, _, e, a, b⟩ => e ▸ ⟨u, _, rfl, a, RepL.take k b⟩
theorem RepL.reverse {K : Cfg} {G : PH} : ∀ {xs : List D} {vs : List Value}, RepL K G xs vs → RepL K G xs.reverse vs.reverse
  | [], _, x => (show _ = _ from x) ▸ rfl
  | x :: xs, _, ⟨u, r, e, a, b⟩ => by
    rw [e, List.reverse_cons, List.reverse_cons]
    exact RepL.append (RepL.reverse b) (RepL.single a)

/-! the frame -/

set_option genInjectivity false in
structure Frm where
  env : Env
  names : List PySem.Str
  src : List Stmt
  s₀ : Shared
  G₀ : PH
  io : Option Addr
  /-- what is not to be touched while something else is worked out -/
  ban : List (Addr × Obj) := []

noncomputable def Slot.excl : Slot → Bool
  | .own _ => true
  | .io _ => true
  | .cel => true
  | _ => false

noncomputable def SlotOk (K : Cfg) (P : Frm) (G : PH) (h : Heap) (m : PySem.Str → Option Value) (a : Addr) (x : PySem.Str) : Slot → Prop
  | .unset => True
  | .val d => (P.env.kindOf x = some .local ∧ ∃ v, m x = some v ∧ Rep K G d v) ∨
      ((P.env.kindOf x = some .cell ∨ P.env.kindOf x = some .free) ∧ ∃ c o v, P.env.cells.lookup x = some c ∧ G c = some o ∧ o.data = .cell (some v) ∧ Rep K G d v)
  | .own xs => P.env.kindOf x = some .local ∧ m x = some (.ref a) ∧ ∃ vs n, h.get? a = some (lst vs n) ∧ RepL K G xs vs.toList
  | .io xs => P.env.kindOf x = some .local ∧ m x = some (.ref a) ∧ P.io = some a ∧ ∃ vs n, h.get? a = some (lst vs n) ∧ RepL K G xs vs.toList
  | .cel => P.env.kindOf x = some .cell ∧ P.env.cells.lookup x = some a ∧ h.IsCell a none

structure Sm (K : Cfg) (P : Frm) (oa : Nat → Addr) (ρ : MEnv) (G : PH) (s : Shared) : Prop where
  same : ∃ h tk, s = { P.s₀ with heap := h, toks := tk }
  slots : ∃ m, s.heap.Ns P.env.locals m ∧ ∀ i x sl, P.names[i]? = some x → ρ[i]? = some sl → SlotOk K P G s.heap m (oa i) x sl
  nodup : P.names.Nodup
  inc : ∀ b o, G b = some o → s.heap.get? b = some o
  offL : G P.env.locals = none
  off : ∀ i x sl, P.names[i]? = some x → ρ[i]? = some sl → sl.excl = true → G (oa i) = none ∧ oa i ≠ P.env.locals ∧ K.hT.get? (oa i) = none ∧ ((∃ xs, sl = .io xs) ∨ P.s₀.heap.objs.size ≤ oa i)
  apart : ∀ i j x y sl sl', P.names[i]? = some x → P.names[j]? = some y → ρ[i]? = some sl → ρ[j]? = some sl' → sl.excl = true → sl'.excl = true → oa i = oa j → i = j
  keep : ∀ b o, P.s₀.heap.get? b = some o → P.io ≠ some b → b ≠ K.pT → s.heap.get? b = some o
  old : ∀ b o, b < P.s₀.heap.objs.size → G b = some o → P.G₀ b = some o
  above : P.s₀.heap.objs.size ≤ P.env.locals
  iol : ∀ b, P.io = some b → b < P.s₀.heap.objs.size ∧ K.hT.get? b = none
  top : ∀ b o, K.hT.get? b = some o → s.heap.get? b = some o
  topL : K.hT.objs.size ≤ P.env.locals
  ban : ∀ b o, (b, o) ∈ P.ban → s.heap.get? b = some o ∧ G b = none ∧ b ≠ P.env.locals ∧ K.hT.get? b = none ∧ P.s₀.heap.objs.size ≤ b ∧ ∀ i y sl, P.names[i]? = some y → ρ[i]? = some sl → sl.excl = true → oa i ≠ b
  tab : (∃ o, s.heap.get? K.pT = some o ∧ K.TabOk G o) ∧ G K.pT = none ∧ K.pT ≠ P.env.locals ∧ K.hT.get? K.pT = none ∧ (∀ i y sl, P.names[i]? = some y → ρ[i]? = some sl → sl.excl = true → oa i ≠ K.pT) ∧ (∀ b o, (b, o) ∈ P.ban → b ≠ K.pT) ∧ K.pT < P.s₀.heap.objs.size
  len : ρ.length = P.names.length

noncomputable abbrev WP {α : Type} (K : Cfg) (A : Around) (E : Value → Shared → Prop) (t : Sem α) (Q : α → Shared → Prop) (s : Shared) : Prop := wpAny (model K.prog K.w) A t Q E s

noncomputable def AOk (A : Around) (n : Nat) : Prop := A.handled = none ∧ A.depth + 2 * n + 10 < recursionLimit ∧ A.units + 16 * n + 200 < cLine

/-- everything but the frame's own table -/
noncomputable def allL (hT h : Heap) (L : Addr) : List (Addr × Obj) := (List.range h.objs.size).filterMap fun a => if a = L ∨ (hT.get? a).isSome = true then none else (h.get? a).map fun o => (a, o)
theorem mem_allL {hT h : Heap} {L : Addr} {a : Addr} {o : Obj} : (a, o) ∈ allL hT h L ↔ h.get? a = some o ∧ a ≠ L ∧ hT.get? a = none := by
  unfold allL
  simp only [List.mem_filterMap, List.mem_range]
  constructor
  · rintro ⟨b, _, e⟩
    split at e
    · cases e
    · rename_i hn
      rw [not_or] at hn
      cases hb : h.get? b with
      | none => rw [hb] at e; cases e
      | some o' =>
        rw [hb] at e
        simp only [Option.map_some, Option.some.injEq, Prod.mk.injEq] at e
        obtain ⟨rfl, rfl⟩ := e
        exact ⟨hb, hn.1, by simpa using hn.2⟩
  · rintro ⟨h1, h2, h3⟩
    refine ⟨a, Heap.lt_size h1, ?_⟩
    rw [if_neg (by rw [not_or]; exact ⟨h2, by rw [h3]; simp⟩), h1]; rfl

section
variable {K : Cfg} {P : Frm} {oa : Nat → Addr} {ρ : MEnv} {G : PH} {s : Shared}

theorem Sm.fr (x : Sm K P oa ρ G s) {m : PySem.Str → Option Value} (hm : s.heap.Ns P.env.locals m) : Fr K.hT P.env.locals s.heap m := ⟨hm, x.top, x.topL⟩
theorem Sm.news (_ : Sm K P oa ρ G s) : News K.hT P.env.locals s.heap (allL K.hT s.heap P.env.locals) := fun p hp => by
  obtain ⟨a, o⟩ := p
  exact mem_allL.mp hp

/-- a heap that bears all that stood, but for the frame's table, which reads as it did -/
structure Stp (K : Cfg) (L : Addr) (h h' : Heap) : Prop where
  keep : ∀ b o, b ≠ L → h.get? b = some o → h'.get? b = some o
  ns : ∀ m, h.Ns L m → h'.Ns L m
theorem ns_eq {h : Heap} {L : Addr} {m m' : PySem.Str → Option Value} (a : h.Ns L m) (b : h.Ns L m') : m = m' := by
  obtain ⟨o, es, ep, ho, hd, _, hm⟩ := a
  obtain ⟨o', es', ep', ho', hd', _, hm'⟩ := b
  rw [ho] at ho'; cases ho'
  rw [hd] at hd'; cases hd'
  funext x; rw [← hm, hm']
theorem Stp.refl (L : Addr) (h : Heap) : Stp K L h h := ⟨fun _ _ _ e => e, fun _ e => e⟩
theorem Stp.trans {L : Addr} {h h' h'' : Heap} (x : Stp K L h h') (y : Stp K L h' h'') : Stp K L h h'' := ⟨fun b o n e => y.keep b o n (x.keep b o n e), fun m e => y.ns m (x.ns m e)⟩
theorem Stp.of_keeps {L : Addr} {h h' : Heap} (hk : ∀ b o, h.get? b = some o → h'.get? b = some o) : Stp K L h h' := ⟨fun b o _ e => hk b o e, fun _ e => e.keeps hk⟩
theorem Stp.push (L : Addr) (h : Heap) (o : Obj) : Stp K L h (h.push o) := Stp.of_keeps fun _ _ e => Heap.get?_push_of_some o e
theorem Stp.of_news {L : Addr} {h h' : Heap} {m : PySem.Str → Option Value} (hm : h.Ns L m) (ht : ∀ b o, K.hT.get? b = some o → h.get? b = some o) (F : Fr K.hT L h' m) (N : News K.hT L h' (allL K.hT h L)) : Stp K L h h' := by
  refine ⟨fun b o hb e => ?_, fun m' e => ns_eq hm e ▸ F.ns⟩
  cases hT : K.hT.get? b with
  | none => exact (N (b, o) (mem_allL.mpr ⟨e, hb, hT⟩)).1
  | some o' =>
    have := ht b o' hT
    rw [e] at this; cases this
    exact F.keep b o hT

theorem Sm.exclGet (x : Sm K P oa ρ G s) {i : Nat} {y : PySem.Str} {sl : Slot} (hn : P.names[i]? = some y) (hs : ρ[i]? = some sl) (he : sl.excl = true) : ∃ o, s.heap.get? (oa i) = some o := by
  obtain ⟨m, _, h⟩ := x.slots
  have := h i y sl hn hs
  cases sl with
  | own xs => obtain ⟨_, _, vs, n, e, _⟩ := this; exact ⟨_, e⟩
  | io xs => obtain ⟨_, _, _, vs, n, e, _⟩ := this; exact ⟨_, e⟩
  | cel => obtain ⟨_, _, o, e, _⟩ := this; exact ⟨o, e⟩
  | unset => cases he
  | val d => cases he

theorem SlotOk.stp {m : PySem.Str → Option Value} {h h' : Heap} {a : Addr} {x : PySem.Str} {sl : Slot} (y : SlotOk K P G h m a x sl) (hk : sl.excl = true → ∀ o, h.get? a = some o → h'.get? a = some o) : SlotOk K P G h' m a x sl := by
  cases sl with
  | unset => trivial
  | val d => exact y
  | own xs => obtain ⟨k, e, vs, n, g, r⟩ := y; exact ⟨k, e, vs, n, hk rfl _ g, r⟩
  | io xs => obtain ⟨k, e, io, vs, n, g, r⟩ := y; exact ⟨k, e, io, vs, n, hk rfl _ g, r⟩
  | cel => obtain ⟨k, e, o, g, r⟩ := y; exact ⟨k, e, o, hk rfl _ g, r⟩
theorem SlotOk.mono {m : PySem.Str → Option Value} {h : Heap} {a : Addr} {x : PySem.Str} {sl : Slot} {G' : PH} (y : SlotOk K P G h m a x sl) (hG : Sub G G') : SlotOk K P G' h m a x sl := by
  cases sl with
  | unset => trivial
  | val d =>
    rcases y with ⟨k, v, e, r⟩ | ⟨k, c, o, v, e, g, ed, r⟩
    · exact .inl ⟨k, v, e, Rep.mono hG _ _ r⟩
    · exact .inr ⟨k, c, o, v, e, hG _ _ g, ed, Rep.mono hG _ _ r⟩
  | own xs => obtain ⟨k, e, vs, n, g, r⟩ := y; exact ⟨k, e, vs, n, g, RepL.mono hG _ _ r⟩
  | io xs => obtain ⟨k, e, io, vs, n, g, r⟩ := y; exact ⟨k, e, io, vs, n, g, RepL.mono hG _ _ r⟩
  | cel => exact y

theorem Sm.stp (x : Sm K P oa ρ G s) {h' : Heap} {tk : Nat} (y : Stp K P.env.locals s.heap h') : Sm K P oa ρ G { s with heap := h', toks := tk } := by
  obtain ⟨m, hm, hs⟩ := x.slots
  refine ⟨?_, ⟨m, y.ns m hm, fun i n sl hn hsl => (hs i n sl hn hsl).stp fun he o e => y.keep _ _ (x.off i n sl hn hsl he).2.1 e⟩, x.nodup, fun b o e => ?_, x.offL, x.off, x.apart, fun b o e hio => ?_, x.old, x.above, x.iol, fun b o e => ?_, x.topL, fun b o hb => let ⟨b1, b2, b3, b4⟩ := x.ban b o hb; ⟨y.keep b o b3 b1, b2, b3, b4⟩, let ⟨⟨o, t1, t2⟩, t3, t4, t5⟩ := x.tab; ⟨⟨o, y.keep _ _ t4 t1, t2⟩, t3, t4, t5⟩, x.len⟩
  · obtain ⟨h, t, rfl⟩ := x.same; exact ⟨h', tk, rfl⟩
  · exact y.keep b o (fun hb => by rw [hb, x.offL] at e; cases e) (x.inc b o e)
  · exact fun hp => y.keep b o (Nat.ne_of_lt (Nat.lt_of_lt_of_le (Heap.lt_size e) x.above)) (x.keep b o e hio hp)
  · exact y.keep b o (Nat.ne_of_lt (Nat.lt_of_lt_of_le (Heap.lt_size e) x.topL)) (x.top b o e)

theorem Sm.grow (x : Sm K P oa ρ G s) {G' : PH} (hG : Sub G G') (hi : ∀ b o, G' b = some o → s.heap.get? b = some o) (hL : G' P.env.locals = none)
    (ho : ∀ i y sl, P.names[i]? = some y → ρ[i]? = some sl → sl.excl = true → G' (oa i) = none) (hold : ∀ b o, b < P.s₀.heap.objs.size → G' b = some o → P.G₀ b = some o) (hb : ∀ b o, (b, o) ∈ P.ban → G' b = none) (ht : G' K.pT = none) : Sm K P oa ρ G' s := by
  obtain ⟨m, hm, hs⟩ := x.slots
  exact ⟨x.same, ⟨m, hm, fun i n sl hn hsl => (hs i n sl hn hsl).mono hG⟩, x.nodup, hi, hL, fun i n sl hn hsl he => ⟨ho i n sl hn hsl he, (x.off i n sl hn hsl he).2⟩, x.apart, x.keep, hold, x.above, x.iol, x.top, x.topL, fun b o h => let ⟨b1, _, b3⟩ := x.ban b o h; ⟨b1, hb b o h, b3⟩, let ⟨⟨o, t1, t2⟩, _, t4⟩ := x.tab; ⟨⟨o, t1, K.tabMono _ _ _ hG t2⟩, ht, t4⟩, x.len⟩

/-- what stood, and what is new -/
noncomputable def ext (G : PH) (n : Nat) (h : Heap) : PH := fun b => if b < n then G b else h.get? b
theorem sub_ext {G : PH} {n : Nat} {h h' : Heap} (hi : ∀ b o, G b = some o → h.get? b = some o) (hk : ∀ b o, G b = some o → h'.get? b = some o) : Sub G (ext G n h') := fun b o e => by
  unfold ext; split
  · exact e
  · exact hk b o e

theorem Sm.ltL (x : Sm K P oa ρ G s) : P.env.locals < s.heap.objs.size := let ⟨_, hm, _⟩ := x.slots; hm.lt

/-- behind a step: what is new is frozen -/
theorem Sm.ext (x : Sm K P oa ρ G s) {h' : Heap} {tk : Nat} (y : Stp K P.env.locals s.heap h') : Sub G (ext G s.heap.objs.size h') ∧ Sm K P oa ρ (ext G s.heap.objs.size h') { s with heap := h', toks := tk } := by
  have hG : Sub G (Mine.ext G s.heap.objs.size h') := sub_ext x.inc fun b o e => y.keep b o (fun hb => by rw [hb, x.offL] at e; cases e) (x.inc b o e)
  refine ⟨hG, (x.stp y).grow hG (fun b o e => ?_) ?_ (fun i n sl hn hsl he => ?_) (fun b o hb e => ?_) (fun b o hb => ?_) ?_⟩
  · unfold Mine.ext at e
    split at e
    · exact y.keep b o (fun hb => by rw [hb, x.offL] at e; cases e) (x.inc b o e)
    · exact e
  · unfold Mine.ext; rw [if_pos x.ltL]; exact x.offL
  · obtain ⟨o, ho⟩ := x.exclGet hn hsl he
    unfold Mine.ext; rw [if_pos (Heap.lt_size ho)]; exact (x.off i n sl hn hsl he).1
  · have hlt : b < s.heap.objs.size := Nat.lt_trans (Nat.lt_of_lt_of_le hb x.above) x.ltL
    unfold Mine.ext at e; rw [if_pos hlt] at e
    exact x.old b o hb e
  · obtain ⟨b1, b2, _⟩ := x.ban b o hb
    unfold Mine.ext; rw [if_pos (Heap.lt_size b1)]; exact b2
  · obtain ⟨⟨o, t1, _⟩, t3, _⟩ := x.tab
    unfold Mine.ext; rw [if_pos (Heap.lt_size t1)]; exact t3
end

end Mine

set_option autoImplicit false
set_option linter.all false
set_option maxRecDepth 100000
namespace Mine
open PySem PySem.W PySem.Calls PyProof.Rows

noncomputable def biList : List (PySem.Str × Value) := [("len", .builtin "len"), ("max", .builtin "max"), ("min", .builtin "min"), ("abs", .builtin "abs"), ("list", .type "list"), ("range", .type "range"), ("reversed", .type "reversed"), ("enumerate", .type "enumerate"), ("zip", .type "zip")]

structure Wld (K : Cfg) : Prop where
  g : K.hT.Ns mainGlobals K.mg
  b : K.hT.Ns builtinsNs K.mb
  lim : K.hT.NoLimit
  fn : ∀ k, K.mg (nm k) = some (.ref (K.fa k)) ∧ ∃ o fd, K.hT.get? (K.fa k) = some o ∧ o.data = .func fd
  gl : ∀ g, ∃ v, K.mg (gn g) = some v ∧ ∀ G, Rep K G (gl g) v
  bi : ∀ x v, (x, v) ∈ biList → K.mg x = none ∧ K.mb x = some v

/-! what a call may do -/
noncomputable def Ret (K : Cfg) (G : PH) (s : Shared) (d : D) (Q : Value → Shared → Prop) : Prop :=
  ∀ v h' tk, (∀ b o, b ≠ K.pT → s.heap.get? b = some o → h'.get? b = some o) → (∃ o, h'.get? K.pT = some o ∧ K.TabOk (ext G s.heap.objs.size h') o) → Rep K (ext G s.heap.objs.size h') d v → Q v { s with heap := h', toks := tk }
noncomputable abbrev frs (l : List Env) : List Addr := l.filterMap (·.frame)
/-- a call that raises OutOfRange: what its caller is to expect -/
noncomputable def RRet (K : Cfg) (A : Around) (G : PH) (s : Shared) (E : Value → Shared → Prop) : Prop :=
  ∃ l, A.frames = some l ∧ (∀ env ∈ l, env.scope.kind ≠ .module ∧ ∃ L o, env.frame = some L ∧ s.heap.get? L = some o ∧ (∀ vs, o.data ≠ .fields vs) ∧ G L = none) ∧ K.pT ∉ frs l ∧
    ∀ e B h' tk a0, (∀ b o, b ≠ K.pT → b ∉ frs l → s.heap.get? b = some o → B.get? b = some o) → (∃ o, B.get? K.pT = some o ∧ K.TabOk (ext G s.heap.objs.size B) o) → Heap.FlyingW B l e (.ref K.cOut) a0 h' →
      (∀ L ∈ frs l, ∀ o, s.heap.get? L = some o → ∃ sl, h'.get? L = some { o with slots := sl }) → E (.ref e) { s with heap := h', toks := tk }

structure CallIn (K : Cfg) (A : Around) (n : Nat) (G : PH) (s : Shared) : Prop where
  room : AOk A n
  inc : ∀ b o, G b = some o → s.heap.get? b = some o
  top : ∀ b o, K.hT.get? b = some o → s.heap.get? b = some o
  tab : (∃ o, s.heap.get? K.pT = some o ∧ K.TabOk G o) ∧ G K.pT = none ∧ K.hT.get? K.pT = none
  sz : K.hT.objs.size ≤ s.heap.objs.size

structure OrcOk (K : Cfg) (C : Orc) (n : Nat) : Prop where
  fn : ∀ R k ds Q, C.fn R k ds Q → ∀ A E G s vs Qv, CallIn K A n G s → RepL K G ds vs → (R → RRet K A G s E) → (∀ d, Q d → Ret K G s d Qv) → WP K A E (call (.ref (K.fa k)) vs) Qv s
  clo : ∀ t m ds Q, C.clo t m ds Q → ∀ A E G s v vs Qv, CallIn K A n G s → Rep K G (.clo t m) v → RepL K G ds vs → (∀ d, Q d → Ret K G s d Qv) → WP K A E (call v vs) Qv s
  io : ∀ k xs ds Q, C.io k xs ds Q → ∀ A E G s vs a us c Qv, CallIn K A n G s → a ≠ K.pT → G a = none → K.hT.get? a = none → s.heap.get? a = some (lst us c) → RepL K G xs us.toList → RepL K G ds vs →
    (∀ d ys, Q d ys → ∀ v h' tk us' c', (∀ b o, b ≠ a → b ≠ K.pT → s.heap.get? b = some o → h'.get? b = some o) → (∃ o, h'.get? K.pT = some o ∧ K.TabOk (ext G s.heap.objs.size h') o) → h'.get? a = some (lst us' c') → RepL K (ext G s.heap.objs.size h') ys us'.toList → Rep K (ext G s.heap.objs.size h') d v → Qv v { s with heap := h', toks := tk }) →
    WP K A E (call (.ref (K.fa k)) (.ref a :: vs)) Qv s

set_option genInjectivity false in
/-- where a text is run -/
structure Ctx (K : Cfg) where
  P : Frm
  A : Around
  C : Orc
  n : Nat
  kd : PySem.Str → Option NameKind
  io : Bool
structure CtxOk {K : Cfg} (X : Ctx K) : Prop where
  W : Wld K
  hA : AOk X.A X.n
  hC : OrcOk K X.C X.n
  glob : X.C.glob = gl
  kindf : X.P.env.scope.kind = .function
  kd : ∀ x, X.P.env.kindOf x = X.kd x
  globals : X.P.env.globals = mainGlobals
  builtins : X.P.env.builtins = builtinsNs
  cells : ∀ x, X.kd x = some .cell → ∃ c, X.P.env.cells.lookup x = some c
  nd : X.P.names.all plainNm = true
  io : X.io = false → X.P.io = none

/-- what a raise is to give -/
structure RP {K : Cfg} (X : Ctx K) (E : Value → Shared → Prop) : Prop where
  io : X.P.io = none
  call : ∀ B oa ρ G s, Sm K { X.P with ban := B } oa ρ G s → RRet K X.A G s E
  made : ∀ B oa ρ G s e s' args, Sm K { X.P with ban := B } oa ρ G s → Heap.MadeExcOf s.heap s'.heap e (.ref K.cOut) args → (∃ h tk, s' = { s with heap := h, toks := tk }) → E (.ref e) s'

/-- what a walk of an expression is to give -/
noncomputable def Post {K : Cfg} (X : Ctx K) (oa : Nat → Addr) (G : PH) (Q : D → MEnv → Prop) (Qv : Value → Shared → Prop) : Prop := ∀ d ρ', Q d ρ' → ∀ v G' s', Sub G G' → Sm K X.P oa ρ' G' s' → Rep K G' d v → Qv v s'
noncomputable def ES {K : Cfg} (X : Ctx K) (e : ME) : Prop :=
  ∀ R E, (R → RP X E) → ∀ oa ρ G s Q Qv, wpE X.C e R ρ Q → Sm K X.P oa ρ G s → Post X oa G Q Qv → WP K X.A E (eval (toE e X.P.names) X.P.env) Qv s
/-- of a test -/
noncomputable def TS {K : Cfg} (X : Ctx K) (e : ME) : Prop :=
  ∀ R E, (R → RP X E) → ∀ oa ρ G s (Q : Bool → MEnv → Prop) (Qv : Bool → Shared → Prop), wpE X.C e R ρ (fun d ρ => boolP d fun b => Q b ρ) → Sm K X.P oa ρ G s → (∀ b ρ', Q b ρ' → ∀ G' s', Sub G G' → Sm K X.P oa ρ' G' s' → Qv b s') → WP K X.A E (isTrue (toE e X.P.names) X.P.env (eval (toE e X.P.names) X.P.env)) Qv s

section
variable {K : Cfg} {X : Ctx K} {E : Value → Shared → Prop} {R : Prop} {oa : Nat → Addr} {ρ : MEnv} {G : PH} {s : Shared} {Q : D → MEnv → Prop} {Qv : Value → Shared → Prop}

theorem Post.mono {G' : PH} (h : Post X oa G Q Qv) (hs : Sub G G') : Post X oa G' Q Qv := fun d ρ q v G'' s' a b c => h d ρ q v G'' s' (hs.trans a) b c
theorem Sm.tok {P : Frm} (x : Sm K P oa ρ G s) (t : Nat) : Sm K P oa ρ G { s with toks := t } := x.stp (Stp.refl _ _)
theorem Sm.globals {P : Frm} (W : Wld K) (x : Sm K P oa ρ G s) : s.heap.Ns mainGlobals K.mg := W.g.keeps x.top
theorem Sm.builtins {P : Frm} (W : Wld K) (x : Sm K P oa ρ G s) : s.heap.Ns builtinsNs K.mb := W.b.keeps x.top
theorem Sm.name {P : Frm} (x : Sm K P oa ρ G s) {i : Nat} {sl : Slot} (h : ρ[i]? = some sl) : P.names[i]? = some (nmAt P.names i) := by
  have hl : i < P.names.length := x.len ▸ (List.getElem?_eq_some_iff.mp h).1
  unfold nmAt
  rw [List.getD_eq_getElem?_getD, List.getElem?_eq_getElem hl]; rfl
theorem CtxOk.plain (ok : CtxOk X) {i : Nat} {x : PySem.Str} (h : X.P.names[i]? = some x) : (x == ("__debug__" : PySem.Str)) = false ∧ (x == ("__classdict__" : PySem.Str)) = false := by
  have := List.all_eq_true.mp ok.nd x (List.mem_of_getElem? h)
  unfold plainNm isDebug at this
  simpa using this

theorem Post.same (hQ : Post X oa G Q Qv) (x : Sm K X.P oa ρ G s) {d : D} (q : Q d ρ) {v : Value} {h' : Heap} {tk : Nat} (y : Stp K X.P.env.locals s.heap h') (r : Rep K G d v) : Qv v { s with heap := h', toks := tk } :=
  hQ d ρ q v G _ (Sub.refl G) (x.stp y) r
theorem Post.tok (hQ : Post X oa G Q Qv) (x : Sm K X.P oa ρ G s) {d : D} (q : Q d ρ) {v : Value} {tk : Nat} (r : Rep K G d v) : Qv v { s with toks := tk } :=
  hQ d ρ q v G _ (Sub.refl G) (x.tok _) r
theorem Post.newList (hQ : Post X oa G Q Qv) (x : Sm K X.P oa ρ G s) {xs : List D} (q : Q (.list xs) ρ) {a : Addr} {vs : Array Value} {n : Nat} {h' : Heap} {tk : Nat} (y : Stp K X.P.env.locals s.heap h') (ha : s.heap.objs.size ≤ a)
    (g : h'.get? a = some (lst vs n)) (r : RepL K G xs vs.toList) : Qv (.ref a) { s with heap := h', toks := tk } := by
  obtain ⟨hG, x'⟩ := x.ext (tk := tk) y
  refine hQ _ _ q _ _ _ hG x' ⟨a, vs, n, rfl, ?_, RepL.mono hG _ _ r⟩
  unfold ext; rw [if_neg (Nat.not_lt.mpr ha)]; exact g
theorem Post.newTup (hQ : Post X oa G Q Qv) (x : Sm K X.P oa ρ G s) {xs : List D} (q : Q (.tup xs) ρ) {a : Addr} {vs : Array Value} {n : Nat} {h' : Heap} {tk : Nat} (y : Stp K X.P.env.locals s.heap h') (ha : s.heap.objs.size ≤ a)
    (g : h'.get? a = some (tpl vs n)) (r : RepL K G xs vs.toList) : Qv (.ref a) { s with heap := h', toks := tk } := by
  obtain ⟨hG, x'⟩ := x.ext (tk := tk) y
  refine hQ _ _ q _ _ _ hG x' ⟨a, tpl vs n, vs, n, rfl, ?_, ⟨rfl, rfl⟩, RepL.mono hG _ _ r⟩
  unfold ext; rw [if_neg (Nat.not_lt.mpr ha)]; exact g

/-! names -/
noncomputable def okG (kd : PySem.Str → Option NameKind) (x : PySem.Str) : Bool := kd x == some .globalImplicit && !isDebug x
theorem okG_iff {kd : PySem.Str → Option NameKind} {x : PySem.Str} (h : okG kd x = true) : kd x = some .globalImplicit ∧ (x == ("__debug__" : PySem.Str)) = false := by
  unfold okG isDebug at h
  simpa using h
theorem glob_name (ok : CtxOk X) (x : Sm K X.P oa ρ G s) {y : PySem.Str} {pos : Pos} {v : Value} (hg : okG X.kd y = true) (hv : K.mg y = some v) (h : Qv v s) : WP K X.A E (eval (.Name y pos) X.P.env) Qv s :=
  Calls.Name_function_global ok.kindf ((ok.kd y).trans (okG_iff hg).1) (Calls.loadGlobal_global (mg := K.mg) (by rw [ok.globals]; exact x.globals ok.W) hv h) (okG_iff hg).2
theorem bi_name (ok : CtxOk X) (x : Sm K X.P oa ρ G s) {y : PySem.Str} {pos : Pos} {v : Value} (hg : okG X.kd y = true) (hv : (y, v) ∈ biList) (h : Qv v s) : WP K X.A E (eval (.Name y pos) X.P.env) Qv s :=
  Calls.Name_function_global ok.kindf ((ok.kd y).trans (okG_iff hg).1) (Calls.loadGlobal_builtin (mg := K.mg) (mb := K.mb) (by rw [ok.globals]; exact x.globals ok.W) (ok.W.bi y v hv).1 (by rw [ok.builtins]; exact x.builtins ok.W) (ok.W.bi y v hv).2 h) (okG_iff hg).2

/-- a name whose slot is plain -/
theorem load_val (ok : CtxOk X) (x : Sm K X.P oa ρ G s) {i : Nat} {d : D} (hs : ρ[i]? = some (.val d)) (h : ∀ v, Rep K G d v → Qv v s) : WP K X.A E (loadName X.P.env (nmAt X.P.names i)) Qv s := by
  obtain ⟨m, hm, hsl⟩ := x.slots
  rcases hsl i _ _ (x.name hs) hs with ⟨k, v, e, r⟩ | ⟨k | k, c, o, v, e, g, ed, r⟩
  · exact wpAny_loadName_local ok.kindf k hm e (h v r)
  · exact wpAny_loadName_cell ok.kindf k e ⟨o, x.inc _ _ g, ed⟩ (h v r)
  · exact wpAny_loadName_free ok.kindf k e ⟨o, x.inc _ _ g, ed⟩ (h v r) (ok.plain (x.name hs)).2
/-- what a slot that is a list of the frame's own bears -/
theorem Sm.ownAt {P : Frm} (x : Sm K P oa ρ G s) {i : Nat} {Z : Slot → List D → Prop} (h : ownP ρ i Z) : ∃ sl xs, ρ[i]? = some sl ∧ (sl = .own xs ∨ sl = .io xs) ∧ Z sl xs ∧ ∃ vs n, s.heap.get? (oa i) = some (lst vs n) ∧ RepL K G xs vs.toList := by
  unfold ownP at h
  obtain ⟨m, _, hsl⟩ := x.slots
  cases hs : ρ[i]? with
  | none => rw [hs] at h; exact h.elim
  | some sl =>
    have y := hsl i _ _ (x.name hs) hs
    rw [hs] at h
    cases sl with
    | own xs => exact ⟨_, xs, rfl, .inl rfl, h, y.2.2⟩
    | io xs => exact ⟨_, xs, rfl, .inr rfl, h, y.2.2.2⟩
    | _ => exact h.elim
theorem load_own (ok : CtxOk X) (x : Sm K X.P oa ρ G s) {i : Nat} {sl : Slot} {xs : List D} (hs : ρ[i]? = some sl) (hsl : sl = .own xs ∨ sl = .io xs) (h : Qv (.ref (oa i)) s) : WP K X.A E (loadName X.P.env (nmAt X.P.names i)) Qv s := by
  obtain ⟨m, hm, hsl'⟩ := x.slots
  have := hsl' i _ _ (x.name hs) hs
  rcases hsl with rfl | rfl
  · exact wpAny_loadName_local ok.kindf this.1 hm this.2.1 h
  · exact wpAny_loadName_local ok.kindf this.1 hm this.2.1 h
theorem eval_nm (ok : CtxOk X) (x : Sm K X.P oa ρ G s) {i p : Nat} {sl : Slot} (hs : ρ[i]? = some sl) (h : WP K X.A E (loadName X.P.env (nmAt X.P.names i)) Qv s) : WP K X.A E (eval (nmE X.P.names i p) X.P.env) Qv s := wpAny_Name h (ok.plain (x.name hs)).1

/-- a list of the frame's own, frozen -/
theorem Sm.freeze {P : Frm} (x : Sm K P oa ρ G s) {i : Nat} {xs : List D} (hs : ρ[i]? = some (.own xs)) :
    ∃ G', Sub G G' ∧ Sm K P oa (ρ.set i (.val (.list xs))) G' s ∧ Rep K G' (.list xs) (.ref (oa i)) := by
  obtain ⟨m, hm, hsl⟩ := x.slots
  have hn := x.name hs
  obtain ⟨k, e, vs, n, g, r⟩ := hsl i _ _ hn hs
  obtain ⟨o1, o2, o3, o4⟩ := x.off i _ _ hn hs rfl
  have o4 : P.s₀.heap.objs.size ≤ oa i := by
    rcases o4 with ⟨_, e⟩ | h
    · cases e
    · exact h
  let G' : PH := fun b => if b = oa i then some (lst vs n) else G b
  have ne : ∀ {b}, b ≠ oa i → G' b = G b := fun h => if_neg h
  have hG : Sub G G' := fun b o e => (ne fun hb => by rw [hb, o1] at e; cases e).trans e
  have hR : Rep K G' (.list xs) (.ref (oa i)) := ⟨oa i, vs, n, rfl, if_pos rfl, RepL.mono hG _ _ r⟩
  have hlt : i < ρ.length := (List.getElem?_eq_some_iff.mp hs).1
  have back : ∀ {j z sl}, P.names[j]? = some z → (ρ.set i (.val (.list xs)))[j]? = some sl → sl.excl = true → ρ[j]? = some sl ∧ oa j ≠ oa i := fun {j z sl} hz h he => by
    by_cases hj : i = j
    · subst hj; rw [List.getElem?_set_self hlt] at h; cases h; cases he
    · rw [List.getElem?_set_ne hj] at h
      exact ⟨h, fun e => hj (x.apart j i z _ sl _ hz hn h hs he rfl e).symm⟩
  refine ⟨G', hG, ⟨x.same, ⟨m, hm, fun j z sl hz hsl' => ?_⟩, x.nodup, fun b o e' => ?_, (ne (Ne.symm o2)).trans x.offL, fun j z sl hz hsl' he => ?_, fun j j' z z' sl sl' hz hz' hl hl' he he' => x.apart j j' z z' sl sl' hz hz' (back hz hl he).1 (back hz' hl' he').1 he he', x.keep, fun b o hb e' => ?_, x.above, x.iol, x.top, x.topL, fun b o hb => ?_, ?_, by rw [List.length_set]; exact x.len⟩, hR⟩
  · by_cases hj : i = j
    · subst hj
      rw [List.getElem?_set_self hlt] at hsl'
      cases hsl'
      rw [hn] at hz; cases hz
      exact .inl ⟨k, _, e, hR⟩
    · rw [List.getElem?_set_ne hj] at hsl'
      exact (hsl j z sl hz hsl').mono hG
  · by_cases hb : b = oa i
    · subst hb; exact g.trans ((if_pos rfl).symm.trans e')
    · exact x.inc b o ((ne hb).symm.trans e')
  · have := x.off j z sl hz (back hz hsl' he).1 he
    exact ⟨(ne (back hz hsl' he).2).trans this.1, this.2⟩
  · by_cases hbo : b = oa i
    · exact absurd hb (Nat.not_lt.mpr (hbo ▸ o4))
    · exact x.old b o hb ((ne hbo).symm.trans e')
  · obtain ⟨b1, b2, b3, b4, b5, b6⟩ := x.ban b o hb
    exact ⟨b1, (ne (Ne.symm (b6 i _ _ hn hs rfl))).trans b2, b3, b4, b5, fun j z sl hz hsl' he => b6 j z sl hz (back hz hsl' he).1 he⟩
  · obtain ⟨⟨o, t1, t2⟩, t3, t4, t5, t6, t7⟩ := x.tab
    exact ⟨⟨o, t1, K.tabMono _ _ _ hG t2⟩, (ne (Ne.symm (t6 i _ _ hn hs rfl))).trans t3, t4, t5, fun j z sl hz hsl' he => t6 j z sl hz (back hz hsl' he).1 he, t7⟩

theorem es_int {i : Int} {p : Nat} : ES X (.cint i p) := fun _ _ _ _ _ _ _ _ _ he x hQ => wpAny_Constant_int (hQ.tok x he ⟨_, rfl⟩)
theorem es_str {t : List Nat} {p : Nat} : ES X (.cstr t p) := fun _ _ _ _ _ _ _ _ _ he x hQ => Calls.Constant_str (hQ.tok x he ⟨_, rfl⟩)
theorem es_bool {b : Bool} {p : Nat} : ES X (.cbool b p) := fun _ _ _ _ _ G s _ _ he x hQ => wpAny_pure (hQ _ _ he _ G s (Sub.refl G) x rfl)
theorem es_fn (ok : CtxOk X) {k p : Nat} (hg : okG X.kd (nm k) = true) : ES X (.fn k p) := fun _ _ _ _ _ G s _ _ he x hQ => glob_name ok x hg (ok.W.fn k).1 (hQ _ _ he _ G s (Sub.refl G) x rfl)
theorem es_glob (ok : CtxOk X) {k p : Nat} (hg : okG X.kd (gn k) = true) : ES X (.glob k p) := by
  intro R E hR oa ρ G s Q Qv he x hQ
  obtain ⟨v, e, r⟩ := ok.W.gl k
  exact glob_name ok x hg e (hQ _ _ he v G s (Sub.refl G) x (ok.glob ▸ r G))
/-- a name, its list frozen -/
theorem var_ok (ok : CtxOk X) {i p : Nat} (he : varP ρ i Q) (x : Sm K X.P oa ρ G s) (hQ : Post X oa G Q Qv) : WP K X.A E (eval (nmE X.P.names i p) X.P.env) Qv s := by
  unfold varP at he
  cases hs : ρ[i]? with
  | none => rw [hs] at he; exact he.elim
  | some sl =>
    rw [hs] at he
    refine eval_nm ok x hs ?_
    cases sl with
    | val d => exact load_val ok x hs fun v r => hQ _ _ he v G s (Sub.refl G) x r
    | own xs =>
      refine load_own ok x hs (.inl rfl) ?_
      obtain ⟨G', a, b, c⟩ := x.freeze hs
      exact hQ _ _ he _ G' s a b c
    | _ => exact he.elim
theorem es_var (ok : CtxOk X) {i p : Nat} : ES X (.var i p) := fun _ _ _ _ _ _ _ _ _ he x hQ => var_ok ok he x hQ
end
end Mine

set_option autoImplicit false
set_option linter.all false
set_option maxRecDepth 100000
namespace Mine
open PySem PySem.W PySem.Calls PyProof.Rows

section
variable {K : Cfg} {X : Ctx K} {A : Around} {E : Value → Shared → Prop} {R : Prop} {oa : Nat → Addr} {ρ : MEnv} {G : PH} {s : Shared} {Q : D → MEnv → Prop} {Qv : Value → Shared → Prop}

theorem intBits_le {a : Int} (h : small a) : Builtin.Int.intBits a ≤ 257 := by
  unfold Builtin.Int.intBits
  split
  · exact Nat.zero_le _
  · rename_i h0
    have h0 : a.natAbs ≠ 0 := by simpa using h0
    exact Nat.succ_le_of_lt (Nat.lt_succ_of_lt ((Nat.log2_lt h0).mpr h))
theorem mulOk {a b : Int} (ha : small a) (hb : small b) : IntMulOk a b := by
  have h1 := intBits_le ha
  have h2 := intBits_le hb
  unfold IntMulOk
  intro h
  have h := (Bool.and_eq_true_iff.mp h).2
  unfold Builtin.Int.intTooBig at h
  have h := of_decide_eq_true h
  rw [show bitsLine = 134217728 from rfl] at h
  (first | grind | omega)
theorem pyl {a b : Int} (ha : small a) : Builtin.divisionGoesByPylong a b = false := by
  unfold Builtin.divisionGoesByPylong
  by_cases h0 : a = 0
  · subst h0; simp
  · have hn : a.natAbs ≠ 0 := fun h => h0 (Int.natAbs_eq_zero.mp h)
    have := (Nat.log2_lt hn).mpr ha
    have e : (a == 0) = false := beq_eq_false_iff_ne.mpr h0
    simp only [e, Bool.false_eq_true, if_false, Bool.and_eq_false_iff, decide_eq_false_iff_not]
    exact .inr (by (first | grind | omega))

theorem binI_ok {op : Operator} {a b : Int} {t u : Tok} {Z : Int → Prop} (hA : A.handled = none) (he : binI op a b Z) (hQ : ∀ z, Z z → ∀ t tk, Qv (.int z t) { s with toks := tk }) : WP K A E (binaryOp op (.int a t) (.int b u)) Qv s := by
  cases op with
  | Add => exact add_int (hQ _ he _ _)
  | Sub => exact sub_int (hQ _ he _ _)
  | Mult => exact mul_int (hQ _ he.2.2 _ _) (mulOk he.1 he.2.1)
  | FloorDiv => exact floordiv_int_or hA (fun e => absurd e he.1) (fun _ => hQ _ he.2.2 _ _) (fun _ => .inl (pyl he.2.1))
  | Mod => exact mod_int' he.1 (hQ _ he.2 _ _)
  | LShift =>
    have h := he
    refine lshift_int_or hA (fun e => absurd h.1 (Int.not_le.mpr e)) (fun _ => ?_) fun _ => hQ _ h.2.2.2 _ _
    have := intBits_le h.2.2.1
    have := h.2.1
    (first | grind | omega)
  | RShift => exact rshift_int he.1 (hQ _ he.2 _ _)
  | Pow =>
    have h := he
    refine pow_int h.1 ?_ (hQ _ h.2.2.2 _ _)
    have h1 := intBits_le h.2.2.1
    have : ((Builtin.Int.intBits a : Nat) : Int) * b ≤ 257 * 4096 := Int.le_trans (Int.mul_le_mul_of_nonneg_right (b := (257 : Int)) (Int.ofNat_le.mpr h1) h.1) (Int.mul_le_mul_of_nonneg_left h.2.1 (by decide))
    exact Int.le_trans this (by decide)
  | BitAnd => exact and_int (hQ _ he _ _)
  | BitOr => exact or_int (hQ _ he _ _)
  | _ => exact he.elim

theorem le_line {n : Nat} (h : n ≤ 4096) : n ≤ sizeLine := Nat.le_trans h (by rw [sizeLine_eq]; decide)
theorem le_24 {n : Nat} (h : n ≤ 4096) : n ≤ 2 ^ 24 := Nat.le_trans h (by decide)
theorem foldl_app {α : Type} (xs : Array α) : ∀ (n : Nat) (ys : Array α), (List.foldl (fun a b => a ++ b) ys (List.replicate n xs)).toList = ys.toList ++ (List.replicate n xs.toList).flatten
  | 0, ys => (List.append_nil _).symm
  | n + 1, ys => by
    rw [List.replicate_succ, List.foldl_cons, foldl_app xs n, Array.toList_append, List.append_assoc]; rfl
theorem RepL.replicate {xs : List D} {vs : List Value} (h : RepL K G xs vs) : ∀ n, RepL K G (List.replicate n xs).flatten (List.replicate n vs).flatten
  | 0 => rfl
  | n + 1 => RepL.append h (RepL.replicate h n)
theorem RepL.size {xs : List D} {vs : Array Value} (h : RepL K G xs vs.toList) : vs.size = xs.length := by
  rw [← Array.length_toList]; exact h.length

/-- what a sum or a product of lists makes -/
noncomputable def NewL (K : Cfg) (P : Frm) (G : PH) (s : Shared) (xs : List D) (Qv : Value → Shared → Prop) : Prop :=
  ∀ h' vs n, Stp K P.env.locals s.heap h' → h'.get? s.heap.objs.size = some (lst vs n) → RepL K G xs vs.toList → Qv (.ref s.heap.objs.size) { s with heap := h' }
theorem mul_ok {P : Frm} {op : Operator} {xs : List D} {k : Int} {t : Tok} {v : Value} {Z : List D → Prop} (he : mulSeq op xs k Z) (x : Sm K P oa ρ G s) (rx : Rep K G (.list xs) v) (hQ : ∀ z, Z z → NewL K P G s z Qv) : WP K A E (binaryOp op v (.int k t)) Qv s := by
  obtain ⟨rfl, h, q⟩ := he
  obtain ⟨a, vs, n, rfl, g1, r1⟩ := rx
  obtain ⟨m, hm, _⟩ := x.slots
  have l1 := r1.size
  have hne : vs.isEmpty = false := by
    cases hv : vs.isEmpty with
    | false => rfl
    | true => exact absurd (List.eq_nil_of_length_eq_zero (l1.symm.trans (Array.isEmpty_iff_size_eq_zero.mp hv))) h.2.2.2
  refine mul_list (x.fr hm) x.news (x.inc _ _ g1) (by (first | grind | omega)) (by (first | grind | omega)) (by rw [l1]; exact le_24 h.1) fun h' F' N' => ?_
  refine hQ _ q h' _ _ (Stp.of_news hm x.top F' fun p hp => N' p (.tail _ hp)) (N' _ (.head _)).1 ?_
  rw [hne]
  rw [if_neg Bool.false_ne_true, foldl_app]
  exact RepL.replicate r1 _
theorem cat_ok {P : Frm} {op : Operator} {xs ys : List D} {v u : Value} {Z : List D → Prop} (he : addSeq op xs ys Z) (x : Sm K P oa ρ G s) (rx : Rep K G (.list xs) v) (ry : Rep K G (.list ys) u) (hQ : ∀ z, Z z → NewL K P G s z Qv) : WP K A E (binaryOp op v u) Qv s := by
  obtain ⟨rfl, h, q⟩ := he
  obtain ⟨a, vs, n, rfl, g1, r1⟩ := rx
  obtain ⟨b, us, k, rfl, g2, r2⟩ := ry
  obtain ⟨m, hm, _⟩ := x.slots
  refine add_arrays (x.fr hm) x.news ⟨_, x.inc _ _ g1, rfl, _, rfl⟩ ⟨_, x.inc _ _ g2, rfl, _, rfl⟩ (fun h' F' N' => ?_) ?_
  · refine hQ _ q h' _ _ (Stp.of_news hm x.top F' fun p hp => N' p (.tail _ hp)) (N' _ (.head _)).1 ?_
    exact RepL.append r1 r2
  · first | exact le_line (by simpa [r1.size, r2.size] using h) | exact le_24 (by simpa [r1.size, r2.size] using h)
theorem Post.newL (hQ : Post X oa G Q Qv) (x : Sm K X.P oa ρ G s) {xs : List D} (q : Q (.list xs) ρ) : NewL K X.P G s xs Qv := fun _ _ _ y g r => hQ.newList x q (tk := s.toks) y (Nat.le_refl _) g r

theorem str_add (a b : List Nat) : (⟨a.toArray⟩ : PySem.Str) ++ ⟨b.toArray⟩ = ⟨(a ++ b).toArray⟩ := by
  apply Str.ext'
  rw [Str.cps_append]; simp
theorem binP_ok {op : Operator} {x y : D} {v u : Value} (hA : X.A.handled = none) (he : binP op x y fun z => Q z ρ) (S : Sm K X.P oa ρ G s) (rx : Rep K G x v) (ry : Rep K G y u) (hQ : Post X oa G Q Qv) : WP K X.A E (binaryOp op v u) Qv s := by
  cases x with
  | int a =>
    obtain ⟨t, rfl⟩ := rx
    cases y with
    | int b =>
      obtain ⟨t', rfl⟩ := ry
      exact binI_ok hA he fun z q t tk => hQ.tok S q ⟨_, rfl⟩
    | _ => exact he.elim
  | str a =>
    obtain ⟨t, rfl⟩ := rx
    cases y with
    | str b =>
      obtain ⟨t', rfl⟩ := ry
      obtain ⟨rfl, h, q⟩ := he
      refine add_str (fun t' tk => hQ.tok S q ⟨t', by rw [str_add]⟩) ?_
      exact le_line (show a.toArray.size + b.toArray.size ≤ 4096 from h)
    | _ => exact he.elim
  | list a =>
    cases y with
    | list b => exact cat_ok (Z := fun z => Q (.list z) ρ) he S rx ry fun z q => hQ.newL S q
    | int n =>
      obtain ⟨t', rfl⟩ := ry
      exact mul_ok (Z := fun z => Q (.list z) ρ) he S rx fun z q => hQ.newL S q
    | _ => exact he.elim
  | _ => exact he.elim

theorem es_bin (ok : CtxOk X) {op : Operator} {a b : ME} {p : Nat} (ha : ES X a) (hb : ES X b) : ES X (.bin op a b p) := fun R E hR oa _ _ _ _ _ he x hQ =>
  wpAny_BinOp (ha R E hR oa _ _ _ _ _ he x fun _ _ h1 _ _ _ s1 x1 r1 => hb R E hR oa _ _ _ _ _ h1 x1 fun _ _ h2 _ _ _ s2 x2 r2 => binP_ok ok.hA.1 h2 x2 (Rep.mono s2 _ _ r1) r2 (hQ.mono (s1.trans s2)))
theorem intP_inv {x : D} {Z : Int → Prop} {v : Value} (h : intP x Z) (r : Rep K G x v) : ∃ i t, v = .int i t ∧ x = .int i ∧ Z i := by
  cases x with
  | int i => obtain ⟨t, rfl⟩ := r; exact ⟨i, t, rfl, rfl, h⟩
  | _ => exact h.elim
theorem boolP_inv {x : D} {Z : Bool → Prop} {v : Value} (h : boolP x Z) (r : Rep K G x v) : ∃ b, v = .bool b ∧ Z b := by
  cases x with
  | bool b => exact ⟨b, r, h⟩
  | _ => exact h.elim
theorem strP_inv {x : D} {Z : List Nat → Prop} {v : Value} (h : strP x Z) (r : Rep K G x v) : ∃ c t, v = .str ⟨c.toArray⟩ t ∧ x = .str c ∧ Z c := by
  cases x with
  | str c => obtain ⟨t, rfl⟩ := r; exact ⟨c, t, rfl, rfl, h⟩
  | _ => exact h.elim
theorem listP_inv {x : D} {Z : List D → Prop} {v : Value} (h : listP x Z) (r : Rep K G x v) : ∃ xs a vs n, v = .ref a ∧ G a = some (lst vs n) ∧ RepL K G xs vs.toList ∧ Z xs := by
  cases x with
  | list xs => obtain ⟨a, vs, n, e, g, r⟩ := r; exact ⟨xs, a, vs, n, e, g, r, h⟩
  | _ => exact h.elim
theorem tupP_inv {x : D} {Z : List D → Prop} {v : Value} (h : tupP x Z) (r : Rep K G x v) : ∃ xs a o vs n, v = .ref a ∧ G a = some o ∧ o.cls = .type "tuple" ∧ o.data = .seq vs n ∧ RepL K G xs vs.toList ∧ Z xs := by
  cases x with
  | tup xs => obtain ⟨a, o, vs, n, e, g, c, r⟩ := r; exact ⟨xs, a, o, vs, n, e, g, c.1, c.2, r, h⟩
  | _ => exact h.elim
theorem es_neg {a : ME} {p : Nat} (ha : ES X a) : ES X (.neg a p) := fun R E hR oa _ _ _ _ _ he x hQ =>
  UnaryOp_ (ha R E hR oa _ _ _ _ _ he x fun d ρ1 h1 v G1 _ s1 x1 r1 => by
    obtain ⟨i, t, rfl, _, q⟩ := intP_inv h1 r1
    exact neg_int ((hQ.mono s1).tok x1 q ⟨_, rfl⟩))
theorem es_not {a : ME} {p : Nat} (ha : ES X a) : ES X (.not a p) := fun R E hR oa _ _ _ _ _ he x hQ =>
  UnaryOp_ (ha R E hR oa _ _ _ _ _ he x fun d ρ1 h1 v G1 s' s1 x1 r1 => by
    obtain ⟨b, rfl, q⟩ := boolP_inv h1 r1
    exact not_of (wpAny_truthy_bool (hQ _ _ q _ G1 s' s1 x1 rfl)))

/-! == -/
mutual
theorem reads_of {h : Heap} (hi : ∀ b o, G b = some o → h.get? b = some o) : ∀ (d : D) (a : PyData) (v : Value), toPy d = some a → Rep K G d v → (∃ as, Reads h v a as) ∧ a.canLay0 = true
  | .bool b, _, _, e, r => by cases e; cases r; exact ⟨⟨_, .bool b⟩, rfl⟩
  | .int i, _, _, e, r => by cases e; obtain ⟨t, rfl⟩ := r; exact ⟨⟨_, .int i t⟩, rfl⟩
  | .list xs, _, _, e, r => by
    obtain ⟨ys, e1, rfl⟩ := Option.map_eq_some_iff.mp e
    obtain ⟨b, vs, n, rfl, g, r⟩ := r
    obtain ⟨⟨as, x⟩, y⟩ := readsAll_of hi xs ys _ e1 r
    exact ⟨⟨_, .list (hi _ _ g) rfl rfl x⟩, by unfold PyData.canLay0; exact y⟩
  | .tup xs, _, _, e, r => by
    obtain ⟨ys, e1, rfl⟩ := Option.map_eq_some_iff.mp e
    obtain ⟨b, o, vs, n, rfl, g, c, r⟩ := r
    obtain ⟨⟨as, x⟩, y⟩ := readsAll_of hi xs ys _ e1 r
    exact ⟨⟨_, .tuple (hi _ _ g) c.1 c.2 x⟩, by unfold PyData.canLay0; exact y⟩
  | .none, _, _, e, _ => nomatch e
  | .str _, _, _, e, _ => nomatch e
  | .fn _, _, _, e, _ => nomatch e
  | .thr _ _ _ _, _, _, e, _ => nomatch e
  | .clo _ _, _, _, e, _ => nomatch e
theorem readsAll_of {h : Heap} (hi : ∀ b o, G b = some o → h.get? b = some o) : ∀ (xs : List D) (ys : List PyData) (vs : List Value), toPys xs = some ys → RepL K G xs vs → (∃ as, ReadsAll h vs ys as) ∧ PyData.canLayAll0 ys = true
  | [], _, _, e, r => by cases e; cases r; exact ⟨⟨_, .nil⟩, rfl⟩
  | x :: xs, _, _, e, r => by
    obtain ⟨a, ea, e⟩ := Option.bind_eq_some_iff.mp e
    obtain ⟨b, eb, rfl⟩ := Option.map_eq_some_iff.mp e
    obtain ⟨v, us, rfl, r1, r2⟩ := r
    obtain ⟨⟨as, p⟩, q⟩ := reads_of hi x a v ea r1
    obtain ⟨⟨bs, p'⟩, q'⟩ := readsAll_of hi xs b us eb r2
    exact ⟨⟨_, .cons p p'⟩, by unfold PyData.canLayAll0; rw [q, q']; rfl⟩
end
theorem str_beq_list (a b : List Nat) : ((⟨a.toArray⟩ : PySem.Str) == ⟨b.toArray⟩) = (a == b) := by
  rw [Bool.eq_iff_iff]
  simp [Str.mk.injEq]
/-- the two comparisons that ask whether two values are equal -/
noncomputable def eqOp (n : Bool) : CmpOp := match n with | true => .NotEq | false => .Eq
theorem eqPy_ok {x y : D} {v u : Value} {n : Bool} {k : Nat} {Z : Bool → Prop} (hA : AOk A k) (he : eqPy x y Z) (hi : ∀ b o, G b = some o → s.heap.get? b = some o) (rx : Rep K G x v) (ry : Rep K G y u) (hQ : ∀ b, Z b → Qv (.bool (n.xor b)) s) : WP K A E (compareOp (eqOp n) v u) Qv s := by
  obtain ⟨a, c, ea, ec, hd, q⟩ := he
  obtain ⟨⟨as, p⟩, q1⟩ := reads_of hi _ _ _ ea rx
  obtain ⟨⟨bs, p'⟩, q2⟩ := reads_of hi _ _ _ ec ry
  have hu : A.units + min a.depth c.depth < cLine := by have := hA.2.2; (first | grind | omega)
  cases n with
  | false => exact SeqAt.compareEq_reads p p' q1 q2 hu (by have := hQ _ q; rwa [Bool.false_xor] at this)
  | true => exact SeqAt.compareNe_reads p p' q1 q2 hu (by have := hQ _ q; rwa [Bool.true_xor] at this)
theorem eqP_ok {x y : D} {v u : Value} {n : Bool} {k : Nat} {Z : Bool → Prop} (hA : AOk A k) (he : eqP x y Z) (hi : ∀ b o, G b = some o → s.heap.get? b = some o) (rx : Rep K G x v) (ry : Rep K G y u) (hQ : ∀ b, Z b → Qv (.bool (n.xor b)) s) : WP K A E (compareOp (eqOp n) v u) Qv s := by
  cases x with
  | int a =>
    cases y with
    | int b =>
      obtain ⟨t, rfl⟩ := rx; obtain ⟨t', rfl⟩ := ry
      cases n with
      | false => exact eq_int (by have := hQ _ he; rwa [Bool.false_xor] at this)
      | true => exact ne_int (by rw [show (a != b) = (true.xor (decide (a = b))) from (Bool.true_xor _).symm ▸ rfl]; exact hQ _ he)
    | _ => exact he.elim
  | str a =>
    cases y with
    | str b =>
      obtain ⟨t, rfl⟩ := rx; obtain ⟨t', rfl⟩ := ry
      cases n with
      | false => exact eq_str (by rw [str_beq_list]; have := hQ _ he; rwa [Bool.false_xor] at this)
      | true => exact ne_str (by unfold bne; rw [str_beq_list]; have := hQ _ he; rwa [Bool.true_xor] at this)
    | _ => exact he.elim
  | _ => exact eqPy_ok hA he hi rx ry hQ
theorem cmpP_ok {op : CO} {x y : D} {v u : Value} {k : Nat} {Z : Bool → Prop} (hA : AOk A k) (he : cmpP op x y Z) (hi : ∀ b o, G b = some o → s.heap.get? b = some o) (rx : Rep K G x v) (ry : Rep K G y u) (hQ : ∀ b, Z b → Qv (.bool b) s) : WP K A E (compareOp (coOp op) v u) Qv s := by
  have two : ∀ {Z : Int → Int → Prop}, (intP x fun a => intP y fun b => Z a b) → ∃ a t b t', v = .int a t ∧ u = .int b t' ∧ Z a b := fun {Z} h => by
    obtain ⟨a, t, e, _, h⟩ := intP_inv h rx
    obtain ⟨b, t', e', _, h⟩ := intP_inv h ry
    exact ⟨a, t, b, t', e, e', h⟩
  cases op with
  | eq => exact eqP_ok (n := false) hA he hi rx ry fun b q => by rw [Bool.false_xor]; exact hQ b q
  | ne => exact eqP_ok (n := true) (Z := fun b => Z (!b)) hA he hi rx ry fun b q => by rw [Bool.true_xor]; exact hQ _ q
  | lt => obtain ⟨a, t, b, t', rfl, rfl, h⟩ := two he; exact lt_int (hQ _ h)
  | le => obtain ⟨a, t, b, t', rfl, rfl, h⟩ := two he; exact le_int (hQ _ h)
  | gt => obtain ⟨a, t, b, t', rfl, rfl, h⟩ := two he; exact gt_int (hQ _ h)
  | ge =>
    cases x with
    | int a =>
      obtain ⟨t, rfl⟩ := rx
      obtain ⟨b, t', rfl, _, h⟩ := intP_inv he ry
      exact ge_int (hQ _ h)
    | str a =>
      cases y with
      | str b =>
        obtain ⟨t, rfl⟩ := rx; obtain ⟨t', rfl⟩ := ry
        exact _root_.PySem.P.ge_str (by simpa using hQ _ he)
      | _ => exact he.elim
    | _ => exact he.elim
end
end Mine

set_option autoImplicit false
set_option linter.all false
set_option maxRecDepth 100000
namespace Mine
open PySem PySem.W PySem.Calls PyProof.Rows

noncomputable def AllE (Z : ME → Prop) : List ME → Prop
  | [] => True
  | e :: r => Z e ∧ AllE Z r

section
variable {K : Cfg} {X : Ctx K} {A : Around} {E : Value → Shared → Prop} {R : Prop} {oa : Nat → Addr} {ρ : MEnv} {G : PH} {s : Shared} {Q : D → MEnv → Prop} {Qv : Value → Shared → Prop}

theorem ts_plain {e : ME} (h : ES X e) (hp : isTrue (toE e X.P.names) X.P.env (eval (toE e X.P.names) X.P.env) = (do let v ← eval (toE e X.P.names) X.P.env; standAt (toE e X.P.names).pos; holding [v] (truthy v))) : TS X e := fun R E hR oa _ _ _ _ _ he x hQ =>
  isTrue_plain (h R E hR oa _ _ _ _ _ he x fun _ _ q _ G1 s1 hG1 x1 r1 => by
    obtain ⟨b, rfl, q⟩ := boolP_inv q r1
    exact wpAny_truthy_bool (hQ b _ q G1 s1 hG1 x1)) hp
theorem ts_not {a : ME} {p : Nat} (ha : TS X a) : TS X (.not a p) := by
  intro R E hR oa ρ G s Q Qv he x hQ
  refine isTrue_not (ha R E hR oa ρ G s (fun b ρ => Q (!b) ρ) _ ?_ x fun b ρ' q G' s' a c => hQ _ ρ' q G' s' a c)
  exact he

theorem coOp_ne (c : CO) (e : Expr) : behindInMarks (coOp c) e = false := by
  have h : (coOp c == CmpOp.In || coOp c == CmpOp.NotIn) = false := by cases c <;> rfl
  unfold behindInMarks
  split
  · rw [h, Bool.and_false, Bool.false_and]
  · rfl
theorem mark1 (c : CO) (e : Expr) (t : Sem Value) : markedEach [coOp c] [e] [t] = [t] := by
  unfold markedEach
  rw [markedBehindIn_of_false (coOp_ne c e)]
theorem mark2 (c c' : CO) (e e' : Expr) (t t' : Sem Value) : markedEach [coOp c, coOp c'] [e, e'] [t, t'] = [t, t'] := by
  unfold markedEach
  rw [mark1]
theorem es_cmp (ok : CtxOk X) {a b : ME} {op : CO} {p : Nat} (ha : ES X a) (hb : ES X b) : ES X (.cmp a op b p) := by
  intro R E hR oa ρ G s Q Qv he x hQ
  show WP K X.A E (eval (.Compare (toE a X.P.names) [coOp op] [toE b X.P.names] (dp p)) X.P.env) Qv s
  rw [arm_eval_Compare]
  refine wpAny_bind (ha R E hR oa _ _ _ _ _ he x fun _ _ h1 v G1 s1 hG1 x1 r1 => ?_)
  rw [show evalEach [toE b X.P.names] X.P.env = [eval (toE b X.P.names) X.P.env] from rfl, mark1]
  exact chain_last (hb R E hR oa _ _ _ _ _ h1 x1 fun _ _ h2 u G2 s2 hG2 x2 r2 => cmpP_ok ok.hA h2 x2.inc (Rep.mono hG2 _ _ r1) r2 fun b q => hQ _ _ q _ _ _ (hG1.trans hG2) x2 rfl)
theorem ts_cmp (ok : CtxOk X) {a b : ME} {op : CO} {p : Nat} (ha : ES X a) (hb : ES X b) : TS X (.cmp a op b p) := by
  intro R E hR oa ρ G s Q Qv he x hQ
  show WP K X.A E (isTrue (.Compare (toE a X.P.names) [coOp op] [toE b X.P.names] (dp p)) X.P.env (eval (.Compare (toE a X.P.names) [coOp op] [toE b X.P.names] (dp p)) X.P.env)) Qv s
  rw [arm_isTrue_Compare]
  refine wpAny_bind (ha R E hR oa _ _ _ _ _ he x fun _ _ h1 v G1 s1 hG1 x1 r1 => ?_)
  rw [show evalEach [toE b X.P.names] X.P.env = [eval (toE b X.P.names) X.P.env] from rfl, mark1]
  exact test_last (hb R E hR oa _ _ _ _ _ h1 x1 fun _ _ h2 u G2 s2 hG2 x2 r2 => cmpP_ok ok.hA h2 x2.inc (Rep.mono hG2 _ _ r1) r2 fun b q => wpAny_truthy_bool (hQ b _ q _ _ (hG1.trans hG2) x2))
theorem es_cmp2 (ok : CtxOk X) {a b c : ME} {op op' : CO} {p : Nat} (ha : ES X a) (hb : ES X b) (hc : ES X c) : ES X (.cmp2 a op b op' c p) := by
  intro R E hR oa ρ G s Q Qv he x hQ
  show WP K X.A E (eval (.Compare (toE a X.P.names) [coOp op, coOp op'] [toE b X.P.names, toE c X.P.names] (dp p)) X.P.env) Qv s
  rw [arm_eval_Compare]
  refine wpAny_bind (ha R E hR oa _ _ _ _ _ he x fun _ _ h1 v G1 s1 hG1 x1 r1 => ?_)
  rw [show evalEach [toE b X.P.names, toE c X.P.names] X.P.env = [eval (toE b X.P.names) X.P.env, eval (toE c X.P.names) X.P.env] from rfl, mark2]
  refine chain_link (hb R E hR oa _ _ _ _ _ h1 x1 fun _ _ h2 u G2 s2 hG2 x2 r2 => cmpP_ok ok.hA h2 x2.inc (Rep.mono hG2 _ _ r1) r2 fun t q => wpAny_truthy_bool ?_)
  cases t with
  | true => exact chain_last (hc R E hR oa _ _ _ _ _ (q.1 rfl) x2 fun _ _ h3 w G3 s3 hG3 x3 r3 => cmpP_ok ok.hA h3 x3.inc (Rep.mono hG3 _ _ r2) r3 fun b q => hQ _ _ q _ _ _ ((hG1.trans hG2).trans hG3) x3 rfl)
  | false => exact hQ _ _ (q.2 rfl) _ _ _ (hG1.trans hG2) x2 rfl
theorem ts_cmp2 (ok : CtxOk X) {a b c : ME} {op op' : CO} {p : Nat} (ha : ES X a) (hb : ES X b) (hc : ES X c) : TS X (.cmp2 a op b op' c p) := by
  intro R E hR oa ρ G s Q Qv he x hQ
  show WP K X.A E (isTrue (.Compare (toE a X.P.names) [coOp op, coOp op'] [toE b X.P.names, toE c X.P.names] (dp p)) X.P.env (eval (.Compare (toE a X.P.names) [coOp op, coOp op'] [toE b X.P.names, toE c X.P.names] (dp p)) X.P.env)) Qv s
  rw [arm_isTrue_Compare]
  refine wpAny_bind (ha R E hR oa _ _ _ _ _ he x fun _ _ h1 v G1 s1 hG1 x1 r1 => ?_)
  rw [show evalEach [toE b X.P.names, toE c X.P.names] X.P.env = [eval (toE b X.P.names) X.P.env, eval (toE c X.P.names) X.P.env] from rfl, mark2]
  refine test_link (hb R E hR oa _ _ _ _ _ h1 x1 fun _ _ h2 u G2 s2 hG2 x2 r2 => cmpP_ok ok.hA h2 x2.inc (Rep.mono hG2 _ _ r1) r2 fun t q => wpAny_truthy_bool ?_)
  cases t with
  | true => exact test_last (hc R E hR oa _ _ _ _ _ (q.1 rfl) x2 fun _ _ h3 w G3 s3 hG3 x3 r3 => cmpP_ok ok.hA h3 x3.inc (Rep.mono hG3 _ _ r2) r3 fun b q => wpAny_truthy_bool (hQ b _ q _ _ ((hG1.trans hG2).trans hG3) x3))
  | false => exact hQ _ _ (q.2 rfl) _ _ (hG1.trans hG2) x2

theorem es_ite {t a b : ME} {p : Nat} (ht : TS X t) (ha : ES X a) (hb : ES X b) : ES X (.ite t a b p) := by
  intro R E hR oa ρ G s Q Qv he x hQ
  refine wpAny_IfExp (ht R E hR oa ρ G s (fun c ρ => brP c (wpE X.C a R ρ Q) (wpE X.C b R ρ Q)) _ he x fun c ρ' q G1 s1 hG1 x1 => ?_)
  cases c with
  | true => exact ha R E hR oa _ _ _ _ _ (q.1 rfl) x1 (hQ.mono hG1)
  | false => exact hb R E hR oa _ _ _ _ _ (q.2 rfl) x1 (hQ.mono hG1)

/-! and -/
theorem bool_ok (hR : R → RP X E) {pos : Pos} : ∀ (es : List ME) (a : ME), ES X a → AllE (ES X) es → ∀ ρ G s Q, wpE X.C a R ρ (fun y ρ => wpAnd X.C es R y ρ Q) → Sm K X.P oa ρ G s → Post X oa G Q Qv → WP K X.A E (boolOp pos .And (evalEach (toE a X.P.names :: toEs es X.P.names) X.P.env)) Qv s
  | [], a, ha, _, ρ, G, s, Q, he, x, hQ => ha R E hR oa _ _ _ _ _ he x hQ
  | e :: es, a, ha, hes, ρ, G, s, Q, he, x, hQ => by
    show WP K X.A E (boolOp pos .And (eval (toE a X.P.names) X.P.env :: eval (toE e X.P.names) X.P.env :: evalEach (toEs es X.P.names) X.P.env)) Qv s
    unfold boolOp
    refine wpAny_bind (ha R E hR oa _ _ _ _ _ he x fun y ρ1 h1 v G1 s1 hG1 x1 r1 => wpAny_bind (wpAny_standAt (wpAny_bind (wpAny_holding ?_))))
    obtain ⟨b, rfl, q⟩ := boolP_inv h1 r1
    refine wpAny_truthy_bool ?_
    cases b with
    | true => exact bool_ok hR es e hes.1 hes.2 _ _ _ _ (q.1 rfl) x1 (hQ.mono hG1)
    | false => exact wpAny_pure (hQ _ _ (q.2 rfl) _ _ _ hG1 x1 rfl)
theorem es_and {a : ME} {es : List ME} {p : Nat} (ha : ES X a) (hes : AllE (ES X) es) : ES X (.and a es p) := by
  intro R E hR oa ρ G s Q Qv he x hQ
  show WP K X.A E (eval (.BoolOp .And (toE a X.P.names :: toEs es X.P.names) (dp p)) X.P.env) Qv s
  rw [arm_eval_BoolOp]
  exact bool_ok hR es a ha hes _ _ _ _ he x hQ
theorem all_ok (hR : R → RP X E) : ∀ (es : List ME) (a : ME), TS X a → AllE (TS X) es → ∀ ρ G s (Q : Bool → MEnv → Prop) (Qv : Bool → Shared → Prop), wpE X.C a R ρ (fun y ρ => wpAnd X.C es R y ρ fun d ρ => boolP d fun b => Q b ρ) → Sm K X.P oa ρ G s → (∀ b ρ', Q b ρ' → ∀ G' s', Sub G G' → Sm K X.P oa ρ' G' s' → Qv b s') →
    WP K X.A E (allTrue .And (toE a X.P.names :: toEs es X.P.names) X.P.env) Qv s
  | [], a, ha, _, ρ, G, s, Q, Qv, he, x, hQ => by
    rw [arm_allTrue_cons]
    refine wpAny_bind (ha R E hR oa ρ G s Q _ he x fun b ρ1 q G1 s1 hG1 x1 => ?_)
    cases b with
    | true => show WP K X.A E (allTrue .And [] X.P.env) _ s1; rw [arm_allTrue_nil]; exact wpAny_pure (hQ _ _ q _ _ hG1 x1)
    | false => exact wpAny_pure (hQ _ _ q _ _ hG1 x1)
  | e :: es, a, ha, hes, ρ, G, s, Q, Qv, he, x, hQ => by
    rw [arm_allTrue_cons]
    refine wpAny_bind (ha R E hR oa ρ G s (fun b ρ => brP b (wpE X.C e R ρ fun y ρ => wpAnd X.C es R y ρ fun d ρ => boolP d fun b => Q b ρ) (Q false ρ)) _ he x fun b ρ1 q G1 s1 hG1 x1 => ?_)
    cases b with
    | true => exact all_ok hR es e hes.1 hes.2 _ _ _ _ _ (q.1 rfl) x1 fun b ρ' q G' s' a c => hQ b ρ' q G' s' (hG1.trans a) c
    | false => exact wpAny_pure (hQ _ _ (q.2 rfl) _ _ hG1 x1)
theorem ts_and {a : ME} {es : List ME} {p : Nat} (ha : TS X a) (hes : AllE (TS X) es) : TS X (.and a es p) := by
  intro R E hR oa ρ G s Q Qv he x hQ
  show WP K X.A E (isTrue (.BoolOp .And (toE a X.P.names :: toEs es X.P.names) (dp p)) X.P.env (eval (.BoolOp .And (toE a X.P.names :: toEs es X.P.names) (dp p)) X.P.env)) Qv s
  rw [arm_isTrue_BoolOp]
  exact all_ok hR es a ha hes _ _ _ _ _ he x hQ

/-! arguments -/
noncomputable def notStar : Expr → Bool
  | .Starred _ _ => false
  | _ => true
theorem toE_star (e : ME) (N : List PySem.Str) : notStar (toE e N) = true := by cases e <;> rfl
theorem toEs_star : ∀ (es : List ME) (N : List PySem.Str), ∀ e ∈ toEs es N, notStar e = true
  | [], _, _, h => nomatch h
  | a :: es, N, e, h => by
    rcases List.mem_cons.mp h with rfl | h
    · exact toE_star a N
    · exact toEs_star es N e h
theorem toEs_len : ∀ (es : List ME) (N : List PySem.Str), (toEs es N).length = es.length
  | [], _ => rfl
  | _ :: es, N => congrArg Nat.succ (toEs_len es N)
theorem starEach_cons {e : Expr} {rest : List Expr} {env : Env} (h : notStar e = true) : starEach (e :: rest) env = (false, eval e env) :: starEach rest env := by
  cases e <;> first | rfl | (cases h)
theorem args_ok (hR : R → RP X E) {pos : Pos} : ∀ (es : List ME), AllE (ES X) es → ∀ ρ G s (Q : List D → MEnv → Prop) (Qv : List Value → Shared → Prop), wpEs X.C es R ρ Q → Sm K X.P oa ρ G s →
    (∀ ds ρ', Q ds ρ' → ∀ vs G' s', Sub G G' → Sm K X.P oa ρ' G' s' → RepL K G' ds vs → ds.length = es.length → Qv vs s') → WP K X.A E (spliced (backTo pos (starEach (toEs es X.P.names) X.P.env))) Qv s
  | [], _, _, G, s, _, _, he, x, hQ => Calls.spliced_nil (hQ _ _ he [] G s (Sub.refl G) x rfl rfl)
  | e :: es, h, _, _, _, _, _, he, x, hQ => by
    show WP K X.A E (spliced (backTo pos (starEach (toE e X.P.names :: toEs es X.P.names) X.P.env))) _ _
    rw [starEach_cons (toE_star e _)]
    exact Calls.spliced_cons (h.1 R E hR oa _ _ _ _ _ he x fun d ρ1 h1 v G1 s1 hG1 x1 r1 => args_ok hR es h.2 _ _ _ _ _ h1 x1 fun ds ρ2 h2 vs G2 s2 hG2 x2 r2 hl =>
      hQ _ _ h2 _ G2 s2 (hG1.trans hG2) x2 ⟨v, vs, rfl, Rep.mono hG2 _ _ r1, r2⟩ (congrArg Nat.succ hl))
theorem es_list {es : List ME} {p : Nat} (h : AllE (ES X) es) (hl : es.length ≤ 64) : ES X (.list es p) := fun R E hR oa _ _ _ _ _ he x hQ =>
  List_ (args_ok hR es h _ _ _ _ _ he x fun ds ρ1 q vs G1 s1 hG1 x1 r1 hlen => wpAny_newList ((hQ.mono hG1).newList x1 q (Stp.push _ _ _) (Nat.le_refl _) (Heap.get?_push_size _ rfl) r1) (by rw [r1.length, hlen]; exact le_line (Nat.le_trans hl (by decide))))
theorem es_tup {es : List ME} {p : Nat} (h : AllE (ES X) es) (hl : es.length ≤ 64) : ES X (.tup es p) := fun R E hR oa _ _ _ _ _ he x hQ =>
  Tuple_ (args_ok hR es h _ _ _ _ _ he x fun ds ρ1 q vs G1 s1 hG1 x1 r1 hlen => wpAny_newTuple ((hQ.mono hG1).newTup x1 q (Stp.push _ _ _) (Nat.le_refl _) (Heap.get?_push_size _ rfl) r1) (by rw [r1.length, hlen]; exact le_line (Nat.le_trans hl (by decide))))

/-! what stands before a bracket -/
noncomputable def PkOk (K : Cfg) (oa : Nat → Addr) (G : PH) (p : Pk) (v : Value) : Prop := match p with
  | .d x => Rep K G x v
  | .own i => v = .ref (oa i)
theorem PkOk.mono {G' : PH} {p : Pk} {v : Value} (h : PkOk K oa G p v) (hG : Sub G G') : PkOk K oa G' p v := by
  cases p with
  | d x => exact Rep.mono hG _ _ h
  | own i => exact h
/-- a list as it stands in the heap, or another value -/
noncomputable def HRep (K : Cfg) (G : PH) (h : Heap) (x : D) (v : Value) : Prop := match x with
  | .list xs => ∃ a vs n, v = .ref a ∧ h.get? a = some (lst vs n) ∧ RepL K G xs vs.toList
  | x => Rep K G x v
theorem HRep.of {h : Heap} {x : D} {v : Value} (hi : ∀ b o, G b = some o → h.get? b = some o) (r : Rep K G x v) : HRep K G h x v := by
  cases x with
  | list xs =>
    obtain ⟨a, vs, n, e, g, r⟩ := r
    exact ⟨a, vs, n, e, hi _ _ g, r⟩
  | _ => exact r
theorem pk_get {P : Frm} (x : Sm K P oa ρ G s) {p : Pk} {v : Value} {Z : D → Prop} (hp : PkOk K oa G p v) (hg : pkGet ρ p Z) : ∃ d, HRep K G s.heap d v ∧ Z d := by
  cases p with
  | d y => exact ⟨y, HRep.of x.inc hp, hg⟩
  | own i =>
    obtain ⟨sl, xs, _, _, z, vs, n, g, r⟩ := x.ownAt (Z := fun _ xs => Z (.list xs)) hg
    exact ⟨.list xs, ⟨_, vs, n, hp, g, r⟩, z⟩
theorem pkVar_ok (ok : CtxOk X) {i p : Nat} {Z : Pk → Prop} (he : pkVar ρ i Z) (x : Sm K X.P oa ρ G s) (hQ : ∀ p v, Z p → PkOk K oa G p v → Qv v s) : WP K X.A E (eval (nmE X.P.names i p) X.P.env) Qv s := by
  unfold pkVar at he
  cases hs : ρ[i]? with
  | none => rw [hs] at he; exact he.elim
  | some sl =>
    rw [hs] at he
    refine eval_nm ok x hs ?_
    cases sl with
    | val d => exact load_val ok x hs fun v r => hQ _ v he r
    | own xs => exact load_own ok x hs (.inl rfl) (hQ _ _ he rfl)
    | io xs => exact load_own ok x hs (.inr rfl) (hQ _ _ he rfl)
    | _ => exact he.elim
/-- what stands before a bracket, worked out -/
theorem pk_ok (ok : CtxOk X) (hR : R → RP X E) {e : ME} {Z : Pk → MEnv → Prop} (h : ES X e) (he : pkP (varOf e) (wpE X.C e R ρ) ρ Z) (x : Sm K X.P oa ρ G s) (hQ : ∀ p ρ', Z p ρ' → ∀ v G' s', Sub G G' → Sm K X.P oa ρ' G' s' → PkOk K oa G' p v → Qv v s') :
    WP K X.A E (eval (toE e X.P.names) X.P.env) Qv s := by
  have go : wpE X.C e R ρ (fun d ρ => Z (.d d) ρ) → WP K X.A E (eval (toE e X.P.names) X.P.env) Qv s := fun he => h R E hR oa _ _ _ _ _ he x fun d ρ' q v G' s' a b c => hQ _ ρ' q v G' s' a b c
  cases e with
  | var i p => exact pkVar_ok ok (Z := fun p => Z p ρ) he x fun p v q r => hQ p ρ q v G s (Sub.refl G) x r
  | _ => exact go he
theorem subs_eq {e : ME} {N : List PySem.Str} (o i : Value) : subscripted (toE e N) false o i = operate [o, i] (getItem o i) := by cases e <;> rfl

theorem place_ok {n : Nat} {i : Int} {Z : Nat → Prop} (h : placeP n i Z) : ∃ k, Z k ∧ seqIndex? i n = some k ∧ -(2 ^ 63) ≤ i ∧ i < 2 ^ 63 ∧ -(n : Int) ≤ i ∧ i < n ∧ k < n ∧ (0 ≤ i → i.toNat = k) ∧ (i < 0 → i + n = (k : Int)) := by
  obtain ⟨hn, ⟨h0, h1, q⟩ | ⟨h0, h1, q⟩⟩ := h
  · refine ⟨_, q, ?_, by (first | grind | omega), by (first | grind | omega), by (first | grind | omega), h1, by (first | grind | omega), fun _ => rfl, fun h => absurd h0 (Int.not_le.mpr h)⟩
    unfold seqIndex?
    rw [if_neg (Int.not_lt.mpr h0), if_pos (by simp; (first | grind | omega))]
  · refine ⟨_, q, ?_, by (first | grind | omega), by (first | grind | omega), h1, by (first | grind | omega), by (first | grind | omega), fun h => absurd h0 (Int.not_lt.mpr h), fun _ => by (first | grind | omega)⟩
    unfold seqIndex?
    rw [if_pos h0, if_pos (by simp; (first | grind | omega))]
theorem idx_ok {d j : D} {v u : Value} {value : Expr} {i : ME} {N : List PySem.Str} (he : idxP d j fun z => Q z ρ) (x : Sm K X.P oa ρ G s) (rx : HRep K G s.heap d v) (rj : Rep K G j u) (hQ : Post X oa G Q Qv) :
    WP K X.A E (subscriptTail value (toE i N) v u) Qv s := by
  obtain ⟨k, t, rfl, _, he⟩ := intP_inv he rj
  cases d with
  | list xs =>
    obtain ⟨a, vs, n, rfl, g, r⟩ := rx
    obtain ⟨w, ⟨y, hy, q⟩, p1, p2, p3, p4, p5, p6, p7, p8⟩ := place_ok he
    obtain ⟨y', hy', ry⟩ := r.get hy
    have hL : s.heap.IsList a vs := ⟨_, g, rfl, _, rfl⟩
    refine tail_any hL.typeIs slot_list_getitem.lookup ?_ (subs_eq _ _)
    by_cases h0 : 0 ≤ k
    · exact wpAny_getItem_list hL h0 p3 (x := y') (by rw [p7 h0, ← Array.getElem?_toList]; exact hy') (hQ _ _ q _ G s (Sub.refl G) x ry)
    · exact kde_getNeg (vs := vs.toList) hL (Int.not_le.mp h0) p2 (r.length ▸ p1) hy' (hQ _ _ q _ G s (Sub.refl G) x ry)
  | tup xs =>
    obtain ⟨a, o, vs, n, rfl, g, gc, r⟩ := rx
    obtain ⟨w, ⟨y, hy, q⟩, p1, p2, p3, p4, p5, p6, p7, p8⟩ := place_ok he
    obtain ⟨y', hy', ry⟩ := r.get hy
    refine tail_any (T := "tuple") ⟨_, x.inc _ _ g, gc.1⟩ slot_tuple_getitem.lookup ?_ (subs_eq _ _)
    exact getItem_tuple ⟨_, x.inc _ _ g, gc.1, _, gc.2⟩ p2 p3 (r.size ▸ p1) (by rw [← Array.getElem?_toList]; exact hy') (hQ _ _ q _ G s (Sub.refl G) x ry)
  | str cs =>
    obtain ⟨t', rfl⟩ := rx
    obtain ⟨w, ⟨c, hc, q⟩, p1, p2, p3, p4, p5, p6, p7, p8⟩ := place_ok he
    have hl : (⟨cs.toArray⟩ : PySem.Str).length = cs.length := List.size_toArray
    obtain ⟨_, hc'⟩ := List.getElem?_eq_some_iff.mp hc
    have hD : cs.toArray.getD w 0 = c := by simp [Array.getD, p6, hc']
    have hitem : Txt.item ⟨cs.toArray⟩ k = ⟨[c].toArray⟩ := by
      by_cases h0 : 0 ≤ k
      · rw [beq_iff_eq.mp (item_closes (x := ⟨cs.toArray⟩) (i := k) ⟨h0, by rw [hl]; exact p5⟩), p7 h0, hD]
      · rw [beq_iff_eq.mp (item_closes_neg (x := ⟨cs.toArray⟩) (i := k) (j := k + cs.length) (Int.not_le.mp h0) (by rw [hl]; exact p4) (by rw [hl])), p8 (Int.not_le.mp h0)]
        show (⟨#[cs.toArray.getD w 0]⟩ : PySem.Str) = _
        rw [hD]
    refine item_str (by unfold fitsSsize; simp; (first | grind | omega)) (by rw [hl]; exact p4) (by rw [hl]; exact p5) (fun _ => ?_) (subs_eq _ _) (by intro r; cases value <;> rfl)
    rw [hitem]
    exact hQ.tok x q ⟨_, rfl⟩
  | _ => exact he.elim
theorem es_idx (ok : CtxOk X) {a i : ME} {p : Nat} (ha : ES X a) (hi : ES X i) : ES X (.idx a i p) := fun R E hR oa _ _ _ _ _ he x hQ =>
  Subscript_ (pk_ok ok hR ha he x fun q ρ1 h1 v G1 s1 hG1 x1 r1 => hi R E hR oa _ _ _ _ _ h1 x1 fun j ρ2 h2 u G2 s2 hG2 x2 r2 => by
    obtain ⟨d, r3, h3⟩ := pk_get x2 (r1.mono hG2) h2
    exact idx_ok h3 x2 r3 r2 (hQ.mono (hG1.trans hG2)))
end
end Mine

set_option autoImplicit false
set_option linter.all false
set_option maxRecDepth 100000
namespace Mine
open PySem PySem.W PySem.Calls PyProof.Rows

section
variable {K : Cfg} {X : Ctx K} {A : Around} {E : Value → Shared → Prop} {R : Prop} {oa : Nat → Addr} {ρ : MEnv} {G : PH} {s : Shared} {Q : D → MEnv → Prop} {Qv : Value → Shared → Prop}

/-! cuts -/
noncomputable def OptE (Z : ME → Prop) (o : Option ME) : Prop := match o with
  | none => True
  | some e => Z e
noncomputable def RepO (K : Cfg) (G : PH) (d : Option D) (v : Value) : Prop := match d with
  | none => v = .none
  | some d => Rep K G d v
theorem RepO.mono {G' : PH} (h : Sub G G') {d : Option D} {v : Value} (r : RepO K G d v) : RepO K G' d v := by
  cases d with
  | none => exact r
  | some d => exact Rep.mono h _ _ r
theorem part_ok (hR : R → RP X E) {a : Option ME} (h : OptE (ES X) a) {Z : Option D → MEnv → Prop} (he : wpO X.C a R ρ Z) (x : Sm K X.P oa ρ G s) (hQ : ∀ d ρ', Z d ρ' → ∀ v G' s', Sub G G' → Sm K X.P oa ρ' G' s' → RepO K G' d v → Qv v s') : WP K X.A E (evalPart (toO a X.P.names) X.P.env) Qv s := by
  cases a with
  | none =>
    show WP K X.A E (evalPart none X.P.env) Qv s
    rw [evalPart_none]
    exact wpAny_pure (hQ _ _ he _ G s (Sub.refl G) x rfl)
  | some a =>
    show WP K X.A E (evalPart (some (toE a X.P.names)) X.P.env) Qv s
    rw [evalPart_some]
    exact h R E hR oa _ _ _ _ _ he x fun d ρ1 q v G1 s1 hG1 x1 r1 => hQ _ _ q v G1 s1 hG1 x1 r1
theorem optP_inv {d : Option D} {v : Value} {Z : Option Int → Prop} (h : optP d Z) (r : RepO K G d v) : ∃ i, IsPart v i ∧ Z i := by
  cases d with
  | none => cases r; exact ⟨_, .none, h⟩
  | some d => obtain ⟨i, t, rfl, _, q⟩ := intP_inv h r; exact ⟨_, .int _ _, q⟩
theorem cutL_eq (vs : Array Value) (l h : Option Int) : slicePick vs l h none = (cutL vs.toList l h).toArray := by
  rw [slicePick_plain]
  unfold cutL
  cases l <;> cases h <;> simp
theorem RepL.cutL {xs : List D} {vs : List Value} (r : RepL K G xs vs) (l h : Option Int) : RepL K G (Mine.cutL xs l h) (Mine.cutL vs l h) := by
  unfold Mine.cutL
  rw [r.length]
  exact RepL.take _ (RepL.drop _ r)
theorem hs_slice {l u : Option Expr} {p : Pos} (o i : Value) : subscripted (.Slice l u none p) false o i = operate [i, o] (getItem o i) := by
  unfold subscripted; rfl
theorem cut_ok {d : D} {l h : Option D} {v vl vu : Value} {N : List PySem.Str} {i pi : Nat} {le ue : Option Expr} {p : Pos} (he : cutP d l h fun z => Q z ρ) (x : Sm K X.P oa ρ G s) (rx : HRep K G s.heap d v) (rl : RepO K G l vl) (ru : RepO K G h vu) (hQ : Post X oa G Q Qv) :
    WP K X.A E (subscriptTail (nmE N i pi) (.Slice le ue none p) v (.ref s.heap.objs.size)) Qv { s with heap := s.heap.push { cls := .type "slice", data := .fields #[vl, vu, .none] } } := by
  obtain ⟨m, hm, _⟩ := x.slots
  obtain ⟨l', pl, he⟩ := optP_inv he rl
  obtain ⟨h', pu, he⟩ := optP_inv he ru
  cases d with
  | list xs =>
    obtain ⟨a, vs, k, rfl, g, r⟩ := rx
    refine PyProof.Rows.slice_list (x.fr hm) x.news ⟨_, g, rfl, _, rfl⟩ pl pu (fun h'' F' N' => ?_) (hs_slice _ _) (fun _ => rfl) (by rw [r.size]; exact le_line he.1)
    exact hQ.newList x he.2 (Stp.of_news hm x.top F' fun p hp => N' p (.tail _ hp)) (Nat.le_succ _) (N' _ (.head _)).1 (by rw [cutL_eq]; exact r.cutL _ _)
  | str cs =>
    obtain ⟨t, rfl⟩ := rx
    have hl : (⟨cs.toArray⟩ : PySem.Str).length = cs.length := List.size_toArray
    have hsz : (⟨cs.toArray⟩ : PySem.Str).length ≤ sizeLine := hl ▸ le_line he.1
    have fin : ∀ {z : List Nat} {y : PySem.Str} {h''} {t'} {k}, Q (.str z) ρ → (y == ⟨z.toArray⟩) = true → Fr K.hT X.P.env.locals h'' m → News K.hT X.P.env.locals h'' (allL K.hT s.heap X.P.env.locals) → Qv (.str y t') { s with heap := h'', toks := k } := fun {z y h'' t' k} q e F' N' =>
      hQ.same x q (Stp.of_news hm x.top F' N') ⟨t', by rw [beq_iff_eq.mp e]⟩
    cases pl with
    | none =>
      cases pu with
      | none => exact he.2.elim
      | int j tj =>
        obtain ⟨h0, he⟩ := (he.2 : 0 ≤ j ∧ ((j ≤ cs.length ∧ _) ∨ (cs = [] ∧ _)))
        rcases he with ⟨h1, q⟩ | ⟨h1, q⟩
        · exact slice_strN_ns (x.fr hm) x.news (fun h'' t' k F' N' => fin q (by simpa using slice_closes_toL (x := ⟨cs.toArray⟩) h0 (by rw [hl]; exact h1)) F' N') (hs_slice _ _) (fun _ => rfl) hsz
        · refine slice_strN_ns (x.fr hm) x.news (fun h'' t' k F' N' => fin q ?_ F' N') (hs_slice _ _) (fun _ => rfl) hsz
          subst h1
          have hz : (Txt.slice ⟨([] : List Nat).toArray⟩ none (some j)).cps.size ≤ 0 := PyProof.Txt.length_slice_le ⟨([] : List Nat).toArray⟩ _ _
          generalize Txt.slice ⟨([] : List Nat).toArray⟩ none (some j) = y at hz ⊢
          obtain ⟨y⟩ := y
          have hy : y = #[] := Array.eq_empty_of_size_eq_zero (Nat.le_zero.mp hz)
          subst hy
          exact beq_self_eq_true _
    | int i ti =>
      cases pu with
      | none =>
        obtain ⟨h0, h1, q⟩ := (he.2 : 0 ≤ i ∧ i ≤ cs.length ∧ _)
        refine slice_strN_sn (x.fr hm) x.news (fun h'' t' k F' N' => fin q ?_ F' N') (hs_slice _ _) (fun _ => rfl) hsz
        rw [beq_iff_eq.mp (slice_closes_fromL (x := ⟨cs.toArray⟩) (b := cs.length) h0 (by rw [hl]; exact h1) (by rw [hl])), beq_iff_eq]
        congr 2
        rw [List.take_of_length_le]
        simp only [List.length_drop]; (first | grind | omega)
      | int j tj =>
        obtain ⟨h0, h1, h2, q⟩ := (he.2 : 0 ≤ i ∧ i ≤ j ∧ j ≤ cs.length ∧ _)
        exact slice_strN_ss (x.fr hm) x.news (fun h'' t' k F' N' => fin q (by simpa using slice_closesL (x := ⟨cs.toArray⟩) h0 h1 (by rw [hl]; exact h2)) F' N') (hs_slice _ _) (fun _ => rfl) hsz
  | _ => exact he.elim
theorem es_cut (ok : CtxOk X) {i pi q p : Nat} {lo hi : Option ME} (hl : OptE (ES X) lo) (hu : OptE (ES X) hi) : ES X (.cut i pi lo hi q p) := fun R E hR oa _ _ _ _ _ he x hQ =>
  Subscript_ (pkVar_ok ok he x fun _ v h1 r1 => wpAny_Slice (part_ok hR hl h1 x fun _ _ h2 vl G2 s2 hG2 x2 r2 => part_ok hR hu h2 x2 fun _ _ h3 vu G3 s3 hG3 x3 r3 => by
    obtain ⟨d, r4, h4⟩ := pk_get x3 ((r1.mono hG2).mono hG3) h3
    rw [evalPart_none]
    exact wpAny_pure (cut_ok h4 x3 r4 (r2.mono hG3) r3 (hQ.mono (hG2.trans hG3)))))
theorem Sm.push {P : Frm} (x : Sm K P oa ρ G s) (o : Obj) : Sm K P oa ρ G { s with heap := s.heap.push o } := x.stp (tk := s.toks) (Stp.push _ _ _)
theorem es_rev (ok : CtxOk X) {i pi p1 p2 q p : Nat} : ES X (.rev i pi p1 p2 q p) := by
  intro R E hR oa ρ G s Q Qv he x hQ
  refine Subscript_ (pkVar_ok ok he x fun _ v h1 r1 => wpAny_Slice ?_)
  rw [evalPart_none]
  refine wpAny_pure (wpAny_pure ?_)
  rw [evalPart_some]
  refine UnaryOp_ (wpAny_Constant_int (neg_int ?_))
  obtain ⟨d, r4, h4⟩ := pk_get x r1 h1
  cases d with
  | list xs =>
    obtain ⟨b, vs, j, rfl, g, r⟩ := r4
    have x2 := (x.tok (s.toks + 1 + 1)).push { cls := .type "slice", data := .fields #[.none, .none, .int (-1) (s.toks + 1)] }
    have hL : (s.heap.push { cls := .type "slice", data := .fields #[.none, .none, .int (-1) (s.toks + 1)] }).IsList b vs := ⟨_, Heap.get?_push_of_some _ g, rfl, _, rfl⟩
    refine tail_any (s := { s with heap := s.heap.push { cls := .type "slice", data := .fields #[.none, .none, .int (-1) (s.toks + 1)] }, toks := s.toks + 1 + 1 }) (ops := [.ref b, .ref s.heap.objs.size]) hL.typeIs slot_list_getitem.lookup
      (wpAny_getItem_list_slice hL (Heap.IsSliceOf.new _ _ _ _) .none .none (.int _ _) (by decide) ?_ (by rw [r.size]; exact le_line h4.1)) (by unfold subscripted; rfl)
    refine hQ.newList x2 h4.2 (n := 0) (vs := slicePick vs none none (some (-1))) (Stp.push _ _ _) (Nat.le_refl _) (Heap.get?_push_size _ rfl) ?_
    rw [krv_pick]
    exact (by simpa using r.reverse)
  | _ => exact h4.elim

/-! calls of what is built in -/
theorem backTo_any (pos : Pos) (env : Env) : ∀ (xs : List Expr), (∀ e ∈ xs, notStar e = true) → (backTo pos (starEach xs env)).any (·.1) = false
  | [], _ => rfl
  | x :: xs, h => by
    rw [starEach_cons (h x (.head _))]
    exact backTo_any pos env xs fun e he => h e (.tail _ he)
theorem backTo_all (pos : Pos) (env : Env) : ∀ (xs : List Expr), (∀ e ∈ xs, notStar e = true) → (backTo pos (starEach xs env)).all (fun x => !x.1) = true
  | [], _ => rfl
  | x :: xs, h => by
    rw [starEach_cons (h x (.head _))]
    exact backTo_all pos env xs fun e he => h e (.tail _ he)
theorem one_star (a : ME) (N : List PySem.Str) : ∀ e ∈ [toE a N], notStar e = true := fun e h => by rw [List.mem_singleton.mp h]; exact toE_star a N
theorem spliced_nil_inv {Q : List Value → Shared → Prop} (h : WP K A E (spliced []) Q s) (Γ : PySem.Ctx) (hΓ : Γ.In A) (p : Pos) : Q [] s := h Γ p hΓ
theorem evalArgs_ok {f : Value} {pos : Pos} {env : Env} {xs : List Expr} {Q : Args → Shared → Prop} (hn : ∀ e ∈ xs, notStar e = true) (h : WP K A E (spliced (backTo pos (starEach xs env))) (fun vs s' => Q ⟨vs, []⟩ s') s) :
    WP K A E (evalArgs f true (backTo pos (starEach xs env)) []) Q s := by
  cases xs with
  | nil => exact fun Γ p hΓ => PySem.evalArgs_none (M := model K.prog K.w) (A := A) (E := E) (spliced_nil_inv h Γ hΓ p) Γ p hΓ
  | cons x xs =>
    rw [starEach_cons (hn x (.head _))] at h ⊢
    exact Calls.evalArgs_plain h
theorem callWith_b {pos : Pos} {env : Env} {id : String} {first : List Value} {xs : List Expr} (hn : ∀ e ∈ xs, notStar e = true)
    (h : WP K A E (spliced (backTo pos (starEach xs env))) (fun vs s' => WP K A E (call (.builtin id) (first ++ vs)) Qv s') s) : WP K A E (callWith pos (.builtin id) first (backTo pos (starEach xs env)) []) Qv s :=
  Calls.callWith_builtin (backTo_any pos env xs hn) (evalArgs_ok hn h)
theorem call_bi (ok : CtxOk X) (x : Sm K X.P oa ρ G s) {y : PySem.Str} {q p : Nat} {id : String} {xs : List Expr} (hg : okG X.kd y = true) (hb : (y, .builtin id) ∈ biList) (hn : ∀ e ∈ xs, notStar e = true)
    (h : WP K X.A E (spliced (backTo (dp p) (starEach xs X.P.env))) (fun vs s' => WP K X.A E (call (.builtin id) vs) Qv s') s) : WP K X.A E (eval (callE y q xs p) X.P.env) Qv s :=
  Call_ (bi_name ok x hg hb (callWith_b hn h)) (by rfl)
theorem call_bt (ok : CtxOk X) (x : Sm K X.P oa ρ G s) {y : PySem.Str} {q p : Nat} {T : String} {xs : List Expr} (hg : okG X.kd y = true) (hb : (y, .type T) ∈ biList) (hn : ∀ e ∈ xs, notStar e = true)
    (h : WP K X.A E (spliced (backTo (dp p) (starEach xs X.P.env))) (fun vs s' => WP K X.A E (call (.type T) vs) Qv s') s) : WP K X.A E (eval (callE y q xs p) X.P.env) Qv s :=
  Call_ (bi_name ok x hg hb (PySem.callWith_type (backTo_any _ X.P.env xs hn) (evalArgs_ok hn h))) (by rfl)
/-- one argument -/
theorem arg1 {a : ME} {pos : Pos} {Q' : List Value → Shared → Prop} (h : WP K X.A E (eval (toE a X.P.names) X.P.env) (fun v s' => Q' [v] s') s) : WP K X.A E (spliced (backTo pos (starEach [toE a X.P.names] X.P.env))) Q' s := by
  rw [starEach_cons (toE_star a _)]
  exact Calls.spliced_cons (wpAny_mono h (fun v s' q => Calls.spliced_nil q) fun _ _ e => e)

theorem small_len {n : Nat} (h : n ≤ 4096) : (n : Int) < 2 ^ 63 := Int.lt_of_le_of_lt (Int.ofNat_le.mpr h) (by decide)
theorem len_ok {d : D} {v : Value} (he : b1P .len d fun z => Q z ρ) (x : Sm K X.P oa ρ G s) (rx : HRep K G s.heap d v) (hQ : Post X oa G Q Qv) : WP K X.A E (call (.builtin "len") [v]) Qv s := by
  cases d with
  | list xs =>
    obtain ⟨a, vs, k, rfl, g, r⟩ := rx
    exact PyProof.Rows.len_list ⟨_, g, rfl, _, rfl⟩ (by rw [r.size]; exact small_len he.1) (hQ.tok x he.2 ⟨_, by rw [r.size]⟩)
  | tup xs =>
    obtain ⟨a, o, vs, k, rfl, g, gc, r⟩ := rx
    exact PyProof.Rows.len_tuple ⟨_, x.inc _ _ g, gc.1, _, gc.2⟩ (by rw [r.size]; exact small_len he.1) (hQ.tok x he.2 ⟨_, by rw [r.size]⟩)
  | str xs =>
    obtain ⟨t, rfl⟩ := rx
    have hl : (⟨xs.toArray⟩ : PySem.Str).length = xs.length := List.size_toArray
    exact _root_.PySem.P.len_str (by rw [hl]; exact Int.not_le.mpr (small_len he.1)) (hQ.tok x he.2 ⟨_, by rw [hl]⟩)
  | _ => exact he.elim
theorem HRep.plain {h : Heap} {d : D} {v : Value} (r : HRep K G h d v) (hd : ∀ xs, d ≠ .list xs) : Rep K G d v := by
  cases d with
  | list xs => exact absurd rfl (hd xs)
  | _ => exact r
theorem es_b1 (ok : CtxOk X) {f : BI} {q p : Nat} {a : ME} (hg : okG X.kd (biNm f) = true) (ha : ES X a) : ES X (.b1 f q a p) := by
  intro R E hR oa ρ G s Q Qv he x hQ
  cases f with
  | len =>
    refine call_bi ok x hg (.head _) (one_star a _) (arg1 (pk_ok ok hR ha he x fun _ ρ1 h1 v G1 s1 hG1 x1 r1 => ?_))
    obtain ⟨d, r4, h4⟩ := pk_get x1 r1 h1
    exact len_ok h4 x1 r4 (hQ.mono hG1)
  | abs =>
    refine call_bi ok x hg (.tail _ (.tail _ (.tail _ (.head _)))) (one_star a _) (arg1 (pk_ok ok hR ha he x fun _ ρ1 h1 v G1 s1 hG1 x1 r1 => ?_))
    obtain ⟨d, r4, h4⟩ := pk_get x1 r1 h1
    cases d with
    | int i =>
      obtain ⟨t, rfl⟩ := r4
      exact call_abs_int fun u tk => (hQ.mono hG1).tok x1 h4 ⟨u, by congr 1; split <;> (first | grind | omega)⟩
    | _ => exact h4.elim
  | tolist =>
    refine call_bt ok x hg (.tail _ (.tail _ (.tail _ (.tail _ (.head _))))) (one_star a _) (arg1 (pk_ok ok hR ha he x fun _ ρ1 h1 v G1 s1 hG1 x1 r1 => ?_))
    obtain ⟨d, r4, h4⟩ := pk_get x1 r1 h1
    cases d with
    | tup xs =>
      obtain ⟨b, o, vs, k, rfl, g, gc, r⟩ := r4
      exact call_list_seq b (.inr rfl) (x1.inc _ _ g) gc.1 gc.2 (fun h' c' hk hD => (hQ.mono hG1).newList x1 h4.2 (Stp.of_keeps hk) (Nat.le_refl _) hD r) (by rw [r.size]; exact le_line h4.1)
    | _ => exact h4.elim

theorem int2P_inv {ds : List D} {vs : List Value} {Z : Int → Int → List D → Prop} (h : int2P ds Z) (r : RepL K G ds vs) : ∃ a t b u ds' vs', vs = .int a t :: .int b u :: vs' ∧ RepL K G ds' vs' ∧ Z a b ds' := by
  unfold int2P at h
  cases ds with
  | nil => exact h.elim
  | cons x ds => cases ds with
    | nil => exact h.elim
    | cons y ds =>
      obtain ⟨_, _, rfl, r1, _, _, rfl, r2, r3⟩ := r
      obtain ⟨a, t, rfl, _, h⟩ := intP_inv h r1
      obtain ⟨b, u, rfl, _, h⟩ := intP_inv h r2
      exact ⟨a, t, b, u, _, _, rfl, r3, h⟩
theorem bn_ok {f : BM} {ds : List D} {vs : List Value} {id : String} (hid : id = match f with | .max => "max" | .min => "min") (hA : X.A.handled = none) (he : bnP f ds fun z => Q z ρ) (x : Sm K X.P oa ρ G s) (r : RepL K G ds vs) (hQ : Post X oa G Q Qv) : WP K X.A E (call (.builtin id) vs) Qv s := by
  obtain ⟨m, hm, _⟩ := x.slots
  obtain ⟨a, t, b, u, ds', vs', rfl, r', he⟩ := int2P_inv he r
  subst hid
  cases f with
  | max =>
    cases ds' with
    | nil =>
      cases r'
      exact max_two_N hA (x.fr hm) x.news fun h' tk F' N' => hQ.same x he (Stp.of_news hm x.top F' N') ⟨_, rfl⟩
    | cons c ds' =>
      obtain ⟨_, _, rfl, rc, r'⟩ := r'
      cases ds' with
      | cons _ _ => exact he.elim
      | nil =>
        cases r'
        obtain ⟨c, w, rfl, _, he⟩ := intP_inv he rc
        refine max_three_ints hA fun h' tk hk => hQ.same x he (Stp.of_keeps hk) ?_
        unfold max2
        split
        · split
          · exact ⟨_, rfl⟩
          · exact ⟨_, rfl⟩
        · split
          · exact ⟨_, rfl⟩
          · exact ⟨_, rfl⟩
  | min =>
    cases ds' with
    | nil =>
      cases r'
      exact min_two_N hA (x.fr hm) x.news fun h' tk F' N' => hQ.same x he (Stp.of_news hm x.top F' N') ⟨_, rfl⟩
    | cons c ds' => exact he.elim
theorem es_bn (ok : CtxOk X) {f : BM} {q p : Nat} {es : List ME} (hg : okG X.kd (bmNm f) = true) (h : AllE (ES X) es) : ES X (.bn f q es p) := fun R E hR oa _ _ _ _ _ he x hQ => by
  cases f with
  | max => exact call_bi ok x hg (id := "max") (.tail _ (.head _)) (toEs_star es _) (args_ok hR es h _ _ _ _ _ he x fun ds ρ1 q vs G1 s1 hG1 x1 r1 _ => bn_ok rfl ok.hA.1 q x1 r1 (hQ.mono hG1))
  | min => exact call_bi ok x hg (id := "min") (.tail _ (.tail _ (.head _))) (toEs_star es _) (args_ok hR es h _ _ _ _ _ he x fun ds ρ1 q vs G1 s1 hG1 x1 r1 _ => bn_ok rfl ok.hA.1 q x1 r1 (hQ.mono hG1))

/-! methods -/
noncomputable def notC0 : Expr → Bool
  | .Call (.Name _ _) [] [] _ => false
  | _ => true
theorem attrBase_of {o : Expr} {name : PySem.Str} {env : Env} (h : notC0 o = true) : attributeBase o name env (eval o env) = eval o env := by
  unfold attributeBase
  split
  · cases h
  · rfl
theorem meth_call {env : Env} {o : Expr} {name : PySem.Str} {q p : Nat} {xs : List Expr} (h0 : notC0 o = true) (hn : ∀ e ∈ xs, notStar e = true) (hl : xs.length < 30) (hp : (dp q).endLine = (dp p).line)
    (h : WP K A E (eval o env) (fun ov s₁ => ∀ pl : Sem Bool, WP K A E (getMethod ov name pl) (fun fx s₂ => WP K A E (callWith (dp p) fx.1 fx.2 (backTo (dp p) (starEach xs env)) []) Qv s₂) s₁) s) : WP K A E (eval (methE o name q xs p) env) Qv s := by
  unfold methE
  rw [arm_eval_Call, attrBase_of h0]
  refine wpAny_bind (wpAny_mono h (fun ov s₁ h₁ => ?_) fun _ _ e => e)
  refine wpAny_bind (wpAny_standAt ?_)
  have hform : methodCallForm (xs.length + ([] : List Keyword).length) (backTo (dp p) (starEach xs env)) (backToKw (dp p) (keywordEach [] env)) = true := by
    unfold methodCallForm
    rw [backTo_all (dp p) env xs hn]
    exact decide_eq_true hl
  have hpos : methodCallPos true o env (dp q) (dp p) = pure (dp p) := by unfold methodCallPos; simp [hp]
  unfold methodCall
  rw [hform]
  refine wpAny_bind (wpAny_holding ?_)
  show WP K A E (getMethod ov name _) _ s₁
  exact wpAny_mono (h₁ _) (fun fx s₂ h₂ => wpAny_bind (wpAny_of_eq hpos h₂)) fun _ _ e => e
theorem es_bitlen {a : ME} {q p : Nat} (h0 : notC0 (toE a X.P.names) = true) (hp : (dp q).endLine = (dp p).line) (ha : ES X a) : ES X (.bitlen a q p) := fun R E hR oa _ _ _ _ _ he x hQ =>
  meth_call h0 (fun _ h => nomatch h) (by decide) hp (ha R E hR oa _ _ _ _ _ he x fun d ρ1 h1 v G1 s1 hG1 x1 r1 pl => by
    obtain ⟨i, t, rfl, _, q⟩ := intP_inv h1 r1
    refine getMethod_int_bit_length (callWith_b (fun _ h => nomatch h) (Calls.spliced_nil (call_int_bit_length ((hQ.mono hG1).tok x1 q ⟨s1.toks, ?_⟩))))
    congr 1
    unfold Builtin.Int.intBits bitLength
    by_cases h : i = 0
    · rw [if_pos h, if_pos (beq_iff_eq.mpr h)]; rfl
    · rw [if_neg h, if_neg (by simpa using h)]; rfl)
theorem at_single {x : List Nat} {c i : Nat} : StrLaws.At ⟨x.toArray⟩ ⟨#[c]⟩ (⟨x.toArray⟩ : PySem.Str).length i ↔ x[i]? = some c := by
  unfold StrLaws.At
  have hl : (⟨x.toArray⟩ : PySem.Str).length = x.length := List.size_toArray
  have h1 : (⟨#[c]⟩ : PySem.Str).length = 1 := rfl
  rw [hl, StrLaws.subAt_eq, h1]
  simp
  constructor
  · rintro ⟨h, e⟩
    rw [List.getElem?_eq_getElem (by (first | grind | omega))]
    rw [List.drop_eq_getElem_cons (by (first | grind | omega) : i < x.length)] at e
    simp only [List.take_succ_cons, List.take_zero, List.cons.injEq, and_true] at e
    exact congrArg some e
  · intro h
    obtain ⟨hlt, e⟩ := List.getElem?_eq_some_iff.mp h
    refine ⟨by (first | grind | omega), ?_⟩
    rw [List.drop_eq_getElem_cons hlt]
    simp only [List.take_succ_cons, List.take_zero, List.cons.injEq, and_true]
    exact e
theorem find_single (x : List Nat) (c : Nat) : Txt.find ⟨x.toArray⟩ ⟨#[c]⟩ = findIn x c := by
  unfold findIn
  rcases find_whole ⟨x.toArray⟩ ⟨#[c]⟩ with ⟨e, h⟩ | ⟨i, e, h, hk⟩
  · rw [e]
    have : x.findIdx? (· == c) = none := by
      rw [List.findIdx?_eq_none_iff]
      intro y hy
      obtain ⟨i, hi, rfl⟩ := List.getElem_of_mem hy
      exact beq_eq_false_iff_ne.mpr fun e => h i (at_single.mpr (by rw [List.getElem?_eq_getElem hi, e]))
    rw [this]
  · rw [e]
    obtain ⟨hlt, e'⟩ := List.getElem?_eq_some_iff.mp (at_single.mp h)
    have : x.findIdx? (· == c) = some i := by
      rw [List.findIdx?_eq_some_iff_getElem]
      exact ⟨hlt, beq_iff_eq.mpr e', fun j hj => by
        rw [Bool.not_eq_true, beq_eq_false_iff_ne]
        exact fun e => hk j hj (at_single.mpr (by rw [List.getElem?_eq_getElem (Nat.lt_trans hj hlt), e]))⟩
    rw [this]
theorem chP_inv {d : D} {v : Value} {Z : Nat → Prop} (h : chP d Z) (r : Rep K G d v) : ∃ c t, v = .str ⟨#[c]⟩ t ∧ Z c := by
  obtain ⟨cs, t, rfl, _, c, rfl, q⟩ := strP_inv h r
  exact ⟨c, t, rfl, q⟩
theorem es_find {a b : ME} {q p : Nat} (h0 : notC0 (toE a X.P.names) = true) (hp : (dp q).endLine = (dp p).line) (ha : ES X a) (hb : ES X b) : ES X (.find a b q p) := fun R E hR oa _ _ _ _ _ he x hQ =>
  meth_call h0 (one_star b _) (show 1 < 30 by decide) hp (ha R E hR oa _ _ _ _ _ he x fun d ρ1 h1 v G1 s1 hG1 x1 r1 pl => by
    obtain ⟨cs, u1, rfl, _, h1⟩ := strP_inv h1 r1
    refine GM.find (callWith_b (one_star b _) (arg1 (hb R E hR oa _ _ _ _ _ h1 x1 fun d2 ρ2 h2 w G2 s2 hG2 x2 r2 => ?_)))
    obtain ⟨c, u2, rfl, h2⟩ := chP_inv h2 r2
    exact SC.find ((hQ.mono (hG1.trans hG2)).tok x2 h2 ⟨s2.toks, by rw [← find_single]⟩))
theorem lower_digit {c : Nat} (h : 48 ≤ c ∧ c ≤ 57) : Txt.lower ⟨#[c]⟩ = ⟨#[c]⟩ := by
  have all : ∀ k : Fin 10, Txt.lower ⟨#[48 + k.val]⟩ = ⟨#[48 + k.val]⟩ := by decide +kernel
  have := all ⟨c - 48, by (first | grind | omega)⟩
  rwa [show 48 + (c - 48) = c from Nat.add_sub_cancel' h.1] at this
theorem es_lower {a : ME} {q p : Nat} (h0 : notC0 (toE a X.P.names) = true) (hp : (dp q).endLine = (dp p).line) (ha : ES X a) : ES X (.lower a q p) := fun R E hR oa _ _ _ _ _ he x hQ =>
  meth_call h0 (fun _ h => nomatch h) (show 0 < 30 by decide) hp (ha R E hR oa _ _ _ _ _ he x fun d ρ1 h1 v G1 s1 hG1 x1 r1 pl => by
    obtain ⟨c, u1, rfl, h1⟩ := chP_inv h1 r1
    exact GM.lower (callWith_b (fun _ h => nomatch h) (Calls.spliced_nil (SCL.lower (by show (1 : Nat) ≤ _; (first | grind | omega)) fun _ => (hQ.mono hG1).tok x1 h1.2 ⟨s1.toks, by rw [lower_digit h1.1]⟩))))

/-! calls of the text's own -/
theorem Sm.callIn {P : Frm} {n : Nat} (x : Sm K P oa ρ G s) (hA : AOk A n) : CallIn K A n G s := ⟨hA, x.inc, x.top, ⟨x.tab.1, x.tab.2.1, x.tab.2.2.2.1⟩, Nat.le_trans x.topL (Nat.le_of_lt x.ltL)⟩
/-- behind a call: what is new is frozen; the table of the codes may have changed, and the frame's table in its slots -/
theorem Sm.extL {P : Frm} (x : Sm K P oa ρ G s) {h' : Heap} {tk : Nat} (hk : ∀ b o, b ≠ K.pT → b ≠ P.env.locals → s.heap.get? b = some o → h'.get? b = some o) (hns : ∀ m, s.heap.Ns P.env.locals m → h'.Ns P.env.locals m) (htab : ∃ o, h'.get? K.pT = some o ∧ K.TabOk (Mine.ext G s.heap.objs.size h') o) :
    Sub G (Mine.ext G s.heap.objs.size h') ∧ Sm K P oa ρ (Mine.ext G s.heap.objs.size h') { s with heap := h', toks := tk } := by
  obtain ⟨⟨ot, t1, t2⟩, t3, t4, t5, t6, t7, t8⟩ := x.tab
  have hGp : ∀ b o, G b = some o → b ≠ K.pT ∧ b ≠ P.env.locals := fun b o e => ⟨(fun h => by rw [h, t3] at e; cases e), (fun h => by rw [h, x.offL] at e; cases e)⟩
  have hG : Sub G (Mine.ext G s.heap.objs.size h') := sub_ext x.inc fun b o e => hk b o (hGp b o e).1 (hGp b o e).2 (x.inc b o e)
  have lt : ∀ {b : Addr}, b < s.heap.objs.size → Mine.ext G s.heap.objs.size h' b = G b := fun h => by unfold Mine.ext; rw [if_pos h]
  obtain ⟨m, hm, hs⟩ := x.slots
  refine ⟨hG, ⟨?_, ⟨m, hns m hm, fun i y sl hn hsl => ((hs i y sl hn hsl).mono hG).stp fun he o e => hk _ _ (t6 i y sl hn hsl he) (x.off i y sl hn hsl he).2.1 e⟩, x.nodup, fun b o e => ?_, (lt x.ltL).trans x.offL, fun i n sl hn hsl he => ⟨?_, (x.off i n sl hn hsl he).2⟩, x.apart, fun b o e hio hp => hk b o hp (Nat.ne_of_lt (Nat.lt_of_lt_of_le (Heap.lt_size e) x.above)) (x.keep b o e hio hp), fun b o hb e => ?_, x.above, x.iol, fun b o e => ?_, x.topL, fun b o hb => ?_,
    ⟨htab, (lt (Heap.lt_size t1)).trans t3, t4, t5, t6, t7, t8⟩, x.len⟩⟩
  · obtain ⟨h, t, rfl⟩ := x.same; exact ⟨h', tk, rfl⟩
  · unfold Mine.ext at e
    split at e
    · exact hk b o (hGp b o e).1 (hGp b o e).2 (x.inc b o e)
    · exact e
  · obtain ⟨o, ho⟩ := x.exclGet hn hsl he
    exact (lt (Heap.lt_size ho)).trans (x.off i n sl hn hsl he).1
  · have hlt : b < s.heap.objs.size := Nat.lt_trans (Nat.lt_of_lt_of_le hb x.above) x.ltL
    rw [lt hlt] at e
    exact x.old b o hb e
  · exact hk b o (fun h => by rw [h, t5] at e; cases e) (Nat.ne_of_lt (Nat.lt_of_lt_of_le (Heap.lt_size e) x.topL)) (x.top b o e)
  · obtain ⟨b1, b2, b3, b4⟩ := x.ban b o hb
    exact ⟨hk b o (t7 b o hb) b3 b1, (lt (Heap.lt_size b1)).trans b2, b3, b4⟩
theorem Sm.extC {P : Frm} (x : Sm K P oa ρ G s) {h' : Heap} {tk : Nat} (hk : ∀ b o, b ≠ K.pT → s.heap.get? b = some o → h'.get? b = some o) (htab : ∃ o, h'.get? K.pT = some o ∧ K.TabOk (Mine.ext G s.heap.objs.size h') o) :
    Sub G (Mine.ext G s.heap.objs.size h') ∧ Sm K P oa ρ (Mine.ext G s.heap.objs.size h') { s with heap := h', toks := tk } :=
  x.extL (fun b o h _ e => hk b o h e) (fun m ⟨o, es, ep, ho, r⟩ => ⟨o, es, ep, hk _ _ (Ne.symm x.tab.2.2.1) ho, r⟩) htab
theorem ret_post {d : D} (x : Sm K X.P oa ρ G s) (q : Q d ρ) (hQ : Post X oa G Q Qv) : Ret K G s d Qv := fun v h' tk hk ht r => by
  obtain ⟨a, b⟩ := x.extC (tk := tk) hk ht
  exact hQ _ _ q v _ _ a b r
theorem es_call (ok : CtxOk X) {k q p : Nat} {es : List ME} (hg : okG X.kd (nm k) = true) (h : AllE (ES X) es) : ES X (.call k q es p) := by
  intro R E hR oa ρ G s Q Qv he x hQ
  obtain ⟨hk, o, fd, ho, hfd⟩ := ok.W.fn k
  refine Call_ (glob_name ok x hg hk (Calls.callWith_function (o := o) (fd := fd) (evalArgs_ok (toEs_star es _) (args_ok hR es h _ _ _ _ _ he x fun ds ρ1 q vs G1 s1 hG1 x1 r1 _ => ⟨⟨x1.top _ _ ho, hfd⟩, ?_⟩)))) (by rfl)
  exact ok.hC.fn R k ds _ q X.A E G1 s1 vs Qv (x1.callIn ok.hA) r1 (fun r => (hR r).call X.P.ban _ _ _ _ x1) fun d q => ret_post x1 q (hQ.mono hG1)
theorem es_callv (ok : CtxOk X) {i q p : Nat} {es : List ME} (h : AllE (ES X) es) : ES X (.callv i q es p) := by
  intro R E hR oa ρ G s Q Qv he x hQ
  have he : valP ρ i fun f => clP f (fun k => wpEs X.C es R ρ fun ds ρ => X.C.fn R k ds fun d => Q d ρ) fun t n => wpEs X.C es R ρ fun ds ρ => X.C.clo t n ds fun d => Q d ρ := he
  unfold valP at he
  cases hs : ρ[i]? with
  | none => rw [hs] at he; exact he.elim
  | some sl =>
    rw [hs] at he
    cases sl with
    | val f =>
      refine Call_ (eval_nm ok x hs (load_val ok x hs fun v r => ?_)) (by rfl)
      cases f with
      | fn k =>
        obtain ⟨hk, o, fd, ho, hfd⟩ := ok.W.fn k
        cases r
        refine Calls.callWith_function (o := o) (fd := fd) (evalArgs_ok (toEs_star es _) (args_ok hR es h _ _ _ _ _ he x fun ds ρ1 q vs G1 s1 hG1 x1 r1 _ => ⟨⟨x1.top _ _ ho, hfd⟩, ?_⟩))
        exact ok.hC.fn R k ds _ q X.A E G1 s1 vs Qv (x1.callIn ok.hA) r1 (fun r => (hR r).call X.P.ban _ _ _ _ x1) fun d q => ret_post x1 q (hQ.mono hG1)
      | clo t m =>
        have r0 := r
        obtain ⟨a, o, cd, oc, c1, o1, c2, o2, v1, rfl, g, _, _, _, ⟨fd, _, _, _, hfd, _⟩, _⟩ := r
        refine Calls.callWith_function (o := o) (fd := fd) (evalArgs_ok (toEs_star es _) (args_ok hR es h _ _ _ _ _ he x fun ds ρ1 q vs G1 s1 hG1 x1 r1 _ => ⟨⟨x1.inc _ _ (hG1 _ _ g), hfd⟩, ?_⟩))
        exact ok.hC.clo t m ds _ q X.A E G1 s1 (.ref a) vs Qv (x1.callIn ok.hA) (Rep.mono hG1 _ _ r0) r1 fun d q => ret_post x1 q (hQ.mono hG1)
      | _ => exact he.elim
    | _ => exact he.elim
end
end Mine

set_option autoImplicit false
set_option linter.all false
set_option maxRecDepth 100000
namespace Mine
open PySem PySem.W PySem.Calls PyProof.Rows

section
variable {K : Cfg} {P : Frm} {A : Around} {E : Value → Shared → Prop} {oa : Nat → Addr} {ρ : MEnv} {G : PH} {s : Shared}

theorem Sm.put (X : Sm K P oa ρ G s) {i : Nat} {y : PySem.Str} {sl : Slot} {xs ys : List D} (hn : P.names[i]? = some y) (hs : ρ[i]? = some sl) (hsl : sl = .own xs ∨ sl = .io xs) {h' : Heap} {tk : Nat} {G' : PH} {us : Array Value} {c : Nat} (hG : Sub G G')
    (hk : ∀ b o, b ≠ oa i → b ≠ P.env.locals → b ≠ K.pT → s.heap.get? b = some o → h'.get? b = some o) (hns : ∀ m, s.heap.Ns P.env.locals m → h'.Ns P.env.locals m) (hget : h'.get? (oa i) = some (lst us c)) (hr : RepL K G' ys us.toList)
    (hinc : ∀ b o, G' b = some o → h'.get? b = some o) (hL : G' P.env.locals = none) (hown : ∀ j z sl, P.names[j]? = some z → ρ[j]? = some sl → sl.excl = true → G' (oa j) = none) (hold : ∀ b o, b < P.s₀.heap.objs.size → G' b = some o → P.G₀ b = some o) (hban : ∀ b o, (b, o) ∈ P.ban → G' b = none) (hpt : G' K.pT = none) (htab : ∃ o, h'.get? K.pT = some o ∧ K.TabOk G' o) :
    Sm K P oa (ρ.set i (sl.repl ys)) G' { s with heap := h', toks := tk } := by
  obtain ⟨m, hm, hsls⟩ := X.slots
  have hx : sl.excl = true := by rcases hsl with rfl | rfl <;> rfl
  have hx' : (sl.repl ys).excl = true := by rcases hsl with rfl | rfl <;> rfl
  have hlt : i < ρ.length := (List.getElem?_eq_some_iff.mp hs).1
  have ho := X.off i y sl hn hs hx
  refine ⟨?_, ⟨m, hns m hm, fun j z sl' hz hsl' => ?_⟩, X.nodup, hinc, hL, fun j z sl' hz hsl' he => ?_, fun j j' z z' sl1 sl2 hz hz' hl hl' he he' => ?_, fun b o e hio => ?_, hold, X.above, X.iol, fun b o e => ?_, X.topL, fun b o hb => ?_, ⟨htab, hpt, X.tab.2.2.1, X.tab.2.2.2.1, fun j z sl' hz hsl' he => ?_, X.tab.2.2.2.2.2⟩, by rw [List.length_set]; exact X.len⟩
  · obtain ⟨h, t, rfl⟩ := X.same; exact ⟨h', tk, rfl⟩
  · by_cases hj : i = j
    · subst hj
      rw [List.getElem?_set_self hlt] at hsl'
      cases hsl'
      rw [hn] at hz; cases hz
      have := hsls i y sl hn hs
      rcases hsl with rfl | rfl
      · obtain ⟨k, e, _⟩ := this
        exact ⟨k, e, us, c, hget, hr⟩
      · obtain ⟨k, e, io, _⟩ := this
        exact ⟨k, e, io, us, c, hget, hr⟩
    · rw [List.getElem?_set_ne hj] at hsl'
      refine ((hsls j z sl' hz hsl').mono hG).stp fun he o e => hk _ _ (fun h => hj (X.apart j i z y sl' sl hz hn hsl' hs he hx h).symm) (X.off j z sl' hz hsl' he).2.1 (X.tab.2.2.2.2.1 j z sl' hz hsl' he) e
  · by_cases hj : i = j
    · subst hj
      rw [List.getElem?_set_self hlt] at hsl'
      cases hsl'
      rw [hn] at hz; cases hz
      refine ⟨hown i y sl hn hs hx, ho.2.1, ho.2.2.1, ?_⟩
      rcases hsl with rfl | rfl
      · rcases ho.2.2.2 with ⟨_, e⟩ | h
        · cases e
        · exact .inr h
      · exact .inl ⟨ys, rfl⟩
    · rw [List.getElem?_set_ne hj] at hsl'
      exact ⟨hown j z sl' hz hsl' he, (X.off j z sl' hz hsl' he).2⟩
  · have fix : ∀ {j : Nat} {z : PySem.Str} {sl' : Slot}, P.names[j]? = some z → (ρ.set i (sl.repl ys))[j]? = some sl' → sl'.excl = true → ∃ sl'', ρ[j]? = some sl'' ∧ sl''.excl = true := by
      intro j z sl' hz hl he
      by_cases hj : i = j
      · subst hj; exact ⟨sl, hs, hx⟩
      · rw [List.getElem?_set_ne hj] at hl; exact ⟨sl', hl, he⟩
    obtain ⟨a1, b1, c1⟩ := fix hz hl he
    obtain ⟨a2, b2, c2⟩ := fix hz' hl' he'
    exact X.apart j j' z z' a1 a2 hz hz' b1 b2 c1 c2
  · intro hbp
    have hbL : b ≠ P.env.locals := Nat.ne_of_lt (Nat.lt_of_lt_of_le (Heap.lt_size e) X.above)
    refine hk b o (fun hb => ?_) hbL hbp (X.keep b o e hio hbp)
    rcases ho.2.2.2 with ⟨_, hio'⟩ | h
    · have := hsls i y sl hn hs
      subst hio'
      obtain ⟨_, _, io, _⟩ := this
      exact hio (hb ▸ io)
    · exact absurd (Heap.lt_size e) (Nat.not_lt.mpr (hb ▸ h))
  · refine hk b o (fun hb => ?_) (Nat.ne_of_lt (Nat.lt_of_lt_of_le (Heap.lt_size e) X.topL)) (fun hp => by rw [hp, X.tab.2.2.2.1] at e; cases e) (X.top b o e)
    rw [hb, ho.2.2.1] at e; cases e
  · obtain ⟨b1, b2, b3, b4, b5, b6⟩ := X.ban b o hb
    refine ⟨hk b o (Ne.symm (b6 i y sl hn hs hx)) b3 (X.tab.2.2.2.2.2.1 b o hb) b1, hban b o hb, b3, b4, b5, fun j z sl' hz hsl' he => ?_⟩
    by_cases hj : i = j
    · subst hj; exact b6 i y sl hn hs hx
    · rw [List.getElem?_set_ne hj] at hsl'; exact b6 j z sl' hz hsl' he
  · by_cases hj : i = j
    · subst hj; exact X.tab.2.2.2.2.1 i y sl hn hs hx
    · rw [List.getElem?_set_ne hj] at hsl'; exact X.tab.2.2.2.2.1 j z sl' hz hsl' he

theorem Sm.exclLt (X : Sm K P oa ρ G s) {i : Nat} {y : PySem.Str} {sl : Slot} (hn : P.names[i]? = some y) (hs : ρ[i]? = some sl) (he : sl.excl = true) : oa i < s.heap.objs.size := let ⟨_, h⟩ := X.exclGet hn hs he; Heap.lt_size h

theorem Sm.putExt (X : Sm K P oa ρ G s) {i : Nat} {y : PySem.Str} {sl : Slot} {xs ys : List D} (hn : P.names[i]? = some y) (hs : ρ[i]? = some sl) (hsl : sl = .own xs ∨ sl = .io xs) {h' : Heap} {tk : Nat} {us : Array Value} {c : Nat}
    (hk : ∀ b o, b ≠ oa i → b ≠ K.pT → s.heap.get? b = some o → h'.get? b = some o) (htab : ∃ o, h'.get? K.pT = some o ∧ K.TabOk (Mine.ext G s.heap.objs.size h') o) (hget : h'.get? (oa i) = some (lst us c)) (hr : RepL K (Mine.ext G s.heap.objs.size h') ys us.toList) :
    Sub G (Mine.ext G s.heap.objs.size h') ∧ Sm K P oa (ρ.set i (sl.repl ys)) (Mine.ext G s.heap.objs.size h') { s with heap := h', toks := tk } := by
  have hx : sl.excl = true := by rcases hsl with rfl | rfl <;> rfl
  have ho := X.off i y sl hn hs hx
  have hkG : ∀ b o, G b = some o → h'.get? b = some o := fun b o e => hk b o (fun hb => by rw [hb, ho.1] at e; cases e) (fun hb => by rw [hb, X.tab.2.1] at e; cases e) (X.inc b o e)
  have hG : Sub G (Mine.ext G s.heap.objs.size h') := sub_ext X.inc hkG
  refine ⟨hG, X.put hn hs hsl hG (fun b o h1 _ h3 e => hk b o h1 h3 e) (fun m hm => ?_) hget hr (fun b o e => ?_) ?_ (fun j z sl' hz hs' he => ?_) (fun b o hb e => ?_) (fun b o hb => ?_) ?_ htab⟩
  · obtain ⟨o, es, ep, ho', r⟩ := hm
    exact ⟨o, es, ep, hk _ _ (Ne.symm ho.2.1) (Ne.symm X.tab.2.2.1) ho', r⟩
  · unfold Mine.ext at e
    split at e
    · exact hkG b o e
    · exact e
  · unfold Mine.ext; rw [if_pos X.ltL]; exact X.offL
  · unfold Mine.ext; rw [if_pos (X.exclLt hz hs' he)]; exact (X.off j z sl' hz hs' he).1
  · have hlt : b < s.heap.objs.size := Nat.lt_trans (Nat.lt_of_lt_of_le hb X.above) X.ltL
    unfold Mine.ext at e; rw [if_pos hlt] at e
    exact X.old b o hb e
  · obtain ⟨b1, b2, _⟩ := X.ban b o hb
    unfold Mine.ext; rw [if_pos (Heap.lt_size b1)]; exact b2
  · obtain ⟨⟨o, t1, _⟩, t3, _⟩ := X.tab
    unfold Mine.ext; rw [if_pos (Heap.lt_size t1)]; exact t3

theorem setItem_own {a : Addr} {us : Array Value} {c : Nat} {k : Int} {t : Tok} {v : Value} {Q : Unit → Shared → Prop} (ho : s.heap.get? a = some (lst us c)) (h0 : 0 ≤ k) (hfit : k < 2 ^ 63) (hn : k < us.size)
    (hQ : ∀ h' c', h'.get? a = some (lst (us.setIfInBounds k.toNat v) c') → Heap.SameBut a s.heap h' → Q () { s with heap := h' }) :
    WP K A E (setItem (.ref a) (.int k t) v) Q s := by
  have hl : s.heap.IsList a us := ⟨_, ho, rfl, _, rfl⟩
  unfold setItem
  refine wpAny_holding ?_
  refine wpAny_bind (wpAny_sequenceKey hl.typeIs (by decide) ?_)
  refine wpAny_bind (wpAny_callSpecial?_slot (name := PySem.Str.ofString "__setitem__") hl.typeIs slot_list_setitem
    (wpAny_call_entry slot_list_setitem hl.typeIs entry_list_setitem ?_ (args_list_setitem _ _ _)))
  show wpAny _ _ (Builtin.List.listSubscript? (.int k t) >>= _) _ _ s
  refine wpAny_bind (wpAny_listSubscript_int (fitsIndex_of h0 hfit) ?_)
  clear hfit
  obtain ⟨j, rfl⟩ := Int.eq_ofNat_of_zero_le h0
  have hj : j < us.size := by (first | grind | omega)
  have hx' : us[j]? = some us[j] := Array.getElem?_eq_getElem hj
  show wpAny _ _ ((seqItemAt a j >>= fun r => pure (r.map (j, ·))) >>= _) _ _ s
  refine wpAny_bind (wpAny_bind (wpAny_seqItemAt ho rfl (wpAny_pure ?_)))
  rw [hx']
  show wpAny _ _ (setSeqItemAt a j v >>= _) _ _ s
  have hfin : ∃ c', (s.heap.update a (Obj.mapSeq (·.setIfInBounds j v))).get? a = some (lst (us.setIfInBounds j v) c') :=
    ⟨_, Heap.get?_update_self _ ho (Obj.isFreed_of_seq rfl)⟩
  obtain ⟨c', hfin⟩ := hfin
  refine wpAny_bind (wpAny_setSeqItemAt ho rfl ?_)
  first
    | exact wpAny_bind (wpAny_pure (wpAny_pure ⟨.none, rfl, wpAny_pure (hQ _ _ hfin (Heap.SameBut.update ..))⟩))
    | exact wpAny_pure ⟨.none, rfl, wpAny_pure (hQ _ _ hfin (Heap.SameBut.update ..))⟩

theorem Sm.put' (X : Sm K P oa ρ G s) {i : Nat} {y : PySem.Str} {sl : Slot} {xs ys : List D} (hn : P.names[i]? = some y) (hs : ρ[i]? = some sl) (hsl : sl = .own xs ∨ sl = .io xs) {h' : Heap} {tk : Nat} {us : Array Value} {c : Nat}
    (hk : Heap.SameBut (oa i) s.heap h') (hget : h'.get? (oa i) = some (lst us c)) (hr : RepL K G ys us.toList) : Sm K P oa (ρ.set i (sl.repl ys)) G { s with heap := h', toks := tk } := by
  have hx : sl.excl = true := by rcases hsl with rfl | rfl <;> rfl
  have get : ∀ b o, b ≠ oa i → s.heap.get? b = some o → h'.get? b = some o := fun b o hb e => (hk.2 b hb).trans e
  have ho := X.off i y sl hn hs hx
  refine X.put hn hs hsl (Sub.refl G) (fun b o h1 _ _ e => get b o h1 e) (fun m hm => ?_) hget hr (fun b o e => ?_) X.offL (fun j z sl' hz hs' he => (X.off j z sl' hz hs' he).1) X.old (fun b o hb => (X.ban b o hb).2.1) X.tab.2.1 (let ⟨⟨o, t1, t2⟩, _, _, _, t6, _⟩ := X.tab; ⟨o, get _ _ (Ne.symm (t6 i y sl hn hs hx)) t1, t2⟩)
  · obtain ⟨o, es, ep, ho', r⟩ := hm
    exact ⟨o, es, ep, get _ _ (Ne.symm ho.2.1) ho', r⟩
  · exact get b o (fun hb => by rw [hb, ho.1] at e; cases e) (X.inc b o e)

theorem Sm.less {B : List (Addr × Obj)} (X : Sm K P oa ρ G s) (h : ∀ x ∈ B, x ∈ P.ban) : Sm K { P with ban := B } oa ρ G s :=
  ⟨X.same, X.slots, X.nodup, X.inc, X.offL, X.off, X.apart, X.keep, X.old, X.above, X.iol, X.top, X.topL, fun b o hb => X.ban b o (h _ hb), let ⟨t1, t2, t3, t4, t5, t6, t7⟩ := X.tab; ⟨t1, t2, t3, t4, t5, fun b o hb => t6 b o (h _ hb), t7⟩, X.len⟩

theorem Sm.more {B : List (Addr × Obj)} {a : Addr} {o : Obj} (X : Sm K { P with ban := B } oa ρ G s) (h1 : s.heap.get? a = some o) (h2 : G a = none) (h3 : s.heap.objs.size ≤ a ∨ a ≠ P.env.locals) (h4 : K.hT.get? a = none) (h5 : P.s₀.heap.objs.size ≤ a) (h6 : ∀ i y sl, P.names[i]? = some y → ρ[i]? = some sl → sl.excl = true → oa i ≠ a) :
    Sm K { P with ban := (a, o) :: B } oa ρ G s :=
  ⟨X.same, X.slots, X.nodup, X.inc, X.offL, X.off, X.apart, X.keep, X.old, X.above, X.iol, X.top, X.topL, fun b o' hb => by
    rcases List.mem_cons.mp hb with e | e
    · cases e
      exact ⟨h1, h2, by
        rcases h3 with h3 | h3
        · exact fun e => absurd (Heap.lt_size h1) (Nat.not_lt.mpr h3)
        · exact h3, h4, h5, h6⟩
    · exact X.ban b o' e, let ⟨t1, t2, t3, t4, t5, t6, t7⟩ := X.tab; ⟨t1, t2, t3, t4, t5, fun b o' hb => by
      rcases List.mem_cons.mp hb with e | e
      · cases e
        exact fun e => absurd t7 (Nat.not_lt.mpr (e ▸ h5))
      · exact t6 b o' e, t7⟩, X.len⟩

theorem Sm.pushed {a : Addr} {o : Obj} {h' : Heap} {tk : Nat} (X : Sm K P oa ρ G s) (y : Stp K P.env.locals s.heap h') (ha : s.heap.objs.size ≤ a) (g : h'.get? a = some o) :
    Sm K { P with ban := (a, o) :: P.ban } oa ρ G { s with heap := h', toks := tk } ∧ ∀ b o', (b, o') ∈ P.ban → a ≠ b := by
  have hnew : ∀ b o', s.heap.get? b = some o' → a ≠ b := fun b o' e h => absurd (Heap.lt_size e) (Nat.not_lt.mpr (h ▸ ha))
  refine ⟨Sm.more (P := P) (B := P.ban) (X.stp y) g ?_ (.inr (Nat.ne_of_gt (Nat.lt_of_lt_of_le X.ltL ha))) ?_ ?_ ?_, fun b o' hb => hnew b o' (X.ban b o' hb).1⟩
  · cases hg : G a with
    | none => rfl
    | some o' => exact absurd rfl (hnew a o' (X.inc _ _ hg))
  · cases hg : K.hT.get? a with
    | none => rfl
    | some o' => exact absurd rfl (hnew a o' (X.top _ _ hg))
  · exact Nat.le_trans (Nat.le_trans X.above (Nat.le_of_lt X.ltL)) ha
  · intro i y sl hn hs he h
    obtain ⟨o', e⟩ := X.exclGet hn hs he
    exact hnew _ _ e h.symm

theorem idx_eq (X : Sm K P oa ρ G s) {i j : Nat} {x : PySem.Str} (hi : P.names[i]? = some x) (hj : P.names[j]? = some x) : i = j := by
  exact (List.getElem?_inj (List.getElem?_eq_some_iff.mp hi).1 X.nodup).mp (hi.trans hj.symm)

theorem set_get {i j : Nat} {sl sl' : Slot} (h : (ρ.set i sl)[j]? = some sl') : (i = j ∧ sl' = sl) ∨ (i ≠ j ∧ ρ[j]? = some sl') := by
  by_cases hj : i = j
  · subst hj
    rw [List.getElem?_set] at h
    simp only [if_true] at h
    split at h
    · cases h; exact .inl ⟨rfl, rfl⟩
    · cases h
  · rw [List.getElem?_set_ne hj] at h; exact .inr ⟨hj, h⟩

theorem Sm.storeV {i : Nat} {x : PySem.Str} {d : D} {v : Value} {Q : Unit → Shared → Prop} (X : Sm K P oa ρ G s) (hf : P.env.scope.kind = .function) (hn : P.names[i]? = some x) (hl : P.env.kindOf x = some .local) (r : Rep K G d v)
    (hQ : ∀ s', Sm K P oa (ρ.set i (.val d)) G s' → Q () s') : WP K A E (storeName P.env x v) Q s := by
  obtain ⟨m, hm, hs⟩ := X.slots
  refine wpAny_storeName_local hl hm (fun h' hn' hsb => hQ _ ?_) (by rw [hf]; rfl)
  have get : ∀ b o, b ≠ P.env.locals → s.heap.get? b = some o → h'.get? b = some o := fun b o hb e => (hsb.2 b hb).trans e
  refine ⟨?_, ⟨_, hn', fun j z sl hz hsl => ?_⟩, X.nodup, fun b o e => ?_, X.offL, fun j z sl hz hsl he => ?_, fun j j' z z' sl sl' hz hz' h1 h2 he he' => ?_, fun b o e hio => ?_, X.old, X.above, X.iol, fun b o e => ?_, X.topL, fun b o hb => ?_, ?_, by rw [List.length_set]; exact X.len⟩
  · obtain ⟨h, t, rfl⟩ := X.same; exact ⟨h', _, rfl⟩
  · rcases set_get hsl with ⟨rfl, rfl⟩ | ⟨hj, hsl⟩
    · rw [hn] at hz; cases hz
      exact .inl ⟨hl, v, if_pos rfl, r⟩
    · have hx : z ≠ x := fun e => hj (idx_eq X hn (e ▸ hz))
      have := hs j z sl hz hsl
      cases sl with
      | unset => trivial
      | val d' =>
        rcases this with ⟨k, w, e, r⟩ | h
        · exact .inl ⟨k, w, (if_neg hx).trans e, r⟩
        · exact .inr h
      | own xs => obtain ⟨k, e, vs, n, g, r⟩ := this; exact ⟨k, (if_neg hx).trans e, vs, n, get _ _ (X.off j z _ hz hsl rfl).2.1 g, r⟩
      | io xs => obtain ⟨k, e, io, vs, n, g, r⟩ := this; exact ⟨k, (if_neg hx).trans e, io, vs, n, get _ _ (X.off j z _ hz hsl rfl).2.1 g, r⟩
      | cel => obtain ⟨k, e, o, g, r⟩ := this; exact ⟨k, e, o, get _ _ (X.off j z _ hz hsl rfl).2.1 g, r⟩
  · exact get b o (fun hb => by rw [hb, X.offL] at e; cases e) (X.inc b o e)
  · rcases set_get hsl with ⟨rfl, rfl⟩ | ⟨hj, hsl⟩
    · cases he
    · exact X.off j z sl hz hsl he
  · rcases set_get h1 with ⟨rfl, rfl⟩ | ⟨hj, h1⟩
    · cases he
    · rcases set_get h2 with ⟨rfl, rfl⟩ | ⟨hj, h2⟩
      · cases he'
      · exact X.apart j j' z z' sl sl' hz hz' h1 h2 he he'
  · exact fun hp => get b o (Nat.ne_of_lt (Nat.lt_of_lt_of_le (Heap.lt_size e) X.above)) (X.keep b o e hio hp)
  · exact get b o (Nat.ne_of_lt (Nat.lt_of_lt_of_le (Heap.lt_size e) X.topL)) (X.top b o e)
  · obtain ⟨b1, b2, b3, b4, b5, b6⟩ := X.ban b o hb
    refine ⟨get b o b3 b1, b2, b3, b4, b5, fun j z sl hz hsl he => ?_⟩
    rcases set_get hsl with ⟨rfl, rfl⟩ | ⟨hj, hsl⟩
    · cases he
    · exact b6 j z sl hz hsl he
  · obtain ⟨⟨o, t1, t2⟩, t3, t4, t5, t6, t7, t8⟩ := X.tab
    refine ⟨⟨o, get _ _ t4 t1, t2⟩, t3, t4, t5, fun j z sl hz hsl he => ?_, t7, t8⟩
    rcases set_get hsl with ⟨rfl, rfl⟩ | ⟨hj, hsl⟩
    · cases he
    · exact t6 j z sl hz hsl he

noncomputable def upd (oa : Nat → Addr) (i : Nat) (a : Addr) : Nat → Addr := fun j => if j = i then a else oa j

theorem Sm.storeO {i : Nat} {x : PySem.Str} {xs : List D} {a : Addr} {us : Array Value} {n : Nat} {B : List (Addr × Obj)} {Q : Unit → Shared → Prop} (X : Sm K { P with ban := (a, lst us n) :: B } oa ρ G s) (hf : P.env.scope.kind = .function) (hn : P.names[i]? = some x) (hl : P.env.kindOf x = some .local) (r : RepL K G xs us.toList)
    (hB : ∀ b o, (b, o) ∈ B → a ≠ b) (hQ : ∀ s', Sm K { P with ban := B } (upd oa i a) (ρ.set i (.own xs)) G s' → Q () s') : WP K A E (storeName P.env x (.ref a)) Q s := by
  obtain ⟨m, hm, hs⟩ := X.slots
  obtain ⟨a1, a2, a3, a4, a5, a6⟩ := X.ban a _ (.head _)
  refine wpAny_storeName_local hl hm (fun h' hn' hsb => hQ _ ?_) (by rw [hf]; rfl)
  have get : ∀ b o, b ≠ P.env.locals → s.heap.get? b = some o → h'.get? b = some o := fun b o hb e => (hsb.2 b hb).trans e
  have up : ∀ {j}, i ≠ j → upd oa i a j = oa j := fun h => if_neg (Ne.symm h)
  have upi : upd oa i a i = a := if_pos rfl
  refine ⟨?_, ⟨_, hn', fun j z sl hz hsl => ?_⟩, X.nodup, fun b o e => ?_, X.offL, fun j z sl hz hsl he => ?_, fun j j' z z' sl sl' hz hz' h1 h2 he he' => ?_, fun b o e hio => ?_, X.old, X.above, X.iol, fun b o e => ?_, X.topL, fun b o hb => ?_, ?_, by rw [List.length_set]; exact X.len⟩
  · obtain ⟨h, t, rfl⟩ := X.same; exact ⟨h', _, rfl⟩
  · rcases set_get hsl with ⟨rfl, rfl⟩ | ⟨hj, hsl⟩
    · have hzx : z = x := by have h1 : P.names[i]? = some z := hz; rw [hn] at h1; exact (Option.some.inj h1).symm
      subst hzx
      rw [upi]
      exact ⟨hl, if_pos rfl, us, n, get _ _ a3 a1, r⟩
    · have hx : z ≠ x := fun e => hj (idx_eq X hn (e ▸ hz))
      have := hs j z sl hz hsl
      rw [up hj]
      cases sl with
      | unset => trivial
      | val d' =>
        rcases this with ⟨k, w, e, r⟩ | h
        · exact .inl ⟨k, w, (if_neg hx).trans e, r⟩
        · exact .inr h
      | own xs => obtain ⟨k, e, vs, n, g, r⟩ := this; exact ⟨k, (if_neg hx).trans e, vs, n, get _ _ (X.off j z _ hz hsl rfl).2.1 g, r⟩
      | io xs => obtain ⟨k, e, io, vs, n, g, r⟩ := this; exact ⟨k, (if_neg hx).trans e, io, vs, n, get _ _ (X.off j z _ hz hsl rfl).2.1 g, r⟩
      | cel => obtain ⟨k, e, o, g, r⟩ := this; exact ⟨k, e, o, get _ _ (X.off j z _ hz hsl rfl).2.1 g, r⟩
  · exact get b o (fun hb => by rw [hb, X.offL] at e; cases e) (X.inc b o e)
  · rcases set_get hsl with ⟨rfl, rfl⟩ | ⟨hj, hsl⟩
    · rw [upi]; exact ⟨a2, a3, a4, .inr a5⟩
    · rw [up hj]; exact X.off j z sl hz hsl he
  · rcases set_get h1 with ⟨rfl, rfl⟩ | ⟨hj, h1⟩
    · rcases set_get h2 with ⟨rfl, rfl⟩ | ⟨hj, h2⟩
      · intro _; rfl
      · rw [upi, up hj]; intro e; exact absurd e.symm (a6 j' z' sl' hz' h2 he')
    · rcases set_get h2 with ⟨rfl, rfl⟩ | ⟨hj', h2⟩
      · rw [upi, up hj]; intro e; exact absurd e (a6 j z sl hz h1 he)
      · rw [up hj, up hj']; exact X.apart j j' z z' sl sl' hz hz' h1 h2 he he'
  · exact fun hp => get b o (Nat.ne_of_lt (Nat.lt_of_lt_of_le (Heap.lt_size e) X.above)) (X.keep b o e hio hp)
  · exact get b o (Nat.ne_of_lt (Nat.lt_of_lt_of_le (Heap.lt_size e) X.topL)) (X.top b o e)
  · obtain ⟨b1, b2, b3, b4, b5, b6⟩ := X.ban b o (.tail _ hb)
    refine ⟨get b o b3 b1, b2, b3, b4, b5, fun j z sl hz hsl he => ?_⟩
    rcases set_get hsl with ⟨rfl, rfl⟩ | ⟨hj, hsl⟩
    · rw [upi]; exact hB b o hb
    · rw [up hj]; exact b6 j z sl hz hsl he
  · obtain ⟨⟨o, t1, t2⟩, t3, t4, t5, t6, t7, t8⟩ := X.tab
    refine ⟨⟨o, get _ _ t4 t1, t2⟩, t3, t4, t5, fun j z sl hz hsl he => ?_, fun b o hb => t7 b o (.tail _ hb), t8⟩
    rcases set_get hsl with ⟨rfl, rfl⟩ | ⟨hj, hsl⟩
    · rw [upi]; exact t7 a _ (.head _)
    · rw [up hj]; exact t6 j z sl hz hsl he

theorem Sm.storeC {i : Nat} {x : PySem.Str} {d : D} {v : Value} {Q : Unit → Shared → Prop} (X : Sm K P oa ρ G s) (hf : P.env.scope.kind = .function) (hn : P.names[i]? = some x) (hs : ρ[i]? = some .cel) (r : Rep K G d v)
    (hQ : ∀ G' s', Sub G G' → Sm K P oa (ρ.set i (.val d)) G' s' → Q () s') : WP K A E (storeName P.env x v) Q s := by
  obtain ⟨m, hm, hsl⟩ := X.slots
  obtain ⟨k, e, hc⟩ := hsl i x _ hn hs
  obtain ⟨o1, o2, o3, o4⟩ := X.off i x _ hn hs rfl
  have o4 : P.s₀.heap.objs.size ≤ oa i := by
    rcases o4 with ⟨_, e⟩ | h
    · cases e
    · exact h
  refine wpAny_storeName_cell hf k e hc fun h' hn' hsb => ?_
  obtain ⟨oc, hoc, hod⟩ := hn'
  have hlt : i < ρ.length := (List.getElem?_eq_some_iff.mp hs).1
  have get : ∀ b o, b ≠ oa i → s.heap.get? b = some o → h'.get? b = some o := fun b o hb e => (hsb.2 b hb).trans e
  let G' : PH := fun b => if b = oa i then some oc else G b
  have hG : Sub G G' := fun b o e => by
    show (if b = oa i then _ else G b) = _
    rw [if_neg (fun hb => by rw [hb, o1] at e; cases e)]; exact e
  have hne : ∀ {b}, b ≠ oa i → G' b = G b := fun h => if_neg h
  have hOne : ∀ j z sl, i ≠ j → P.names[j]? = some z → ρ[j]? = some sl → sl.excl = true → oa j ≠ oa i := fun j z sl hj hz hl he h => hj (X.apart j i z x sl _ hz hn hl hs he rfl h).symm
  refine hQ G' _ hG ⟨?_, ⟨m, ?_, fun j z sl hz hsl' => ?_⟩, X.nodup, fun b o e' => ?_, (hne (Ne.symm o2)).trans X.offL, fun j z sl hz hsl' he => ?_, fun j j' z z' sl sl' hz hz' h1 h2 he he' => ?_, fun b o e' hio => ?_, fun b o hb e' => ?_, X.above, X.iol, fun b o e' => ?_, X.topL, fun b o hb => ?_, ?_, by rw [List.length_set]; exact X.len⟩
  · obtain ⟨h, t, rfl⟩ := X.same; exact ⟨h', _, rfl⟩
  · obtain ⟨o, es, ep, g, r'⟩ := hm
    exact ⟨o, es, ep, get _ _ (Ne.symm o2) g, r'⟩
  · rcases set_get hsl' with ⟨rfl, rfl⟩ | ⟨hj, hsl'⟩
    · rw [hn] at hz; cases hz
      exact .inr ⟨.inl k, oa i, oc, v, e, if_pos rfl, hod, Rep.mono hG _ _ r⟩
    · exact ((hsl j z sl hz hsl').mono hG).stp fun he o e' => get _ _ (hOne j z sl hj hz hsl' he) e'
  · by_cases hb : b = oa i
    · subst hb
      have : some oc = some o := (if_pos rfl).symm.trans e'
      cases this; exact hoc
    · exact get b o hb (X.inc b o ((hne hb).symm.trans e'))
  · rcases set_get hsl' with ⟨rfl, rfl⟩ | ⟨hj, hsl'⟩
    · cases he
    · have := X.off j z sl hz hsl' he
      exact ⟨(hne (hOne j z sl hj hz hsl' he)).trans this.1, this.2⟩
  · rcases set_get h1 with ⟨rfl, rfl⟩ | ⟨hj, h1⟩
    · cases he
    · rcases set_get h2 with ⟨rfl, rfl⟩ | ⟨hj, h2⟩
      · cases he'
      · exact X.apart j j' z z' sl sl' hz hz' h1 h2 he he'
  · exact fun hp => get b o (Nat.ne_of_lt (Nat.lt_of_lt_of_le (Heap.lt_size e') o4)) (X.keep b o e' hio hp)
  · have hbo : b ≠ oa i := Nat.ne_of_lt (Nat.lt_of_lt_of_le hb o4)
    exact X.old b o hb ((hne hbo).symm.trans e')
  · exact get b o (fun hb => by rw [hb, o3] at e'; cases e') (X.top b o e')
  · obtain ⟨b1, b2, b3, b4, b5, b6⟩ := X.ban b o hb
    have hbo : b ≠ oa i := fun h => b6 i x _ hn hs rfl h.symm
    refine ⟨get b o hbo b1, (hne hbo).trans b2, b3, b4, b5, fun j z sl hz hsl he => ?_⟩
    rcases set_get hsl with ⟨rfl, rfl⟩ | ⟨hj, hsl⟩
    · cases he
    · exact b6 j z sl hz hsl he
  · obtain ⟨⟨o, t1, t2⟩, t3, t4, t5, t6, t7, t8⟩ := X.tab
    have hpo : K.pT ≠ oa i := Ne.symm (t6 i x _ hn hs rfl)
    refine ⟨⟨o, get _ _ hpo t1, K.tabMono _ _ _ hG t2⟩, (hne hpo).trans t3, t4, t5, fun j z sl hz hsl he => ?_, t7, t8⟩
    rcases set_get hsl with ⟨rfl, rfl⟩ | ⟨hj, hsl⟩
    · cases he
    · exact t6 j z sl hz hsl he
end

section
variable {K : Cfg} {X : Ctx K} {A : Around} {E : Value → Shared → Prop} {R : Prop} {oa : Nat → Addr} {ρ : MEnv} {G : PH} {s : Shared} {Q : D → MEnv → Prop} {Qv : Value → Shared → Prop}

theorem es_callio (ok : CtxOk X) {k q i qi p : Nat} {es : List ME} (hg : okG X.kd (nm k) = true) (h : AllE (ES X) es) : ES X (.callio k q i qi es p) := by
  intro R E hR oa ρ G s Q Qv he x hQ
  obtain ⟨hk, o, fd, ho, hfd⟩ := ok.W.fn k
  obtain ⟨sl0, xs0, hs0, hsl0, he, _⟩ := x.ownAt he
  refine Call_ (glob_name ok x hg hk (Calls.callWith_function (o := o) (fd := fd) (evalArgs_ok (fun e he => ?_) ?_))) (by rfl)
  · rcases List.mem_cons.mp he with rfl | he
    · rfl
    · exact toEs_star es _ e he
  rw [starEach_cons rfl]
  refine Calls.spliced_cons (eval_nm ok x hs0 (load_own ok x hs0 hsl0 ?_))
  refine args_ok hR es h _ _ _ _ _ he x fun ds ρ1 q vs G1 s1 hG1 x1 r1 _ => ⟨⟨x1.top _ _ ho, hfd⟩, ?_⟩
  obtain ⟨sl, xs, hs1, hsl, q, us, c, hu, hr⟩ := x1.ownAt q
  have hx : sl.excl = true := by rcases hsl with rfl | rfl <;> rfl
  have hn := x1.name hs1
  have hoff := x1.off i _ sl hn hs1 hx
  refine ok.hC.io k xs ds _ q X.A E G1 s1 vs (oa i) us c Qv (x1.callIn ok.hA) (x1.tab.2.2.2.2.1 i _ sl hn hs1 hx) hoff.1 hoff.2.2.1 hu hr r1 fun d ys q v h' tk us' c' hk' ht' hg' hr' hd' => ?_
  obtain ⟨a, b⟩ := x1.putExt (tk := tk) hn hs1 hsl hk' ht' hg' hr'
  exact hQ _ _ q v _ _ (hG1.trans a) b hd'

/-! new lists -/
noncomputable def GL {K : Cfg} (X : Ctx K) (e : ME) : Prop := ∀ R E, (R → RP X E) → ∀ oa ρ G s Q Qv, wpE X.C e R ρ Q → Sm K X.P oa ρ G s → (∀ xs ρ', Q (.list xs) ρ' → ∀ G' s', Sub G G' → Sm K X.P oa ρ' G' s' → NewL K X.P G' s' xs Qv) → WP K X.A E (eval (toE e X.P.names) X.P.env) Qv s
theorem gl_list {es : List ME} {p : Nat} (h : AllE (ES X) es) (hl : es.length ≤ 64) : GL X (.list es p) := fun R E hR oa _ _ _ _ _ he x hQ =>
  List_ (args_ok hR es h _ _ _ _ _ he x fun ds ρ1 q vs G1 s1 hG1 x1 r1 hlen => wpAny_newList (hQ _ _ q G1 s1 hG1 x1 _ vs.toArray _ (Stp.push _ _ _) (Heap.get?_push_size _ rfl) r1) (by rw [r1.length, hlen]; exact le_line (Nat.le_trans hl (by decide))))
/-- frozen as soon as made -/
noncomputable def LS {K : Cfg} (X : Ctx K) (e : ME) : Prop := ∀ R E, (R → RP X E) → ∀ oa ρ G s Q Qv, wpE X.C e R ρ Q → Sm K X.P oa ρ G s → (∀ xs ρ', Q (.list xs) ρ' → ∀ v G' s', Sub G G' → Sm K X.P oa ρ' G' s' → Rep K G' (.list xs) v → Qv v s') → WP K X.A E (eval (toE e X.P.names) X.P.env) Qv s
theorem GL.ls {e : ME} (h : GL X e) : LS X e := fun R E hR oa ρ G s Q Qv he x hQ => h R E hR oa ρ G s Q Qv he x fun xs ρ' q G' s' hG x' h' vs n y g r =>
  Post.newL (X := X) (oa := oa) (Q := fun d ρ'' => d = .list xs ∧ ρ'' = ρ') (fun d ρ'' e v G'' s'' a b c => by obtain ⟨rfl, rfl⟩ := e; exact hQ xs ρ'' q v G'' s'' (hG.trans a) b c) x' ⟨rfl, rfl⟩ h' vs n y g r
theorem gl_mul {a b : ME} {p : Nat} (ha : LS X a) (hb : ES X b) : GL X (.bin .Mult a b p) := fun R E hR oa _ _ _ Q _ he x hQ =>
  wpAny_BinOp (ha R E hR oa _ _ _ _ _ he x fun xs ρ1 h1 v G1 s1 hG1 x1 r1 => hb R E hR oa _ _ _ _ _ h1 x1 fun y ρ2 h2 u G2 s2 hG2 x2 r2 => by
    cases y with
    | int n => obtain ⟨t, rfl⟩ := r2; exact mul_ok (Z := fun z => Q (.list z) ρ2) h2 x2 (Rep.mono hG2 _ _ r1) fun z q => hQ _ _ q G2 s2 (hG1.trans hG2) x2
    | list ys => exact absurd h2.1 (by decide)
    | _ => exact h2.elim)
theorem gl_add {a b : ME} {p : Nat} (ha : ES X a) (hb : LS X b) : GL X (.bin .Add a b p) := fun R E hR oa _ _ _ Q _ he x hQ =>
  wpAny_BinOp (ha R E hR oa _ _ _ _ _ he x fun y ρ1 h1 v G1 s1 hG1 x1 r1 => hb R E hR oa _ _ _ _ _ h1 x1 fun xs ρ2 h2 u G2 s2 hG2 x2 r2 => by
    cases y with
    | list ys => exact cat_ok (Z := fun z => Q (.list z) ρ2) h2 x2 (Rep.mono hG2 _ _ r1) r2 fun z q => hQ _ _ q G2 s2 (hG1.trans hG2) x2
    | _ => exact h2.elim)
noncomputable def PostN {K : Cfg} (X : Ctx K) (oa : Nat → Addr) (G : PH) (Q : D → MEnv → Prop) (Qv : Value → Shared → Prop) : Prop :=
  ∀ xs ρ', Q (.list xs) ρ' → ∀ a us n G' s', Sub G G' → Sm K { X.P with ban := (a, lst us n) :: X.P.ban } oa ρ' G' s' → RepL K G' xs us.toList → (∀ b o', (b, o') ∈ X.P.ban → a ≠ b) → Qv (.ref a) s'
theorem GL.ns {e : ME} (h : GL X e) (hR : R → RP X E) (he : wpE X.C e R ρ Q) (x : Sm K X.P oa ρ G s) (hQ : PostN X oa G Q Qv) : WP K X.A E (eval (toE e X.P.names) X.P.env) Qv s :=
  h R E hR oa ρ G s Q Qv he x fun xs ρ' q G' s' hG x' h' vs n y g r => by
    obtain ⟨x1, x2⟩ := x'.pushed (tk := s'.toks) y (Nat.le_refl _) g
    exact hQ xs ρ' q _ vs n G' _ hG x1 r x2
end
end Mine

set_option autoImplicit false
set_option linter.all false
set_option maxRecDepth 100000
namespace Mine
open PySem PySem.W PySem.Calls PyProof.Rows

noncomputable def isCompE : Expr → Bool
  | .ListComp _ _ _ _ => true
  | .SetComp _ _ _ _ => true
  | .DictComp _ _ _ _ _ => true
  | _ => false
theorem noSwap {e : Expr} {t : Option Expr} {l : Nat} {env : Env} (h : isCompE e = false) : swapsWith e t l env = pure false := by
  cases e <;> first | rfl | (cases h)

noncomputable def FlowOk (K : Cfg) (G : PH) (f : Fl) (fl : Flow) : Prop := match f with
  | .next => fl = .next
  | .ret d => ∃ v, fl = .ret v ∧ Rep K G d v
noncomputable def XPost {K : Cfg} (X : Ctx K) (G : PH) (Q : Fl → MEnv → Prop) (Qv : Flow → Shared → Prop) : Prop :=
  ∀ f ρ', Q f ρ' → ∀ oa' G' s' fl, Sub G G' → Sm K X.P oa' ρ' G' s' → FlowOk K G' f fl → Qv fl s'
noncomputable def XS {K : Cfg} (X : Ctx K) (st : MS) : Prop :=
  ∀ R E, (R → RP X E) → ∀ oa ρ G s Q Qv, wpS X.C st R ρ Q → Sm K X.P oa ρ G s → XPost X G Q Qv → WP K X.A E (exec (toS st X.P.names X.P.src) X.P.env) Qv s
noncomputable def BS {K : Cfg} (X : Ctx K) (b : List MS) : Prop :=
  ∀ R E, (R → RP X E) → ∀ oa ρ G s Q Qv, wpB X.C b R ρ Q → Sm K X.P oa ρ G s → XPost X G Q Qv → WP K X.A E (execs (toB b X.P.names X.P.src) X.P.env) Qv s

/-- a name that may be stored under -/
noncomputable def okL (kd : PySem.Str → Option NameKind) (N : List PySem.Str) (i : Nat) : Bool := kd (nmAt N i) == some .local && decide (i < N.length)
theorem nmAt_get {N : List PySem.Str} {i : Nat} (h : i < N.length) : N[i]? = some (nmAt N i) := by
  unfold nmAt
  rw [List.getD_eq_getElem?_getD, List.getElem?_eq_getElem h]; rfl

section
variable {K : Cfg} {X : Ctx K} {A : Around} {E : Value → Shared → Prop} {R : Prop} {oa : Nat → Addr} {ρ : MEnv} {G : PH} {s : Shared} {Q : Fl → MEnv → Prop} {Qv : Flow → Shared → Prop}

theorem XPost.mono {G' : PH} (h : XPost X G Q Qv) (hs : Sub G G') : XPost X G' Q Qv := fun f ρ' q oa' G'' s' fl a b c => h f ρ' q oa' G'' s' fl (hs.trans a) b c
theorem XPost.next (h : XPost X G Q Qv) (q : Q .next ρ) (x : Sm K X.P oa ρ G s) : Qv .next s := h .next ρ q oa G s .next (Sub.refl G) x rfl
theorem okL_iff (ok : CtxOk X) {i : Nat} (h : okL X.kd X.P.names i = true) : X.P.names[i]? = some (nmAt X.P.names i) ∧ X.P.env.kindOf (nmAt X.P.names i) = some .local := by
  obtain ⟨h1, h2⟩ := Bool.and_eq_true_iff.mp h
  exact ⟨nmAt_get (of_decide_eq_true h2), (ok.kd _).trans (eq_of_beq h1)⟩
theorem notInter (ok : CtxOk X) : interactive X.P.env = false := by
  unfold interactive; rw [ok.kindf]; rfl

theorem slotOf_not {n : Bool} {d : D} (h : n = false) : slotOf n d = .val d := by rw [h]; rfl
theorem xs_asg (ok : CtxOk X) {i pi p : Nat} {e : ME} (hi : okL X.kd X.P.names i = true) (hc : isCompE (toE e X.P.names) = false) (he : ES X e) (hn : newL e = false) : XS X (.asg (.one i pi) e p) := fun R E hR oa _ _ _ Q _ hev x hQ =>
  wpAny_Assign_Name (he R E hR oa _ _ _ _ _ hev x fun d ρ1 q v G1 s1 hG1 x1 r1 => x1.storeV ok.kindf (okL_iff ok hi).1 (okL_iff ok hi).2 r1 fun s' x' => by
    rw [hn] at q
    exact (hQ.mono hG1).next q x') (noSwap hc)
theorem xs_asgN (ok : CtxOk X) {i pi p : Nat} {e : ME} (hi : okL X.kd X.P.names i = true) (hc : isCompE (toE e X.P.names) = false) (he : GL X e) (hn : newL e = true) : XS X (.asg (.one i pi) e p) := fun R E hR oa _ _ _ Q _ hev x hQ =>
  wpAny_Assign_Name (he.ns hR hev x fun xs ρ1 q a us n G1 s1 hG1 x1 r1 hB => Sm.storeO (P := X.P) (B := X.P.ban) x1 ok.kindf (okL_iff ok hi).1 (okL_iff ok hi).2 r1 hB fun s' x' => by
    rw [hn] at q
    exact (hQ.mono hG1).next q x') (noSwap hc)
theorem xs_asgC (ok : CtxOk X) {i pi p : Nat} {e : ME} (hc : isCompE (toE e X.P.names) = false) (he : ES X e) : XS X (.asgC i pi e p) := fun R E hR oa _ _ _ Q _ hev x hQ =>
  wpAny_Assign_Name (he R E hR oa _ _ _ _ _ hev x fun d ρ1 q v G1 s1 hG1 x1 r1 => x1.storeC ok.kindf (x1.name q.1) q.1 r1 fun G' s' hG' x' => (hQ.mono (hG1.trans hG')).next q.2 x') (noSwap hc)
theorem xs_ret {e : ME} {p : Nat} (he : ES X e) : XS X (.ret e p) := fun R E hR oa _ _ _ Q _ hev x hQ =>
  wpAny_Return_some (he R E hR oa _ _ _ _ _ hev x fun d ρ1 q v G1 s1 hG1 x1 r1 => hQ _ _ q oa G1 s1 (.ret v) hG1 x1 ⟨v, rfl, r1⟩)
theorem xs_expr (ok : CtxOk X) {e : ME} {p : Nat} (hc : isCompE (toE e X.P.names) = false) (he : ES X e) : XS X (.expr e p) := fun R E hR oa _ _ _ Q _ hev x hQ =>
  wpAny_Expr (he R E hR oa _ _ _ _ _ hev x fun d ρ1 q v G1 s1 hG1 x1 r1 => by
    cases d with
    | none => cases r1; exact (hQ.mono hG1).next q x1
    | _ => exact q.elim) (notInter ok) (noSwap hc)

noncomputable def augOp : Operator → Bool
  | .Add => true | .Sub => true | .RShift => true | .Mod => true | .BitOr => true
  | _ => false
theorem inplace_ok {op : Operator} {a b : Int} {t u : Tok} {Z : Int → Prop} {Qv : Value → Shared → Prop} (hop : augOp op = true) (he : binI op a b Z) (hQ : ∀ z, Z z → ∀ t tk, Qv (.int z t) { s with toks := tk }) : WP K A E (inplaceOp op (.int a t) (.int b u)) Qv s := by
  cases op with
  | Add => exact iadd_int (hQ _ he _ _)
  | Sub => exact isub_int (hQ _ he _ _)
  | BitOr => exact ior_int (hQ _ he _ _)
  | Mod => exact imod_int he.1 (hQ _ he.2 _ _)
  | RShift => exact irshift_int he.1 (hQ _ he.2 _ _)
  | _ => cases hop
theorem xs_aug (ok : CtxOk X) {i pi p : Nat} {op : Operator} {e : ME} (hi : okL X.kd X.P.names i = true) (hop : augOp op = true) (he : ES X e) : XS X (.aug i pi op e p) := by
  intro R E hR oa ρ G s Q Qv hev x hQ
  have hev : valP ρ i fun x0 => intP x0 fun x0 => wpE X.C e R ρ fun y ρ => intP y fun y => binI op x0 y fun z => Q .next (ρ.set i (.val (.int z))) := hev
  unfold valP at hev
  cases hs : ρ[i]? with
  | none => rw [hs] at hev; exact hev.elim
  | some sl =>
    rw [hs] at hev
    cases sl with
    | val d =>
      refine wpAny_AugAssign_Name (load_val ok x hs fun v r => ?_)
      obtain ⟨a, t, rfl, _, hev⟩ := intP_inv hev r
      refine he R E hR oa _ _ _ _ _ hev x fun y ρ1 q u G1 s1 hG1 x1 r1 => ?_
      obtain ⟨b, t', rfl, _, q⟩ := intP_inv q r1
      exact inplace_ok hop q fun z q t tk => (x1.tok tk).storeV ok.kindf (okL_iff ok hi).1 (okL_iff ok hi).2 (d := .int z) ⟨_, rfl⟩ fun s' x' => (hQ.mono hG1).next q x'
    | _ => exact hev.elim
theorem xs_setI (ok : CtxOk X) {i pi q p : Nat} {ix e : ME} (hc : isCompE (toE e X.P.names) = false) (he : ES X e) (hi : ES X ix) : XS X (.setI i pi ix e q p) := by
  intro R E hR oa ρ G s Q Qv hev x hQ
  refine wpAny_Assign_Subscript (he R E hR oa _ _ _ _ _ hev x fun d ρ1 q v G1 s1 hG1 x1 r1 => ?_) (noSwap hc)
  obtain ⟨sl0, xs0, hs0, hsl0, q, _⟩ := x1.ownAt q
  refine eval_nm ok x1 hs0 (load_own ok x1 hs0 hsl0 ?_)
  refine hi R E hR oa _ _ _ _ _ q x1 fun j ρ2 q w G2 s2 hG2 x2 r2 => ?_
  obtain ⟨k, t, rfl, _, q⟩ := intP_inv q r2
  obtain ⟨sl, xs, hs, hsl, ⟨h0, h1, h2, q⟩, us, c, hu, hr⟩ := x2.ownAt q
  refine setItem_own hu h0 (by (first | grind | omega)) (by rw [hr.size]; exact h1) fun h' c' hg hsb => ?_
  exact (hQ.mono (hG1.trans hG2)).next q (x2.put' (tk := s2.toks) (x2.name hs) hs hsl hsb hg (ys := xs.set k.toNat d) (by rw [Array.toList_setIfInBounds]; exact RepL.set (Rep.mono hG2 _ _ r1) hr))
theorem xs_app (ok : CtxOk X) {i pi q q' p : Nat} {e : ME} (hp : (dp q).endLine = (dp q').line) (he : ES X e) : XS X (.app i pi e q q' p) := by
  intro R E hR oa ρ G s Q Qv hev x hQ
  obtain ⟨sl0, xs0, hs0, hsl0, hev, us0, c0, g0, _⟩ := x.ownAt (Z := fun _ _ => wpE X.C e R ρ fun d ρ => appP ρ i d fun ρ => Q .next ρ) hev
  refine wpAny_Expr ?_ (notInter ok) rfl
  refine meth_call rfl (one_star e _) (show 1 < 30 by decide) hp (eval_nm ok x hs0 (load_own ok x hs0 hsl0 fun pl => ?_))
  refine Calls.getMethod_list_append g0 rfl rfl (callWith_b (one_star e _) (arg1 (he R E hR oa _ _ _ _ _ hev x fun d ρ1 q v G1 s1 hG1 x1 r1 => ?_)))
  unfold appP at q
  cases hs : ρ1[i]? with
  | none => rw [hs] at q; exact q.elim
  | some sl =>
    rw [hs] at q
    cases sl with
    | own xs =>
      obtain ⟨m, _, hsl⟩ := x1.slots
      obtain ⟨_, _, us, c, hu, hr⟩ := hsl i _ _ (x1.name hs) hs
      refine wpAny_list_append_plain ⟨c, hu⟩ (fun h' hg hsb => ?_) (by rw [hr.size]; exact le_line (Nat.le_of_lt q.1))
      obtain ⟨c', hg⟩ := hg
      exact (hQ.mono hG1).next q.2 (x1.put' (tk := s1.toks) (x1.name hs) hs (.inl rfl) hsb hg (ys := xs ++ [d]) (by rw [Array.toList_push]; exact RepL.append hr (RepL.single r1)))
    | _ => exact q.elim

theorem bs_nil : BS X [] := fun _ _ _ _ _ _ _ _ _ hev x hQ => wpAny_execs_nil (hQ.next hev x)
theorem bs_cons {st : MS} {b : List MS} (h1 : XS X st) (h2 : BS X b) : BS X (st :: b) := fun R E hR oa _ _ _ Q _ hev x hQ =>
  wpAny_execs_cons (h1 R E hR oa _ _ _ _ _ hev x fun f ρ1 q oa1 G1 s1 fl hG1 x1 hf => by
    cases f with
    | next => cases hf; exact h2 R E hR _ _ _ _ _ _ q x1 (hQ.mono hG1)
    | ret d => obtain ⟨v, rfl, r⟩ := hf; exact hQ _ _ q oa1 G1 s1 _ hG1 x1 ⟨v, rfl, r⟩)
theorem xs_ite {t : ME} {a b : List MS} {p : Nat} (ht : TS X t) (ha : BS X a) (hb : BS X b) : XS X (.ite t a b p) := by
  intro R E hR oa ρ G s Q Qv hev x hQ
  refine wpAny_If (ht R E hR oa ρ G s (fun c ρ => brP c (wpB X.C a R ρ Q) (wpB X.C b R ρ Q)) _ hev x fun c ρ' q G1 s1 hG1 x1 => ?_)
  cases c with
  | true => rw [if_pos rfl]; exact ha R E hR oa _ _ _ _ _ (q.1 rfl) x1 (hQ.mono hG1)
  | false => rw [if_neg (by decide)]; exact hb R E hR oa _ _ _ _ _ (q.2 rfl) x1 (hQ.mono hG1)

theorem xs_whl {t : ME} {b : List MS} {p : Nat} (ht : TS X t) (hb : BS X b) : XS X (.whl t b p) := by
  intro R E hR oa ρ G s Q Qv hev x hQ
  obtain ⟨n, hev⟩ := hev
  refine wpAny_mono (E := fun _ _ => False) (wpAny_While (codeAny_whileLoop (fun n s' => ∃ oa1 ρ1 G1, Sub G G1 ∧ Sm K X.P oa1 ρ1 G1 s' ∧ whP (wpE X.C t False) (wpB X.C b False) Q n ρ1) (fun n s' hI => ?_) n ⟨oa, ρ, G, Sub.refl G, x, hev⟩)) (fun _ _ h => h) fun _ _ h => h.elim
  obtain ⟨oa1, ρ1, G1, hG1, x1, hw⟩ := hI
  cases n with
  | zero => exact hw.elim
  | succ n =>
    refine wpAny_mono (ht False (fun _ _ => False) (fun h => h.elim) oa1 ρ1 G1 s' (fun c ρ => brP c (wpB X.C b False ρ fun f ρ => flP f (whP (wpE X.C t False) (wpB X.C b False) Q n ρ) fun d => Q (.ret d) ρ) (Q .next ρ)) (fun c s2 => ∃ ρ2 G2, Sub G1 G2 ∧ Sm K X.P oa1 ρ2 G2 s2 ∧ brP c (wpB X.C b False ρ2 fun f ρ => flP f (whP (wpE X.C t False) (wpB X.C b False) Q n ρ) fun d => Q (.ret d) ρ) (Q .next ρ2)) hw x1 fun c ρ2 q G2 s2 hG2 x2 => ⟨ρ2, G2, hG2, x2, q⟩) (fun c s2 h2 => ?_) fun _ _ h => h.elim
    obtain ⟨ρ2, G2, hG2, x2, q⟩ := h2
    cases c with
    | true =>
      rw [if_pos rfl]
      refine hb False _ (fun h => h.elim) oa1 _ _ _ _ _ (q.1 rfl) x2 fun f ρ3 q oa3 G3 s3 fl hG3 x3 hf => ?_
      cases f with
      | next => cases hf; exact ⟨n, Nat.lt_succ_self n, oa3, ρ3, G3, (hG1.trans hG2).trans hG3, x3, q⟩
      | ret d => obtain ⟨v, rfl, r⟩ := hf; exact hQ _ _ q oa3 G3 s3 _ ((hG1.trans hG2).trans hG3) x3 ⟨v, rfl, r⟩
    | false =>
      rw [if_neg (by decide)]
      exact wpAny_execs_nil (hQ _ _ (q.2 rfl) oa1 G2 s2 _ (hG1.trans hG2) x2 rfl)
end
end Mine

set_option autoImplicit false
set_option linter.all false
set_option maxRecDepth 100000
namespace Mine
open PySem PySem.W PySem.Calls PyProof.Rows

/-! several targets -/
noncomputable def setAll (l : List (Nat × Slot)) (ρ : MEnv) : MEnv := match l with
  | [] => ρ
  | p :: l => setAll l (ρ.set p.1 p.2)
theorem setAll_set : ∀ (l : List (Nat × Slot)) (ρ : MEnv) (i : Nat) (y : Slot), i ∉ l.map (·.1) → setAll l (ρ.set i y) = (setAll l ρ).set i y
  | [], _, _, _, _ => rfl
  | p :: l, ρ, i, y, h => by
    show setAll l ((ρ.set i y).set p.1 p.2) = (setAll l (ρ.set p.1 p.2)).set i y
    rw [List.set_comm _ _ (fun e => h (by rw [e]; exact .head _) : i ≠ p.1), setAll_set l _ i y fun m => h (.tail _ m)]
theorem setAll_snoc : ∀ (l : List (Nat × Slot)) (ρ : MEnv) (p : Nat × Slot), setAll (l ++ [p]) ρ = (setAll l ρ).set p.1 p.2
  | [], _, _ => rfl
  | _ :: l, _, p => setAll_snoc l _ p
theorem setAll_reverse : ∀ (l : List (Nat × Slot)) (ρ : MEnv), (l.map (·.1)).Nodup → setAll l.reverse ρ = setAll l ρ
  | [], _, _ => rfl
  | p :: l, ρ, h => by
    rw [List.map_cons, List.nodup_cons] at h
    rw [List.reverse_cons, setAll_snoc, setAll_reverse l ρ h.2]
    exact (setAll_set l ρ p.1 p.2 h.1).symm
theorem bindS_inv : ∀ (is : List (Nat × Nat)) (sl : List Slot) (ρ : MEnv) (Z : MEnv → Prop), bindS is sl ρ Z → is.length = sl.length ∧ Z (setAll ((is.map (·.1)).zip sl) ρ)
  | [], [], _, _, h => ⟨rfl, h⟩
  | i :: is, x :: sl, ρ, Z, h => let ⟨a, b⟩ := bindS_inv is sl _ Z h; ⟨congrArg Nat.succ a, b⟩
  | [], _ :: _, _, _, h => h.elim
  | _ :: _, [], _, _, h => h.elim
theorem bindP_S : ∀ (is : List (Nat × Nat)) (ds : List D) (ρ : MEnv) (Z : MEnv → Prop), bindP is ds ρ Z → bindS is (ds.map .val) ρ Z
  | [], [], _, _, h => h
  | _ :: is, _ :: ds, _, Z, h => bindP_S is ds _ Z h
  | [], _ :: _, _, _, h => h.elim
  | _ :: _, [], _, _, h => h.elim

noncomputable def SlV (K : Cfg) (G : PH) (B : List (Addr × Obj)) (p : Slot × Value) : Prop := match p.1 with
  | .val d => Rep K G d p.2
  | .own xs => ∃ a us n, p.2 = .ref a ∧ (a, lst us n) ∈ B ∧ RepL K G xs us.toList
  | _ => False
/-- the list of the frame's own that a value is -/
noncomputable def ownA (p : Slot × Value) : Option Addr := match p with
  | (.own _, .ref a) => some a
  | _ => none
noncomputable def SlOk (K : Cfg) (G : PH) (B R : List (Addr × Obj)) (pv : List (Slot × Value)) : Prop :=
  (∀ p ∈ pv, SlV K G B p) ∧ (∀ p ∈ pv, ∀ a, ownA p = some a → ∀ o, (a, o) ∉ R) ∧ pv.Pairwise fun p q => ∀ a, ownA p = some a → ownA q ≠ some a
theorem SlV.mono {K : Cfg} {G G' : PH} {B B' : List (Addr × Obj)} {p : Slot × Value} (h : SlV K G B p) (hG : Sub G G') (hB : ∀ a, ownA p = some a → ∀ o, (a, o) ∈ B → (a, o) ∈ B') : SlV K G' B' p := by
  obtain ⟨x, v⟩ := p
  cases x with
  | val d => exact Rep.mono hG _ _ h
  | own xs =>
    obtain ⟨a, us, n, e, hb, r⟩ := h
    cases e
    exact ⟨a, us, n, rfl, hB a rfl _ hb, RepL.mono hG _ _ r⟩
  | _ => exact h.elim
theorem SlOk.reverse {K : Cfg} {G : PH} {B R : List (Addr × Obj)} {pv : List (Slot × Value)} (h : SlOk K G B R pv) : SlOk K G B R pv.reverse :=
  ⟨fun p hp => h.1 p (List.mem_reverse.mp hp), fun p hp => h.2.1 p (List.mem_reverse.mp hp), List.pairwise_reverse.mpr (h.2.2.imp fun hpq a e1 e2 => hpq a e2 e1)⟩

section
variable {K : Cfg} {X : Ctx K} {A : Around} {E : Value → Shared → Prop} {R : Prop} {oa : Nat → Addr} {ρ : MEnv} {G : PH} {s : Shared}

noncomputable abbrev Ctx.withB (X : Ctx K) (B : List (Addr × Obj)) : Ctx K := { X with P := { X.P with ban := B } }
theorem CtxOk.withB (ok : CtxOk X) (B : List (Addr × Obj)) : CtxOk (X.withB B) := ⟨ok.W, ok.hA, ok.hC, ok.glob, ok.kindf, ok.kd, ok.globals, ok.builtins, ok.cells, ok.nd, ok.io⟩
/-- what is shown of an item: whatever stands apart -/
noncomputable def SB (X : Ctx K) (e : ME) : Prop := (∀ B, ES (X.withB B) e) ∧ (newL e = true → ∀ B, GL (X.withB B) e)
/-- a raise, whatever stands apart -/
noncomputable def RB (X : Ctx K) (R : Prop) (E : Value → Shared → Prop) : Prop := ∀ B, R → RP (X.withB B) E

theorem RP.withB (h : R → RP X E) : RB X R E := fun _ r => ⟨(h r).io, (h r).call, (h r).made⟩

theorem sl_ok (hR : RB X R E) {pos : Pos} : ∀ (es : List ME), AllE (SB X) es → ∀ B0 oa ρ G s (Q : List Slot → MEnv → Prop) (Qv : List Value → Shared → Prop), wpSl X.C es R ρ Q → Sm K { X.P with ban := B0 } oa ρ G s →
    (∀ pv ρ', Q (pv.map (·.1)) ρ' → ∀ G' s' B, Sub G G' → Sm K { X.P with ban := B } oa ρ' G' s' → (∀ x ∈ B0, x ∈ B) → SlOk K G' B B0 pv → pv.length = es.length → Qv (pv.map (·.2)) s') → WP K X.A E (spliced (backTo pos (starEach (toEs es X.P.names) X.P.env))) Qv s
  | [], _, B0, _, _, G, s, _, _, he, x, hQ => Calls.spliced_nil (hQ [] _ he G s B0 (Sub.refl G) x (fun _ h => h) ⟨fun _ h => (nomatch h), fun _ h => (nomatch h), .nil⟩ rfl)
  | e :: es, h, B0, oa, ρ, G, s, Q, Qv, he, x, hQ => by
    show WP K X.A E (spliced (backTo pos (starEach (toE e X.P.names :: toEs es X.P.names) X.P.env))) _ _
    rw [starEach_cons (toE_star e _)]
    cases hn : newL e with
    | false =>
      refine Calls.spliced_cons (h.1.1 B0 R E (hR B0) oa _ _ _ _ _ he x fun d ρ1 q v G1 s1 hG1 x1 r1 => ?_)
      refine sl_ok hR es h.2 _ _ _ _ _ _ _ q x1 fun pv ρ2 q G2 s2 B hG2 x2 hB r2 hl => ?_
      rw [hn] at q
      refine hQ ((.val d, v) :: pv) _ q G2 s2 B (hG1.trans hG2) x2 hB ⟨fun p hp => ?_, fun p hp => ?_, List.pairwise_cons.mpr ⟨fun p _ a e => (nomatch e), r2.2.2⟩⟩ (congrArg Nat.succ hl)
      · rcases List.mem_cons.mp hp with rfl | hp
        · exact Rep.mono hG2 _ _ r1
        · exact r2.1 p hp
      · rcases List.mem_cons.mp hp with rfl | hp
        · intro a e; cases e
        · exact r2.2.1 p hp
    | true =>
      refine Calls.spliced_cons (GL.ns (X := X.withB B0) (h.1.2 hn B0) (hR B0) he x fun xs ρ1 q a us n G1 s1 hG1 x1 r1 hB0 => ?_)
      refine sl_ok hR es h.2 _ _ _ _ _ _ _ q x1 fun pv ρ2 q G2 s2 B hG2 x2 hB r2 hl => ?_
      rw [hn] at q
      refine hQ ((.own xs, .ref a) :: pv) _ q G2 s2 B (hG1.trans hG2) x2 (fun z hz => hB z (.tail _ hz)) ⟨fun p hp => ?_, fun p hp => ?_, List.pairwise_cons.mpr ⟨fun p hp b e e' => ?_, r2.2.2⟩⟩ (congrArg Nat.succ hl)
      · rcases List.mem_cons.mp hp with rfl | hp
        · exact ⟨a, us, n, rfl, hB _ (.head _), RepL.mono hG2 _ _ r1⟩
        · exact r2.1 p hp
      · rcases List.mem_cons.mp hp with rfl | hp
        · intro b e o ho; cases e; exact hB0 a o ho rfl
        · exact fun b e o ho => r2.2.1 p hp b e o (.tail _ ho)
      · cases e; exact r2.2.1 p hp a e' _ (.head _)

/-- what stores under a name -/
noncomputable def TgOk (X : Ctx K) (E : Value → Shared → Prop) (t : Nat × (Value → Sem Unit)) : Prop := okL X.kd X.P.names t.1 = true ∧ ∀ v (Q : Unit → Shared → Prop) s, WP K X.A E (storeName X.P.env (nmAt X.P.names t.1) v) Q s → WP K X.A E (t.2 v) Q s
theorem store_all (ok : CtxOk X) : ∀ (T : List (Nat × (Value → Sem Unit))) (pv : List (Slot × Value)) (ρ : MEnv) (oa : Nat → Addr) (s : Shared) (B R : List (Addr × Obj)) (Qv : Unit → Shared → Prop), T.length = pv.length → (∀ t ∈ T, TgOk X E t) → Sm K { X.P with ban := B } oa ρ G s → (∀ x ∈ R, x ∈ B) → SlOk K G B R pv →
    (∀ oa' s', Sm K { X.P with ban := R } oa' (setAll ((T.map (·.1)).zip (pv.map (·.1))) ρ) G s' → Qv () s') → WP K X.A E (assignInOrder (T.map (·.2)) (pv.map (·.2))) Qv s
  | [], [], ρ, oa, s, B, R, Qv, _, _, x, hB, _, hQ => PyProof.Rows.assignInOrder_nil (hQ oa s (Sm.less (P := { X.P with ban := B }) x hB))
  | [], _ :: _, _, _, _, _, _, _, h, _, _, _, _, _ => nomatch h
  | _ :: _, [], _, _, _, _, _, _, h, _, _, _, _, _ => nomatch h
  | t :: T, (y, v) :: pv, ρ, oa, s, B, R, Qv, hl, hT, x, hR, hs, hQ => by
    obtain ⟨t1, t2⟩ := hT t (.head _)
    obtain ⟨n1, n2⟩ := okL_iff ok t1
    have hp := List.pairwise_cons.mp hs.2.2
    refine PyProof.Rows.assignInOrder_cons (t2 v _ s ?_)
    have hv : SlV K G B (y, v) := hs.1 _ (.head _)
    cases y with
    | val d =>
      exact Sm.storeV (P := { X.P with ban := B }) x ok.kindf n1 n2 hv fun s' x' => store_all ok T pv _ _ _ B R Qv (Nat.succ.inj hl) (fun t h => hT t (.tail _ h)) x' hR ⟨fun p h => hs.1 p (.tail _ h), fun p h => hs.2.1 p (.tail _ h), hp.2⟩ hQ
    | own ds =>
      obtain ⟨a, us, n, e, hb, r⟩ := hv
      cases e
      refine Sm.storeO (P := { X.P with ban := B }) (B := B.filter fun p => p.1 ≠ a) (Sm.less (P := { X.P with ban := B }) (B := (a, lst us n) :: B.filter fun p => p.1 ≠ a) x fun z hz => ?_) ok.kindf n1 n2 r (fun b o hbo e => ?_) fun s' x' => ?_
      · rcases List.mem_cons.mp hz with rfl | hz
        · exact hb
        · exact (List.mem_filter.mp hz).1
      · exact of_decide_eq_true (List.mem_filter.mp hbo).2 e.symm
      · have keep : ∀ b o, (b, o) ∈ B → b ≠ a → (b, o) ∈ B.filter fun p => p.1 ≠ a := fun b o h ne => List.mem_filter.mpr ⟨h, decide_eq_true ne⟩
        refine store_all ok T pv _ _ _ _ R Qv (Nat.succ.inj hl) (fun t h => hT t (.tail _ h)) x' (fun z hz => keep z.1 z.2 (hR z hz) fun e => hs.2.1 _ (.head _) a rfl z.2 (e ▸ hz)) ⟨fun p h => (hs.1 p (.tail _ h)).mono (Sub.refl G) fun b e o ho => keep b o ho fun eb => hp.1 p h a rfl (eb ▸ e), fun p h => hs.2.1 p (.tail _ h), hp.2⟩ hQ
    | _ => exact hv.elim

theorem asgEach (N : List PySem.Str) (env : Env) : ∀ (is : List (Nat × Nat)), assignEach (nmsE N is) env = is.map fun i => (false, assign (nmE N i.1 i.2) env)
  | [] => rfl
  | i :: is => congrArg ((false, assign (nmE N i.1 i.2) env) :: ·) (asgEach N env is)
theorem asg_none (is : List (Nat × Nat)) (f : Nat × Nat → Value → Sem Unit) : (is.map fun i => (false, f i)).findIdx? (·.1) = none := by
  rw [List.findIdx?_eq_none_iff]
  intro x hx
  obtain ⟨i, _, rfl⟩ := List.mem_map.mp hx
  rfl
/-- the targets as what stores -/
noncomputable def tgs (X : Ctx K) (is : List (Nat × Nat)) : List (Nat × (Value → Sem Unit)) := is.map fun i => (i.1, assign (nmE X.P.names i.1 i.2) X.P.env)
theorem tgs_ok {is : List (Nat × Nat)} (h : ∀ i ∈ is, okL X.kd X.P.names i.1 = true) : ∀ t ∈ tgs X is, TgOk X E t := fun t ht => by
  obtain ⟨i, hi, rfl⟩ := List.mem_map.mp ht
  exact ⟨h i hi, fun v Q s h => wpAny_assign_Name h⟩
noncomputable def okIs (kd : PySem.Str → Option NameKind) (N : List PySem.Str) (is : List (Nat × Nat)) : Bool := is.all fun i => okL kd N i.1
theorem okIs_iff {is : List (Nat × Nat)} (h : okIs X.kd X.P.names is = true) : ∀ i ∈ is, okL X.kd X.P.names i.1 = true := List.all_eq_true.mp h
theorem slOk_vals {B : List (Addr × Obj)} : ∀ {ds : List D} {vs : List Value}, RepL K G ds vs → ∃ pv : List (Slot × Value), pv.map (·.1) = ds.map .val ∧ pv.map (·.2) = vs ∧ SlOk K G B B pv ∧ pv.length = ds.length
  | [], _, r => ⟨[], rfl, r.symm, ⟨fun _ h => (nomatch h), fun _ h => (nomatch h), .nil⟩, rfl⟩
  | d :: ds, _, r => by
    obtain ⟨v, vs, rfl, r1, r2⟩ := r
    obtain ⟨pv, h1, h2, h3, h4⟩ := slOk_vals (B := B) r2
    refine ⟨(.val d, v) :: pv, by rw [List.map_cons, h1]; rfl, by rw [List.map_cons, h2], ⟨fun p hp => ?_, fun p hp => ?_, List.pairwise_cons.mpr ⟨fun p _ a e => (nomatch e), h3.2.2⟩⟩, congrArg Nat.succ h4⟩
    · rcases List.mem_cons.mp hp with rfl | hp
      · exact r1
      · exact h3.1 p hp
    · rcases List.mem_cons.mp hp with rfl | hp
      · intro a e; cases e
      · exact h3.2.1 p hp

/-- a tuple's items stored -/
theorem tup_store (ok : CtxOk X) {is : List (Nat × Nat)} {q : Nat} {d : D} {v : Value} {Z : MEnv → Prop} {Qv : Unit → Shared → Prop} (hi : okIs X.kd X.P.names is = true) (he : tupP d fun ds => bindP is ds ρ Z) (x : Sm K X.P oa ρ G s) (r : Rep K G d v) (hQ : ∀ ρ', Z ρ' → ∀ oa' s', Sm K X.P oa' ρ' G s' → Qv () s') :
    WP K X.A E (assign (.Tuple (nmsE X.P.names is) 0 (dp q)) X.P.env v) Qv s := by
  obtain ⟨ds, a, o, vs, n, rfl, g, gc, gd, r1, he⟩ := tupP_inv he r
  obtain ⟨hl, z⟩ := bindS_inv _ _ _ _ (bindP_S _ _ _ _ he)
  obtain ⟨pv, p1, p2, p3, p4⟩ := slOk_vals (B := X.P.ban) r1
  rw [List.length_map] at hl
  have hE := asgEach X.P.names X.P.env is
  refine wpAny_assign_Tuple ok.hA.1 (items := vs) ⟨_, x.inc _ _ g, gc, _, gd⟩ (by rw [hE, List.length_map, hl, r1.size]) (by rw [hE]; exact asg_none is _) fun h' he => ?_
  have x2 : Sm K X.P oa ρ G { s with heap := h' } := x.stp (tk := s.toks) (Stp.of_keeps fun b o e => he b o (Nat.ne_of_lt (Heap.lt_size e)) e)
  rw [hE, List.map_map, ← p2]
  have key := store_all (E := E) ok (tgs X is) pv ρ oa { s with heap := h' } X.P.ban X.P.ban Qv (by rw [tgs, List.length_map, p4, hl]) (tgs_ok (okIs_iff hi)) x2 (fun _ h => h) p3 fun oa' s' x' => hQ _ z oa' s' (by rw [p1, tgs, List.map_map] at x'; exact x')
  rw [tgs, List.map_map] at key
  exact key
end
end Mine

set_option autoImplicit false
set_option linter.all false
set_option maxRecDepth 100000
namespace Mine
open PySem PySem.W PySem.Calls PyProof.Rows

noncomputable def nmOf : Expr → PySem.Str
  | .Name x _ => x
  | _ => ""
noncomputable def swOk (xs : List Expr) : Bool := xs.all (foldedForSure 8) || !xs.all (constantsAlone 8)
theorem filterMap_map {α β : Type} (f : α → Option β) (g : α → β) : ∀ (l : List α), (l.filterMap f).length = l.length → (∀ e ∈ l, ∀ y, f e = some y → y = g e) → l.filterMap f = l.map g
  | [], _, _ => rfl
  | a :: l, h, hg => by
    cases hf : f a with
    | none =>
      rw [List.filterMap_cons_none hf] at h
      have := List.length_filterMap_le f l
      rw [h] at this
      exact absurd this (Nat.not_succ_le_self _)
    | some y =>
      rw [List.filterMap_cons_some hf] at h ⊢
      rw [filterMap_map f g l (Nat.succ.inj h) fun e he => hg e (.tail _ he), hg a (.head _) y hf]
      rfl
theorem swapped_cases {elts vs : List Expr} {k k' : Nat} {p p' : Pos} {env : Env} (hsw : swOk vs = true) (hn : ∀ e ∈ elts, ∃ x q, e = .Name x q) :
    swappedStores [.Tuple elts k p] (.Tuple vs k' p') env = pure none ∨ swappedStores [.Tuple elts k p] (.Tuple vs k' p') env = pure (some (elts.map nmOf)) := by
  unfold swappedStores
  simp only []
  split
  · exact .inl rfl
  split
  · exact .inl rfl
  split
  · exact .inl rfl
  rename_i h
  split
  · exact .inl rfl
  rename_i h5
  split
  · rename_i h6
    unfold swOk at hsw
    rw [h6] at hsw
    simp only [Bool.not_eq_true] at h5
    rw [h5] at hsw
    cases hsw
  · refine .inr ?_
    rw [filterMap_map _ nmOf elts ?_ ?_]
    · simp only [Bool.or_eq_true, not_or] at h
      have := h.1
      simp only [bne_iff_ne, ne_eq, Decidable.not_not] at this
      exact this
    · intro e he y hy
      obtain ⟨x, q, rfl⟩ := hn e he
      simp only at hy
      split at hy
      · cases hy; rfl
      · cases hy


theorem nms_of (N : List PySem.Str) (is : List (Nat × Nat)) : ∀ e ∈ nmsE N is, ∃ x q, e = .Name x q := fun e he => by
  obtain ⟨i, _, rfl⟩ := List.mem_map.mp he
  exact ⟨_, _, rfl⟩
theorem swapped_cells {N : List PySem.Str} {is : List (Nat × Nat)} {vs : List Expr} {p p' : Pos} {env : Env} (hn : ∀ i ∈ is, env.kindOf (nmAt N i.1) ≠ some .local) : swappedStores [.Tuple (nmsE N is) 0 p] (.Tuple vs 0 p') env = pure none := by
  unfold swappedStores
  simp only []
  split
  · rfl
  rename_i h0
  split
  · rfl
  split
  · rfl
  rename_i h
  exfalso
  apply h
  simp only [Bool.or_eq_true, not_or, Bool.not_eq_true', Bool.not_eq_true] at h0
  have h1 := h0.1.1
  have hl : (nmsE N is).length ≠ 0 := fun e => by rw [e] at h1; simp at h1
  rw [List.filterMap_eq_nil_iff.mpr fun e he => ?_]
  · have : (([] : List PySem.Str).length != (nmsE N is).length) = true := bne_iff_ne.mpr (Ne.symm hl)
    rw [this]; rfl
  · obtain ⟨i, hi, rfl⟩ := List.mem_map.mp he
    have : (env.kindOf (nmAt N i.1) == some NameKind.local) = false := beq_eq_false_iff_ne.mpr (hn i hi)
    simp only [nmE, this, Bool.false_and, Bool.false_eq_true, if_false]
noncomputable def isTupE : Expr → Bool
  | .Tuple _ _ _ => true
  | _ => false
theorem noSwapT {elts : List Expr} {k : Nat} {p : Pos} {e : Expr} {env : Env} (h : isTupE e = false) : swappedStores [.Tuple elts k p] e env = pure none := by
  unfold swappedStores
  cases e <;> first | (cases h; done) | rfl

theorem zip_rev {α β : Type} : ∀ (a : List α) (b : List β), a.length = b.length → a.reverse.zip b.reverse = (a.zip b).reverse
  | [], [], _ => rfl
  | x :: a, y :: b, h => by
    rw [List.reverse_cons, List.reverse_cons, List.zip_append (by rw [List.length_reverse, List.length_reverse]; exact Nat.succ.inj h), zip_rev a b (Nat.succ.inj h)]
    exact List.reverse_cons.symm
  | [], _ :: _, h => nomatch h
  | _ :: _, [], h => nomatch h

section
variable {K : Cfg} {X : Ctx K} {A : Around} {E : Value → Shared → Prop} {R : Prop} {oa : Nat → Addr} {ρ : MEnv} {G : PH} {s : Shared}

theorem xs_asgL (ok : CtxOk X) {is : List (Nat × Nat)} {q q' p : Nat} {es : List ME} (hi : okIs X.kd X.P.names is = true) (hd : (is.map (·.1)).Nodup) (hsw : swOk (toEs es X.P.names) = true) (hl : es.length ≤ 64) (h : AllE (SB X) es) : XS X (.asgL is q es q' p) := by
  intro R E hR oa ρ G s Q Qv hev x hQ
  have hev : wpSl X.C es R ρ fun sl ρ => bindS is sl ρ fun ρ => Q .next ρ := hev
  -- the tuple is made, then its items are stored
  have made : ∀ (Q' : Value → Shared → Prop), (∀ a (pv : List (Slot × Value)) ρ1 G1 s1 B, is.length = pv.length → Q .next (setAll ((is.map (·.1)).zip (pv.map (·.1))) ρ1) → Sub G G1 → s1.heap.IsTuple a (pv.map (·.2)).toArray → Sm K { X.P with ban := B } oa ρ1 G1 s1 → (∀ x ∈ X.P.ban, x ∈ B) → SlOk K G1 B X.P.ban pv → Q' (.ref a) s1) → WP K X.A E (eval (.Tuple (toEs es X.P.names) 0 (dp q')) X.P.env) Q' s := fun Q' hQ' => by
    refine Tuple_ (sl_ok (RP.withB hR) es h X.P.ban oa ρ G s _ _ hev x fun pv ρ1 q G1 s1 B hG1 x1 hB r1 hlen => ?_)
    obtain ⟨b1, b2⟩ := bindS_inv _ _ _ _ q
    rw [List.length_map] at b1
    refine wpAny_newTuple ?_ (by rw [List.length_map, hlen]; exact le_line (Nat.le_trans hl (by decide)))
    exact hQ' s1.heap.objs.size pv ρ1 G1 _ B b1 b2 hG1 ⟨_, Heap.get?_push_size _ rfl, rfl, _, rfl⟩ (Sm.stp (P := { X.P with ban := B }) (tk := s1.toks) x1 (Stp.push _ _ _)) hB r1
  have hE := asgEach X.P.names X.P.env is
  rcases swapped_cases (k := 0) (k' := 0) (p := dp q) (p' := dp q') (env := X.P.env) hsw (nms_of X.P.names is) with hw | hw
  · refine wpAny_Assign_stores (made _ fun a pv ρ1 G1 s1 B hlen b2 hG1 hi' x1 hB r1 => ?_) rfl hw
    show WP K X.A E (assign (.Tuple (nmsE X.P.names is) 0 (dp q)) X.P.env (.ref a)) _ s1
    refine wpAny_assign_Tuple ok.hA.1 hi' (by rw [hE, List.length_map, List.size_toArray, List.length_map, hlen]) (by rw [hE]; exact asg_none is _) fun h' he => ?_
    have x2 : Sm K { X.P with ban := B } oa ρ1 G1 { s1 with heap := h' } := Sm.stp (P := { X.P with ban := B }) x1 (tk := s1.toks) (Stp.of_keeps fun b o e => he b o (Nat.ne_of_lt (Heap.lt_size e)) e)
    have key := store_all (E := E) ok (tgs X is) pv ρ1 oa { s1 with heap := h' } B X.P.ban (fun _ s' => Qv .next s') (by rw [tgs, List.length_map, hlen]) (tgs_ok (okIs_iff hi)) x2 hB r1 fun oa' s' x' => hQ .next _ b2 oa' G1 s' .next hG1 (by rw [tgs, List.map_map] at x'; exact x') rfl
    rw [tgs, List.map_map] at key
    rw [hE, List.map_map]
    exact key
  · refine PyProof.Rows.Assign_Tuple_swapped (names := (nmsE X.P.names is).map nmOf) (made _ fun a pv ρ1 G1 s1 B hlen b2 hG1 hi' x1 hB r1 => ?_) rfl hw
    have hnm : (nmsE X.P.names is).map nmOf = is.map fun i => nmAt X.P.names i.1 := by rw [nmsE, List.map_map]; rfl
    have hsz : ((nmsE X.P.names is).map nmOf).length = (pv.map (·.2)).toArray.size := by rw [hnm, List.length_map, List.size_toArray, List.length_map, hlen]
    rw [hsz]
    refine PySem.wpAny_unpackItems_tuple ok.hA.1 hi' fun h' he => ?_
    have x2 : Sm K { X.P with ban := B } oa ρ1 G1 { s1 with heap := h' } := Sm.stp (P := { X.P with ban := B }) x1 (tk := s1.toks) (Stp.of_keeps fun b o e => he b o (Nat.ne_of_lt (Heap.lt_size e)) e)
    have key := store_all (E := E) ok ((is.map fun i => (i.1, fun v => bindName X.P.env (nmAt X.P.names i.1) v)).reverse) pv.reverse ρ1 oa { s1 with heap := h' } B X.P.ban (fun _ s' => Qv .next s') (by rw [List.length_reverse, List.length_reverse, List.length_map, hlen]) (fun t ht => by
      obtain ⟨i, hi', rfl⟩ := List.mem_map.mp (List.mem_reverse.mp ht)
      exact ⟨okIs_iff hi i hi', fun v Q s h => wpAny_bindName h⟩) x2 hB r1.reverse fun oa' s' x' => hQ .next _ b2 oa' G1 s' .next hG1 (by
        rw [List.map_reverse, List.map_map, List.map_reverse, zip_rev _ _ (by rw [List.length_map, List.length_map, hlen]), setAll_reverse _ _ (by rw [List.map_fst_zip (Nat.le_of_eq (by rw [List.length_map, List.length_map, hlen]))]; exact hd)] at x'
        exact x') rfl
    rw [List.map_reverse, List.map_map, List.map_reverse] at key
    rw [hnm]
    simp only [← List.map_reverse, List.map_map] at key ⊢
    exact key
theorem xs_asgT (ok : CtxOk X) {is : List (Nat × Nat)} {q p : Nat} {e : ME} (hi : okIs X.kd X.P.names is = true) (hp : isTupE (toE e X.P.names) = false) (hc : isCompE (toE e X.P.names) = false) (he : ES X e) : XS X (.asg (.many is q) e p) := fun R E hR oa _ _ _ Q _ hev x hQ =>
  wpAny_Assign_stores (he R E hR oa _ _ _ _ _ hev x fun d ρ1 h1 v G1 s1 hG1 x1 r1 => tup_store (E := E) (q := q) (Qv := fun _ s' => _) ok hi h1 x1 r1 fun ρ' z oa' s' x' => hQ _ _ z oa' G1 s' .next hG1 x' rfl) (show swapsWith (toE e X.P.names) (some (.Tuple (nmsE X.P.names is) 0 (dp q))) (dp p).line X.P.env = pure false from noSwap hc) (noSwapT hp)
theorem store_cells (ok : CtxOk X) : ∀ (is : List (Nat × Nat)) (ds : List D) (vs : List Value) (ρ : MEnv) (G : PH) (s : Shared) (Z : MEnv → Prop) (Qv : Unit → Shared → Prop),
    bindC is ds ρ Z → Sm K X.P oa ρ G s → RepL K G ds vs → (∀ ρ' G' s', Z ρ' → Sub G G' → Sm K X.P oa ρ' G' s' → Qv () s') → WP K X.A E (assignInOrder (is.map fun i => assign (nmE X.P.names i.1 i.2) X.P.env) vs) Qv s
  | [], [], _, ρ, G, s, _, _, h, x, r, hQ => by cases r; exact PyProof.Rows.assignInOrder_nil (hQ ρ G s h (Sub.refl G) x)
  | i :: is, d :: ds, _, ρ, G, s, Z, Qv, h, x, r, hQ => by
    obtain ⟨v, vs, rfl, rv, r⟩ := r
    exact PyProof.Rows.assignInOrder_cons (wpAny_assign_Name (x.storeC ok.kindf (x.name h.1) h.1 rv fun G1 s1 hG1 x1 => store_cells ok is ds vs _ G1 s1 Z Qv h.2 x1 (RepL.mono hG1 _ _ r) fun ρ' G' s' z hG' x' => hQ ρ' G' s' z (hG1.trans hG') x'))
  | [], _ :: _, _, _, _, _, _, _, h, _, _, _ => h.elim
  | _ :: _, [], _, _, _, _, _, _, h, _, _, _ => h.elim
theorem bindC_len : ∀ (is : List (Nat × Nat)) (ds : List D) (ρ : MEnv) (Z : MEnv → Prop), bindC is ds ρ Z → is.length = ds.length
  | [], [], _, _, _ => rfl
  | _ :: is, _ :: ds, _, Z, h => congrArg Nat.succ (bindC_len is ds _ Z h.2)
  | [], _ :: _, _, _, h => h.elim
  | _ :: _, [], _, _, h => h.elim
theorem xs_asgTC (ok : CtxOk X) {is : List (Nat × Nat)} {q q' p : Nat} {es : List ME} (hk : ∀ i ∈ is, X.kd (nmAt X.P.names i.1) ≠ some .local) (hl : es.length ≤ 64) (h : AllE (ES X) es) : XS X (.asgTC is q es q' p) := by
  intro R E hR oa ρ G s Q Qv hev x hQ
  have hE := asgEach X.P.names X.P.env is
  refine wpAny_Assign_stores (Tuple_ (args_ok hR es h _ _ _ _ _ hev x fun ds ρ1 h1 vs G1 s1 hG1 x1 r1 hlen => ?_)) rfl (swapped_cells fun i hi => by rw [ok.kd]; exact hk i hi)
  refine wpAny_newTuple ?_ (by rw [r1.length, hlen]; exact le_line (Nat.le_trans hl (by decide)))
  show WP K X.A E (assign (.Tuple (nmsE X.P.names is) 0 (dp q)) X.P.env (.ref s1.heap.objs.size)) _ _
  refine wpAny_assign_Tuple (items := vs.toArray) ok.hA.1 ⟨_, Heap.get?_push_size _ rfl, rfl, _, rfl⟩ (by rw [hE, List.length_map, bindC_len _ _ _ _ h1, List.size_toArray, r1.length]) (by rw [hE]; exact asg_none is _) fun h' he => ?_
  have x2 : Sm K X.P oa ρ1 G1 { s1 with heap := h', toks := s1.toks } := x1.stp (Stp.of_keeps fun b o e => he b o (Nat.ne_of_lt (Nat.lt_of_lt_of_le (Heap.lt_size e) (by rw [Heap.size_push]; exact Nat.le_succ _))) (Heap.get?_push_of_some _ e))
  rw [hE, List.map_map]
  exact store_cells (E := E) ok is ds vs ρ1 G1 _ _ _ h1 x2 r1 fun ρ' G' s' z hG' x' => hQ _ _ z oa G' s' .next (hG1.trans hG') x' rfl
end
end Mine

set_option autoImplicit false
set_option linter.all false
set_option maxRecDepth 100000
namespace Mine
open PySem PySem.W PySem.Calls PyProof.Rows

/-- nothing is raised -/
noncomputable abbrev NE : Value → Shared → Prop := fun _ _ => False

noncomputable def Raw (G : PH) (B : List (Addr × Obj)) (s : Shared) : Prop := (∀ b o, G b = some o → s.heap.get? b = some o) ∧ ∀ b o, (b, o) ∈ B → s.heap.get? b = some o ∧ G b = none
noncomputable def Moved (B : List (Addr × Obj)) (h h' : Heap) : Prop := ∀ b o, (∀ o', (b, o') ∉ B) → h.get? b = some o → h'.get? b = some o

/-- what is gone over, item by item; no frame in sight -/
noncomputable def Src (K : Cfg) (A : Around) (target : Expr) (it : Value) : List D → List (Addr × Obj) → PH → Prop
  | [], B, G0 => ∀ G s, Sub G0 G → Raw G B s → WP K A NE (pyNext it) (fun r s1 => r = none ∧ ∃ h' tk, s1 = { s with heap := h', toks := tk } ∧ Moved B s.heap h') s
  | d :: ds, B, G0 => ∀ G s, Sub G0 G → Raw G B s → WP K A NE (pyNext it) (fun r s1 => ∃ v, r = some v ∧
      WP K A NE (letOwnedTupleGo target it v) (fun _ s2 => ∃ h' tk B' G', s2 = { s with heap := h', toks := tk } ∧ Moved B s.heap h' ∧ (∀ b o, (b, o) ∈ B' → (∃ o', (b, o') ∈ B) ∧ h'.get? b = some o) ∧ Sub G G' ∧
        (∀ b o, G' b = some o → G b = some o ∨ (s.heap.objs.size ≤ b ∧ h'.get? b = some o)) ∧ Rep K G' d v ∧ Src K A target it ds B' G') s1) s

noncomputable def SelfIt (K : Cfg) (A : Around) (it : Value) (B : List (Addr × Obj)) (G0 : PH) : Prop := ∀ G s (Q : Value → Shared → Prop), Sub G0 G → Raw G B s → Q it s → WP K A NE (pyIter it) Q s

theorem Src.mono {K : Cfg} {A : Around} {target : Expr} {it : Value} {ds : List D} {B : List (Addr × Obj)} {G G' : PH} (h : Src K A target it ds B G) (hG : Sub G G') : Src K A target it ds B G' := by
  cases ds with
  | nil => exact fun G1 s hs X => h G1 s (hG.trans hs) X
  | cons d ds => exact fun G1 s hs X => h G1 s (hG.trans hs) X


section
variable {K : Cfg} {P : Frm} {A : Around} {oa : Nat → Addr} {ρ : MEnv} {G : PH} {s : Shared}

/-- a step of what walks -/
theorem Sm.walk {B R : List (Addr × Obj)} {wr : List Addr} {h' : Heap} {tk : Nat} (X : Sm K { P with ban := B } oa ρ G s) (hwr : ∀ b ∈ wr, ∃ o, (b, o) ∈ B) (hP : ∀ x ∈ P.ban, x ∈ B) (hw : ∀ b o, (b, o) ∈ P.ban → b ∉ wr)
    (hk : ∀ b o, b ∉ wr → s.heap.get? b = some o → h'.get? b = some o) (hR : ∀ b o, (b, o) ∈ R → b ∈ wr ∧ h'.get? b = some o) : Sm K { P with ban := R ++ P.ban } oa ρ G { s with heap := h', toks := tk } := by
  have nG : ∀ b o, G b = some o → b ∉ wr := fun b o e hb => by
    obtain ⟨o', ho'⟩ := hwr b hb
    have := (X.ban b o' ho').2.1
    rw [this] at e; cases e
  have nL : P.env.locals ∉ wr := fun hb => by
    obtain ⟨o', ho'⟩ := hwr _ hb
    exact (X.ban _ o' ho').2.2.1 rfl
  have nO : ∀ i y sl, P.names[i]? = some y → ρ[i]? = some sl → sl.excl = true → oa i ∉ wr := fun i y sl h1 h2 h3 hb => by
    obtain ⟨o', ho'⟩ := hwr _ hb
    exact (X.ban _ o' ho').2.2.2.2.2 i y sl h1 h2 h3 rfl
  have nT : ∀ b o, K.hT.get? b = some o → b ∉ wr := fun b o e hb => by
    obtain ⟨o', ho'⟩ := hwr _ hb
    rw [(X.ban _ o' ho').2.2.2.1] at e; cases e
  have n0 : ∀ b o, P.s₀.heap.get? b = some o → b ∉ wr := fun b o e hb => by
    obtain ⟨o', ho'⟩ := hwr _ hb
    exact absurd (Heap.lt_size e) (Nat.not_lt.mpr (X.ban _ o' ho').2.2.2.2.1)
  obtain ⟨m, hm, hs⟩ := X.slots
  refine ⟨?_, ⟨m, ?_, fun i x sl hn hsl => (hs i x sl hn hsl).stp fun he o e => hk _ _ (nO i x sl hn hsl he) e⟩, X.nodup, fun b o e => hk b o (nG b o e) (X.inc b o e), X.offL, X.off, X.apart, fun b o e hio hp => hk b o (n0 b o e) (X.keep b o e hio hp), X.old, X.above, X.iol, fun b o e => hk b o (nT b o e) (X.top b o e), X.topL, fun b o hb => ?_, ?_, X.len⟩
  · obtain ⟨h, t, rfl⟩ := X.same; exact ⟨h', tk, rfl⟩
  · obtain ⟨o, es, ep, g, r⟩ := hm
    exact ⟨o, es, ep, hk _ _ nL g, r⟩
  · rcases List.mem_append.mp hb with hb | hb
    · obtain ⟨hbw, g⟩ := hR b o hb
      obtain ⟨o', ho'⟩ := hwr b hbw
      exact ⟨g, (X.ban b o' ho').2⟩
    · obtain ⟨b1, b2⟩ := X.ban b o (hP _ hb)
      exact ⟨hk b o (hw b o hb) b1, b2⟩
  · obtain ⟨⟨o, t1, t2⟩, t3, t4, t5, t6, t7, t8⟩ := X.tab
    refine ⟨⟨o, hk _ _ (fun hb => ?_) t1, t2⟩, t3, t4, t5, t6, fun b o hb => ?_, t8⟩
    · obtain ⟨o', ho'⟩ := hwr _ hb
      exact t7 _ o' ho' rfl
    · rcases List.mem_append.mp hb with hb | hb
      · obtain ⟨o', ho'⟩ := hwr b (hR b o hb).1
        exact t7 b o' ho'
      · exact t7 b o (hP _ hb)


/-- what is new is frozen -/
theorem Sm.fresh {n : Nat} {G' : PH} (X : Sm K P oa ρ G s) (hG : Sub G G') (hn : ∀ b o, G' b = some o → G b = some o ∨ (n ≤ b ∧ s.heap.get? b = some o)) (hL : P.env.locals < n) (ho : ∀ i y sl, P.names[i]? = some y → ρ[i]? = some sl → sl.excl = true → oa i < n)
    (hb : ∀ b o, (b, o) ∈ P.ban → b < n) : Sm K P oa ρ G' s := by
  have none : ∀ b, b < n → G b = none → G' b = none := fun b hlt hg => by
    cases h : G' b with
    | none => rfl
    | some o =>
      rcases hn b o h with h | h
      · rw [hg] at h; cases h
      · exact absurd hlt (Nat.not_lt.mpr h.1)
  refine X.grow hG (fun b o e => ?_) (none _ hL X.offL) (fun i y sl h1 h2 h3 => none _ (ho i y sl h1 h2 h3) (X.off i y sl h1 h2 h3).1) (fun b o hlt e => ?_) (fun b o h => none _ (hb b o h) (X.ban b o h).2.1) (none _ (Nat.lt_trans (Nat.lt_of_lt_of_le X.tab.2.2.2.2.2.2 X.above) hL) X.tab.2.1)
  · rcases hn b o e with h | h
    · exact X.inc b o h
    · exact h.2
  · rcases hn b o e with h | h
    · exact X.old b o hlt h
    · exact absurd (Nat.lt_trans (Nat.lt_of_lt_of_le hlt X.above) hL) (Nat.not_lt.mpr h.1)

abbrev Off (P : Frm) (B : List (Addr × Obj)) : Prop := ∀ b o, (b, o) ∈ P.ban → ∀ o', (b, o') ∉ B

theorem Sm.raw {B : List (Addr × Obj)} (X : Sm K { P with ban := B ++ P.ban } oa ρ G s) : Raw G B s := ⟨X.inc, fun b o hb => ⟨(X.ban b o (List.mem_append.mpr (.inl hb))).1, (X.ban b o (List.mem_append.mpr (.inl hb))).2.1⟩⟩

theorem Sm.moved {B R : List (Addr × Obj)} {h' : Heap} {tk : Nat} (X : Sm K { P with ban := B ++ P.ban } oa ρ G s) (hoff : Off P B) (hm : Moved B s.heap h') (hR : ∀ b o, (b, o) ∈ R → (∃ o', (b, o') ∈ B) ∧ h'.get? b = some o) : Sm K { P with ban := R ++ P.ban } oa ρ G { s with heap := h', toks := tk } := by
  refine X.walk (wr := B.map (·.1)) (fun b hb => ?_) (fun x hx => List.mem_append.mpr (.inr hx)) (fun b o hb hw => ?_) (fun b o hb e => hm b o (fun o' ho' => hb (List.mem_map.mpr ⟨_, ho', rfl⟩)) e) fun b o hb => ?_
  · obtain ⟨p, hp, rfl⟩ := List.mem_map.mp hb
    exact ⟨p.2, List.mem_append.mpr (.inl hp)⟩
  · obtain ⟨p, hp, rfl⟩ := List.mem_map.mp hw
    exact hoff p.1 o hb p.2 hp
  · obtain ⟨⟨o', ho'⟩, g⟩ := hR b o hb
    exact ⟨List.mem_map.mpr ⟨_, ho', rfl⟩, g⟩

theorem Src.end_ {target : Expr} {it : Value} {B : List (Addr × Obj)} {G0 : PH} (hS : Src K A target it [] B G0) (hG : Sub G0 G) (hoff : Off P B) (X : Sm K { P with ban := B ++ P.ban } oa ρ G s) : WP K A NE (pyNext it) (fun r s1 => r = none ∧ Sm K P oa ρ G s1) s := by
  refine wpAny_mono (hS G s hG X.raw) (fun r s1 h => ?_) fun _ _ h => h
  obtain ⟨hr, h', tk, rfl, hm⟩ := h
  exact ⟨hr, X.moved (R := []) hoff hm (fun _ _ h => by cases h)⟩

theorem Src.step {target : Expr} {it : Value} {d : D} {ds : List D} {B : List (Addr × Obj)} {G0 : PH} (hS : Src K A target it (d :: ds) B G0) (hG : Sub G0 G) (hoff : Off P B) (X : Sm K { P with ban := B ++ P.ban } oa ρ G s) :
    WP K A NE (pyNext it) (fun r s1 => ∃ v, r = some v ∧ WP K A NE (letOwnedTupleGo target it v) (fun _ s2 => ∃ B' G', Off P B' ∧ Sub G G' ∧ Sm K { P with ban := B' ++ P.ban } oa ρ G' s2 ∧ Rep K G' d v ∧ Src K A target it ds B' G') s1) s := by
  refine wpAny_mono (hS G s hG X.raw) (fun r s1 h => ?_) fun _ _ h => h
  obtain ⟨v, hr, h⟩ := h
  refine ⟨v, hr, wpAny_mono h (fun _ s2 h => ?_) fun _ _ h => h⟩
  obtain ⟨h', tk, B', G', rfl, hm, hB, hGG, hnew, r, hS'⟩ := h
  refine ⟨B', G', fun b o hb o' ho' => ?_, hGG, ?_, r, hS'⟩
  · obtain ⟨o2, h2⟩ := (hB b o' ho').1
    exact hoff b o hb o2 h2
  · refine Sm.fresh (P := { P with ban := B' ++ P.ban }) (n := s.heap.objs.size) (X.moved hoff hm hB) hGG hnew X.ltL (fun i y sl h1 h2 h3 => ?_) fun b o hb => ?_
    · obtain ⟨o, e⟩ := X.exclGet h1 h2 h3
      exact Heap.lt_size e
    · rcases List.mem_append.mp hb with hb | hb
      · obtain ⟨o', ho'⟩ := (hB b o hb).1
        exact Heap.lt_size (X.ban b o' (List.mem_append.mpr (.inl ho'))).1
      · exact Heap.lt_size (X.ban b o (List.mem_append.mpr (.inr hb))).1

/-! what is gone over, by the library's walks -/

noncomputable def atOf (h : Heap) (wr : List Addr) : List (Addr × Obj) := wr.filterMap fun b => (h.get? b).map fun o => (b, o)
theorem mem_atOf {h : Heap} {wr : List Addr} {b : Addr} {o : Obj} : (b, o) ∈ atOf h wr ↔ b ∈ wr ∧ h.get? b = some o := by
  unfold atOf
  rw [List.mem_filterMap]
  constructor
  · rintro ⟨c, hc, e⟩
    rw [Option.map_eq_some_iff] at e
    obtain ⟨o', e, e'⟩ := e
    cases e'; exact ⟨hc, e⟩
  · rintro ⟨h1, h2⟩
    exact ⟨b, h1, by rw [h2]; rfl⟩

/-- what holds between two items -/
structure Held (G : PH) (B : List (Addr × Obj)) (fp wr : List Addr) (Sti : Heap → Prop) : Prop where
  wrB : ∀ b ∈ wr, ∃ o, (b, o) ∈ B
  bw : ∀ b o, (b, o) ∈ B → b ∈ wr
  st : ∃ h0 : Heap, Sti h0 ∧ ∀ b ∈ fp, ∀ o, h0.get? b = some o → (b, o) ∈ B ∨ G b = some o

theorem Held.now {B : List (Addr × Obj)} {fp wr : List Addr} {St : Heap → Prop} {G' : PH} (h : Held G B fp wr St) (hf : ∀ h h', St h → (∀ b ∈ fp, ∀ o, h.get? b = some o → h'.get? b = some o) → St h') (hG : Sub G G') (X : Raw G' B s) : St s.heap := by
  obtain ⟨h0, h1, h2⟩ := h.st
  refine hf h0 _ h1 fun b hb o e => ?_
  rcases h2 b hb o e with h | h
  · exact (X.2 b o h).1
  · exact X.1 b o (hG b o h)

theorem Held.next {B : List (Addr × Obj)} {fp wr : List Addr} {St St' : Heap → Prop} {G' : PH} {h' : Heap} (_ : Held G B fp wr St) (hst : St' h') (hlive : ∀ b ∈ wr, ∃ o, h'.get? b = some o) (hfp : ∀ b ∈ fp, b ∈ wr ∨ ∀ o, h'.get? b = some o → G' b = some o) :
    Held G' (atOf h' wr) fp wr St' := by
  refine ⟨fun b hb => ?_, fun b o hb => (mem_atOf.mp hb).1, h', hst, fun b hb o e => ?_⟩
  · obtain ⟨o, e⟩ := hlive b hb
    exact ⟨o, mem_atOf.mpr ⟨hb, e⟩⟩
  · rcases hfp b hb with h | h
    · exact .inl (mem_atOf.mpr ⟨h, e⟩)
    · exact .inr (h o e)

theorem Held.moved {B : List (Addr × Obj)} {fp wr : List Addr} {St : Heap → Prop} {h h' : Heap} (x : Held G B fp wr St) (hk : ∀ b o, b ∉ wr → h.get? b = some o → h'.get? b = some o) : Moved B h h' := fun b o hb e => hk b o (fun hw => by
  obtain ⟨o', ho'⟩ := x.wrB b hw
  exact hb o' ho') e

theorem Src.of_walks {target : Expr} {I : Addr} {fp wr : List Addr} {n : Nat} {Pv : Nat → Value → Prop} {St : Nat → Heap → Prop} {ds : List D} (W : Walks K.prog K.w A I fp wr n Pv St) (hlive : ∀ i h, St i h → ∀ b ∈ wr, ∃ o, h.get? b = some o)
    (hgo : ∀ i v (s : Shared) (Q : Unit → Shared → Prop), St i s.heap → Q () s → WP K A NE (letOwnedTupleGo target (.ref I) v) Q s) (hn : ds.length = n)
    (hfG : ∀ b ∈ fp, b ∈ wr ∨ ∃ o, G b = some o) (hP : ∀ i v d, Pv i v → ds[i]? = some d → Rep K G d v) : ∀ (k i : Nat) (G' : PH) (B : List (Addr × Obj)), i + k = n → Sub G G' → Held G' B fp wr (St i) → Src K A target (.ref I) (ds.drop i) B G'
  | 0, i, G', B, hi, hG, hH => by
    rw [List.drop_of_length_le (by (first | grind | omega))]
    intro G1 s hG1 X
    exact W.done _ _ _ (by have := hH.now (W.frame i) hG1 X; rwa [show i = n by (first | grind | omega)] at this) fun h' tk hk => ⟨rfl, h', tk, rfl, hH.moved hk⟩
  | k + 1, i, G', B, hi, hG, hH => by
    have hlt : i < ds.length := by (first | grind | omega)
    rw [List.drop_eq_getElem_cons hlt]
    intro G1 s hG1 X
    refine W.item i _ _ _ (by (first | grind | omega)) (hH.now (W.frame i) hG1 X) fun v h' tk hv hst hk => ⟨v, rfl, ?_⟩
    refine hgo (i + 1) v _ _ hst ?_
    refine ⟨h', tk, atOf h' wr, G1, rfl, hH.moved hk, fun b o hb => ⟨hH.wrB b (mem_atOf.mp hb).1, (mem_atOf.mp hb).2⟩, Sub.refl _, fun b o e => .inl e, Rep.mono (hG.trans hG1) _ _ (hP i v _ hv (List.getElem?_eq_getElem hlt)), ?_⟩
    refine Src.of_walks W hlive hgo hn hfG hP k (i + 1) G1 _ (by (first | grind | omega)) (hG.trans hG1) (hH.next hst (hlive _ _ hst) fun b hb => ?_)
    rcases hfG b hb with h | ⟨o, h⟩
    · exact .inl h
    · refine .inr fun o' e => ?_
      have hG1b := (hG.trans hG1) b o h
      by_cases hw : b ∈ wr
      · obtain ⟨o2, h2⟩ := hH.wrB b hw
        have := (X.2 b o2 h2).2
        rw [this] at hG1b; cases hG1b
      · have := hk b o hw (X.1 b o hG1b)
        rw [this] at e; cases e; exact hG1b

/-- where the items are tuples made anew -/
theorem Src.of_walksT {elts : List Expr} {k0 : Nat} {pos : Pos} {I : Addr} {fp wr wr0 : List Addr} {n : Nat} {Pv : Nat → Array Value → Prop} {St : Nat → Heap → Prop} {Mid : Nat → Addr → Heap → Prop} {ds : List D} (W : WalksT K.prog K.w A I fp wr0 n Pv St Mid) (hwr : ∀ b ∈ wr0, b ∈ wr) (hlive : ∀ i h, St i h → ∀ b ∈ wr, ∃ o, h.get? b = some o)
    (hn : ds.length = n) (hfG : ∀ b ∈ fp, b ∈ wr ∨ ∃ o, G b = some o) (hP : ∀ i vals d, Pv i vals → ds[i]? = some d → ∃ xs, d = .tup xs ∧ RepL K G xs vals.toList) : ∀ (k i : Nat) (G' : PH) (B : List (Addr × Obj)), i + k = n → Sub G G' → Held G' B fp wr (St i) → Src K A (.Tuple elts k0 pos) (.ref I) (ds.drop i) B G'
  | 0, i, G', B, hi, hG, hH => by
    rw [List.drop_of_length_le (by (first | grind | omega))]
    intro G1 s hG1 X
    exact W.done _ _ _ (by have := hH.now (W.frame i) hG1 X; rwa [show i = n by (first | grind | omega)] at this) fun h' tk hk => ⟨rfl, h', tk, rfl, hH.moved fun b o hb e => hk b o (fun h => hb (hwr b h)) e⟩
  | k + 1, i, G', B, hi, hG, hH => by
    have hlt : i < ds.length := by (first | grind | omega)
    rw [List.drop_eq_getElem_cons hlt]
    intro G1 s hG1 X
    refine W.item i _ _ _ (by (first | grind | omega)) (hH.now (W.frame i) hG1 X) fun T vals h' tk hv hTs hT hmid hk0 => ⟨_, rfl, ?_⟩
    have hk : ∀ b o, b ∉ wr → s.heap.get? b = some o → h'.get? b = some o := fun b o hb e => hk0 b o (fun h => hb (hwr b h)) e
    refine W.go elts k0 pos i T _ _ _ hmid fun h2 hst hk20 => ?_
    have hk2 : ∀ b o, b ∉ wr → h'.get? b = some o → h2.get? b = some o := fun b o hb e => hk20 b o (fun h => hb (hwr b h)) e
    have hTw : T ∉ wr := fun h => by
      obtain ⟨o', ho'⟩ := hH.wrB T h
      exact absurd (Heap.lt_size (X.2 T o' ho').1) (Nat.not_lt.mpr hTs)
    obtain ⟨o, ho, hc, m, hd⟩ := hT
    have ho2 : h2.get? T = some o := hk2 T o hTw ho
    obtain ⟨xs, hxs, r⟩ := hP i vals _ hv (List.getElem?_eq_getElem hlt)
    rw [hxs]
    let G2 : PH := fun b => if b = T then some o else G1 b
    have nT : ∀ b o', s.heap.get? b = some o' → b ≠ T := fun b o' e h => absurd (Heap.lt_size e) (Nat.not_lt.mpr (h ▸ hTs))
    have hG2 : Sub G1 G2 := fun b o' e => by
      show (if b = T then _ else G1 b) = _
      rw [if_neg (nT b o' (X.1 b o' e))]; exact e
    have e2 : ∀ {b}, b ≠ T → G2 b = G1 b := fun h => if_neg h
    have hkk : ∀ b o, b ∉ wr → s.heap.get? b = some o → h2.get? b = some o := fun b o hb e => hk2 b o hb (hk b o hb e)
    refine ⟨h2, tk, atOf h2 wr, G2, rfl, hH.moved hkk, fun b o hb => ⟨hH.wrB b (mem_atOf.mp hb).1, (mem_atOf.mp hb).2⟩, hG2, fun b o' e => ?_, ?_, ?_⟩
    · by_cases hb : b = T
      · subst hb
        have : some o = some o' := (if_pos rfl).symm.trans e
        cases this; exact .inr ⟨hTs, ho2⟩
      · exact .inl ((e2 hb).symm.trans e)
    · exact ⟨T, o, vals, m, rfl, if_pos rfl, ⟨hc, hd⟩, RepL.mono ((hG.trans hG1).trans hG2) _ _ r⟩
    · refine Src.of_walksT W hwr hlive hn hfG hP k (i + 1) G2 _ (by (first | grind | omega)) ((hG.trans hG1).trans hG2) (hH.next hst (hlive _ _ hst) fun b hb => ?_)
      rcases hfG b hb with h | ⟨o', h⟩
      · exact .inl h
      · refine .inr fun o2 e => ?_
        have hG1b := (hG.trans hG1) b o' h
        by_cases hw : b ∈ wr
        · obtain ⟨o3, h3⟩ := hH.wrB b hw
          have := (X.2 b o3 h3).2
          rw [this] at hG1b; cases hG1b
        · have := hkk b o' hw (X.1 b o' hG1b)
          rw [this] at e; cases e; exact hG2 b o' hG1b
theorem Sm.started {fp wr : List Addr} {St : Heap → Prop} {h' : Heap} {tk : Nat} (X : Sm K P oa ρ G s) (hk : ∀ b o, s.heap.get? b = some o → h'.get? b = some o) (hw : ∀ b ∈ wr, s.heap.objs.size ≤ b ∧ ∃ o, h'.get? b = some o) (hst : St h')
    (hfG : ∀ b ∈ fp, b ∈ wr ∨ ∃ o, G b = some o) : ∃ B, Off P B ∧ Sm K { P with ban := B ++ P.ban } oa ρ G { s with heap := h', toks := tk } ∧ Held G B fp wr St := by
  have nOld : ∀ b o, s.heap.get? b = some o → b ∉ wr := fun b o e hb => absurd (Heap.lt_size e) (Nat.not_lt.mpr (hw b hb).1)
  have X' : Sm K P oa ρ G { s with heap := h', toks := tk } := X.stp (Stp.of_keeps hk)
  refine ⟨atOf h' wr, fun b o hb o' hb' => nOld b o (X.ban b o hb).1 (mem_atOf.mp hb').1, ⟨X'.same, X'.slots, X'.nodup, X'.inc, X'.offL, X'.off, X'.apart, X'.keep, X'.old, X'.above, X'.iol, X'.top, X'.topL, fun b o hb => ?_, ?_, X'.len⟩, ⟨fun b hb => ?_, fun b o hb => (mem_atOf.mp hb).1, h', hst, fun b hb o e => ?_⟩⟩
  · rcases List.mem_append.mp hb with hb | hb
    · obtain ⟨hbw, g⟩ := mem_atOf.mp hb
      have hsz := (hw b hbw).1
      refine ⟨g, ?_, Nat.ne_of_gt (Nat.lt_of_lt_of_le X.ltL hsz), ?_, Nat.le_trans (Nat.le_trans X.above (Nat.le_of_lt X.ltL)) hsz, fun i y sl h1 h2 h3 e => ?_⟩
      · cases hg : G b with
        | none => rfl
        | some o' => exact absurd hbw (nOld b o' (X.inc _ _ hg))
      · cases hg : K.hT.get? b with
        | none => rfl
        | some o' => exact absurd hbw (nOld b o' (X.top _ _ hg))
      · obtain ⟨o', e'⟩ := X.exclGet h1 h2 h3
        exact nOld _ _ e' (e ▸ hbw)
    · exact X'.ban b o hb
  · obtain ⟨t1, t3, t4, t5, t6, t7, t8⟩ := X'.tab
    refine ⟨t1, t3, t4, t5, t6, fun b o hb => ?_, t8⟩
    rcases List.mem_append.mp hb with hb | hb
    · intro e
      have h1 := (hw b (mem_atOf.mp hb).1).1
      obtain ⟨⟨o', q, _⟩, _⟩ := X.tab
      exact absurd (Heap.lt_size q) (Nat.not_lt.mpr (e ▸ h1))
    · exact t7 b o hb
  · obtain ⟨_, o, e⟩ := hw b hb
    exact ⟨o, mem_atOf.mpr ⟨hb, e⟩⟩
  · rcases hfG b hb with h | ⟨o', h⟩
    · exact .inl (mem_atOf.mpr ⟨h, e⟩)
    · have := X'.inc b o' h
      rw [show ({ s with heap := h', toks := tk } : Shared).heap = h' from rfl, e] at this
      cases this; exact .inr h

theorem goName {x : PySem.Str} {p : Pos} {it v : Value} {Q : Unit → Shared → Prop} (h : Q () s) : WP K A NE (letOwnedTupleGo (.Name x p) it v) Q s := wpAny_pure h

/-- an iterator of which no tuple is let go -/
theorem goOther {elts : List Expr} {k : Nat} {p : Pos} {I : Addr} {v : Value} {Q : Unit → Shared → Prop} {o : Obj} {nm : String} {vs : Array Value} (ho : s.heap.get? I = some o) (hc : o.cls = .type nm) (hd : o.data = .fields vs)
    (hnm : (["enumerate", "zip", "dict_itemiterator", "dict_reverseitemiterator", "odict_iterator", "itertools.zip_longest", "itertools.pairwise"].contains nm) = false) (h : Q () s) : WP K A NE (letOwnedTupleGo (.Tuple elts k p) (.ref I) v) Q s := by
  unfold letOwnedTupleGo
  cases v with
  | ref a =>
    refine wpAny_bind (wpAny_load ho ?_)
    rw [hc, hd]
    simp only [hnm, Bool.false_and, Bool.false_eq_true, if_false]
    exact wpAny_pure h
  | _ => exact wpAny_pure h

noncomputable def isTgt : Expr → Bool
  | .Name _ _ => true
  | .Tuple _ _ _ => true
  | _ => false

theorem goAny {target : Expr} (ht : isTgt target = true) {I : Addr} {v : Value} {Q : Unit → Shared → Prop} {o : Obj} {nm : String} {vs : Array Value} (ho : s.heap.get? I = some o) (hc : o.cls = .type nm) (hd : o.data = .fields vs)
    (hnm : (["enumerate", "zip", "dict_itemiterator", "dict_reverseitemiterator", "odict_iterator", "itertools.zip_longest", "itertools.pairwise"].contains nm) = false) (h : Q () s) : WP K A NE (letOwnedTupleGo target (.ref I) v) Q s := by
  cases target with
  | Name x p => exact goName h
  | Tuple es k p => exact goOther ho hc hd hnm h
  | _ => cases ht

/-- from a walk of the library to what is gone over -/
theorem walk_start {target : Expr} {I : Addr} {fp wr : List Addr} {n : Nat} {Pv : Nat → Value → Prop} {St : Nat → Heap → Prop} {ds : List D} {h' : Heap} {tk : Nat} (X : Sm K P oa ρ G s) (W : Walks K.prog K.w A I fp wr n Pv St) (hlive : ∀ i h, St i h → ∀ b ∈ wr, ∃ o, h.get? b = some o)
    (hgo : ∀ i v (s : Shared) (Q : Unit → Shared → Prop), St i s.heap → Q () s → WP K A NE (letOwnedTupleGo target (.ref I) v) Q s) (hn : ds.length = n) (hfG : ∀ b ∈ fp, b ∈ wr ∨ ∃ o, G b = some o) (hP : ∀ i v d, Pv i v → ds[i]? = some d → Rep K G d v)
    (hk : ∀ b o, s.heap.get? b = some o → h'.get? b = some o) (hw : ∀ b ∈ wr, s.heap.objs.size ≤ b) (hst : St 0 h') : ∃ B, Off P B ∧ Sm K { P with ban := B ++ P.ban } oa ρ G { s with heap := h', toks := tk } ∧ Src K A target (.ref I) ds B G ∧ SelfIt K A (.ref I) B G := by
  obtain ⟨B, hB, X1, hH⟩ := X.started (fp := fp) (wr := wr) (St := St 0) (tk := tk) hk (fun b hb => ⟨hw b hb, hlive 0 h' hst b hb⟩) hst hfG
  exact ⟨B, hB, X1, Src.of_walks W hlive hgo hn hfG hP n 0 G B (by (first | grind | omega)) (Sub.refl G) hH, fun G1 s1 Q hG hR hq => W.self 0 s1 Q _ (hH.now (W.frame 0) hG hR) hq⟩
theorem walkT_start {elts : List Expr} {k0 : Nat} {pos : Pos} {I : Addr} {fp wr wr0 : List Addr} {n : Nat} {Pv : Nat → Array Value → Prop} {St : Nat → Heap → Prop} {Mid : Nat → Addr → Heap → Prop} {ds : List D} {h' : Heap} {tk : Nat} (X : Sm K P oa ρ G s) (W : WalksT K.prog K.w A I fp wr0 n Pv St Mid) (hwr : ∀ b ∈ wr0, b ∈ wr) (hlive : ∀ i h, St i h → ∀ b ∈ wr, ∃ o, h.get? b = some o)
    (hn : ds.length = n) (hfG : ∀ b ∈ fp, b ∈ wr ∨ ∃ o, G b = some o) (hP : ∀ i vals d, Pv i vals → ds[i]? = some d → ∃ xs, d = .tup xs ∧ RepL K G xs vals.toList)
    (hk : ∀ b o, s.heap.get? b = some o → h'.get? b = some o) (hw : ∀ b ∈ wr, s.heap.objs.size ≤ b) (hst : St 0 h') : ∃ B, Off P B ∧ Sm K { P with ban := B ++ P.ban } oa ρ G { s with heap := h', toks := tk } ∧ Src K A (.Tuple elts k0 pos) (.ref I) ds B G ∧ SelfIt K A (.ref I) B G := by
  obtain ⟨B, hB, X1, hH⟩ := X.started (fp := fp) (wr := wr) (St := St 0) (tk := tk) hk (fun b hb => ⟨hw b hb, hlive 0 h' hst b hb⟩) hst hfG
  exact ⟨B, hB, X1, Src.of_walksT W hwr hlive hn hfG hP n 0 G B (by (first | grind | omega)) (Sub.refl G) hH, fun G1 s1 Q hG hR hq => W.self 0 s1 Q _ (hH.now (W.frame 0) hG hR) hq⟩


end
section
variable {K : Cfg} {X : Ctx K} {E : Value → Shared → Prop} {oa : Nat → Addr} {ρ : MEnv} {G : PH} {s : Shared}

noncomputable def okT (kd : PySem.Str → Option NameKind) (N : List PySem.Str) (t : TG) : Bool := match t with
  | .one i _ => okL kd N i
  | .many is _ => okIs kd N is
theorem assign_ok (ok : CtxOk X) {tg : TG} {d : D} {v : Value} {Z : MEnv → Prop} {Qv : Unit → Shared → Prop} (ht : okT X.kd X.P.names tg = true) (he : stT tg d ρ Z) (x : Sm K X.P oa ρ G s) (r : Rep K G d v) (hQ : ∀ ρ', Z ρ' → ∀ oa' s', Sm K X.P oa' ρ' G s' → Qv () s') : WP K X.A E (assign (toT tg X.P.names) X.P.env v) Qv s := by
  cases tg with
  | one i p => exact wpAny_assign_Name (x.storeV ok.kindf (okL_iff ok ht).1 (okL_iff ok ht).2 r fun s' x' => hQ _ he _ _ x')
  | many is p => exact tup_store ok ht he x r hQ
theorem toT_tgt (t : TG) (N : List PySem.Str) : isTgt (toT t N) = true := by cases t <;> rfl

/-- a loop over what is gone over -/
theorem for_loop (ok : CtxOk X) {tg : TG} {b : List MS} {it : Value} {ds : List D} {B : List (Addr × Obj)} {Q : Fl → MEnv → Prop} {Rv : Result → Shared → Prop} (ht : okT X.kd X.P.names tg = true) (hb : ∀ B, BS (X.withB B) b)
    (hS : Src K X.A (toT tg X.P.names) it ds B G) (hoff : Off X.P B) (x : Sm K { X.P with ban := B ++ X.P.ban } oa ρ G s) (he : foP tg (wpB X.C b False) Q ds ρ) (hQ : ∀ f ρ', Q f ρ' → ∀ oa' G' s' fl, Sub G G' → Sm K X.P oa' ρ' G' s' → FlowOk K G' f fl → Rv (.ok fl) s') :
    codeAny (model K.prog K.w) X.A (.forLoop (toT tg X.P.names) it (toB b X.P.names X.P.src) [] X.P.env) Rv s := by
  refine codeAny_forLoop_any (fun n s' => ∃ ds B oa1 ρ1 G1, ds.length = n ∧ Sub G G1 ∧ Src K X.A (toT tg X.P.names) it ds B G1 ∧ Off X.P B ∧ Sm K { X.P with ban := B ++ X.P.ban } oa1 ρ1 G1 s' ∧ foP tg (wpB X.C b False) Q ds ρ1) (fun n s' hI => ?_) ds.length ⟨ds, B, oa, ρ, G, rfl, Sub.refl G, hS, hoff, x, he⟩
  obtain ⟨ds, B, oa1, ρ1, G1, hn, hG1, hS, hoff, x1, he⟩ := hI
  cases ds with
  | nil =>
    refine wpAny_mono (hS.end_ (Sub.refl _) hoff x1) (fun r s1 h => ?_) fun _ _ h => h.elim
    obtain ⟨rfl, x2⟩ := h
    exact wpAny_execs_nil (hQ _ _ he oa1 G1 s1 .next hG1 x2 rfl)
  | cons d ds =>
    refine wpAny_mono (hS.step (Sub.refl _) hoff x1) (fun r s1 h => ?_) fun _ _ h => h.elim
    obtain ⟨v, rfl, h⟩ := h
    refine wpAny_mono h (fun _ s2 h2 => ?_) fun _ _ h => h.elim
    obtain ⟨B', G2, hoff', hG2, x2, r2, hS'⟩ := h2
    refine assign_ok (X := X.withB (B' ++ X.P.ban)) (ok.withB _) ht he x2 r2 fun ρ2 z oa2 s3 x3 => ?_
    refine hb (B' ++ X.P.ban) False _ (fun h => h.elim) _ _ _ _ _ _ z x3 fun f ρ4 q oa4 G4 s4 fl hG4 x4 hf => ?_
    cases f with
    | next => cases hf; exact ⟨ds.length, by rw [← hn]; exact Nat.lt_succ_self _, ds, B', oa4, ρ4, G4, rfl, (hG1.trans hG2).trans hG4, hS'.mono hG4, hoff', x4, q⟩
    | ret d' => obtain ⟨v, rfl, r⟩ := hf; exact hQ _ _ q oa4 G4 s4 _ ((hG1.trans hG2).trans hG4) (Sm.less (P := { X.P with ban := B' ++ X.P.ban }) (B := X.P.ban) x4 fun x hx => List.mem_append.mpr (.inr hx)) ⟨v, rfl, r⟩

/-- the text of what is gone over -/
noncomputable def IS {K : Cfg} (X : Ctx K) (i : It) (tg : TG) (N' : List PySem.Str) : Prop :=
  ∀ oa ρ G s (Q : List D → MEnv → Prop) (Qv : Value → Shared → Prop), wpIt X.C i False ρ Q → Sm K X.P oa ρ G s →
    (∀ ds ρ', Q ds ρ' → ∀ itv B G' s', Sub G G' → Off X.P B → Sm K { X.P with ban := B ++ X.P.ban } oa ρ' G' s' → Src K X.A (toT tg N') itv ds B G' → SelfIt K X.A itv B G' → Qv itv s') → WP K X.A NE (eval (toIt i X.P.names) X.P.env) (fun y s1 => WP K X.A NE (pyIter y) Qv s1) s
end
end Mine

set_option autoImplicit false
set_option linter.all false
set_option maxRecDepth 100000
namespace Mine
open PySem PySem.W PySem.Calls PyProof.Rows

section
variable {K : Cfg} {X : Ctx K} {oa : Nat → Addr} {ρ : MEnv} {G : PH} {s : Shared} {Qv : Value → Shared → Prop}

theorem get_of {xs : List D} {vs : Array Value} {i j : Nat} {v : Value} {d : D} (r : RepL K G xs vs.toList) (hv : vs[j]? = some v) (hd : xs[j]? = some d) : Rep K G d v := by
  obtain ⟨v', hv', r'⟩ := r.get hd
  rw [← Array.getElem?_toList, hv'] at hv
  cases hv; exact r'
theorem one_live {h : Heap} {I : Addr} {o : Obj} (ho : h.get? I = some o) : ∀ b ∈ [I], ∃ o, h.get? b = some o := fun b hb => by rw [List.mem_singleton.mp hb]; exact ⟨o, ho⟩
theorem two_fp {I a : Addr} {o : Obj} (g : G a = some o) : ∀ b ∈ [I, a], b ∈ [I] ∨ ∃ o, G b = some o := fun b hb => by
  rcases List.mem_cons.mp hb with rfl | hb
  · exact .inl (.head _)
  · rw [List.mem_singleton.mp hb]; exact .inr ⟨_, g⟩
theorem one_new {n : Nat} : ∀ b ∈ [n], n ≤ b := fun b hb => by rw [List.mem_singleton.mp hb]; exact Nat.le_refl _

theorem is_seq (ok : CtxOk X) {e : ME} {tg : TG} {N' : List PySem.Str} (he : ES X e) : IS X (.seq e) tg N' := by
  intro oa ρ G s Q Qv hev x hQ
  refine he False _ (fun h => h.elim) oa _ _ _ _ _ hev x fun d ρ1 h1 v G1 s1 hG1 x1 r1 => ?_
  cases d with
  | list xs =>
    obtain ⟨a, vs, n, rfl, g, r⟩ := r1
    have hL : s1.heap.IsList a vs := ⟨_, x1.inc _ _ g, rfl, _, rfl⟩
    refine wpAny_pyIter_list hL ?_
    obtain ⟨B, hB, x2, hS, hSf⟩ := walk_start (target := toT tg N') (tk := s1.toks) x1 (Walks.list (prog := K.prog) (w := K.w) ok.hA.1 s1.heap.objs.size a (Nat.ne_of_lt (Heap.lt_size (x1.inc _ _ g))) vs) (fun i h st => let ⟨_, ho, _⟩ := st.1; one_live ho) (fun i v s Q st hq => let ⟨_, ho, hc, hd⟩ := st.1; goAny (toT_tgt _ _) ho hc hd (by decide) hq) r.size.symm
      (two_fp g) (fun i v d hv hd => get_of (i := 0) r hv hd) (fun b o e => Heap.get?_push_of_some { cls := .type "list_iterator", data := .fields #[.ref a, .int 0 0] } e) one_new ⟨⟨_, Heap.get?_push_size _ rfl, rfl, rfl⟩, hL.push _⟩
    exact hQ _ _ h1 _ B G1 _ hG1 hB x2 hS hSf
  | tup xs =>
    obtain ⟨a, o, vs, n, rfl, g, gc, r⟩ := r1
    have hL : s1.heap.IsTuple a vs := ⟨_, x1.inc _ _ g, gc.1, _, gc.2⟩
    refine wpAny_pyIter_tuple hL ?_
    obtain ⟨B, hB, x2, hS, hSf⟩ := walk_start (target := toT tg N') (tk := s1.toks) x1 (Walks.tuple (prog := K.prog) (w := K.w) ok.hA.1 s1.heap.objs.size a (Nat.ne_of_lt (Heap.lt_size (x1.inc _ _ g))) vs) (fun i h st => let ⟨_, ho, _⟩ := st.1; one_live ho) (fun i v s Q st hq => let ⟨_, ho, hc, hd⟩ := st.1; goAny (toT_tgt _ _) ho hc hd (by decide) hq) r.size.symm
      (two_fp g) (fun i v d hv hd => get_of (i := 0) r hv hd) (fun b o e => Heap.get?_push_of_some { cls := .type "tuple_iterator", data := .fields #[.ref a, .int 0 0] } e) one_new ⟨⟨_, Heap.get?_push_size _ rfl, rfl, rfl⟩, ⟨_, Heap.get?_push_of_some _ (x1.inc _ _ g), gc.1, _, gc.2⟩⟩
    exact hQ _ _ h1 _ B G1 _ hG1 hB x2 hS hSf
  | _ => exact h1.elim

/-! ranges -/
theorem ediv_bounds {x c : Int} (hx : 0 ≤ x) (hc : 0 < c) : 0 ≤ x / c ∧ x / c ≤ x := ⟨Int.ediv_nonneg hx (Int.le_of_lt hc), Int.ediv_le_self _ hx⟩
theorem size_bounds {a b c : Int} (ha : rb a) (hb : rb b) : 0 ≤ Builtin.Range.rangeSize a b c ∧ Builtin.Range.rangeSize a b c ≤ 8193 := by
  have ha : a.natAbs ≤ 4096 := ha
  have hb : b.natAbs ≤ 4096 := hb
  have key : ∀ x k : Int, 0 ≤ x → x ≤ 8192 → 0 < k → 0 ≤ x / k + 1 ∧ x / k + 1 ≤ 8193 := fun x k h1 h2 h3 => by
    obtain ⟨p, q⟩ := ediv_bounds h1 h3; (first | grind | omega)
  unfold Builtin.Range.rangeSize
  split
  · split
    · exact key _ _ (by (first | grind | omega)) (by (first | grind | omega)) (by assumption)
    · exact ⟨by decide, by decide⟩
  · split
    · by_cases hc : c = 0
      · subst hc; exact ⟨by simp, by simp⟩
      · exact key _ _ (by (first | grind | omega)) (by (first | grind | omega)) (by (first | grind | omega))
    · exact ⟨by decide, by decide⟩
theorem rangeN_eq {a b c : Int} (ha : rb a) (hb : rb b) : (rangeN a b c : Int) = Builtin.Range.rangeSize a b c := Int.toNat_of_nonneg (size_bounds ha hb).1
theorem fits9 {x : Int} (h : x.natAbs ≤ 8193) : Builtin.Range.rangeFitsLong x = true := by
  unfold Builtin.Range.rangeFitsLong
  rw [Bool.and_eq_true]
  exact ⟨decide_eq_true (Int.le_trans (b := -8193) (by decide) (by (first | grind | omega))), decide_eq_true (Int.lt_of_le_of_lt (b := 8193) (by (first | grind | omega)) (by decide))⟩
theorem fits4 {x : Int} (h : rb x) : Builtin.Range.rangeFitsLong x = true := fits9 (Nat.le_trans h (by decide))
theorem small_range {a b c : Int} (ha : rb a) (hb : rb b) (hc : rb c) : Builtin.Range.small a b c = true := by
  obtain ⟨z0, z1⟩ := size_bounds (c := c) ha hb
  have ha' : a.natAbs ≤ 4096 := ha
  have hb' : b.natAbs ≤ 4096 := hb
  have hc' : c.natAbs ≤ 4096 := hc
  unfold Builtin.Range.small
  rw [fits4 ha, fits4 hb, fits4 hc, fits9 (x := Builtin.Range.rangeSize a b c) (by (first | grind | omega))]
  simp only [Bool.true_and, Bool.or_eq_true]
  refine .inr ?_
  split <;> exact fits9 (by (first | grind | omega))
theorem range_iter (ok : CtxOk X) {tg : TG} {N' : List PySem.Str} {a b c : Int} (ha : rb a) (hb : rb b) (hc : rb c) {r : Addr} {t u v : Tok} (x : Sm K X.P oa ρ G s) (hr : IsRange s.heap r a b c t u v)
    (hQ : ∀ itv B s', Off X.P B → Sm K { X.P with ban := B ++ X.P.ban } oa ρ G s' → Src K X.A (toT tg N') itv (rangeL a b c) B G → SelfIt K X.A itv B G → Qv itv s') : WP K X.A NE (pyIter (.ref r)) Qv s := by
  refine wpAny_pyIter_range hr (small_range ha hb hc) ?_
  obtain ⟨B, hB, x2, hS, hSf⟩ := walk_start (target := toT tg N') (tk := s.toks) x (Walks.range (prog := K.prog) (w := K.w) ok.hA.1 s.heap.objs.size a c (rangeN a b c)) (fun i h st => one_live st) (fun i v s Q st hq => goAny (toT_tgt _ _) st rfl rfl (by decide) hq) (ds := rangeL a b c) (by rw [rangeL, List.length_map, List.length_range]) (fun b hb => .inl hb)
      (fun i v d hv hd => by
        obtain ⟨t, rfl⟩ := hv
        obtain ⟨j, hj, rfl⟩ := Option.map_eq_some_iff.mp ((List.getElem?_map (f := fun i : Nat => D.int (a + (i : Int) * c))).symm.trans hd)
        obtain ⟨hlt, hj⟩ := List.getElem?_eq_some_iff.mp hj
        rw [List.getElem_range] at hj
        subst hj
        exact ⟨t, rfl⟩)
      (fun b' o e => Heap.get?_push_of_some { cls := .type "range_iterator", data := .fields #[rawInt a, rawInt (Builtin.Range.rangeSize a b c), rawInt c] } e) one_new (by
        show IsRangeIter _ _ (a + ((0 : Nat) : Int) * c) _ c
        rw [show (a + ((0 : Nat) : Int) * c) = a from by rw [Int.natCast_zero, Int.zero_mul, Int.add_zero], show ((rangeN a b c : Int) - ((0 : Nat) : Int)) = Builtin.Range.rangeSize a b c from by rw [rangeN_eq ha hb]; exact Int.sub_zero _]
        exact Heap.get?_push_size _ rfl)
  exact hQ _ B _ hB x2 hS hSf
theorem rb0 : rb 0 := by show (0 : Int).natAbs ≤ 4096; decide
theorem rb1 : rb 1 := by show (1 : Int).natAbs ≤ 4096; decide
theorem is_range (ok : CtxOk X) {q p : Nat} {es : List ME} {tg : TG} {N' : List PySem.Str} (hg : okG X.kd "range" = true) (h : AllE (ES X) es) : IS X (.range q es p) tg N' := by
  intro oa ρ G s Q Qv hev x hQ
  refine call_bt ok x hg (.tail _ (.tail _ (.tail _ (.tail _ (.tail _ (.head _)))))) (toEs_star es _) (args_ok (fun h => h.elim) es h _ _ _ _ _ hev x fun ds ρ1 q vs G1 s1 hG1 x1 r1 _ => ?_)
  have two : ∀ {d v} {Z : Int → Prop}, intP d Z → Rep K G1 d v → ∃ i t, v = .int i t ∧ Z i := fun h r => let ⟨i, t, e, _, z⟩ := intP_inv h r; ⟨i, t, e, z⟩
  unfold rangeP at q
  cases ds with
  | nil => exact q.elim
  | cons d1 ds =>
    obtain ⟨v1, vs, rfl, r1, rr⟩ := r1
    cases ds with
    | nil =>
      cases rr
      obtain ⟨b, t, rfl, hb, q⟩ := two q r1
      have x2 : Sm K X.P oa ρ1 G1 { s1 with heap := s1.heap.push { cls := .type "range", data := .fields #[.int 0 s1.toks, .int b t, .int 1 (s1.toks + 1)] }, toks := s1.toks + 1 + 1 } := x1.stp (Stp.push _ _ _)
      exact call_range_1 (range_iter ok rb0 hb rb1 x2 (IsRange.new ..) fun itv B s' hB x3 hS hSf => hQ _ _ q itv B G1 s' hG1 hB x3 hS hSf)
    | cons d2 ds =>
      obtain ⟨v2, vs, rfl, r2, rr⟩ := rr
      cases ds with
      | nil =>
        cases rr
        obtain ⟨a, t, rfl, q⟩ := two q r1
        obtain ⟨b, t', rfl, ha, hb, q⟩ := two q r2
        have x2 : Sm K X.P oa ρ1 G1 { s1 with heap := s1.heap.push { cls := .type "range", data := .fields #[.int a t, .int b t', .int 1 s1.toks] }, toks := s1.toks + 1 } := x1.stp (Stp.push _ _ _)
        exact call_range_2 (range_iter ok ha hb rb1 x2 (IsRange.new ..) fun itv B s' hB x3 hS hSf => hQ _ _ q itv B G1 s' hG1 hB x3 hS hSf)
      | cons d3 ds =>
        obtain ⟨v3, vs, rfl, r3, rr⟩ := rr
        cases ds with
        | cons _ _ => exact q.elim
        | nil =>
          cases rr
          obtain ⟨a, t, rfl, q⟩ := two q r1
          obtain ⟨b, t', rfl, q⟩ := two q r2
          obtain ⟨c, t'', rfl, ha, hb, hc, h0, q⟩ := two q r3
          refine call_range_3 h0 ?_ (.inl (pyl ?_))
          · have x2 : Sm K X.P oa ρ1 G1 { s1 with heap := s1.heap.push { cls := .type "range", data := .fields #[.int a t, .int b t', .int c t''] }, toks := s1.toks } := x1.stp (Stp.push _ _ _)
            exact range_iter ok ha hb hc x2 (IsRange.new ..) fun itv B s' hB x3 hS hSf => hQ _ _ q itv B G1 s' hG1 hB x3 hS hSf
          · have ha : a.natAbs ≤ 4096 := ha
            have hb : b.natAbs ≤ 4096 := hb
            exact Nat.lt_of_le_of_lt (m := 8192) (by (first | grind | omega)) (by decide)

/-! turned round, counted, side by side -/
theorem is_rever (ok : CtxOk X) {q p : Nat} {e : ME} {tg : TG} {N' : List PySem.Str} (hg : okG X.kd "reversed" = true) (he : ES X e) : IS X (.rever q e p) tg N' := by
  intro oa ρ G s Q Qv hev x hQ
  refine call_bt ok x hg (.tail _ (.tail _ (.tail _ (.tail _ (.tail _ (.tail _ (.head _))))))) (one_star e _) (arg1 (he False _ (fun h => h.elim) oa _ _ _ _ _ hev x fun d ρ1 h1 v G1 s1 hG1 x1 r1 => ?_))
  obtain ⟨xs, a, vs, n, rfl, g, r, q⟩ := listP_inv h1 r1
  have hL : s1.heap.IsList a vs := ⟨_, x1.inc _ _ g, rfl, _, rfl⟩
  refine call_reversed_list hL ?_
  have hit : (s1.heap.push (revObj a ((vs.size : Int) - 1))).IsRevIter s1.heap.objs.size a ((vs.size : Int) - 1) := ⟨_, Heap.get?_push_size _ rfl, rfl, rfl⟩
  refine wpAny_pyIter_revIter hit ?_
  obtain ⟨B, hB, x2, hS, hSf⟩ := walk_start (target := toT tg N') (tk := s1.toks) (h' := s1.heap.push (revObj a ((vs.size : Int) - 1))) x1 (Walks.listRev (prog := K.prog) (w := K.w) ok.hA.1 s1.heap.objs.size a (Nat.ne_of_lt (Heap.lt_size (x1.inc _ _ g))) vs) (fun i h st => let ⟨_, ho, _⟩ := st.2.1; one_live ho) (fun i v s Q st hq => let ⟨_, ho, hc, hd⟩ := st.2.1; goAny (toT_tgt _ _) ho hc hd (by decide) hq) (ds := xs.reverse) (by rw [List.length_reverse, r.size])
    (two_fp g) (fun i v d hv hd => by
      have hi : i < xs.length := by rw [← List.length_reverse]; exact (List.getElem?_eq_some_iff.mp hd).1
      rw [List.getElem?_reverse hi] at hd
      exact get_of (i := 0) r hv (by rw [r.size]; exact hd))
    (fun b o e => Heap.get?_push_of_some _ e) one_new ⟨Nat.zero_le _, by rw [Int.natCast_zero, Int.sub_zero]; exact hit, hL.push _⟩
  exact hQ _ _ q _ B G1 _ hG1 hB x2 hS hSf
theorem enumL_get {xs : List D} {i : Nat} {d : D} (h : (enumL xs)[i]? = some d) : ∃ x, xs[i]? = some x ∧ d = .tup [.int i, x] := by
  unfold enumL at h
  rw [List.getElem?_zipWith] at h
  cases hx : xs[i]? with
  | none => rw [hx] at h; cases hr : (List.range xs.length)[i]? <;> rw [hr] at h <;> cases h
  | some x =>
    rw [hx, List.getElem?_range (List.getElem?_eq_some_iff.mp hx).1] at h
    exact ⟨x, rfl, (Option.some.inj h).symm⟩
theorem enumL_len (xs : List D) : (enumL xs).length = xs.length := by rw [enumL, List.length_zipWith, List.length_range, Nat.min_self]
theorem zipL_get {xs ys : List D} {i : Nat} {d : D} (h : (zipL xs ys)[i]? = some d) : ∃ x y, xs[i]? = some x ∧ ys[i]? = some y ∧ d = .tup [x, y] := by
  unfold zipL at h
  rw [List.getElem?_zipWith] at h
  cases hx : xs[i]? <;> cases hy : ys[i]? <;> rw [hx, hy] at h <;> cases h
  exact ⟨_, _, rfl, rfl, rfl⟩
theorem pair_rep {i : Nat} {t : Tok} {x : D} {v : Value} (r : Rep K G x v) : RepL K G [.int i, x] [.int i t, v] := ⟨_, _, rfl, ⟨t, rfl⟩, _, [], rfl, r, rfl⟩
theorem two_new {n : Nat} : ∀ b ∈ [n + 1, n], n ≤ b := fun b hb => by
  rcases List.mem_cons.mp hb with rfl | hb
  · exact Nat.le_succ _
  · exact one_new b hb
theorem is_enum (ok : CtxOk X) {q p tp : Nat} {e : ME} {is : List (Nat × Nat)} {N' : List PySem.Str} (hg : okG X.kd "enumerate" = true) (he : ES X e) : IS X (.enum q e p) (.many is tp) N' := by
  intro oa ρ G s Q Qv hev x hQ
  refine call_bt ok x hg (.tail _ (.tail _ (.tail _ (.tail _ (.tail _ (.tail _ (.tail _ (.head _)))))))) (one_star e _) (arg1 (he False _ (fun h => h.elim) oa _ _ _ _ _ hev x fun d ρ1 h1 v G1 s1 hG1 x1 r1 => ?_))
  cases d with
  | list xs =>
    obtain ⟨a, vs, n, rfl, g, r⟩ := r1
    have hL : s1.heap.IsList a vs := ⟨_, x1.inc _ _ g, rfl, _, rfl⟩
    have hlt : a < s1.heap.objs.size := Heap.lt_size (x1.inc _ _ g)
    refine call_enumerate_list hL fun h' he' hit' hsz hk => ?_
    refine wpAny_pyIter_enum he' ?_
    obtain ⟨B, hB, x2, hS, hSf⟩ := walkT_start (elts := nmsE N' is) (k0 := 0) (pos := dp tp) (tk := s1.toks) (h' := h') (wr := [s1.heap.objs.size + 1, s1.heap.objs.size]) x1 (WalksT.enumerate (prog := K.prog) (w := K.w) ok.hA.1 (s1.heap.objs.size + 1) s1.heap.objs.size a (Nat.ne_of_gt (Nat.lt_succ_self _)) (Nat.ne_of_lt (Nat.lt_succ_of_lt hlt)) (Nat.ne_of_lt hlt) vs) (fun _ h => h) (fun i h st b hb => by
        obtain ⟨⟨old, h1⟩, ⟨o, h2, _⟩, _⟩ := st
        rcases List.mem_cons.mp hb with rfl | hb
        · exact ⟨_, h1⟩
        · exact one_live h2 b hb) (ds := enumL xs) (by rw [enumL_len, r.size])
        (fun b hb => by
          rcases List.mem_cons.mp hb with rfl | hb
          · exact .inl (.head _)
          · exact (two_fp g b hb).imp (.tail _) id)
        (fun i vals d hv hd => by
          obtain ⟨t, v, hv, rfl⟩ := hv
          obtain ⟨x, hx, rfl⟩ := enumL_get hd
          exact ⟨_, rfl, pair_rep (get_of (i := 0) r hv hx)⟩)
        hk two_new ⟨⟨_, he'⟩, hit', hL.at fun o e => hk _ _ e⟩
    exact hQ _ _ h1 _ B G1 _ hG1 hB x2 hS hSf
  | str cs =>
    obtain ⟨t, rfl⟩ := r1
    refine call_enumerate_str fun h' he' hit' hsz hk => ?_
    refine wpAny_pyIter_enum he' ?_
    have main : ∀ {ty : String} (Dr : Draws K.prog K.w X.A.in1 s1.heap.objs.size [s1.heap.objs.size] (⟨cs.toArray⟩ : PySem.Str).cps.size (fun i v => ∃ c u, (⟨cs.toArray⟩ : PySem.Str).cps[i]? = some c ∧ v = .str ⟨#[c]⟩ u) (fun i h => h.IsStrIter s1.heap.objs.size ty ⟨cs.toArray⟩ t i)),
        h'.IsStrIter s1.heap.objs.size ty ⟨cs.toArray⟩ t 0 → Qv (.ref (s1.heap.objs.size + 1)) { s1 with heap := h' } := fun {ty} Dr hit => by
      obtain ⟨B, hB, x2, hS, hSf⟩ := walkT_start (elts := nmsE N' is) (k0 := 0) (pos := dp tp) (tk := s1.toks) (h' := h') (wr := [s1.heap.objs.size + 1, s1.heap.objs.size]) x1 (WalksT.enumerateD Dr (s1.heap.objs.size + 1) (Nat.ne_of_gt (Nat.lt_succ_self _)) (fun h => absurd (List.mem_singleton.mp h) (Nat.ne_of_gt (Nat.lt_succ_self _))) (.head _)) (fun _ h => h) (fun i h st b hb => by
          obtain ⟨⟨old, h1⟩, ⟨o, h2, _⟩⟩ := st
          rcases List.mem_cons.mp hb with rfl | hb
          · exact ⟨_, h1⟩
          · exact one_live h2 b hb) (ds := enumL (cs.map fun c => .str [c])) (by rw [enumL_len, List.length_map]; exact List.size_toArray.symm)
          (fun b hb => .inl hb)
          (fun i vals d hv hd => by
            obtain ⟨t', v, ⟨c, u, hc, rfl⟩, rfl⟩ := hv
            obtain ⟨x, hx, rfl⟩ := enumL_get hd
            rw [List.getElem?_map, Option.map_eq_some_iff] at hx
            obtain ⟨c', hc', rfl⟩ := hx
            have : cs[i]? = some c := by simpa using hc
            rw [hc'] at this; cases this
            exact ⟨_, rfl, pair_rep ⟨u, rfl⟩⟩)
          hk two_new ⟨⟨_, he'⟩, hit⟩
      exact hQ _ _ h1 _ B G1 _ hG1 hB x2 hS hSf
    unfold strIterType at hit'
    split at hit'
    · exact main (Draws.strAscii (A := X.A.in1) ok.hA.1 _ _ t) hit'
    · exact main (Draws.strWide (A := X.A.in1) ok.hA.1 _ _ t) hit'
  | _ => exact h1.elim
theorem five {z : Nat} {Z : Nat → Prop} (h0 : Z z) (h1 : Z (z + 1)) (h2 : Z (z + 2)) (h3 : Z (z + 3)) (h4 : Z (z + 4)) : ∀ b ∈ [z + 4, z + 2, z + 3, z, z + 1], Z b := fun b hb => by
  rcases List.mem_cons.mp hb with rfl | hb
  · exact h4
  rcases List.mem_cons.mp hb with rfl | hb
  · exact h2
  rcases List.mem_cons.mp hb with rfl | hb
  · exact h3
  rcases List.mem_cons.mp hb with rfl | hb
  · exact h0
  · rw [List.mem_singleton.mp hb]; exact h1
theorem zip_apart {z a b : Nat} (ha : a < z) (hb : b < z) : ZipApart (z + 4) (z + 2) (z + 3) z (z + 1) a b := by
  have lt : ∀ k, a < z + k ∧ b < z + k := fun k => ⟨Nat.lt_of_lt_of_le ha (Nat.le_add_right _ _), Nat.lt_of_lt_of_le hb (Nat.le_add_right _ _)⟩
  have ne : ∀ {i j : Nat}, i ≠ j → z + i ≠ z + j := fun h e => h (Nat.add_left_cancel e)
  constructor <;> first | exact ne (by decide) | exact Nat.ne_of_lt (lt _).1 | exact Nat.ne_of_lt (lt _).2 | exact Nat.ne_of_lt (lt 0).1 | exact Nat.ne_of_lt (lt 0).2 | exact ne (i := 0) (by decide) | exact ne (j := 0) (by decide) | exact Ne.symm (ne (i := 0) (by decide))
theorem is_zip (ok : CtxOk X) {q p tp : Nat} {a b : ME} {is : List (Nat × Nat)} {N' : List PySem.Str} (hg : okG X.kd "zip" = true) (ha : ES X a) (hb : ES X b) : IS X (.zip q a b p) (.many is tp) N' := by
  intro oa ρ G s Q Qv hev x hQ
  refine call_bt ok x hg (.tail _ (.tail _ (.tail _ (.tail _ (.tail _ (.tail _ (.tail _ (.tail _ (.head _))))))))) (toEs_star [a, b] _) ?_
  show WP K X.A NE (spliced (backTo (dp p) (starEach [toE a X.P.names, toE b X.P.names] X.P.env))) _ s
  rw [starEach_cons (toE_star a _), starEach_cons (toE_star b _)]
  refine Calls.spliced_cons (ha False _ (fun h => h.elim) oa _ _ _ _ _ hev x fun d1 ρ1 h1 v G1 s1 hG1 x1 r1 => Calls.spliced_cons (hb False _ (fun h => h.elim) oa _ _ _ _ _ h1 x1 fun d2 ρ2 h2 u G2 s2 hG2 x2 r2 => Calls.spliced_nil ?_))
  obtain ⟨xs, l1, vs, n, rfl, g1, r1, h2⟩ := listP_inv h2 (Rep.mono hG2 _ _ r1)
  obtain ⟨ys, l2, us, n', rfl, g2, r2, q⟩ := listP_inv h2 r2
  have hL1 : s2.heap.IsList l1 vs := ⟨_, x2.inc _ _ g1, rfl, _, rfl⟩
  have hL2 : s2.heap.IsList l2 us := ⟨_, x2.inc _ _ g2, rfl, _, rfl⟩
  refine call_zip_2 hL1 hL2 fun h' hz hTI hTO hi1 hi2 hsz hk => ?_
  refine wpAny_pyIter_zip hz ?_
  obtain ⟨B, hB, xB, hS, hSf⟩ := walkT_start (elts := nmsE N' is) (k0 := 0) (pos := dp tp) (tk := s2.toks) (h' := h') (wr := [s2.heap.objs.size + 4, s2.heap.objs.size + 2, s2.heap.objs.size + 3, s2.heap.objs.size, s2.heap.objs.size + 1]) x2 (WalksT.zip2 (prog := K.prog) (w := K.w) ok.hA.1 (s2.heap.objs.size + 4) (s2.heap.objs.size + 2) (s2.heap.objs.size + 3) s2.heap.objs.size (s2.heap.objs.size + 1) l1 l2 (zip_apart (Heap.lt_size (x2.inc _ _ g1)) (Heap.lt_size (x2.inc _ _ g2))) vs us)
    (fun b hb => by
      rcases List.mem_cons.mp hb with rfl | hb
      · exact .head _
      rcases List.mem_cons.mp hb with rfl | hb
      · exact .tail _ (.tail _ (.head _))
      · exact .tail _ (.tail _ (.tail _ hb)))
    (fun i h st => by
      obtain ⟨q1, q2, ⟨_, _, q3⟩, ⟨o4, q4, _⟩, ⟨o5, q5, _⟩, _⟩ := st
      exact five (Z := fun b => ∃ o, h.get? b = some o) ⟨_, q4⟩ ⟨_, q5⟩ ⟨_, q2⟩ ⟨_, q3⟩ ⟨_, q1⟩) (ds := zipL xs ys) (by rw [zipL, List.length_zipWith, r1.size, r2.size])
    (fun b hb => by
      rcases List.mem_append.mp (show b ∈ [s2.heap.objs.size + 4, s2.heap.objs.size + 2, s2.heap.objs.size + 3, s2.heap.objs.size, s2.heap.objs.size + 1] ++ [l1, l2] from hb) with hb | hb
      · exact .inl hb
      rcases List.mem_cons.mp hb with rfl | hb
      · exact .inr ⟨_, g1⟩
      · rw [List.mem_singleton.mp hb]; exact .inr ⟨_, g2⟩)
    (fun i vals d hv hd => by
      obtain ⟨v, u, hv, hu, rfl⟩ := hv
      obtain ⟨x, y, hx, hy, rfl⟩ := zipL_get hd
      exact ⟨_, rfl, _, _, rfl, get_of (i := 0) r1 hv hx, _, [], rfl, get_of (i := 0) r2 hu hy, rfl⟩)
    hk (five (Nat.le_refl _) (Nat.le_add_right _ _) (Nat.le_add_right _ _) (Nat.le_add_right _ _) (Nat.le_add_right _ _))
    ⟨hz, hTI, ⟨_, _, hTO⟩, hi1, hi2, hL1.at fun o e => hk _ _ e, hL2.at fun o e => hk _ _ e⟩
  exact hQ _ _ q _ B G2 _ (hG1.trans hG2) hB xB hS hSf
end
end Mine

set_option autoImplicit false
set_option linter.all false
set_option maxRecDepth 100000
namespace Mine
open PySem PySem.W PySem.Calls PyProof.Rows

noncomputable def cls (env : Env) : List (PySem.Str × NameKind) → List (PySem.Str × Addr) → List (PySem.Str × Addr)
  | [], cs => cs
  | (n, k) :: r, cs => cls env r (if k == .free then (n, (env.cells.lookup n).getD 0) :: cs else cs)

theorem closureFor_eq {scope : Scope} {env : Env} (h : ∀ x ∈ scope.names, x.2 = .free → ∃ c, env.cells.lookup x.1 = some c) : closureFor scope env = pure (cls env scope.names []) := by
  unfold closureFor
  generalize ([] : List (PySem.Str × Addr)) = cs
  generalize hn : scope.names = names at h
  clear hn
  induction names generalizing cs with
  | nil => rfl
  | cons x r ih =>
    obtain ⟨n, k⟩ := x
    have ih := fun cs => ih cs (fun y hy => h y (.tail _ hy))
    dsimp only at ih ⊢
    simp only [List.forIn_cons]
    simp only [cls]
    cases hk : (k == NameKind.free) with
    | true =>
      obtain ⟨c, hc⟩ := h _ (.head _) (by simpa using hk)
      simp only [if_true, cellOf, hc, Option.getD_some]
      exact ih _
    | false =>
      simp only [Bool.false_eq_true, if_false]
      exact ih _

theorem cls_lookup {env : Env} {y : PySem.Str} {c : Addr} (hc : env.cells.lookup y = some c) : ∀ (names : List (PySem.Str × NameKind)) (cs : List (PySem.Str × Addr)), ((y, NameKind.free) ∈ names ∨ cs.lookup y = some c) → (cls env names cs).lookup y = some c
  | [], cs, h => by
    rcases h with h | h
    · cases h
    · exact h
  | (n, k) :: r, cs, h => by
    simp only [cls]
    refine cls_lookup hc r _ ?_
    rcases h with h | h
    · rcases List.mem_cons.mp h with e | h
      · cases e
        right
        simp [List.lookup_cons, hc]
      · exact .inl h
    · right
      split
      · by_cases hn : y = n
        · subst hn; simp [List.lookup_cons, hc]
        · rw [List.lookup_cons, beq_eq_false_iff_ne.mpr hn]; exact h
      · exact h


/-- the names of a comprehension -/
noncomputable def compKd (kd : PySem.Str → Option NameKind) (sc : Scope) : PySem.Str → Option NameKind := fun x => (sc.names.map fun (n, k) => if (k == NameKind.free && kd n == some .cell) then (n, NameKind.cell) else (n, k)).lookup x

section
variable {K : Cfg} {P : Frm} {oa : Nat → Addr} {ρ : MEnv} {G : PH} {s : Shared}
/-- other slots, none of them the frame's own -/
theorem Sm.reset {ρ0 : MEnv} {oa' : Nat → Addr} (X : Sm K P oa ρ G s) (hl : ρ0.length = P.names.length) (h : ∀ (i : Nat) (x : PySem.Str) (sl : Slot), P.names[i]? = some x → ρ0[i]? = some sl → sl.excl = false ∧ ∀ h m a, SlotOk K P G h m a x sl) : Sm K P oa' ρ0 G s := by
  obtain ⟨m, hm, _⟩ := X.slots
  have no : ∀ {i : Nat} {x : PySem.Str} {sl : Slot}, P.names[i]? = some x → ρ0[i]? = some sl → sl.excl = true → False := fun h1 h2 h3 => by
    rw [(h _ _ _ h1 h2).1] at h3; cases h3
  exact ⟨X.same, ⟨m, hm, fun i x sl h1 h2 => (h i x sl h1 h2).2 _ _ _⟩, X.nodup, X.inc, X.offL, fun i x sl h1 h2 h3 => (no h1 h2 h3).elim, fun i j x y sl sl' h1 h2 h3 h4 h5 => (no h1 h3 h5).elim, X.keep, X.old, X.above, X.iol, X.top, X.topL,
    fun b o hb => let ⟨b1, b2, b3, b4, b5, _⟩ := X.ban b o hb; ⟨b1, b2, b3, b4, b5, fun i y sl h1 h2 h3 => (no h1 h2 h3).elim⟩, let ⟨t1, t2, t3, t4, _, t6⟩ := X.tab; ⟨t1, t2, t3, t4, fun i y sl h1 h2 h3 => (no h1 h2 h3).elim, t6⟩, hl⟩

/-- the frame's own objects -/
noncomputable def ownsOf (P : Frm) (oa : Nat → Addr) (ρ : MEnv) : List Addr := P.env.locals :: (List.range ρ.length).filterMap fun i => match ρ[i]?, P.names[i]? with
  | some sl, some _ => if sl.excl then some (oa i) else none
  | _, _ => none
theorem mem_owns {b : Addr} : b ∈ ownsOf P oa ρ ↔ b = P.env.locals ∨ ∃ i y sl, P.names[i]? = some y ∧ ρ[i]? = some sl ∧ sl.excl = true ∧ b = oa i := by
  unfold ownsOf
  rw [List.mem_cons, List.mem_filterMap]
  constructor
  · rintro (h | ⟨i, hi, e⟩)
    · exact .inl h
    · right
      split at e
      · rename_i sl y h1 h2
        split at e
        · rename_i h3; cases e; exact ⟨i, y, sl, h2, h1, h3, rfl⟩
        · cases e
      · cases e
  · rintro (h | ⟨i, y, sl, h1, h2, h3, rfl⟩)
    · exact .inl h
    · right
      refine ⟨i, List.mem_range.mpr (List.getElem?_eq_some_iff.mp h2).1, ?_⟩
      rw [h1, h2]
      simp [h3]

theorem Sm.owns (X : Sm K P oa ρ G s) (hio : P.io = none) {b : Addr} (hb : b ∈ ownsOf P oa ρ) : (∃ o, s.heap.get? b = some o) ∧ G b = none ∧ K.hT.get? b = none ∧ P.s₀.heap.objs.size ≤ b := by
  rcases mem_owns.mp hb with rfl | ⟨i, y, sl, h1, h2, h3, rfl⟩
  · obtain ⟨m, ⟨o, es, ep, g, _⟩, _⟩ := X.slots
    refine ⟨⟨o, g⟩, X.offL, ?_, X.above⟩
    cases hg : K.hT.get? P.env.locals with
    | none => rfl
    | some o' => exact absurd (Heap.lt_size hg) (Nat.not_lt.mpr X.topL)
  · obtain ⟨o1, o2, o3, o4⟩ := X.off i y sl h1 h2 h3
    refine ⟨X.exclGet h1 h2 h3, o1, o3, ?_⟩
    rcases o4 with ⟨xs, rfl⟩ | h
    · obtain ⟨m, _, hs⟩ := X.slots
      obtain ⟨_, _, e, _⟩ := hs i y _ h1 h2
      rw [hio] at e; cases e
    · exact h

end
section
variable {K : Cfg} {X : Ctx K} {E : Value → Shared → Prop} {oa : Nat → Addr} {ρ : MEnv} {G : PH} {s : Shared}
theorem comp_block (ok : CtxOk X) (hio : X.P.io = none) {sc : Scope} {elt : ME} {tg : TG} {iter : Expr} {pos : Pos} {xs frn : List PySem.Str} {fs : List Slot} {cl : List (PySem.Str × Addr)} {it : Value} {ds : List D} {B : List (Addr × Obj)} {Z : List D → Prop} {RR : Value → Addr → Result → Shared → Prop}
    (hcl : ∀ y, compKd X.kd sc y = some .cell → ∃ c, cl.lookup y = some c)
    (hkind : sc.kind = .function) (hcell : ∀ x ∈ sc.names, x.2 ≠ .cell) (hnd : (xs ++ frn).Nodup) (hpl : (xs ++ frn).all plainNm = true) (hfl : fs.length = frn.length)
    (hfs : ∀ (j : Nat) (sl : Slot), fs[j]? = some sl → ∃ y d c o v, frn[j]? = some y ∧ sl = Slot.val d ∧ compKd X.kd sc y = some .cell ∧ cl.lookup y = some c ∧ G c = some o ∧ o.data = .cell (some v) ∧ Rep K G d v)
    (ht : okT (compKd X.kd sc) (xs ++ frn) tg = true) (helt : ∀ X' : Ctx K, CtxOk X' → X'.P.names = xs ++ frn → X'.kd = compKd X.kd sc → X'.io = false → X'.C = X.C → X'.A = X.A → ES X' elt)
    (hS : Src K X.A (toT tg (xs ++ frn)) it ds B G) (hself : SelfIt K X.A it B G) (hoff : Off X.P B) (X0' : Sm K { X.P with ban := B ++ X.P.ban } oa ρ G s) (hev : mapP (fun d Q => stT tg d (List.replicate xs.length .unset ++ fs) fun ρ' => wpE X.C elt False ρ' fun y _ => Q y) ds Z) (hlen : ds.length ≤ 4096)
    (hRR : ∀ ys, Z ys → ∀ D L h' tk m' o G', Sub G G' → Sm K { X.P with ban := (L, o) :: X.P.ban } oa ρ G' { s with heap := h', toks := tk } → Rep K G' (.list ys) (.ref D) → h'.Ns L m' → (∀ b o', (b, o') ∈ X.P.ban → b ≠ L) → RR (.ref D) L (.ok .next) { s with heap := h', toks := tk }) :
    WP K X.A NE (newList []) (fun acc s₃ => WP K X.A NE (newFunctionEnv sc X.P.env.globals cl [] X.P.env.qual none .none (some X.P.env)) (fun cenv s₄ =>
      codeAny (model K.prog K.w) X.A (.compStart (.ListComp (toE elt (xs ++ frn)) [⟨toT tg (xs ++ frn), iter, [], 0⟩] sc pos) 0 it acc { cenv with scope := relabel sc X.P.env }) (RR acc cenv.locals) s₄) s₃) s := by
  obtain ⟨P, A, C, n, kd, xio⟩ := X
  dsimp only at *
  have X := X0'
  clear X0'
  refine wpAny_newObj_type (wpAny_newFunctionEnv hcell (by intro y hy; simp at hy) (fun h₁ hns₁ hsb₁ => ?_) hkind)
  dsimp only at hns₁ hsb₁ ⊢
  generalize hH2 : s.heap.push { cls := .type "list", dict := none, data := .seq ([] : List Value).toArray } = H2 at hns₁ hsb₁ ⊢
  have hC : H2.objs.size = s.heap.objs.size + 1 := by rw [← hH2, Heap.size_push]
  have hDC : s.heap.objs.size ≠ H2.objs.size := by rw [hC]; exact Nat.ne_of_lt (Nat.lt_succ_self _)
  have below : ∀ b : Nat, b < s.heap.objs.size → b ≠ H2.objs.size ∧ b ≠ s.heap.objs.size := fun b hb => ⟨by rw [hC]; exact Nat.ne_of_lt (Nat.lt_succ_of_lt hb), Nat.ne_of_lt hb⟩
  have old : ∀ b o, s.heap.get? b = some o → h₁.get? b = some o := fun b o e => hsb₁.extBut b o (below b (Heap.lt_size e)).1 (Heap.get?_push_of_some _ (hH2 ▸ Heap.get?_push_of_some _ e))
  have hacc : ∃ c, h₁.get? s.heap.objs.size = some (lst #[] c) := ⟨_, hsb₁.extBut _ _ hDC (Heap.get?_push_of_some _ (hH2 ▸ Heap.get?_push_size _ rfl))⟩
  obtain ⟨c0, hacc⟩ := hacc
  generalize hDd : s.heap.objs.size = DD at *
  generalize hLL : H2.objs.size = LL at *
  -- the frame within
  let outs := atOf s.heap (ownsOf P oa ρ)
  let rest := outs ++ P.ban
  let P' : Frm := { env := compEnvC sc cl LL P.env, names := xs ++ frn, src := [], s₀ := P.s₀, G₀ := P.G₀, io := none, ban := rest }
  let X' : List (Addr × Obj) → Ctx K := fun B => ⟨{ P' with ban := B }, A, C, n, compKd kd sc, false⟩
  have ok' : ∀ B, CtxOk (X' B) := fun B => by
    refine ⟨ok.W, ok.hA, ok.hC, ok.glob, hkind, fun y => ?_, ok.globals, ok.builtins, hcl, hpl, fun _ => rfl⟩
    show (relabel sc P.env).names.lookup y = compKd kd sc y
    have e1 : P.env.scope.kind = .function := ok.kindf
    have e2 : ∀ y, P.env.kindOf y = kd y := ok.kd
    simp only [relabel, compKd, e1, e2, beq_self_eq_true, Bool.and_true]
  let ρ0 : MEnv := List.replicate xs.length .unset ++ fs
  have hlen0 : ρ0.length = (xs ++ frn).length := by rw [List.length_append, List.length_append, List.length_replicate, hfl]
  have slots0 : ∀ G', Sub G G' → ∀ (i : Nat) (x : PySem.Str) (sl : Slot), (xs ++ frn)[i]? = some x → ρ0[i]? = some sl → sl.excl = false ∧ ∀ h m a B, SlotOk K { P' with ban := B } G' h m a x sl := by
    intro G' hG' i x sl hx hsl
    by_cases hi : i < xs.length
    · rw [List.getElem?_append_left (by simpa using hi), List.getElem?_replicate, if_pos hi] at hsl
      cases hsl
      exact ⟨rfl, fun _ _ _ _ => trivial⟩
    · rw [List.getElem?_append_right (by simp; (first | grind | omega)), List.length_replicate] at hsl
      obtain ⟨y, d, c, o, v, h1, rfl, h2, h3, h4, h5, h6⟩ := hfs _ _ hsl
      rw [List.getElem?_append_right (by (first | grind | omega)), h1] at hx
      cases hx
      exact ⟨rfl, fun _ _ _ B => .inr ⟨.inl (((ok' B).kd _).trans h2), c, o, v, h3, hG' _ _ h4, h5, Rep.mono hG' _ _ h6⟩⟩
  have hDG : ∀ b o, s.heap.get? b = some o → b ≠ DD ∧ b ≠ LL := fun b o e => ⟨(below b (Heap.lt_size e |> (hDd ▸ ·))).2, (below b (Heap.lt_size e |> (hDd ▸ ·))).1⟩
  have hDDnew : G DD = none ∧ G LL = none := by
    constructor
    · cases hg : G DD with
      | none => rfl
      | some o => exact absurd rfl (hDG _ _ (X.inc _ _ hg)).1
    · cases hg : G LL with
      | none => rfl
      | some o => exact absurd rfl (hDG _ _ (X.inc _ _ hg)).2
  have hDDtop : K.hT.get? DD = none ∧ K.hT.get? LL = none := by
    constructor
    · cases hg : K.hT.get? DD with
      | none => rfl
      | some o => exact absurd rfl (hDG _ _ (X.top _ _ hg)).1
    · cases hg : K.hT.get? LL with
      | none => rfl
      | some o => exact absurd rfl (hDG _ _ (X.top _ _ hg)).2
  have hge : P.s₀.heap.objs.size ≤ DD := by
    have h1 := X.above
    have h2 := X.ltL
    rw [hDd] at h2
    exact Nat.le_trans h1 (Nat.le_of_lt h2)
  have hgeL : DD < LL := by rw [hC]; exact Nat.lt_succ_self _
  have X0 : Sm K { P' with ban := B ++ ((DD, lst #[] c0) :: rest) } (fun _ => 0) ρ0 G { s with heap := h₁, toks := s.toks + ([] : List (PySem.Str × Value)).length } := by
    refine ⟨?_, ⟨_, hns₁, fun i x sl h1 h2 => (slots0 G (Sub.refl G) i x sl h1 h2).2 _ _ _ _⟩, hnd, fun b o e => old b o (X.inc b o e), hDDnew.2, fun i x sl h1 h2 h3 => ?_, fun i j x y sl sl' h1 h2 h3 h4 h5 => ?_, fun b o e _ hp => old b o (X.keep b o e (by rw [show ({ P with ban := B ++ P.ban } : Frm).io = P.io from rfl, hio]; exact fun h => (nomatch h)) hp), X.old, ?_, fun b e => (nomatch e), fun b o e => old b o (X.top b o e), ?_, fun b o hb => ?_, ?_, hlen0⟩
    · obtain ⟨h, t, e⟩ := X.same
      exact ⟨h₁, _, by rw [e]⟩
    · rw [(slots0 G (Sub.refl G) i x sl h1 h2).1] at h3; cases h3
    · rw [(slots0 G (Sub.refl G) i x sl h1 h3).1] at h5; cases h5
    · exact Nat.le_trans hge (Nat.le_of_lt hgeL)
    · have h1 := X.topL
      have h2 := X.ltL
      rw [hDd] at h2
      exact Nat.le_trans h1 (Nat.le_of_lt (Nat.lt_trans h2 hgeL))
    · have fin : ∀ b o, s.heap.get? b = some o → G b = none → K.hT.get? b = none → P.s₀.heap.objs.size ≤ b → h₁.get? b = some o ∧ G b = none ∧ b ≠ LL ∧ K.hT.get? b = none ∧ P.s₀.heap.objs.size ≤ b ∧ ∀ (i : Nat) (y : PySem.Str) (sl : Slot), (xs ++ frn)[i]? = some y → ρ0[i]? = some sl → sl.excl = true → (0 : Addr) ≠ b := fun b o e h1 h2 h3 => ⟨old b o e, h1, (hDG b o e).2, h2, h3, fun i y sl q1 q2 q3 => by rw [(slots0 G (Sub.refl G) i y sl q1 q2).1] at q3; cases q3⟩
      rcases List.mem_append.mp hb with hb | hb
      · obtain ⟨b1, b2, b3, b4, b5, _⟩ := X.ban b o (List.mem_append.mpr (.inl hb))
        exact fin b o b1 b2 b4 b5
      · rcases List.mem_cons.mp hb with e | hb
        · cases e
          exact ⟨hacc, hDDnew.1, hDC, hDDtop.1, hge, fun i y sl q1 q2 q3 => by rw [(slots0 G (Sub.refl G) i y sl q1 q2).1] at q3; cases q3⟩
        · rcases List.mem_append.mp hb with hb | hb
          · obtain ⟨hb1, hb2⟩ := mem_atOf.mp hb
            obtain ⟨_, b2, b4, b5⟩ := X.owns hio hb1
            exact fin b o hb2 b2 b4 b5
          · obtain ⟨b1, b2, b3, b4, b5, _⟩ := X.ban b o (List.mem_append.mpr (.inr hb))
            exact fin b o b1 b2 b4 b5
    · obtain ⟨⟨o, t1, t2⟩, t3, t4, t5, t6, t7, t8⟩ := X.tab
      refine ⟨⟨o, old _ _ t1, t2⟩, t3, (hDG _ _ t1).2, t5, fun i x sl h1 h2 h3 => ?_, fun b o hb => ?_, t8⟩
      · rw [(slots0 G (Sub.refl G) i x sl h1 h2).1] at h3; cases h3
      · rcases List.mem_append.mp hb with hb | hb
        · exact t7 b o (List.mem_append.mpr (.inl hb))
        · rcases List.mem_cons.mp hb with e | hb
          · cases e; exact Ne.symm (hDG _ _ t1).1
          · rcases List.mem_append.mp hb with hb | hb
            · rcases mem_owns.mp (mem_atOf.mp hb).1 with e | ⟨i, y, sl, q1, q2, q3, e⟩
              · rw [e]; exact Ne.symm t4
              · rw [e]; exact t6 i y sl q1 q2 q3
            · exact t7 b o (List.mem_append.mpr (.inr hb))
  have restNe : ∀ b o, (b, o) ∈ rest → b ≠ DD ∧ ∀ o', (b, o') ∉ B := fun b o hb => by
    rcases List.mem_append.mp hb with hb | hb
    · obtain ⟨hb1, hb2⟩ := mem_atOf.mp hb
      refine ⟨(hDG _ _ hb2).1, fun o' ho' => ?_⟩
      obtain ⟨_, _, b3, _, _, b6⟩ := X.ban b o' (List.mem_append.mpr (.inl ho'))
      rcases mem_owns.mp hb1 with e | ⟨i, y, sl, q1, q2, q3, e⟩
      · exact b3 e
      · exact b6 i y sl q1 q2 q3 e.symm
    · exact ⟨(hDG _ _ (X.ban b o (List.mem_append.mpr (.inr hb))).1).1, fun o' ho' => hoff b o hb o' ho'⟩
  have DnB : ∀ o', (DD, o') ∉ B := fun o' ho' => (hDG _ _ (X.ban DD o' (List.mem_append.mpr (.inl ho'))).1).1 rfl
  have LnR : ∀ b o, (b, o) ∈ P.ban → b ≠ LL := fun b o hb => (hDG _ _ (X.ban b o (List.mem_append.mpr (.inr hb))).1).2
  -- the loop
  let f : D → (D → Prop) → Prop := fun d Q => stT tg d ρ0 fun ρ' => wpE C elt False ρ' fun y _ => Q y
  have loop : ∀ s₃ : Shared, s₃ = { s with heap := h₁, toks := s.toks + ([] : List (PySem.Str × Value)).length } →
      codeAny (model K.prog K.w) A (.compLoop (.ListComp (toE elt (xs ++ frn)) [⟨toT tg (xs ++ frn), iter, [], 0⟩] sc pos) 0 it (.ref DD) (compEnvC sc cl LL P.env)) (RR (.ref DD) LL) s₃ := by
    rintro s₃ rfl
    refine kcp_loop (fun n s' => ∃ ds1 B1 G1 us c ys0, ds1.length = n ∧ Sub G G1 ∧ Src K A (toT tg (xs ++ frn)) it ds1 B1 G1 ∧ Off { P' with ban := (DD, lst us c) :: rest } B1 ∧ Sm K { P' with ban := B1 ++ ((DD, lst us c) :: rest) } (fun _ => 0) ρ0 G1 s' ∧ RepL K G1 ys0 us.toList ∧ mapP f ds1 (fun ys1 => Z (ys0 ++ ys1)) ∧ ys0.length + ds1.length = ds.length)
      (fun n s' hI => ?_) ds.length ⟨ds, B, G, #[], c0, [], rfl, Sub.refl G, hS, ?_, X0, rfl, hev, Nat.zero_add _⟩
    · obtain ⟨ds1, B1, G1, us, c, ys0, hn, hG1, hS1, hoff1, X1, r1, hm1, hsh⟩ := hI
      cases ds1 with
      | nil =>
        have hm1 : Z (ys0 ++ []) := hm1
        rw [List.append_nil] at hm1
        refine wpAny_mono (Src.end_ (P := { P' with ban := (DD, lst us c) :: rest }) hS1 (Sub.refl _) hoff1 X1) (fun r s1 h => ?_) fun _ _ h => h.elim
        obtain ⟨rfl, X2⟩ := h
        have hDb := X2.ban DD _ (.head _)
        have rb : ∀ {b o}, (b, o) ∈ rest → s1.heap.get? b = some o ∧ G1 b = none := fun hb => let h := X2.ban _ _ (.tail _ hb); ⟨h.1, h.2.1⟩
        have own : ∀ b, b ∈ ownsOf P oa ρ → ∃ o, s.heap.get? b = some o ∧ s1.heap.get? b = some o ∧ G1 b = none ∧ b < DD := fun b hb => by
          obtain ⟨⟨o, e⟩, _⟩ := X.owns hio hb
          have := rb (List.mem_append.mpr (.inl (mem_atOf.mpr ⟨hb, e⟩)))
          exact ⟨o, e, this.1, this.2, hDd ▸ Heap.lt_size e⟩
        let G2 : PH := fun b => if b = DD then some (lst us c) else G1 b
        have e2 : ∀ {b}, b ≠ DD → G2 b = G1 b := fun h => if_neg h
        have hG2 : Sub G1 G2 := fun b o e => by
          show (if b = DD then _ else G1 b) = _
          rw [if_neg (fun h => by rw [h, hDb.2.1] at e; cases e)]; exact e
        obtain ⟨m', hm', _⟩ := X2.slots
        have hm'0 := hm'
        obtain ⟨oL, esL, epL, hoL, hrL⟩ := hm'
        have fin : Sm K { P with ban := (LL, oL) :: P.ban } oa ρ G2 s1 := by
          obtain ⟨m, hm, hs⟩ := X.slots
          refine ⟨X2.same, ⟨m, ?_, fun i x sl h1 h2 => ((hs i x sl h1 h2).mono (hG1.trans hG2)).stp fun he o e => ?_⟩, X.nodup, fun b o e => ?_, ?_, fun i x sl h1 h2 h3 => ⟨?_, (X.off i x sl h1 h2 h3).2⟩, X.apart, fun b o e _ hp => X2.keep b o e (fun h => (nomatch h)) hp, fun b o hb e => ?_, X.above, X.iol, X2.top, X.topL, fun b o hb => ?_, ?_, X.len⟩
          · obtain ⟨o, es, ep, g, r⟩ := hm
            obtain ⟨o', g1, g2, _⟩ := own P.env.locals (mem_owns.mpr (.inl rfl))
            have : some o = some o' := g.symm.trans g1
            cases this
            exact ⟨o, es, ep, g2, r⟩
          · obtain ⟨o', g1, g2, _⟩ := own (oa i) (mem_owns.mpr (.inr ⟨i, x, sl, h1, h2, he, rfl⟩))
            have : some o = some o' := e.symm.trans g1
            cases this; exact g2
          · by_cases hb : b = DD
            · subst hb
              have : some (lst us c) = some o := (if_pos rfl).symm.trans e
              cases this; exact hDb.1
            · exact X2.inc b o ((e2 hb).symm.trans e)
          · obtain ⟨_, _, _, g3, g4⟩ := own P.env.locals (mem_owns.mpr (.inl rfl))
            exact (e2 (Nat.ne_of_lt g4)).trans g3
          · obtain ⟨_, _, _, g3, g4⟩ := own (oa i) (mem_owns.mpr (.inr ⟨i, x, sl, h1, h2, h3, rfl⟩))
            exact (e2 (Nat.ne_of_lt g4)).trans g3
          · exact X2.old b o hb ((e2 (Nat.ne_of_lt (Nat.lt_of_lt_of_le hb hge))).symm.trans e)
          · rcases List.mem_cons.mp hb with h | hb
            · cases h
              obtain ⟨_, _, _, _, g4⟩ := own P.env.locals (mem_owns.mpr (.inl rfl))
              refine ⟨hoL, (e2 (Nat.ne_of_gt hgeL)).trans X2.offL, Nat.ne_of_gt (Nat.lt_trans g4 hgeL), hDDtop.2, Nat.le_trans hge (Nat.le_of_lt hgeL), fun i y sl h1 h2 h3 e => ?_⟩
              obtain ⟨_, _, _, _, g4⟩ := own (oa i) (mem_owns.mpr (.inr ⟨i, y, sl, h1, h2, h3, rfl⟩))
              exact absurd (Nat.lt_trans g4 hgeL) (e ▸ Nat.lt_irrefl _)
            · obtain ⟨b1, b2⟩ := rb (List.mem_append.mpr (.inr hb))
              obtain ⟨_, _, q3, q4, q5, q6⟩ := X.ban b o (List.mem_append.mpr (.inr hb))
              exact ⟨b1, (e2 (restNe b o (List.mem_append.mpr (.inr hb))).1).trans b2, q3, q4, q5, q6⟩
          · obtain ⟨⟨o, t1, t2⟩, t3, _⟩ := X2.tab
            obtain ⟨⟨oq, q1, _⟩, _, q4, q5, q6, q7, q8⟩ := X.tab
            refine ⟨⟨o, t1, K.tabMono _ _ _ hG2 t2⟩, (e2 (hDG _ _ q1).1).trans t3, q4, q5, q6, fun b o hb => ?_, q8⟩
            rcases List.mem_cons.mp hb with h | hb
            · cases h; exact Ne.symm (hDG _ _ q1).2
            · exact q7 b o (List.mem_append.mpr (.inr hb))
        have hs1 : s1 = { s with heap := s1.heap, toks := s1.toks } := by
          obtain ⟨_, _, q1⟩ := X.same
          obtain ⟨_, _, q2⟩ := X2.same
          rw [q1]
          conv => lhs; rw [q2]
          rw [q2]
        have := hRR ys0 hm1 DD LL s1.heap s1.toks m' oL G2 (hG1.trans hG2) (hs1 ▸ fin) ⟨DD, us, c, rfl, if_pos rfl, RepL.mono hG2 _ _ r1⟩ hm'0 LnR
        exact hs1 ▸ this
      | cons d ds1 =>
        have hm1 : stT tg d ρ0 fun ρ' => wpE C elt False ρ' fun y _ => mapP f ds1 fun ys1 => Z (ys0 ++ (y :: ys1)) := hm1
        refine wpAny_mono (Src.step (P := { P' with ban := (DD, lst us c) :: rest }) hS1 (Sub.refl _) hoff1 X1) (fun r s1 h => ?_) fun _ _ h => h.elim
        obtain ⟨v, rfl, h⟩ := h
        refine wpAny_mono h (fun _ s2 h2 => ?_) fun _ _ h => h.elim
        obtain ⟨B2, G2, hoff2, hG2, X2, r2, hS2⟩ := h2
        refine assign_ok (X := X' (B2 ++ ((DD, lst us c) :: rest))) (ok' _) ht hm1 X2 r2 fun ρ2 z oa2 s3 X3 => ?_
        refine helt (X' (B2 ++ ((DD, lst us c) :: rest))) (ok' _) rfl rfl rfl rfl rfl False _ (fun h => h.elim) _ _ _ _ _ _ z X3 fun y' ρ3 hm2 x G4 s4 hG4 X4 r4 => ?_
        have hD4 := X4.ban DD (lst us c) (List.mem_append.mpr (.inr (.head _)))
        have hul := r1.size
        refine wpAny_list_append_plain ⟨c, hD4.1⟩ (fun h' hg hsb => ?_) (by rw [hul]; exact le_line (by simp only [List.length_cons] at *; (first | grind | omega)))
        obtain ⟨c', hg⟩ := hg
        have DnB2 : ∀ o', (DD, o') ∉ B2 := fun o' ho' => hoff2 DD (lst us c) (.head _) o' ho'
        have X5 : Sm K { P' with ban := [(DD, lst (us.push x) c')] ++ (B2 ++ rest) } oa2 ρ3 G4 { s4 with heap := h', toks := s4.toks } := by
          refine Sm.walk (P := { P' with ban := B2 ++ rest }) (B := B2 ++ ((DD, lst us c) :: rest)) (wr := [DD]) X4 (fun b hb => ?_) (fun z hz => ?_) (fun b o hb hw => ?_) (fun b o hb e => ?_) fun b o hb => ?_
          · rw [List.mem_singleton.mp hb]; exact ⟨_, List.mem_append.mpr (.inr (.head _))⟩
          · rcases List.mem_append.mp hz with h | h
            · exact List.mem_append.mpr (.inl h)
            · exact List.mem_append.mpr (.inr (.tail _ h))
          · rw [List.mem_singleton.mp hw] at hb
            rcases List.mem_append.mp hb with h | h
            · exact DnB2 _ h
            · exact (restNe _ _ h).1 rfl
          · exact (hsb.2 b (fun h => hb (by rw [h]; exact .head _))).trans e
          · cases List.mem_singleton.mp hb
            exact ⟨.head _, hg⟩
        have hG14 : Sub G1 G4 := hG2.trans hG4
        have X6 : Sm K { P' with ban := B2 ++ ((DD, lst (us.push x) c') :: rest) } (fun _ => 0) ρ0 G4 { s4 with heap := h', toks := s4.toks } := by
          refine Sm.reset (hl := hlen0) (Sm.less (P := { P' with ban := [(DD, lst (us.push x) c')] ++ (B2 ++ rest) }) (B := B2 ++ ((DD, lst (us.push x) c') :: rest)) X5 fun z hz => ?_) fun i x sl h1 h2 => ?_
          · show z ∈ (DD, lst (us.push x) c') :: (B2 ++ rest)
            rcases List.mem_append.mp hz with h | h
            · exact .tail _ (List.mem_append.mpr (.inl h))
            · rcases List.mem_cons.mp h with rfl | h
              · exact .head _
              · exact .tail _ (List.mem_append.mpr (.inr h))
          · have := slots0 G4 (hG1.trans hG14) i x sl h1 h2
            exact ⟨this.1, fun h m a => this.2 h m a _⟩
        refine ⟨ds1.length, by rw [← hn]; exact Nat.lt_succ_self _, ds1, B2, G4, us.push x, c', ys0 ++ [y'], rfl, hG1.trans hG14, hS2.mono hG4, fun b o hb o' ho' => ?_, X6, ?_, by simpa only [List.append_assoc, List.singleton_append] using hm2, by simp only [List.length_cons, List.length_append, List.length_nil] at *; (first | grind | omega)⟩
        · rcases List.mem_cons.mp hb with h | h
          · cases h; exact DnB2 _ ho'
          · exact hoff2 b o (.tail _ h) o' ho'
        · rw [Array.toList_push]
          exact RepL.append (RepL.mono hG14 _ _ r1) (RepL.single r4)
    · intro b o hb o' ho'
      rcases List.mem_cons.mp hb with h | h
      · cases h; exact DnB _ ho'
      · exact (restNe b o h).2 _ ho'
  exact codeAny_compStart_list (loop _ rfl) (wpAny_mono (hself G _ (fun it' s' => codeAny (model K.prog K.w) A (.compLoop (.ListComp (toE elt (xs ++ frn)) [⟨toT tg (xs ++ frn), iter, [], 0⟩] sc pos) 0 it' (.ref DD) (compEnvC sc cl LL P.env)) (RR (.ref DD) LL) s') (Sub.refl G) ⟨X0.inc, fun b o hb => ⟨(X0.ban b o (List.mem_append.mpr (.inl hb))).1, (X0.ban b o (List.mem_append.mpr (.inl hb))).2.1⟩⟩ (loop _ rfl)) (fun _ _ h => h) fun _ _ h => h.elim)

end
end Mine

set_option autoImplicit false
set_option linter.all false
set_option maxRecDepth 100000
namespace Mine
open PySem PySem.W PySem.Calls PyProof.Rows

theorem noSet_E (e : ME) (N : List PySem.Str) (env : Env) (x : Value) : foldedSetIterable (toE e N) env x = pure x := by cases e <;> rfl
theorem noSet_I (i : It) (N : List PySem.Str) (env : Env) (x : Value) : foldedSetIterable (toIt i N) env x = pure x := by
  cases i with
  | seq e => exact noSet_E e N env x
  | _ => rfl
theorem mem_of_lookup {α β : Type} [BEq α] [LawfulBEq α] {a : α} {b : β} : ∀ {l : List (α × β)}, l.lookup a = some b → (a, b) ∈ l
  | [], h => nomatch h
  | (x, y) :: r, h => by
    rw [List.lookup_cons] at h
    split at h
    · rename_i hx; cases h; rw [beq_iff_eq] at hx; rw [hx]; exact .head _
    · exact .tail _ (mem_of_lookup h)

/-- what a comprehension's text must be like -/
structure CompOk (kd : PySem.Str → Option NameKind) (N : List PySem.Str) (sc : Scope) (xs : List PySem.Str) (fr : List Nat) (tg : TG) : Prop where
  kind : sc.kind = .function
  cell : ∀ x ∈ sc.names, x.2 ≠ .cell
  names : ∀ x ∈ sc.names, x.2 = .local → sc.names.lookup x.1 = some .local
  nd : (xs ++ fr.map (nmAt N)).Nodup
  plain : (xs ++ fr.map (nmAt N)).all plainNm = true
  all : ∀ x ∈ sc.names, x.2 = .free → x.1 ∈ fr.map (nmAt N)
  free : ∀ y ∈ fr.map (nmAt N), (y, NameKind.free) ∈ sc.names ∧ kd y = some .cell ∧ compKd kd sc y = some .cell
  tgt : okT (compKd kd sc) (xs ++ fr.map (nmAt N)) tg = true

section
variable {K : Cfg} {X : Ctx K} {E : Value → Shared → Prop} {oa : Nat → Addr} {ρ : MEnv} {G : PH} {s : Shared}

theorem freesP_inv : ∀ {is : List Nat} {Z : List Slot → Prop}, freesP ρ is Z → ∃ fs, Z fs ∧ fs.length = is.length ∧ ∀ (j : Nat) (sl : Slot), fs[j]? = some sl → ∃ i d, is[j]? = some i ∧ sl = Slot.val d ∧ ρ[i]? = some (.val d)
  | [], Z, h => ⟨[], h, rfl, fun _ _ h => nomatch h⟩
  | i :: is, Z, h => by
    have h : valP ρ i fun d => freesP ρ is fun r => Z (.val d :: r) := h
    unfold valP at h
    cases hs : ρ[i]? with
    | none => rw [hs] at h; exact h.elim
    | some sl =>
      rw [hs] at h
      cases sl with
      | val d =>
        obtain ⟨fs, z, hl, hr⟩ := freesP_inv h
        refine ⟨.val d :: fs, z, congrArg Nat.succ hl, fun j sl hj => ?_⟩
        cases j with
        | zero => cases hj; exact ⟨i, d, rfl, rfl, hs⟩
        | succ j => exact hr j sl hj
      | _ => exact h.elim

/-- the comprehension, up to what is done with its list -/
theorem comp_any (ok : CtxOk X) (hio : X.P.io = none) {sc : Scope} {xs : List PySem.Str} {fr : List Nat} {elt : ME} {tg : TG} {it : It} {p : Nat} {p2 : Pos} {use : Option (Value → Sem Unit)} {R : Prop} {Q : D → MEnv → Prop} {Qv : Value → Shared → Prop}
    (hc : CompOk X.kd X.P.names sc xs fr tg) (hi : IS X it tg (xs ++ fr.map (nmAt X.P.names))) (helt : ∀ X' : Ctx K, CtxOk X' → X'.P.names = xs ++ fr.map (nmAt X.P.names) → X'.kd = compKd X.kd sc → X'.io = false → X'.C = X.C → X'.A = X.A → ES X' elt) (hev : wpE X.C (.comp sc xs fr elt tg it p) R ρ Q) (x : Sm K X.P oa ρ G s)
    (hQ : ∀ d ρ', Q d ρ' → ∀ D L m' o G' s', Sub G G' → Sm K { X.P with ban := (L, o) :: X.P.ban } oa ρ' G' s' → Rep K G' d (.ref D) → s'.heap.Ns L m' → (∀ b o', (b, o') ∈ X.P.ban → b ≠ L) → compPost (model K.prog K.w) X.A NE use Qv (.ref D) L (.ok .next) s') :
    WP K X.A NE (comprehension (toE (.comp sc xs fr elt tg it p) X.P.names) sc X.P.env p2 (newList []) false (eval (toIt it X.P.names) X.P.env) use) Qv s := by
  have hcells0 : ∀ y ∈ sc.names, y.2 = .free → ∃ c, X.P.env.cells.lookup y.1 = some c := fun y hy hk => ok.cells y.1 (hc.free y.1 (hc.all y hy hk)).2.1
  refine wpAny_comprehension_free (cl := cls X.P.env sc.names []) rfl (noSet_I it _ _) (closureFor_eq hcells0) hc.kind hc.names ?_
  refine hi oa ρ G s _ _ hev x fun ds ρ1 h1 itv B G1 s1 hG1 hoff x1 hS hSf => ?_
  obtain ⟨fs, ⟨hl, h2⟩, hfl, hfr⟩ := freesP_inv h1
  refine comp_block (RR := fun acc L => compPost (model K.prog K.w) X.A NE use Qv acc L) ok hio (fun y hy => ?_) hc.kind hc.cell hc.nd hc.plain (by rw [hfl, List.length_map]) (fun j sl hj => ?_) hc.tgt helt hS hSf hoff x1 h2 hl fun ys z D L h' tk m' o G' hG' x' r hn hL => hQ _ _ z D L m' o G' _ (hG1.trans hG') x' r hn hL
  · obtain ⟨⟨n, k⟩, hnk, e⟩ := List.mem_map.mp (mem_of_lookup hy)
    simp only at e
    split at e
    · rename_i hc2
      cases e
      cases eq_of_beq (Bool.and_eq_true_iff.mp hc2).1
      obtain ⟨c, hcc⟩ := hcells0 _ hnk rfl
      exact ⟨c, cls_lookup hcc _ _ (.inl hnk)⟩
    · cases e
      exact absurd rfl (hc.cell _ hnk)
  · obtain ⟨i0, d0, q1, q2, q3⟩ := hfr j sl hj
    have hy : (fr.map (nmAt X.P.names))[j]? = some (nmAt X.P.names i0) := by rw [List.getElem?_map, q1]; rfl
    have hf := hc.free _ (List.mem_of_getElem? hy)
    obtain ⟨m, hm, hs⟩ := x1.slots
    rcases hs i0 _ _ (x1.name q3) q3 with ⟨k, _⟩ | ⟨_, c, o, v, r1, r2, r3, r4⟩
    · have : X.P.env.kindOf (nmAt X.P.names i0) = some .local := k
      rw [ok.kd, hf.2.1] at this; cases this
    · exact ⟨_, d0, c, o, v, hy, q2, hf.2.2, cls_lookup r1 _ _ (.inl hf.1), r2, r3, r4⟩

theorem Ns_back {P : Frm} {B : List (Addr × Obj)} {L : Addr} {o : Obj} {m : PySem.Str → Option Value} {s' : Shared} (x : Sm K { P with ban := (L, o) :: B } oa ρ G s) {ρ2 : MEnv} {oa2 : Nat → Addr} {G2 : PH} (x' : Sm K { P with ban := (L, o) :: B } oa2 ρ2 G2 s') (hn : s.heap.Ns L m) : s'.heap.Ns L m := by
  obtain ⟨o', es, ep, g, r⟩ := hn
  rw [(x.ban L o (.head _)).1] at g; cases g
  exact ⟨o, es, ep, (x'.ban L o (.head _)).1, r⟩
theorem Sm.letGo {P : Frm} {L : Addr} {o : Obj} {h' : Heap} {tk : Nat} (x : Sm K { P with ban := (L, o) :: P.ban } oa ρ G s) (hs : Heap.SameBut L s.heap h') (hL : ∀ b o', (b, o') ∈ P.ban → b ≠ L) : Sm K P oa ρ G { s with heap := h', toks := tk } :=
  Sm.walk (P := P) (B := (L, o) :: P.ban) (R := []) (wr := [L]) x (fun b hb => ⟨o, by rw [List.mem_singleton.mp hb]; exact .head _⟩) (fun z hz => .tail _ hz) (fun b o' hb hw => hL b o' hb (List.mem_singleton.mp hw)) (fun b o' hb e => (hs.2 b (fun h => hb (by rw [h]; exact .head _))).trans e) (fun _ _ h => by cases h)

/-- what a comprehension is shown with -/
structure CompH (X : Ctx K) (sc : Scope) (xs : List PySem.Str) (fr : List Nat) (elt : ME) (tg : TG) (it : It) : Prop where
  io : X.P.io = none
  ok : CompOk X.kd X.P.names sc xs fr tg
  it : IS X it tg (xs ++ fr.map (nmAt X.P.names))
  elt : ∀ X' : Ctx K, CtxOk X' → X'.P.names = xs ++ fr.map (nmAt X.P.names) → X'.kd = compKd X.kd sc → X'.io = false → X'.C = X.C → X'.A = X.A → ES X' elt
theorem comp_core (ok : CtxOk X) {sc : Scope} {xs : List PySem.Str} {fr : List Nat} {elt : ME} {tg : TG} {it : It} {p : Nat} {R : Prop} {Q : D → MEnv → Prop} {Qv : Value → Shared → Prop} (h : CompH X sc xs fr elt tg it) (hev : wpE X.C (.comp sc xs fr elt tg it p) R ρ Q) (x : Sm K X.P oa ρ G s) (hQ : Post X oa G Q Qv) : WP K X.A NE (eval (toE (.comp sc xs fr elt tg it p) X.P.names) X.P.env) Qv s := by
  show wpAny (model K.prog K.w) X.A (eval (.ListComp (toE elt (xs ++ fr.map (nmAt X.P.names))) [⟨toT tg (xs ++ fr.map (nmAt X.P.names)), toIt it X.P.names, [], 0⟩] sc (dp p)) X.P.env) Qv NE s
  rw [eval_ListComp]
  exact comp_any (use := none) ok h.io h.ok h.it h.elt hev x fun d ρ' q D L m' o G' s' hG' x' r hn hL => ⟨m', hn, fun h' hs => hQ _ _ q _ G' _ hG' (Sm.letGo (tk := s'.toks) x' hs hL) r⟩
theorem es_comp (ok : CtxOk X) {sc : Scope} {xs : List PySem.Str} {fr : List Nat} {elt : ME} {tg : TG} {it : It} {p : Nat} (h : CompH X sc xs fr elt tg it) : ES X (.comp sc xs fr elt tg it p) := fun R E hR oa ρ G s Q Qv hev x hQ =>
  wpAny_mono (E := NE) (comp_core ok h hev x hQ) (fun _ _ h => h) fun _ _ h => h.elim
theorem xs_asgComp (ok : CtxOk X) {i pi p' : Nat} {sc : Scope} {xs : List PySem.Str} {fr : List Nat} {elt : ME} {tg : TG} {it : It} {p : Nat} (hi : okL X.kd X.P.names i = true) (h : CompH X sc xs fr elt tg it) : XS X (.asg (.one i pi) (.comp sc xs fr elt tg it p) p') := by
  intro R E hR oa ρ G s Q Qv hev x hQ
  have hev : wpE X.C (.comp sc xs fr elt tg it p) R ρ fun d ρ => Q .next (ρ.set i (.val d)) := hev
  refine wpAny_mono (E := NE) ?_ (fun _ _ h => h) fun _ _ h => h.elim
  obtain ⟨b, hb⟩ : ∃ b, swapsWith (toE (.comp sc xs fr elt tg it p) X.P.names) (some (nmE X.P.names i pi)) (dp p').line X.P.env = pure b := ⟨_, rfl⟩
  cases b with
  | true =>
    show wpAny (model K.prog K.w) X.A (exec (.Assign [.Name (nmAt X.P.names i) (dp pi)] (toE (.comp sc xs fr elt tg it p) X.P.names) (dp p')) X.P.env) Qv NE s
    rw [exec_Assign_Name_used _ _ _ _ hb]
    refine wpAny_bind (wpAny_standAt (wpAny_bind ?_))
    show WP K X.A NE (do let _ ← comprehension (toE (.comp sc xs fr elt tg it p) X.P.names) sc X.P.env _ (newList []) false (eval (toIt it X.P.names) X.P.env) (some (assign (.Name (nmAt X.P.names i) (dp pi)) X.P.env))) _ s
    refine wpAny_bind (wpAny_mono (comp_any (use := some (assign (.Name (nmAt X.P.names i) (dp pi)) X.P.env)) (Qv := fun _ s' => Qv .next s') ok h.io h.ok h.it h.elt hev x fun d ρ' q D L m' o G' s' hG' x' r hn hL => ?_) (fun _ s' hq => wpAny_pure (wpAny_pure hq)) fun _ _ h => h)
    refine wpAny_assign_Name (Sm.storeV (P := { X.P with ban := (L, o) :: X.P.ban }) x' ok.kindf (okL_iff ok hi).1 (okL_iff ok hi).2 r fun s2 x2 => ?_)
    exact ⟨m', Ns_back x' x2 hn, fun h' hs => (hQ.mono hG').next q (Sm.letGo (tk := s2.toks) x2 hs hL)⟩
  | false =>
    exact wpAny_Assign_Name (comp_core ok h hev x fun d ρ1 q v G1 s1 hG1 x1 r1 => x1.storeV ok.kindf (okL_iff ok hi).1 (okL_iff ok hi).2 r1 fun s' x' => (hQ.mono hG1).next q x') hb
theorem xs_for (ok : CtxOk X) {tg : TG} {it : It} {b : List MS} {p : Nat} (ht : okT X.kd X.P.names tg = true) (hi : IS X it tg X.P.names) (hb : ∀ B, BS (X.withB B) b) : XS X (.for_ tg it b p) := by
  intro R E hR oa ρ G s Q Qv hev x hQ
  refine wpAny_mono (E := NE) (wpAny_For (hi oa ρ G s _ _ hev x fun ds ρ1 h1 itv B G1 s1 hG1 hoff x1 hS _ => ?_) (noSet_I it _ _)) (fun _ _ h => h) fun _ _ h => h.elim
  exact for_loop ok ht hb hS hoff x1 h1 fun f ρ' q oa' G' s' fl hG' x' hf => hQ _ _ q oa' G' s' fl (hG1.trans hG') x' hf
end
end Mine

set_option autoImplicit false
set_option linter.all false
set_option maxRecDepth 100000
namespace Mine
open PySem
section
open Sem (wp)
open Builtin Builtin.Str Builtin.Int
theorem mine_nolen : typeLookup (.type "list_reverseiterator") "__len__" = pure none := by rw [typeLookup_type, builtinLookup_eq_fast]; kernel_rfl
theorem mine_hint : typeLookup (.type "list_reverseiterator") "__length_hint__" = pure (some (.builtin "list_reverseiterator.__length_hint__")) := by rw [typeLookup_type, builtinLookup_eq_fast]; kernel_rfl
section
variable {prog : Program} {w : World} {A : Around} {E : Value → Shared → Prop} {s : Shared} {I : Addr} {fp wr : List Addr} {G : Array GenState → Array GenState → Prop} {n : Nat} {P : Nat → Value → Prop} {St : Nat → Shared → Prop}

/-- the library's walk of a collected iterator, for a list turned round -/
theorem mine_collect {Q : List Value → Shared → Prop}
    (W : WalksS prog w A.in1 I fp wr G n P St) (hT : ∀ i s, St i s → s.TypeIs (.ref I) "list_reverseiterator") (hst : St 0 s) (hfp : ∀ b ∈ fp, b < s.heap.objs.size) (hI : I ∈ fp)
    (hQ : ∀ s' acc, PySem.Moved wr G s s' → ItemsOf P acc n → Q acc.toList s') (hn : n ≤ sizeLine) : wpAny (model prog w) A (collect (.ref I)) Q E s := by
  have hSf : s.heap.objs.size ∉ fp := fun hm => Nat.lt_irrefl _ (hfp _ hm)
  have hSI : s.heap.objs.size ≠ I := fun e => hSf (e ▸ hI)
  unfold collect
  refine wpAny_bind (wpAny_runValue (codeAny_builtin F.entry_proto_collect ?_))
  rw [Around.under_plainId F.plain_proto_collect _]
  show wpAny _ A.in1 (newList [] >>= fun l => again (.builtin "list.__iadd__" ⟨[l, .ref I], []⟩)) _ _ s
  refine wpAny_bind (wpAny_newObj_type ?_)
  refine wpAny_pure ⟨plainId_quiet F.plain_list_iadd _, codeAny_builtin F.entry_list_iadd ?_⟩
  rw [Around.under_plainId F.plain_list_iadd _]
  have hst₁ := W.frame 0 s (s.heap.push { cls := .type "list", data := .seq ([] : List Value).toArray }) s.toks hst (Nat.le_refl _) fun b _ o e => Heap.get?_push_of_some _ e
  have hS₁ : (s.heap.push { cls := .type "list", data := .seq ([] : List Value).toArray }).get? s.heap.objs.size = some { cls := .type "list", data := .seq ([] : List Value).toArray } := Heap.get?_push_size _ rfl
  have h1 : Builtin.List.listSameRef (.ref s.heap.objs.size) (.ref I) = false := by simp [Builtin.List.listSameRef, hSI]
  show wpAny _ A.in1 (Builtin.List.listExtendWith (.ref s.heap.objs.size) (.ref I) (.ref s.heap.objs.size)) _ _ _
  unfold Builtin.List.listExtendWith
  refine wpAny_bind (wpAny_typeOf (hT 0 _ hst₁) ?_)
  rw [if_neg (by rw [h1]; decide)]
  refine wpAny_bind (W.self 0 _ _ _ hst₁ ?_)
  refine wpAny_bind (wpAny_holding ?_)
  unfold Builtin.List.listLengthHint
  refine wpAny_bind (wpAny_specialOf (hT 0 _ hst₁) mine_nolen ?_)
  show wpAny _ A.in1 (specialOf (Value.ref I) (Str.ofString "__length_hint__") >>= _) _ _ _
  refine wpAny_bind (wpAny_specialOf (hT 0 _ hst₁) mine_hint ?_)
  (generalize hid : ("list_reverseiterator.__length_hint__" : String) = id0; (fail_if_success (clear hid id0)); wp_delta; rw [show splitId id0 = some ("list_reverseiterator", "__length_hint__") from by subst hid; decide +kernel]; subst hid)
  refine wpAny_bind (wpAny_isInstance (b := true) (hT 0 _ hst₁) (by rw [isSubtype_type]; kernel_rfl) ?_)
  refine wpAny_pure ?_
  rw [if_neg (by decide)]
  refine wpAny_pure ⟨plainId_quiet F.plain_extend_loop _, codeAny_extend_loopS W hn _ hSf _ n 0 _ _ _ rfl (Nat.zero_le _) hst₁ hS₁ (ItemsOf.nil P) fun s' acc' c' hm hS' hacc => ?_⟩
  show wpAny _ A (load s.heap.objs.size >>= _) _ _ s'
  refine wpAny_bind (wpAny_load hS' ?_)
  exact wpAny_pure (hQ s' acc' (PySem.Moved.drop_new (o := { cls := .type "list", data := .seq ([] : List Value).toArray }) (tk := s.toks) hm (Nat.le_refl _)) hacc)

theorem mine_join {x : Str} {t : Tok} {Q : Value → Shared → Prop} (W : WalksS prog w A.in1.in1 I fp wr G n P St) (hT : ∀ i s, St i s → s.TypeIs (.ref I) "list_reverseiterator") (hst : St 0 s) (hfp : ∀ b ∈ fp, b < s.heap.objs.size) (hI : I ∈ fp)
    (hstr : ∀ i v, P i v → ∃ y u, v = Value.str y u)
    (hq : ∀ s' (l : List (Str × Tok)), PySem.Moved wr G s s' → ItemsOf P (strValues l).toArray n → JoinOk x (l.map (·.1)) = true ∧ ∀ t' k, Q (.str (Txt.join x (l.map (·.1))) t') { s' with toks := k })
    (hsz : n ≤ sizeLine) :
    wpAny (model prog w) A (call (.builtin "str.join") [.str x t, .ref I]) Q E s := by
  refine wpAny_call (codeAny_call_builtin F.slot_str_join.plain F.entry_str_join (F.slot_str_join.check _ _ _ _ _ _ _ _ (typeIs_str _ _ _) (F.args_str_join_2 _ _) ?_))
  rw [join_tree_other]
  refine wpAny_bind (wpAny_typeOf (hT 0 s hst) ?_)
  show wpAny _ A.in1 ((pyIter (.ref I)).tryCatch _ >>= fun it => collect it >>= fun items => joinTail x items) _ _ s
  refine wpAny_bind (wpAny_tryCatch (W.of_in1.self 0 s _ _ hst ?_))
  refine wpAny_bind (mine_collect W hT hst hfp hI (fun s' acc hm hacc => ?_) hsz)
  obtain ⟨l, hl⟩ := exists_strValues acc.toList fun v hv => by
    obtain ⟨j, hj, rfl⟩ := Array.mem_iff_getElem.mp (Array.mem_toList_iff.mp hv)
    exact hstr j _ (hacc.2 j _ (Array.getElem?_eq_getElem hj))
  rw [← hl]
  have hacc' : ItemsOf P (strValues l).toArray n := by rw [hl]; simpa using hacc
  obtain ⟨hok, hpost⟩ := hq s' l hm hacc'
  unfold JoinOk at hok
  rw [Bool.not_eq_true'] at hok
  have g : Gives (joinTail x (strValues l)) (joinMade x l) := by
    have g0 := gives_joinTail x l hok
    cases l with
    | nil => exact g0
    | cons p r => cases r with
      | nil => exact g0
      | cons q r' => exact g0
  exact g prog w A (wants Q E) s' (post_join l ⟨joinFit_length hok, hpost⟩)
end
end
open PySem PySem.W PySem.Calls PyProof.Rows
section
variable {K : Cfg} {X : Ctx K} {E : Value → Shared → Prop} {oa : Nat → Addr} {ρ : MEnv} {G : PH} {s : Shared}
noncomputable def catL : List PySem.Str → List Nat
  | [] => []
  | x :: r => x.cps.toList ++ catL r
theorem join_rep : ∀ (xs : List D) (l : List (PySem.Str × Tok)) (Z : List Nat → Prop), RepL K G xs (strValues l) → joinP xs Z → Z (catL (l.map (·.1)))
  | [], [], Z, _, h => h
  | [], _ :: _, _, r, _ => nomatch (show _ = [] from r)
  | x :: xs, l, Z, r, h => by
    obtain ⟨v, r', e, rx, rr⟩ := r
    cases l with
    | nil => cases e
    | cons p l =>
      obtain ⟨p1, p2⟩ := p
      cases e
      obtain ⟨c, t, e, _, h⟩ := strP_inv h rx
      cases e
      exact join_rep xs l (fun t => Z (c ++ t)) rr h
/-- that all items of what is joined are texts -/
theorem join_all : ∀ (xs : List D) (vs : List Value) (Z : List Nat → Prop), RepL K G xs vs → joinP xs Z → ∀ v ∈ vs, ∃ y u, v = Value.str y u
  | [], _, _, r, _, v, hv => by cases r; cases hv
  | x :: xs, _, Z, r, h, v, hv => by
    obtain ⟨v0, r', rfl, rx, rr⟩ := r
    obtain ⟨c, t, rfl, _, h⟩ := strP_inv h rx
    rcases List.mem_cons.mp hv with rfl | hv
    · exact ⟨_, _, rfl⟩
    · exact join_all xs r' _ rr h v hv
theorem join_cat : ∀ (l : List PySem.Str), (PySem.Str.join ⟨#[]⟩ l).cps.toList = catL l
  | [] => rfl
  | [x] => by simp [PySem.Str.join, catL]
  | x :: y :: r => by
    have := join_cat (y :: r)
    simp only [PySem.Str.join, catL] at this ⊢
    rw [Str.cps_append, Str.cps_append]
    simp [this, catL]
theorem joinOk_len (l : List PySem.Str) (h : (catL l).length ≤ 4096) : JoinOk ⟨#[]⟩ l = true := by
  have : ∀ (l : List PySem.Str) (k : Nat), l.foldl (fun a b => a + b.length + (⟨#[]⟩ : PySem.Str).length) k = k + (catL l).length := by
    intro l
    induction l with
    | nil => intro k; simp [catL]
    | cons x l ih =>
      intro k
      rw [List.foldl_cons, ih]
      have h1 : x.length = x.cps.toList.length := by show x.cps.size = _; simp
      have h2 : (⟨#[]⟩ : PySem.Str).length = 0 := rfl
      simp only [catL, List.length_append]; (first | grind | omega)
  unfold JoinOk Builtin.Str.tooLong
  simp only [List.foldl_toArray', Bool.not_eq_true', decide_eq_false_iff_not]
  rw [this, sizeLine_eq]
  (first | grind | omega)


theorem es_joinr (ok : CtxOk X) {p0 q q2 p2 p : Nat} {a : ME} (hp : (dp q).endLine = (dp p).line) (hg : okG X.kd "reversed" = true) (ha : ES X a) : ES X (.joinr p0 q q2 a p2 p) := by
  intro R E hR oa ρ G s Q Qv he x hQ
  have hn : ∀ e ∈ [callE "reversed" q2 [toE a X.P.names] p2], notStar e = true := fun e h => by rw [List.mem_singleton.mp h]; rfl
  refine meth_call (o := .Constant (.str ⟨#[]⟩) 0 (dp p0)) rfl hn (show 1 < 30 by decide) hp (Calls.Constant_str fun pl => ?_)
  refine GM.join (callWith_b hn ?_)
  rw [starEach_cons rfl]
  refine Calls.spliced_cons (call_bt ok (x.tok _) hg (.tail _ (.tail _ (.tail _ (.tail _ (.tail _ (.tail _ (.head _))))))) (one_star a _) (arg1 (ha R E hR oa _ _ _ _ _ he (x.tok _) fun d ρ1 h1 v G1 s1 hG1 x1 r1 => ?_)))
  obtain ⟨xs, l, vs, m, rfl, g, r, hlen, h1⟩ := listP_inv h1 r1
  have hL : s1.heap.IsList l vs := ⟨_, x1.inc _ _ g, rfl, _, rfl⟩
  have hlt : l < s1.heap.objs.size := Heap.lt_size (x1.inc _ _ g)
  refine call_reversed_list hL (Calls.spliced_nil ?_)
  have hit : (s1.heap.push (revObj l ((vs.size : Int) - 1))).IsRevIter s1.heap.objs.size l ((vs.size : Int) - 1) := ⟨_, Heap.get?_push_size _ rfl, rfl, rfl⟩
  have hsz : (s1.heap.push (revObj l ((vs.size : Int) - 1))).objs.size = s1.heap.objs.size + 1 := Heap.size_push ..
  refine mine_join (W := (Walks.listRev (prog := K.prog) (w := K.w) (A := X.A.in1.in1) ok.hA.1 s1.heap.objs.size l (Nat.ne_of_lt hlt) vs).toS) (fun i s st => st.2.1.typeIs) ⟨Nat.zero_le _, by rw [Int.natCast_zero, Int.sub_zero]; exact hit, hL.push _⟩ (fun b hb => ?_) (.head _) (fun i v hv => ?_) (fun s' L hm hits => ?_) (by rw [r.size]; exact le_line hlen)
  · show b < (s1.heap.push _).objs.size
    rw [hsz]
    rcases List.mem_cons.mp hb with rfl | hb
    · exact Nat.lt_succ_self _
    · rw [List.mem_singleton.mp hb]; exact Nat.lt_succ_of_lt hlt
  · have hv : vs[vs.size - 1 - i]? = some v := hv
    rw [← Array.getElem?_toList] at hv
    exact join_all xs.reverse vs.toList.reverse _ (RepL.reverse r) h1 v (List.mem_reverse.mpr (List.mem_of_getElem? hv))
  · have hLv : strValues L = vs.toList.reverse := by
      obtain ⟨hsz, hget⟩ := hits
      have h1 : (strValues L).length = vs.size := (List.size_toArray).symm.trans hsz
      refine List.ext_getElem? fun i => ?_
      by_cases hi : i < vs.size
      · have h2 : i < (strValues L).length := h1 ▸ hi
        have h3 : vs[vs.size - 1 - i]? = some _ := hget i _ (by rw [List.getElem?_toArray]; exact List.getElem?_eq_getElem h2)
        rw [List.getElem?_eq_getElem h2, List.getElem?_reverse (by rw [Array.length_toList]; exact hi), Array.length_toList, Array.getElem?_toList, h3]
      · rw [List.getElem?_eq_none (by rw [h1]; exact Nat.not_lt.mp hi), List.getElem?_eq_none (by rw [List.length_reverse, Array.length_toList]; exact Nat.not_lt.mp hi)]
    obtain ⟨hcl, q⟩ := join_rep xs.reverse L _ (hLv ▸ RepL.reverse r) h1
    refine ⟨joinOk_len _ hcl, fun t' k => ?_⟩
    have hs' : ({ s' with toks := k } : Shared) = { s1 with heap := s'.heap, toks := k } := by
      obtain ⟨_, h2, h3, h4, _⟩ := hm
      have h2 : s'.gens = s1.gens := h2
      have h3 : s'.drawn = s1.drawn := h3
      have h4 : s'.os = s1.os := h4
      rw [h2, h3, h4]
    rw [hs']
    refine (hQ.mono hG1).same x1 q (tk := k) (Stp.of_keeps fun b o e => hm.heap b o (fun hb => ?_) (Heap.get?_push_of_some _ e)) ⟨t', ?_⟩
    · rw [List.mem_singleton.mp hb] at e
      exact absurd (Heap.lt_size e) (Nat.lt_irrefl _)
    · refine congrArg (fun z => Value.str z t') (show Txt.join ⟨#[]⟩ (L.map (·.1)) = _ from ?_)
      rw [show Txt.join ⟨#[]⟩ (L.map (·.1)) = PySem.Str.join ⟨#[]⟩ (L.map (·.1)) from StrLaws.glued_eq_join _ _]
      apply Str.ext'
      apply Array.toList_inj.mp
      rw [join_cat]

/-! the class, the closure -/
/-- what the class and the closure are to give -/
structure Ext (K : Cfg) : Prop where
  thrName : K.mg "Thresholds" = some (.ref K.cThr)
  thrGet : ∀ A (E : Value → Shared → Prop) (s : Shared) G v a b c d f Q Qv, (∀ x o, K.hT.get? x = some o → s.heap.get? x = some o) → (∀ x o, G x = some o → s.heap.get? x = some o) → Rep K G (.thr a b c d) v → attrP (.thr a b c d) f Q → (∀ z, Q z → ∀ u tk, Rep K G z u → Qv u { s with toks := tk }) → WP K A E (getAttr v (atNm f) true) Qv s
  thrMk : ∀ A (E : Value → Shared → Prop) n G s vs a b c d Qv, CallIn K A n G s → RepL K G [.int a, .int b, .int c, .int d] vs → Ret K G s (.thr (max2 a 2) (max2 b 3) (max2 c 4) (max2 d 6)) Qv → WP K A E (call (.ref K.cThr) vs) Qv s
  thrCall : ∀ A (E : Value → Shared → Prop) env pos xs s Qv, xs ≠ [] → (∀ e ∈ xs, notStar e = true) → (∀ x o, K.hT.get? x = some o → s.heap.get? x = some o) → WP K A E (spliced (backTo pos (starEach xs env))) (fun vs s' => (∀ x o, K.hT.get? x = some o → s'.heap.get? x = some o) ∧ WP K A E (call (.ref K.cThr) vs) Qv s') s →
    WP K A E (callWith pos (.ref K.cThr) [] (backTo pos (starEach xs env)) []) Qv s
  ww : ∃ a o fd, K.mg "way_within" = some (.ref a) ∧ K.hT.get? a = some o ∧ o.data = .func fd ∧ ∀ A (E : Value → Shared → Prop) n G s vs t m Qv, CallIn K A n G s → RepL K G [t, .int m] vs → Ret K G s (.clo t m) Qv → WP K A E (call (.ref a) vs) Qv s
  out : ∃ bm newId initId, OwnCls "OutOfRange" K.cOut bm newId K.mg K.hT ∧ ExcBaseFacts "Exception" newId initId bm

theorem es_attr (ok : CtxOk X) (hE : Ext K) {i pi f p : Nat} : ES X (.attr i pi f p) := fun R E hR oa _ _ _ Q _ he x hQ =>
  PyProof.Rows.Attribute_Name_ (var_ok (E := E) (i := i) (p := pi) ok he x fun d ρ1 h1 v G1 s1 hG1 x1 r1 => by
    cases d with
    | thr a b c d => exact hE.thrGet X.A E s1 G1 v a b c d f _ _ x1.top x1.inc r1 h1 fun z q u tk r => (hQ.mono hG1).tok x1 q r
    | _ => exact h1.elim)
theorem ints4 {ds : List D} {Z : D → Prop} (h : thrP ds Z) : ∃ a b c d, ds = [.int a, .int b, .int c, .int d] ∧ Z (.thr (max2 a 2) (max2 b 3) (max2 c 4) (max2 d 6)) := by
  have i1 : ∀ {x : D} {Z : Int → Prop}, intP x Z → ∃ i, x = .int i ∧ Z i := fun {x Z} h => by
    cases x with
    | int i => exact ⟨i, rfl, h⟩
    | _ => exact h.elim
  have i2 : ∀ {ds : List D} {Z : Int → Int → List D → Prop}, int2P ds Z → ∃ a b r, ds = .int a :: .int b :: r ∧ Z a b r := fun {ds Z} h => by
    unfold int2P at h
    cases ds with
    | nil => exact h.elim
    | cons x ds => cases ds with
      | nil => exact h.elim
      | cons y ds =>
        obtain ⟨a, rfl, h1⟩ := i1 h
        obtain ⟨b, rfl, h2⟩ := i1 h1
        exact ⟨a, b, ds, rfl, h2⟩
  obtain ⟨a, b, r, rfl, h1⟩ := i2 h
  obtain ⟨c, d, r', rfl, hl, q⟩ := i2 h1
  cases r' with
  | nil => exact ⟨a, b, c, d, rfl, q⟩
  | cons _ _ => cases hl
theorem es_thr (ok : CtxOk X) (hE : Ext K) {q p : Nat} {es : List ME} (hg : okG X.kd "Thresholds" = true) (hx : es ≠ []) (h : AllE (ES X) es) : ES X (.thr q es p) := by
  intro R E hR oa ρ G s Q Qv he x hQ
  refine Call_ (glob_name ok x hg hE.thrName (hE.thrCall X.A E X.P.env _ (toEs es X.P.names) s Qv (fun e => hx (List.eq_nil_of_length_eq_zero (by rw [← toEs_len es X.P.names, e]; rfl))) (toEs_star es _) x.top (args_ok hR es h _ _ _ _ _ he x fun ds ρ1 q vs G1 s1 hG1 x1 r1 _ => ⟨x1.top, ?_⟩))) (by rfl)
  obtain ⟨a, b, c, d, rfl, q1⟩ := ints4 q
  exact hE.thrMk X.A E X.n G1 s1 vs a b c d Qv (x1.callIn ok.hA) r1 (ret_post x1 q1 (hQ.mono hG1))
theorem es_clo (ok : CtxOk X) (hE : Ext K) {q p : Nat} {es : List ME} (hg : okG X.kd "way_within" = true) (h : AllE (ES X) es) : ES X (.clo q es p) := by
  intro R E hR oa ρ G s Q Qv he x hQ
  obtain ⟨a, o, fd, hmg, ho, hfd, hmk⟩ := hE.ww
  refine Call_ (glob_name ok x hg hmg (Calls.callWith_function (o := o) (fd := fd) (evalArgs_ok (toEs_star es _) (args_ok hR es h _ _ _ _ _ he x fun ds ρ1 q vs G1 s1 hG1 x1 r1 _ => ⟨⟨x1.top _ _ ho, hfd⟩, ?_⟩)))) (by rfl)
  unfold cloP at q
  split at q
  · obtain ⟨v1, _, rfl, r0, v2, _, rfl, r2, rfl⟩ := r1
    obtain ⟨mm, t', rfl, rfl, q1⟩ := intP_inv q r2
    exact hmk X.A E X.n G1 s1 _ _ mm Qv (x1.callIn ok.hA) ⟨v1, _, rfl, r0, _, _, rfl, ⟨t', rfl⟩, rfl⟩ (ret_post x1 q1 (hQ.mono hG1))
  · exact q.elim
end
end Mine

set_option autoImplicit false
set_option linter.all false
set_option maxRecDepth 100000
namespace Mine
open PySem PySem.W PySem.Calls PyProof.Rows

/-! which mini texts are well made -/
set_option genInjectivity false in
structure St where
  N : List PySem.Str
  kd : PySem.Str → Option NameKind
  io : Bool
noncomputable def lineOk (q p : Nat) : Bool := decide ((dp q).endLine = (dp p).line)
noncomputable def isMany (t : TG) : Bool := match t with
  | .many _ _ => true
  | _ => false
noncomputable def compOk (S : St) (sc : Scope) (xs : List PySem.Str) (fr : List Nat) (tg : TG) : Bool :=
  decide (sc.kind = .function) && sc.names.all (fun x => x.2 != .cell) && sc.names.all (fun x => x.2 != .local || sc.names.lookup x.1 == some .local) && decide (xs ++ fr.map (nmAt S.N)).Nodup && (xs ++ fr.map (nmAt S.N)).all plainNm &&
    sc.names.all (fun x => x.2 != .free || (fr.map (nmAt S.N)).contains x.1) && (fr.map (nmAt S.N)).all (fun y => sc.names.contains (y, .free) && S.kd y == some .cell && compKd S.kd sc y == some .cell) && okT (compKd S.kd sc) (xs ++ fr.map (nmAt S.N)) tg
noncomputable def compSt (S : St) (sc : Scope) (xs : List PySem.Str) (fr : List Nat) : St := ⟨xs ++ fr.map (nmAt S.N), compKd S.kd sc, false⟩
mutual
noncomputable def okE : ME → St → Bool
  | .cint _ _, _ => true
  | .cstr _ _, _ => true
  | .cbool _ _, _ => true
  | .var _ _, _ => true
  | .fn k _, S => okG S.kd (nm k)
  | .glob g _, S => okG S.kd (gn g)
  | .bin _ a b _, S => okE a S && okE b S
  | .neg a _, S => okE a S
  | .not a _, S => okE a S
  | .and a es _, S => okE a S && okEs es S
  | .cmp a _ b _, S => okE a S && okE b S
  | .cmp2 a _ b _ c _, S => okE a S && (okE b S && okE c S)
  | .ite t a b _, S => okE t S && (okE a S && okE b S)
  | .call k _ es _, S => okG S.kd (nm k) && okEs es S
  | .callv _ _ es _, S => okEs es S
  | .callio k _ _ _ es _, S => okG S.kd (nm k) && okEs es S
  | .b1 f _ a _, S => okG S.kd (biNm f) && okE a S
  | .bn f _ es _, S => okG S.kd (bmNm f) && okEs es S
  | .thr _ es _, S => okG S.kd "Thresholds" && (!es.isEmpty && okEs es S)
  | .clo _ es _, S => okG S.kd "way_within" && okEs es S
  | .bitlen a q p, S => notC0 (toE a S.N) && (lineOk q p && okE a S)
  | .lower a q p, S => notC0 (toE a S.N) && (lineOk q p && okE a S)
  | .find a b q p, S => notC0 (toE a S.N) && (lineOk q p && (okE a S && okE b S))
  | .joinr _ q _ a _ p, S => lineOk q p && (okG S.kd "reversed" && okE a S)
  | .idx a i _, S => okE a S && okE i S
  | .cut _ _ lo hi _ _, S => okO lo S && okO hi S
  | .rev _ _ _ _ _ _, _ => true
  | .attr _ _ _ _, _ => true
  | .list es _, S => decide (es.length ≤ 64) && okEs es S
  | .tup es _, S => decide (es.length ≤ 64) && okEs es S
  | .comp sc xs fr elt tg it _, S => !S.io && (compOk S sc xs fr tg && (okE elt (compSt S sc xs fr) && okIt it tg S))
noncomputable def okO : Option ME → St → Bool
  | Option.none, _ => true
  | some e, S => okE e S
noncomputable def okEs : List ME → St → Bool
  | [], _ => true
  | e :: r, S => okE e S && okEs r S
noncomputable def okIt : It → TG → St → Bool
  | .range _ es _, _, S => okG S.kd "range" && okEs es S
  | .seq e, _, S => okE e S
  | .rever _ e _, _, S => okG S.kd "reversed" && okE e S
  | .enum _ e _, tg, S => isMany tg && (okG S.kd "enumerate" && okE e S)
  | .zip _ a b _, tg, S => isMany tg && (okG S.kd "zip" && (okE a S && okE b S))
end
noncomputable def isCompM (e : ME) : Bool := match e with
  | .comp _ _ _ _ _ _ _ => true
  | _ => false
noncomputable def okAsg (t : TG) (e : ME) (S : St) : Bool := match t with
  | .one i _ => okL S.kd S.N i && (isCompM e || !isCompE (toE e S.N))
  | .many is _ => okIs S.kd S.N is && (!isTupE (toE e S.N) && !isCompE (toE e S.N))
mutual
noncomputable def okS : MS → St → Bool
  | .asg t e _, S => okAsg t e S && okE e S
  | .asgC _ _ e _, S => !isCompE (toE e S.N) && okE e S
  | .asgL is _ es _ _, S => okIs S.kd S.N is && (decide (is.map (·.1)).Nodup && (swOk (toEs es S.N) && (decide (es.length ≤ 64) && okEs es S)))
  | .asgTC is _ es _ _, S => is.all (fun i => S.kd (nmAt S.N i.1) != some .local) && (decide (es.length ≤ 64) && okEs es S)
  | .setI _ _ ix e _ _, S => !isCompE (toE e S.N) && (okE e S && okE ix S)
  | .aug i _ op e _, S => okL S.kd S.N i && (augOp op && okE e S)
  | .app _ _ e q q' _, S => lineOk q q' && okE e S
  | .ite t a b _, S => okE t S && (okB a S && okB b S)
  | .whl t a _, S => okE t S && okB a S
  | .for_ tg it a _, S => okT S.kd S.N tg && (okIt it tg S && okB a S)
  | .ret e _, S => okE e S
  | .expr e _, S => !isCompE (toE e S.N) && okE e S
  | .raise _ _ _ _ _, S => okG S.kd "OutOfRange"
  | .bad _, _ => true
noncomputable def okB : List MS → St → Bool
  | [], _ => true
  | s :: r, S => okS s S && okB r S
end

theorem band {a b : Bool} (h : (a && b) = true) : a = true ∧ b = true := Bool.and_eq_true_iff.mp h
theorem bnot {a : Bool} (h : (!a) = true) : a = false := by cases a <;> first | rfl | cases h
theorem compOk_of {S : St} {sc : Scope} {xs : List PySem.Str} {fr : List Nat} {tg : TG} (h : compOk S sc xs fr tg = true) : CompOk S.kd S.N sc xs fr tg := by
  unfold compOk at h
  obtain ⟨h, h8⟩ := band h
  obtain ⟨h, h7⟩ := band h
  obtain ⟨h, h6⟩ := band h
  obtain ⟨h, h5⟩ := band h
  obtain ⟨h, h4⟩ := band h
  obtain ⟨h, h3⟩ := band h
  obtain ⟨h1, h2⟩ := band h
  refine ⟨of_decide_eq_true h1, fun x hx => bne_iff_ne.mp (List.all_eq_true.mp h2 x hx), fun x hx e => ?_, of_decide_eq_true h4, h5, fun x hx e => ?_, fun y hy => ?_, h8⟩
  · rcases Bool.or_eq_true_iff.mp (List.all_eq_true.mp h3 x hx) with h | h
    · exact absurd e (bne_iff_ne.mp h)
    · exact eq_of_beq h
  · rcases Bool.or_eq_true_iff.mp (List.all_eq_true.mp h6 x hx) with h | h
    · exact absurd e (bne_iff_ne.mp h)
    · exact List.contains_iff_mem.mp h
  · obtain ⟨h, h3⟩ := band (List.all_eq_true.mp h7 y hy)
    obtain ⟨h1, h2⟩ := band h
    exact ⟨List.contains_iff_mem.mp h1, eq_of_beq h2, eq_of_beq h3⟩

section
variable {K : Cfg}
noncomputable def Ctx.st (X : Ctx K) : St := ⟨X.P.names, X.kd, X.io⟩
/-- all that is shown of a text -/
noncomputable def M1 (K : Cfg) (e : ME) : Prop := ∀ X : Ctx K, CtxOk X → okE e X.st = true → ES X e ∧ TS X e ∧ (newL e = true → GL X e)
noncomputable def M2 (K : Cfg) (i : It) : Prop := ∀ X : Ctx K, CtxOk X → ∀ tg N', okIt i tg X.st = true → IS X i tg N'
noncomputable def M3 (K : Cfg) (es : List ME) : Prop := AllE (M1 K) es
noncomputable def M4 (K : Cfg) (o : Option ME) : Prop := OptE (M1 K) o

theorem m1_of {X : Ctx K} {e : ME} (h : ES X e) (hp : isTrue (toE e X.P.names) X.P.env (eval (toE e X.P.names) X.P.env) = (do let v ← eval (toE e X.P.names) X.P.env; standAt (toE e X.P.names).pos; holding [v] (truthy v))) (hn : newL e = false) : ES X e ∧ TS X e ∧ (newL e = true → GL X e) :=
  ⟨h, ts_plain h hp, fun h => by rw [hn] at h; cases h⟩
theorem all_es {X : Ctx K} (ok : CtxOk X) : ∀ (es : List ME), M3 K es → okEs es X.st = true → AllE (ES X) es
  | [], _, _ => trivial
  | e :: es, h, ho => ⟨(h.1 X ok (band ho).1).1, all_es ok es h.2 (band ho).2⟩
theorem all_ts {X : Ctx K} (ok : CtxOk X) : ∀ (es : List ME), M3 K es → okEs es X.st = true → AllE (TS X) es
  | [], _, _ => trivial
  | e :: es, h, ho => ⟨(h.1 X ok (band ho).1).2.1, all_ts ok es h.2 (band ho).2⟩
theorem all_sb {X : Ctx K} (ok : CtxOk X) : ∀ (es : List ME), M3 K es → okEs es X.st = true → AllE (SB X) es
  | [], _, _ => trivial
  | e :: es, h, ho => ⟨⟨fun B => (h.1 (X.withB B) (ok.withB B) (band ho).1).1, fun hn B => (h.1 (X.withB B) (ok.withB B) (band ho).1).2.2 hn⟩, all_sb ok es h.2 (band ho).2⟩
theorem opt_es {X : Ctx K} (ok : CtxOk X) {o : Option ME} (h : M4 K o) (ho : okO o X.st = true) : OptE (ES X) o := by
  cases o with
  | none => trivial
  | some e => exact (h X ok ho).1
theorem newL_list {a : ME} (h : isListM a = true) : newL a = true := by cases a <;> first | rfl | cases h
theorem newL_mul {a : ME} (h : isMulL a = true) : newL a = true := by
  cases a with
  | bin op x y p =>
    show ((isMult op && isListM x) || (isAdd op && isMulL y)) = true
    have h : (isMult op && isListM x) = true := h
    rw [h]; rfl
  | _ => cases h
theorem bin_gl {X : Ctx K} {op : Operator} {a b : ME} {p : Nat} (ha : ES X a ∧ TS X a ∧ (newL a = true → GL X a)) (hb : ES X b ∧ TS X b ∧ (newL b = true → GL X b)) (h : newL (.bin op a b p) = true) : GL X (.bin op a b p) := by
  have h : ((isMult op && isListM a) || (isAdd op && isMulL b)) = true := h
  rcases Bool.or_eq_true_iff.mp h with h | h
  · cases op with
    | Mult => exact gl_mul (ha.2.2 (newL_list (band h).2)).ls hb.1
    | _ => cases (band h).1
  · cases op with
    | Add => exact gl_add ha.1 (hb.2.2 (newL_mul (band h).2)).ls
    | _ => cases (band h).1
theorem line_of {q p : Nat} (h : lineOk q p = true) : (dp q).endLine = (dp p).line := of_decide_eq_true h
theorem comp_h {X : Ctx K} (ok : CtxOk X) {sc : Scope} {xs : List PySem.Str} {fr : List Nat} {elt : ME} {tg : TG} {it : It} {p : Nat} (helt : M1 K elt) (hit : M2 K it) (h : okE (.comp sc xs fr elt tg it p) X.st = true) : CompH X sc xs fr elt tg it := by
  obtain ⟨h1, h⟩ := band h
  obtain ⟨h2, h⟩ := band h
  obtain ⟨h3, h4⟩ := band h
  exact ⟨ok.io (bnot h1), compOk_of h2, hit X ok tg _ h4, fun X' ok' e1 e2 e3 e4 e5 => (helt X' ok' (by
    show okE elt ⟨X'.P.names, X'.kd, X'.io⟩ = true
    rw [e1, e2, e3]; exact h3)).1⟩
theorem ts_ite {X : Ctx K} {t a b : ME} {p : Nat} (ht : TS X t) (ha : TS X a) (hb : TS X b) : TS X (.ite t a b p) := by
  intro R E hR oa ρ G s Q Qv he x hQ
  refine isTrue_IfExp (ht R E hR oa ρ G s (fun c ρ => brP c (wpE X.C a R ρ fun d ρ => boolP d fun b => Q b ρ) (wpE X.C b R ρ fun d ρ => boolP d fun b => Q b ρ)) _ he x fun c ρ' q G1 s1 hG1 x1 => ?_)
  cases c with
  | true => exact ha R E hR oa _ _ _ _ _ (q.1 rfl) x1 fun b ρ q G' s' h x => hQ b ρ q G' s' (hG1.trans h) x
  | false => exact hb R E hR oa _ _ _ _ _ (q.2 rfl) x1 fun b ρ q G' s' h x => hQ b ρ q G' s' (hG1.trans h) x
theorem many_of {t : TG} (h : isMany t = true) : ∃ is p, t = .many is p := by
  cases t with
  | many is p => exact ⟨is, p, rfl⟩
  | _ => cases h
theorem sound (hE : Ext K) : ∀ e, M1 K e := @ME.rec (M1 K) (M2 K) (M3 K) (M4 K)
  (fun _ _ X ok _ => m1_of es_int rfl rfl) (fun _ _ X ok _ => m1_of es_str rfl rfl) (fun _ _ X ok _ => m1_of es_bool rfl rfl)
  (fun _ _ X ok _ => m1_of (es_var ok) rfl rfl) (fun _ _ X ok h => m1_of (es_fn ok h) rfl rfl) (fun _ _ X ok h => m1_of (es_glob ok h) rfl rfl)
  (fun op a b p ha hb X ok h => let A := ha X ok (band h).1; let B := hb X ok (band h).2; ⟨es_bin ok A.1 B.1, ts_plain (es_bin ok A.1 B.1) rfl, bin_gl A B⟩)
  (fun a p ha X ok h => m1_of (es_neg (ha X ok h).1) rfl rfl)
  (fun a p ha X ok h => ⟨es_not (ha X ok h).1, ts_not (ha X ok h).2.1, fun h => nomatch h⟩)
  (fun a es p ha hes X ok h => ⟨es_and (ha X ok (band h).1).1 (all_es ok es hes (band h).2), ts_and (ha X ok (band h).1).2.1 (all_ts ok es hes (band h).2), fun h => nomatch h⟩)
  (fun a op b p ha hb X ok h => ⟨es_cmp ok (ha X ok (band h).1).1 (hb X ok (band h).2).1, ts_cmp ok (ha X ok (band h).1).1 (hb X ok (band h).2).1, fun h => nomatch h⟩)
  (fun a op b op' c p ha hb hc X ok h => ⟨es_cmp2 ok (ha X ok (band h).1).1 (hb X ok (band (band h).2).1).1 (hc X ok (band (band h).2).2).1, ts_cmp2 ok (ha X ok (band h).1).1 (hb X ok (band (band h).2).1).1 (hc X ok (band (band h).2).2).1, fun h => nomatch h⟩)
  (fun t a b p ht ha hb X ok h => ⟨es_ite (ht X ok (band h).1).2.1 (ha X ok (band (band h).2).1).1 (hb X ok (band (band h).2).2).1, ts_ite (ht X ok (band h).1).2.1 (ha X ok (band (band h).2).1).2.1 (hb X ok (band (band h).2).2).2.1, fun h => nomatch h⟩)
  (fun k q es p hes X ok h => m1_of (es_call ok (band h).1 (all_es ok es hes (band h).2)) rfl rfl)
  (fun i q es p hes X ok h => m1_of (es_callv ok (all_es ok es hes h)) rfl rfl)
  (fun k q i qi es p hes X ok h => m1_of (es_callio ok (band h).1 (all_es ok es hes (band h).2)) rfl rfl)
  (fun f q a p ha X ok h => m1_of (es_b1 ok (band h).1 (ha X ok (band h).2).1) rfl rfl)
  (fun f q es p hes X ok h => m1_of (es_bn ok (band h).1 (all_es ok es hes (band h).2)) rfl rfl)
  (fun q es p hes X ok h => m1_of (es_thr ok hE (band h).1 (fun e => by subst e; cases (band (band h).2).1) (all_es ok es hes (band (band h).2).2)) rfl rfl)
  (fun q es p hes X ok h => m1_of (es_clo ok hE (band h).1 (all_es ok es hes (band h).2)) rfl rfl)
  (fun a q p ha X ok h => m1_of (es_bitlen (band h).1 (line_of (band (band h).2).1) (ha X ok (band (band h).2).2).1) rfl rfl)
  (fun a q p ha X ok h => m1_of (es_lower (band h).1 (line_of (band (band h).2).1) (ha X ok (band (band h).2).2).1) rfl rfl)
  (fun a b q p ha hb X ok h => m1_of (es_find (band h).1 (line_of (band (band h).2).1) (ha X ok (band (band (band h).2).2).1).1 (hb X ok (band (band (band h).2).2).2).1) rfl rfl)
  (fun p0 q q2 a p2 p ha X ok h => m1_of (es_joinr ok (line_of (band h).1) (band (band h).2).1 (ha X ok (band (band h).2).2).1) rfl rfl)
  (fun a i p ha hi X ok h => m1_of (es_idx ok (ha X ok (band h).1).1 (hi X ok (band h).2).1) rfl rfl)
  (fun i pi lo hi q p hlo hhi X ok h => m1_of (es_cut ok (opt_es ok hlo (band h).1) (opt_es ok hhi (band h).2)) rfl rfl)
  (fun i pi p1 p2 q p X ok h => m1_of (es_rev ok) rfl rfl)
  (fun i pi f p X ok h => m1_of (es_attr ok hE) rfl rfl)
  (fun es p hes X ok h => let G := gl_list (p := p) (all_es ok es hes (band h).2) (of_decide_eq_true (band h).1); ⟨es_list (all_es ok es hes (band h).2) (of_decide_eq_true (band h).1), ts_plain (es_list (all_es ok es hes (band h).2) (of_decide_eq_true (band h).1)) rfl, fun _ => G⟩)
  (fun es p hes X ok h => m1_of (es_tup (all_es ok es hes (band h).2) (of_decide_eq_true (band h).1)) rfl rfl)
  (fun sc xs fr elt tg it p helt hit X ok h => m1_of (es_comp ok (comp_h ok (p := p) helt hit h)) rfl rfl)
  (fun q es p hes X ok tg N' h => is_range ok (band h).1 (all_es ok es hes (band h).2))
  (fun e he X ok tg N' h => is_seq ok (he X ok h).1)
  (fun q e p he X ok tg N' h => is_rever ok (band h).1 (he X ok (band h).2).1)
  (fun q e p he X ok tg N' h => by have h1 := (band h).1; have h2 := (band h).2; obtain ⟨is, tp, rfl⟩ := many_of h1; exact is_enum ok (band h2).1 (he X ok (band h2).2).1)
  (fun q a b p ha hb X ok tg N' h => by have h1 := (band h).1; have h2 := (band h).2; obtain ⟨is, tp, rfl⟩ := many_of h1; exact is_zip ok (band h2).1 (ha X ok (band (band h2).2).1).1 (hb X ok (band (band h2).2).2).1)
  trivial (fun e es he hes => ⟨he, hes⟩) trivial (fun e he => he)
theorem sound3 (hE : Ext K) : ∀ es, M3 K es
  | [] => trivial
  | e :: es => ⟨sound hE e, sound3 hE es⟩
theorem sound2 (hE : Ext K) (i : It) : M2 K i := by
  cases i with
  | range q es p => exact fun X ok tg N' h => is_range ok (band h).1 (all_es ok es (sound3 hE es) (band h).2)
  | seq e => exact fun X ok tg N' h => is_seq ok (sound hE e X ok h).1
  | rever q e p => exact fun X ok tg N' h => is_rever ok (band h).1 (sound hE e X ok (band h).2).1
  | enum q e p => exact fun X ok tg N' h => by have h1 := (band h).1; have h2 := (band h).2; obtain ⟨is, tp, rfl⟩ := many_of h1; exact is_enum ok (band h2).1 (sound hE e X ok (band h2).2).1
  | zip q a b p => exact fun X ok tg N' h => by have h1 := (band h).1; have h2 := (band h).2; obtain ⟨is, tp, rfl⟩ := many_of h1; exact is_zip ok (band h2).1 (sound hE a X ok (band (band h2).2).1).1 (sound hE b X ok (band (band h2).2).2).1

theorem xs_raise {X : Ctx K} (ok : CtxOk X) (hE : Ext K) {q q' q'' p : Nat} {t : PySem.Str} (hg : okG X.kd "OutOfRange" = true) : XS X (.raise q t q' q'' p) := by
  intro R E hR oa ρ G s Q Qv hev x hQ
  obtain ⟨bm0, newId, initId, O, FB⟩ := hE.out
  obtain ⟨tl, N, nm, qq, bs, hdct, sn, sub, ab, col, dd, k0, k1, k2, k3, k5, mN, hC, hN, hni, T⟩ := O.obj
  refine wpAny_Raise_call_subT (C := K.cOut) (nm := nm) (q := qq) (N := N) (bs := bs) (bm := tl) (hdct := hdct) (sn := sn) (sub := sub) (ab := ab) (col := col) (dd := dd) (k0 := k0) (k1 := k1) (k2 := k2) (k3 := k3) (k5 := k5)
    FB (mN := mN) (T.hasType FB.hasBase) ok.hA.1 rfl hni (glob_name ok x hg O.bound ⟨rfl, ?_⟩)
  refine evalArgs_ok (xs := [.Constant (.str t) 0 (dp q')]) (fun e h => by rw [List.mem_singleton.mp h]; rfl) (Calls.spliced_cons (Calls.Constant_str (pos := dp q') (k := 0) (Calls.spliced_nil ?_)))
  exact ⟨rfl, le_line (by show 1 ≤ 4096; decide), x.top _ _ hC, hN.keeps x.top, T.keeps x.top, fun h' e hm => (hR hev).made X.P.ban oa ρ G _ e _ _ (x.tok _) hm ⟨h', _, rfl⟩⟩

theorem asg_ok {X : Ctx K} (ok : CtxOk X) (hE : Ext K) {t : TG} {e : ME} {p : Nat} (h : okS (.asg t e p) X.st = true) : XS X (.asg t e p) := by
  obtain ⟨h1, h2⟩ := band h
  have he := sound hE e X ok h2
  cases t with
  | one i pi =>
    obtain ⟨h3, h4⟩ := band h1
    cases hc : isCompM e with
    | true =>
      cases e with
      | comp sc xs fr elt tg it p => exact xs_asgComp ok h3 (comp_h ok (p := p) (sound hE elt) (sound2 hE it) h2)
      | _ => cases hc
    | false =>
      rw [hc] at h4
      have hc := bnot h4
      cases hn : newL e with
      | true => exact xs_asgN ok h3 hc (he.2.2 hn) hn
      | false => exact xs_asg ok h3 hc he.1 hn
  | many is q =>
    obtain ⟨h3, h4⟩ := band h1
    exact xs_asgT ok h3 (bnot (band h4).1) (bnot (band h4).2) he.1
/-- every statement -/
theorem soundS (hE : Ext K) : ∀ st : MS, ∀ X : Ctx K, CtxOk X → okS st X.st = true → XS X st := @MS.rec (fun st => ∀ X : Ctx K, CtxOk X → okS st X.st = true → XS X st) (fun b => ∀ X : Ctx K, CtxOk X → okB b X.st = true → BS X b)
  (fun t e p X ok h => asg_ok ok hE h)
  (fun i pi e p X ok h => xs_asgC ok (bnot (band h).1) (sound hE e X ok (band h).2).1)
  (fun is q es q' p X ok h => let h2 := band (band h).2; let h3 := band h2.2; let h4 := band h3.2; xs_asgL ok (band h).1 (of_decide_eq_true h2.1) h3.1 (of_decide_eq_true h4.1) (all_sb ok es (sound3 hE es) h4.2))
  (fun is q es q' p X ok h => xs_asgTC ok (fun i hi => bne_iff_ne.mp (List.all_eq_true.mp (band h).1 i hi)) (of_decide_eq_true (band (band h).2).1) (all_es ok es (sound3 hE es) (band (band h).2).2))
  (fun i pi ix e q p X ok h => xs_setI ok (bnot (band h).1) (sound hE e X ok (band (band h).2).1).1 (sound hE ix X ok (band (band h).2).2).1)
  (fun i pi op e p X ok h => xs_aug ok (band h).1 (band (band h).2).1 (sound hE e X ok (band (band h).2).2).1)
  (fun i pi e q q' p X ok h => xs_app ok (line_of (band h).1) (sound hE e X ok (band h).2).1)
  (fun t a b p ha hb X ok h => xs_ite (sound hE t X ok (band h).1).2.1 (ha X ok (band (band h).2).1) (hb X ok (band (band h).2).2))
  (fun t b p hb X ok h => xs_whl (sound hE t X ok (band h).1).2.1 (hb X ok (band h).2))
  (fun tg it b p hb X ok h => xs_for ok (band h).1 (sound2 hE it X ok tg _ (band (band h).2).1) fun B => hb (X.withB B) (ok.withB B) (band (band h).2).2)
  (fun e p X ok h => xs_ret (sound hE e X ok h).1)
  (fun e p X ok h => xs_expr ok (bnot (band h).1) (sound hE e X ok (band h).2).1)
  (fun q s q' q'' p X ok h => xs_raise ok hE h)
  (fun path X ok h => fun R E hR oa ρ G s Q Qv hev => False.elim hev)
  (fun X ok h => bs_nil)
  (fun st b hs hb X ok h => bs_cons (hs X ok (band h).1) (hb X ok (band h).2))
theorem soundB (hE : Ext K) : ∀ b : List MS, ∀ X : Ctx K, CtxOk X → okB b X.st = true → BS X b
  | [], X, ok, h => bs_nil
  | st :: b, X, ok, h => bs_cons (soundS hE st X ok (band h).1) (soundB hE b X ok (band h).2)
end
end Mine

set_option autoImplicit false
set_option linter.all false
set_option maxRecDepth 100000
namespace Mine
open PySem PySem.W PySem.Calls PyProof.Rows

/-! a raise that leaves a frame -/
noncomputable def hide (h : Heap) (l : List Addr) : Heap := ⟨h.objs.mapIdx fun i o => if l.contains i then { o with data := .freed } else o, h.life⟩
theorem hide_out {h : Heap} {l : List Addr} {a : Addr} (hn : a ∉ l) : (hide h l).get? a = h.get? a := by
  unfold hide Heap.get?
  rw [Array.getElem?_mapIdx]
  have hc : l.contains a = false := by
    cases hq : l.contains a with
    | false => rfl
    | true => exact absurd (List.contains_iff_mem.mp hq) hn
  rw [hc]
  cases h.objs[a]? with
  | none => rfl
  | some o => rfl
theorem hide_in {h : Heap} {l : List Addr} {a : Addr} (hn : a ∈ l) : (hide h l).get? a = none := by
  unfold hide Heap.get?
  rw [Array.getElem?_mapIdx, List.contains_iff_mem.mpr hn]
  cases h.objs[a]? with
  | none => rfl
  | some o => rfl
theorem hide_stays {h : Heap} {l : List Addr} : (hide h l).StaysIn h := fun b o e => by
  by_cases hb : b ∈ l
  · rw [hide_in hb] at e; cases e
  · exact (hide_out hb).symm.trans e

section
variable {K : Cfg} {X : Ctx K} {A : Around} {E : Value → Shared → Prop} {oa : Nat → Addr} {ρ : MEnv} {G : PH} {s : Shared}

theorem frs_fun {h base : Heap} : ∀ {l : List Env}, (∀ env ∈ l, env.scope.kind ≠ .module ∧ ∃ L o, env.frame = some L ∧ base.get? L = none ∧ h.get? L = some o ∧ ∀ vs, o.data ≠ .fields vs) → h.FunFrames base l
  | [], _ => trivial
  | env :: l, H => ⟨(H env (.head _)).1, (H env (.head _)).2, frs_fun fun e he => H e (.tail _ he)⟩
/-- what the frames above give, for a state behind -/
theorem rp_of (hA : X.A = A.deeper X.P.env) (hf : X.P.env.frame = some X.P.env.locals) (hk : X.P.env.scope.kind = .function) (hio : X.P.io = none) (H : RRet K A X.P.G₀ X.P.s₀ E) :
    RP X (fun e s' => WP K X.A E (leaving X.P.env e) (fun _ s'' => E e s'') s') := by
  obtain ⟨l, hl, hfr, hpt, hq⟩ := H
  have fs : X.A.frames = some (X.P.env :: l) := by rw [hA]; show A.frames.map _ = _; rw [hl]; rfl
  have ef : frs (X.P.env :: l) = X.P.env.locals :: frs l := by show List.filterMap _ _ = _; rw [List.filterMap_cons, hf]
  have frm : ∀ L ∈ frs l, ∃ o, X.P.s₀.heap.get? L = some o ∧ (∀ vs, o.data ≠ .fields vs) ∧ X.P.G₀ L = none := fun L hL => by
    obtain ⟨env, he, e⟩ := List.mem_filterMap.mp hL
    obtain ⟨_, L', o, e1, e2, e3, e4⟩ := hfr env he
    rw [e] at e1; cases e1
    exact ⟨o, e2, e3, e4⟩
  have kp : ∀ {B : List (Addr × Obj)} {oa ρ G s}, Sm K { X.P with ban := B } oa ρ G s → ∀ {b o}, X.P.s₀.heap.get? b = some o → b ≠ K.pT → s.heap.get? b = some o := fun x b o e hp => x.keep b o e (by show X.P.io ≠ _; rw [hio]; exact fun h => (nomatch h)) hp
  have nL : ∀ {B : List (Addr × Obj)} {oa ρ G s}, Sm K { X.P with ban := B } oa ρ G s → ∀ {b}, b < X.P.s₀.heap.objs.size → b ≠ X.P.env.locals := fun x b hb => Nat.ne_of_lt (Nat.lt_of_lt_of_le hb x.above)
  have Gn : ∀ {B : List (Addr × Obj)} {oa ρ G s}, Sm K { X.P with ban := B } oa ρ G s → ∀ {b o}, G b = some o → b ∉ frs (X.P.env :: l) := fun x b o e hb => by
    rw [ef] at hb
    rcases List.mem_cons.mp hb with rfl | hb
    · have := x.offL; rw [show _ = _ from this] at e; cases e
    · obtain ⟨o', f1, f2, f3⟩ := frm b hb
      have := x.old b o (Heap.lt_size f1) e
      rw [show _ = _ from f3] at this; cases this
  have mod : ∀ env ∈ X.P.env :: l, env.scope.kind ≠ .module := fun env he => by
    rcases List.mem_cons.mp he with rfl | he
    · rw [hk]; exact fun h => nomatch h
    · exact (hfr env he).1
  have ho : ∀ {B : List (Addr × Obj)} {oa ρ G s}, Sm K { X.P with ban := B } oa ρ G s → ∀ env ∈ X.P.env :: l, ∃ L o, env.frame = some L ∧ s.heap.get? L = some o ∧ (∀ vs, o.data ≠ .fields vs) ∧ G L = none := fun {B oa ρ G s} x env he => by
    rcases List.mem_cons.mp he with rfl | he
    · obtain ⟨m, ⟨o, es, ep, h1, h2, _⟩, _⟩ := x.slots
      exact ⟨_, o, hf, h1, (fun vs h => by rw [h2] at h; cases h), x.offL⟩
    · obtain ⟨_, L, o, e1, e2, e3, e4⟩ := hfr env he
      have hL : L ∈ frs l := List.mem_filterMap.mpr ⟨env, he, e1⟩
      refine ⟨L, o, e1, kp x e2 (fun h => hpt (h ▸ hL)), e3, ?_⟩
      cases hg : G L with
      | none => rfl
      | some o' =>
        refine absurd ?_ (Gn x hg)
        rw [ef]; exact .tail _ hL
  have pn : ∀ {B : List (Addr × Obj)} {oa ρ G s}, Sm K { X.P with ban := B } oa ρ G s → K.pT ∉ frs (X.P.env :: l) := fun x h => by
    rw [ef] at h
    rcases List.mem_cons.mp h with h | h
    · exact x.tab.2.2.1 h
    · exact hpt h
  -- behind: what is said of a heap that bears what stood
  have back : ∀ {B : List (Addr × Obj)} {oa ρ G s}, Sm K { X.P with ban := B } oa ρ G s → ∀ {e : Addr} {B' h'' : Heap} {tk a0}, (∀ b o, b ≠ K.pT → b ∉ frs (X.P.env :: l) → s.heap.get? b = some o → B'.get? b = some o) → (∃ o, B'.get? K.pT = some o ∧ K.TabOk (ext G s.heap.objs.size B') o) → Heap.FlyingW B' l e (.ref K.cOut) a0 h'' →
      (∀ L ∈ frs l, ∀ o, s.heap.get? L = some o → (∀ vs, o.data ≠ .fields vs) → ∃ sl, h''.get? L = some { o with slots := sl }) → E (.ref e) { s with heap := h'', toks := tk } := fun {B oa ρ G s} x {e B' h'' tk a0} q1 q2 q3 q4 => by
    obtain ⟨hh, tk0, es⟩ := x.same
    have := hq e B' h'' tk a0 (fun b o hp hb e => q1 b o hp (fun h => by
      rw [ef] at h
      rcases List.mem_cons.mp h with h | h
      · exact nL x (Heap.lt_size e) h
      · exact hb h) (kp x e hp)) (by
      obtain ⟨o, t1, t2⟩ := q2
      refine ⟨o, t1, K.tabMono _ _ _ (fun b y ey => ?_) t2⟩
      have nb : ∀ b y, G b = some y → B'.get? b = some y := fun b y e => q1 b y (fun h => by have := x.tab.2.1; rw [h, this] at e; cases e) (Gn x e) (x.inc b y e)
      unfold ext at ey ⊢
      split
      · rename_i hb
        split at ey
        · exact x.old b y hb ey
        · rename_i h1
          exact absurd (Nat.lt_trans (Nat.lt_of_lt_of_le hb x.above) x.ltL) h1
      · split at ey
        · exact nb b y ey
        · exact ey) q3 (fun L hL o e => by
      obtain ⟨o', f1, f2, f3⟩ := frm L hL
      rw [f1] at e; cases e
      exact q4 L hL _ (kp x f1 (fun h => hpt (h ▸ hL))) f2)
    rw [es]
    exact this
  refine ⟨hio, fun B oa ρ G s x => ⟨_, fs, fun env he => ⟨mod env he, ho x env he⟩, pn x, fun e B' h' tk a0 q1 q2 q3 q4 => ?_⟩, fun B oa ρ G s e s' args x hm hs => ?_⟩
  · refine wpAny_leaves_onW fs hf q3 fun h'' r1 r2 => back (tk := tk) x q1 q2 r1 fun L hL o eL hd => ?_
    obtain ⟨sl, e2⟩ := q4 L (by rw [ef]; exact .tail _ hL) o eL
    obtain ⟨sl', e3⟩ := r2 L _ e2 hd
    exact ⟨sl', e3⟩
  · obtain ⟨hh, tk, rfl⟩ := hs
    have hF : s.heap.FunFrames (hide s.heap (frs (X.P.env :: l))) (X.P.env :: l) := frs_fun fun env he => by
      obtain ⟨L, o, e1, e2, e3, _⟩ := ho x env he
      exact ⟨mod env he, L, o, e1, hide_in (List.mem_filterMap.mpr ⟨env, he, e1⟩), e2, e3⟩
    refine wpAny_leaves_madeW fs hf hide_stays hF hm fun h'' t r1 _ _ r2 => back (tk := tk) x (fun b o _ hb e => (hide_out hb).trans e) ?_ r1 fun L hL o eL hd => r2 L o (hm.keeps L o eL) hd
    obtain ⟨⟨o, t1, t2⟩, _⟩ := x.tab
    exact ⟨o, (hide_out (pn x)).trans t1, K.tabMono _ _ _ (sub_ext x.inc fun b y e => (hide_out (Gn x e)).trans (x.inc b y e)) t2⟩
end
end Mine

set_option autoImplicit false
set_option maxRecDepth 100000
set_option linter.all false
namespace Mine
open PySem PySem.W PySem.Calls PyProof.Rows

/-! calls of the program's own functions -/
structure FnHd (K : Cfg) (a : Addr) (f : FnDef) (o : Obj) (fd : FuncData) (body : List Stmt) (N : List PySem.Str) : Prop where
  get : K.hT.get? a = some o
  data : o.data = .func fd
  code : K.hT.CodeRec fd.code fd.qualname
  bodyE : fd.body = .stmts body
  clo : fd.closure = []
  globals : fd.globals = mainGlobals
  builtins : fd.builtins = builtinsNs
  fkind : fd.scope.kind = .function
  co : fd.scope.isCoroutine = false
  gen : fd.scope.isGenerator = false
  nd : N.Nodup
  pl : N.all plainNm = true
  len : N.length = f.ns
  np : f.np ≤ f.ns
  bind : ∀ vals, vals.length = f.np → bindArgs fd ⟨vals, []⟩ = pure ((N.take f.np).zip vals)
  par : ∀ x ∈ N.take f.np, fd.scope.names.lookup x = some .local ∨ fd.scope.names.lookup x = some .cell
  first : f.io = true → ∃ x, N[0]? = some x ∧ fd.scope.names.lookup x = some .local ∧ 1 ≤ f.np
  cells : ∀ n x, fd.scope.names.lookup x = some .cell → ∃ c, (cellsFrom n fd.scope.names []).lookup x = some c
structure FnAt (K : Cfg) (k : Nat) (f : FnDef) (o : Obj) (fd : FuncData) (body : List Stmt) (N : List PySem.Str) (src : List Stmt) : Prop where
  hd : FnHd K (K.fa k) f o fd body N
  text : toB f.body N src = body
  ck : okB f.body ⟨N, fun x => fd.scope.names.lookup x, f.io⟩ = true

theorem bindL_other {kindOf : PySem.Str → Option NameKind} {x : PySem.Str} : ∀ {bs : List (PySem.Str × Value)} {m : PySem.Str → Option Value}, (∀ b ∈ bs, b.1 ≠ x) → bindL kindOf bs m x = m x
  | [], _, _ => rfl
  | (n, v) :: r, m, h => by
    refine (bindL_other (bs := r) fun b hb => h b (.tail _ hb)).trans ?_
    split
    · exact if_neg (Ne.symm (h _ (.head _)))
    · rfl
theorem bindC_other {kindOf : PySem.Str → Option NameKind} {x : PySem.Str} : ∀ {bs : List (PySem.Str × Value)} {m : PySem.Str → Option Value}, (∀ b ∈ bs, b.1 ≠ x) → PySem.bindC kindOf bs m x = m x
  | [], _, _ => rfl
  | (n, v) :: r, m, h => by
    refine (bindC_other (bs := r) fun b hb => h b (.tail _ hb)).trans ?_
    split
    · rfl
    · exact if_neg (Ne.symm (h _ (.head _)))
theorem zip_fst {α β : Type} {x : α × β} : ∀ {xs : List α} {ys : List β}, x ∈ xs.zip ys → x.1 ∈ xs
  | [], _, h => nomatch h
  | _ :: _, [], h => nomatch h
  | a :: xs, b :: ys, h => by
    rcases List.mem_cons.mp h with rfl | h
    · exact .head _
    · exact .tail _ (zip_fst h)
theorem bind_get {kindOf : PySem.Str → Option NameKind} {x : PySem.Str} {v : Value} : ∀ {xs : List PySem.Str} {vs : List Value} {j : Nat} {m m' : PySem.Str → Option Value}, xs.Nodup → xs[j]? = some x → vs[j]? = some v →
    (kindOf x = some .local → bindL kindOf (xs.zip vs) m x = some v) ∧ (kindOf x ≠ some .local → PySem.bindC kindOf (xs.zip vs) m' x = some v)
  | [], _, _, _, _, _, h, _ => nomatch h
  | _ :: _, [], _, _, _, _, _, h => nomatch h
  | y :: xs, u :: vs, 0, m, m', hd, h1, h2 => by
    cases h1; cases h2
    have hn := (List.nodup_cons.mp hd).1
    have ho : ∀ b ∈ xs.zip vs, b.1 ≠ x := fun b hb e => hn (e ▸ zip_fst hb)
    refine ⟨fun hk => (bindL_other ho).trans ?_, fun hk => (bindC_other ho).trans ?_⟩
    · rw [if_pos hk]; exact if_pos rfl
    · rw [if_neg hk]; exact if_pos rfl
  | y :: xs, u :: vs, j + 1, m, m', hd, h1, h2 => @bind_get kindOf x v xs vs j _ _ (List.nodup_cons.mp hd).2 h1 h2

section
variable {K : Cfg} {C : Orc} {A : Around} {n : Nat} {G : PH} {s : Shared} {E : Value → Shared → Prop} {Q : Value → Shared → Prop} {R : Prop}

theorem AOk.deeper (h : AOk A (n + 1)) (env : Env) : AOk (A.deeper env) n := by
  obtain ⟨h1, h2, h3⟩ := h
  refine ⟨h1, ?_, ?_⟩
  · show A.depth + 1 + 2 * n + 10 < _; (first | grind | omega)
  · show A.units + 3 + 16 * n + 200 < _; (first | grind | omega)

/-- what a first slot stands for -/
noncomputable def Slot0 (K : Cfg) (G : PH) (s : Shared) (io : Option Addr) (j : Nat) (v : Value) : Slot → Prop
  | .val d => Rep K G d v
  | .io xs => j = 0 ∧ ∃ a us c, v = .ref a ∧ io = some a ∧ a ≠ K.pT ∧ G a = none ∧ K.hT.get? a = none ∧ s.heap.get? a = some (lst us c) ∧ RepL K G xs us.toList
  | _ => False
theorem pad_get {sl : List Slot} {m i : Nat} {x : Slot} (h : (sl ++ List.replicate m .unset)[i]? = some x) : sl[i]? = some x ∨ x = .unset := by
  by_cases hi : i < sl.length
  · rw [List.getElem?_append_left hi] at h
    exact .inl h
  · rw [List.getElem?_append_right (by (first | grind | omega)), List.getElem?_replicate] at h
    split at h
    · cases h; exact .inr rfl
    · cases h

/-- the slots beyond the parameters, at first -/
noncomputable def RestOk (fd : FuncData) (N : List PySem.Str) (np : Nat) (rest : List Slot) : Prop := ∀ j x, rest[j]? = some x → x = .unset ∨ x = .cel ∧ ∃ y, N[np + j]? = some y ∧ fd.scope.names.lookup y = some .cell
theorem pairwise_ne {xs : List (PySem.Str × Addr)} (h : xs.Pairwise fun x y => x.2 ≠ y.2) {p q : PySem.Str × Addr} (hp : p ∈ xs) (hq : q ∈ xs) (e : p.2 = q.2) : p = q := by
  induction xs with
  | nil => cases hp
  | cons x xs ih =>
    obtain ⟨h1, h2⟩ := List.pairwise_cons.mp h
    rcases List.mem_cons.mp hp with hp | hp <;> rcases List.mem_cons.mp hq with hq | hq
    · exact hp.trans hq.symm
    · exact absurd (hp ▸ e) (h1 _ hq)
    · exact absurd (hq ▸ e.symm) (h1 _ hp)
    · exact ih h2 hp hq
theorem call_enter (W : Wld K) {a₀ : Addr} {f : FnDef} {o : Obj} {fd : FuncData} {body : List Stmt} {N : List PySem.Str} (FA : FnHd K a₀ f o fd body N) (src : List Stmt) (I : CallIn K A (n + 1) G s)
    {sl rest : List Slot} {vs : List Value} {io : Option Addr} (hl : sl.length = f.np) (hvl : vs.length = f.np) (hrl : rest.length = f.ns - f.np) (hr : RestOk fd N f.np rest)
    (hsl : ∀ (j : Nat) (x : Slot) (v : Value), sl[j]? = some x → vs[j]? = some v → Slot0 K G s io j v x)
    (hio : f.io = false → io = none) (hia : ∀ a, io = some a → a < s.heap.objs.size ∧ K.hT.get? a = none ∧ a ≠ K.pT)
    (H : ∀ oa0 G1 s₁, Sm K { env := callEnvC fd s.heap.objs.size a₀, names := N, src := src, s₀ := s, G₀ := G, io := io } oa0 (sl ++ rest) G1 s₁ →
      WP K (A.deeper (callEnvC fd s.heap.objs.size a₀)) (fun e s' => WP K (A.deeper (callEnvC fd s.heap.objs.size a₀)) E (leaving (callEnvC fd s.heap.objs.size a₀) e) (fun _ s'' => E e s'') s') (execs body (callEnvC fd s.heap.objs.size a₀)) (fun fl s' => Q (match fl with | .ret v => v | _ => .none) s') s₁) :
    WP K A E (call (.ref a₀) vs) Q s := by
  have hA := I.room
  refine wpAny_call (codeAny_call_cells (o := o) (fd := fd) (body := body) (binds := (N.take f.np).zip vs) (by have := hA.2.1; (first | grind | omega)) (I.top _ _ FA.get) FA.data (let ⟨mc, q1, q2⟩ := W.lim; ⟨mc, q1.keeps I.top, q2⟩) (FA.code.keeps I.top) FA.bodyE (FA.bind vs hvl) FA.clo (fun x hx => ?_) (fun s₁ Y => ?_) FA.co FA.gen FA.fkind)
  · rcases FA.par x.1 (zip_fst hx) with h | h
    · exact .inl h
    · obtain ⟨c, hc⟩ := FA.cells (s.heap.objs.size + 1) x.1 h
      exact .inr ⟨h, by rw [hc]; rfl⟩
  -- the frame
  generalize hL : s.heap.objs.size = L at Y H ⊢
  have hkindOf : ∀ x, (callEnvC fd L a₀).kindOf x = fd.scope.names.lookup x := fun x => rfl
  let P : Frm := { env := callEnvC fd L a₀, names := N, src := src, s₀ := s, G₀ := G, io := io }
  have keep := Y.toInCall.keep
  let ρ0 : MEnv := sl ++ rest
  let oa0 : Nat → Addr := fun i => if i < f.np then io.getD 0 else ((N[i]?).bind fun x => (callEnvC fd L a₀).cells.lookup x).getD 0
  -- an unbound cell
  have cel : ∀ (i : Nat), ρ0[i]? = some .cel → f.np ≤ i → ∃ x c, N[i]? = some x ∧ fd.scope.names.lookup x = some .cell ∧ (callEnvC fd L a₀).cells.lookup x = some c ∧ oa0 i = c ∧ L < c ∧ s₁.heap.IsCell c none := fun i h hi => by
    have h : (sl ++ rest)[i]? = some .cel := h
    rw [List.getElem?_append_right (hl ▸ hi)] at h
    rcases hr _ _ h with h | ⟨_, y, hy, hk⟩
    · cases h
    · rw [hl, Nat.add_sub_cancel' hi] at hy
      obtain ⟨c, hc⟩ := FA.cells (L + 1) y hk
      have hm := mem_of_lookup hc
      have hn : PySem.bindC (callEnvC fd L a₀).kindOf ((N.take f.np).zip vs) (fun _ => none) y = none := bindC_other fun b hb e => by
        have h1 := zip_fst hb
        rw [e] at h1
        obtain ⟨j, hj⟩ := List.mem_iff_getElem?.mp h1
        have hj2 : j < f.np := by
          have := (List.getElem?_eq_some_iff.mp hj).1
          rw [List.length_take] at this
          (first | grind | omega)
        rw [List.getElem?_take, if_pos hj2] at hj
        have := (List.getElem?_inj (List.getElem?_eq_some_iff.mp hj).1 FA.nd).mp (hj.trans hy.symm)
        (first | grind | omega)
      have hIs := Y.cell y c hc
      rw [hn] at hIs
      refine ⟨y, c, hy, hk, hc, ?_, Y.above y c hm, hIs⟩
      show (if i < f.np then _ else _) = c
      rw [if_neg (Nat.not_lt.mpr hi), hy]
      show ((callEnvC fd L a₀).cells.lookup y).getD 0 = c
      rw [show (callEnvC fd L a₀).cells.lookup y = some c from hc]; rfl
  let G1 : PH := fun b => if b < L then G b else @ite _ (b = L ∨ ∃ i, ρ0[i]? = some Slot.cel ∧ f.np ≤ i ∧ oa0 i = b) (Classical.propDecidable _) none (s₁.heap.get? b)
  have lt1 : ∀ {b}, b < L → G1 b = G b := fun h => if_pos h
  have hGlt : ∀ b o, G b = some o → b < L := fun b o e => hL ▸ Heap.lt_size (I.inc b o e)
  have hG1 : Sub G G1 := fun b o e => (lt1 (hGlt b o e)).trans e
  have getρ : ∀ (i : Nat) (x : Slot), ρ0[i]? = some x → (i < f.np ∧ ∃ v, vs[i]? = some v ∧ Slot0 K G s io i v x) ∨ x = .unset ∨ (x = .cel ∧ f.np ≤ i) := fun i x h => by
    have h : (sl ++ rest)[i]? = some x := h
    by_cases hi : i < f.np
    · rw [List.getElem?_append_left (hl ▸ hi)] at h
      have hv := List.getElem?_eq_getElem (hvl ▸ hi)
      exact .inl ⟨hi, _, hv, hsl i x _ h hv⟩
    · rw [List.getElem?_append_right (by (first | grind | omega))] at h
      rcases hr _ _ h with h | ⟨h, _⟩
      · exact .inr (.inl h)
      · exact .inr (.inr ⟨h, Nat.le_of_not_lt hi⟩)
  have exc : ∀ (i : Nat) (x : Slot), ρ0[i]? = some x → x.excl = true → (i = 0 ∧ i < f.np ∧ (∃ xs, x = .io xs) ∧ io = some (oa0 i) ∧ G (oa0 i) = none) ∨ (x = .cel ∧ f.np ≤ i) := fun i x h he => by
    rcases getρ i x h with ⟨hi, v, hv, h⟩ | rfl | h
    · cases x with
      | io xs =>
        obtain ⟨rfl, a, us, c, e, e1, _, e2, _⟩ := h
        have ea : oa0 0 = a := by show (if 0 < f.np then io.getD 0 else _) = a; rw [if_pos hi, e1]; rfl
        exact .inl ⟨rfl, hi, ⟨xs, rfl⟩, by rw [ea]; exact e1, by rw [ea]; exact e2⟩
      | val _ => cases he
      | unset => cases he
      | own _ => exact h.elim
      | cel => exact h.elim
    · cases he
    · exact .inr h
  have X0 : Sm K P oa0 ρ0 G1 s₁ := by
    refine ⟨Y.toInCall.same, ⟨_, Y.toInCall.ns, fun i x sl' hx hsl' => ?_⟩, FA.nd, fun b o e => ?_, (if_neg (Nat.lt_irrefl _)).trans (if_pos (.inl rfl)), fun i x sl' hx hsl' he => ?_, fun i j x y sl1 sl2 hx hy h1 h2 he1 he2 ho => ?_, fun b o e _ _ => keep b o e, fun b o hb e => (lt1 (hL ▸ hb)).symm.trans e, Nat.le_of_eq hL, fun a ha => ⟨(hia a ha).1, (hia a ha).2.1⟩, fun b o e => keep b o (I.top b o e), Nat.le_trans I.sz (Nat.le_of_eq hL), fun b o hb => (nomatch hb), ?_, ?_⟩
    · rcases getρ i sl' hsl' with ⟨hi, v, hvg, hs⟩ | rfl | ⟨rfl, hi⟩
      · have hx : N[i]? = some x := hx
        have hxt : (N.take f.np)[i]? = some x := by rw [List.getElem?_take, if_pos hi]; exact hx
        have hbg := @bind_get (callEnvC fd L a₀).kindOf x v _ _ i (fun _ => none) (fun _ => none) (FA.nd.sublist (List.take_sublist f.np _)) hxt hvg
        cases sl' with
        | val d' =>
          rcases FA.par x (List.mem_of_getElem? hxt) with hk | hk
          · exact .inl ⟨hk, v, hbg.1 hk, Rep.mono hG1 _ _ hs⟩
          · obtain ⟨c, hc⟩ := FA.cells (L + 1) x hk
            obtain ⟨oc, g1, g2⟩ := Y.cell x c hc
            rw [hbg.2 (by rw [hkindOf, hk]; exact fun h => nomatch h)] at g2
            have hLc : L < c := Y.above x c (mem_of_lookup hc)
            refine .inr ⟨.inl hk, c, oc, v, hc, (if_neg (Nat.not_lt.mpr (Nat.le_of_lt hLc))).trans ((if_neg ?_).trans g1), g2, Rep.mono hG1 _ _ hs⟩
            rintro (h | ⟨j, hj, hjn, h⟩)
            · exact Nat.ne_of_gt hLc h
            · obtain ⟨y, c', _, _, _, h1, _, oc', h2, h3⟩ := cel j hj hjn
              rw [← h1, h, g1] at h2
              cases h2
              rw [g2] at h3
              cases h3
        | io xs =>
          obtain ⟨rfl, a, us, c, rfl, e2, _, e4, e5, e6, e7⟩ := hs
          have hfio : f.io = true := by
            cases hf : f.io with
            | true => rfl
            | false => rw [hio hf] at e2; cases e2
          obtain ⟨y, q1, q2, _⟩ := FA.first hfio
          rw [hx] at q1; cases q1
          have hoa : oa0 0 = a := by show (if 0 < f.np then io.getD 0 else _) = a; rw [if_pos hi, e2]; rfl
          exact ⟨q2, by rw [hoa]; exact hbg.1 q2, by rw [hoa]; exact e2, us, c, by rw [hoa]; exact keep _ _ e6, RepL.mono hG1 _ _ e7⟩
        | unset => trivial
        | own _ => exact hs.elim
        | cel => exact hs.elim
      · trivial
      · obtain ⟨y, c, hy, hk, hc, e, _, hIs⟩ := cel i hsl' hi
        rw [show N[i]? = some x from hx] at hy
        cases hy
        exact ⟨hk, e ▸ hc, e ▸ hIs⟩
    · by_cases hb : b < L
      · exact keep b o (I.inc b o ((lt1 hb).symm.trans e))
      · have e := (if_neg hb : G1 b = _).symm.trans e
        split at e
        · cases e
        · exact e
    · rcases exc i sl' hsl' he with ⟨_, _, hxs, e1, e2⟩ | ⟨rfl, hi⟩
      · have ha := hia _ e1
        have halt : oa0 i < L := hL ▸ ha.1
        exact ⟨(lt1 halt).trans e2, Nat.ne_of_lt halt, ha.2.1, .inl hxs⟩
      · obtain ⟨y, c, hy, hk, hc, e, hlt, hIs⟩ := cel i hsl' hi
        have hlt : L < oa0 i := e ▸ hlt
        refine ⟨(if_neg (Nat.not_lt.mpr (Nat.le_of_lt hlt))).trans (if_pos (.inr ⟨i, hsl', hi, rfl⟩)), Nat.ne_of_gt hlt, Heap.get?_none_of_le (Nat.le_trans I.sz (Nat.le_trans (Nat.le_of_eq hL) (Nat.le_of_lt hlt))), .inr (Nat.le_trans (Nat.le_of_eq hL) (Nat.le_of_lt hlt))⟩
    · have gt : ∀ {i}, ρ0[i]? = some .cel → f.np ≤ i → L < oa0 i := fun h hi => by
        obtain ⟨_, c, _, _, _, e, hlt, _⟩ := cel _ h hi
        exact e ▸ hlt
      have lt : ∀ {i}, io = some (oa0 i) → oa0 i < L := fun h => hL ▸ (hia _ h).1
      rcases exc i sl1 h1 he1 with ⟨a1, _, _, a2, _⟩ | ⟨rfl, a1⟩ <;> rcases exc j sl2 h2 he2 with ⟨b1, _, _, b2, _⟩ | ⟨rfl, b1⟩
      · exact a1.trans b1.symm
      · exact absurd (ho ▸ lt a2) (Nat.lt_asymm (gt h2 b1))
      · exact absurd (ho.symm ▸ lt b2) (Nat.lt_asymm (gt h1 a1))
      · obtain ⟨y1, c1, q1, _, q2, q3, _⟩ := cel i h1 a1
        obtain ⟨y2, c2, r1, _, r2, r3, _⟩ := cel j h2 b1
        have e := pairwise_ne Y.apart (mem_of_lookup q2) (mem_of_lookup r2) (q3.symm.trans (ho.trans r3))
        have e : y1 = y2 := (Prod.mk.inj e).1
        rw [← e] at r1
        exact (List.getElem?_inj (List.getElem?_eq_some_iff.mp q1).1 FA.nd).mp (q1.trans r1.symm)
    · obtain ⟨⟨ot, t1, t2⟩, t3, t4⟩ := I.tab
      have hpL : K.pT < L := hL ▸ Heap.lt_size t1
      refine ⟨⟨ot, keep _ _ t1, K.tabMono _ _ _ hG1 t2⟩, (lt1 hpL).trans t3, Nat.ne_of_lt hpL, t4, fun i x sl' hx hsl' he => ?_, fun b o hb => (nomatch hb), Heap.lt_size t1⟩
      rcases exc i sl' hsl' he with ⟨_, _, _, e1, _⟩ | ⟨rfl, hi⟩
      · exact (hia _ e1).2.2
      · obtain ⟨_, c, _, _, _, e, hlt, _⟩ := cel i hsl' hi
        rw [e]; exact Nat.ne_of_gt (Nat.lt_trans hpL hlt)
    · show (sl ++ rest).length = N.length
      rw [List.length_append, hrl, hl, FA.len]
      have := FA.np
      (first | grind | omega)
  exact H oa0 G1 s₁ X0

theorem call_core (W : Wld K) (hE : Ext K) (hC : OrcOk K C n) (hg : C.glob = gl) {k : Nat} {f : FnDef} {o : Obj} {fd : FuncData} {body : List Stmt} {N : List PySem.Str} {src : List Stmt} (FA : FnAt K k f o fd body N src) (I : CallIn K A (n + 1) G s)
    {sl : List Slot} {vs : List Value} {io : Option Addr} {Q' : D → MEnv → Prop} (hrun : runP C R f sl Q') (hl : sl.length = f.np) (hvl : vs.length = f.np) (hsl : ∀ (j : Nat) (x : Slot) (v : Value), sl[j]? = some x → vs[j]? = some v → Slot0 K G s io j v x)
    (hio : f.io = false → io = none) (hia : ∀ a, io = some a → a < s.heap.objs.size ∧ K.hT.get? a = none ∧ a ≠ K.pT) (hR : R → io = none ∧ RRet K A G s E)
    (hQ : ∀ d ρ', Q' d ρ' → ∀ oa' G' s' v, Sm K { env := callEnvC fd s.heap.objs.size (K.fa k), names := N, src := src, s₀ := s, G₀ := G, io := io } oa' ρ' G' s' → Rep K G' d v → Q v s') : WP K A E (call (.ref (K.fa k)) vs) Q s := by
  refine call_enter W FA.hd src I (rest := List.replicate (f.ns - f.np) .unset) hl hvl List.length_replicate (fun j x h => .inl ?_) hsl hio hia fun oa0 G1 s₁ X0 => ?_
  · rw [List.getElem?_replicate] at h
    split at h
    · exact (Option.some.inj h).symm
    · cases h
  let X : Ctx K := ⟨{ env := callEnvC fd s.heap.objs.size (K.fa k), names := N, src := src, s₀ := s, G₀ := G, io := io }, A.deeper (callEnvC fd s.heap.objs.size (K.fa k)), C, n, fun x => fd.scope.names.lookup x, f.io⟩
  have ok : CtxOk X := ⟨W, I.room.deeper _, hC, hg, FA.hd.fkind, fun x => rfl, FA.hd.globals, FA.hd.builtins, fun x hx => FA.hd.cells _ x hx, FA.hd.pl, hio⟩
  have hB := soundB hE f.body X ok FA.ck R (fun e s' => WP K X.A E (leaving X.P.env e) (fun _ s'' => E e s'') s') (fun r => rp_of rfl rfl FA.hd.fkind (hR r).1 (hR r).2) oa0 _ G1 s₁ _ (fun fl s' => Q (match fl with | .ret v => v | _ => .none) s') hrun X0 fun fl ρ' q oa' G' s' fl' _ x hf => ?_
  · exact FA.text ▸ hB
  · cases fl with
    | next => cases hf; exact hQ _ _ q oa' G' s' _ x rfl
    | ret d => obtain ⟨v, rfl, r⟩ := hf; exact hQ _ _ q oa' G' s' _ x r

/-- what a frame leaves behind -/
theorem Sm.leave {P : Frm} {oa : Nat → Addr} {ρ : MEnv} {G' : PH} {s' : Shared} {d : D} {v : Value} (x : Sm K P oa ρ G' s') (hio : P.io = none) (r : Rep K G' d v) (hQ : Ret K P.G₀ P.s₀ d Q) : Q v s' := by
  obtain ⟨h', tk, e⟩ := x.same
  have hsub : Sub G' (Mine.ext P.G₀ P.s₀.heap.objs.size s'.heap) := fun b o eb => by
    unfold Mine.ext
    split
    · rename_i hlt
      exact x.old b o hlt eb
    · exact x.inc b o eb
  obtain ⟨⟨ot, t1, t2⟩, _⟩ := x.tab
  have := hQ v s'.heap s'.toks (fun b o hb eb => x.keep b o eb (by rw [hio]; exact fun h => (nomatch h)) hb) ⟨ot, t1, K.tabMono _ _ _ hsub t2⟩ (Rep.mono hsub _ _ r)
  have es : s' = { P.s₀ with heap := s'.heap, toks := s'.toks } := by
    conv => lhs; rw [e]
    rw [e]
  exact es ▸ this
end
end Mine

set_option autoImplicit false
set_option maxRecDepth 100000
set_option linter.all false
namespace Mine
open PySem PySem.W PySem.Calls PyProof.Rows

structure CloAt (K : Cfg) (f : FnDef) (np : Nat) (body : List Stmt) (N : List PySem.Str) (src : List Stmt) : Prop where
  bodyE : K.within.body = .stmts body
  globals : K.within.globals = mainGlobals
  builtins : K.within.builtins = builtinsNs
  fkind : K.within.scope.kind = .function
  co : K.within.scope.isCoroutine = false
  gen : K.within.scope.isGenerator = false
  nocell : ∀ x ∈ K.within.scope.names, x.2 ≠ .cell
  nd : N.Nodup
  pl : N.all plainNm = true
  len : N.length = f.ns
  le : f.np ≤ f.ns
  npf : f.np = np + 2
  bind : ∀ fd, likeFn K.within fd → ∀ vals, vals.length = np → bindArgs fd ⟨vals, []⟩ = pure ((N.take np).zip vals)
  par : ∀ x ∈ N.take np, K.within.scope.names.lookup x = some .local
  many : N[np]? = some "many" ∧ K.within.scope.names.lookup ("many" : PySem.Str) = some NameKind.free
  told : N[np + 1]? = some "told" ∧ K.within.scope.names.lookup ("told" : PySem.Str) = some NameKind.free
  text : toB f.body N src = body
  ck : okB f.body ⟨N, fun x => K.within.scope.names.lookup x, false⟩ = true

section
variable {K : Cfg} {C : Orc} {A : Around} {n : Nat} {G : PH} {s : Shared} {E : Value → Shared → Prop} {Q : Value → Shared → Prop}

theorem lookup_of {x : PySem.Str} {v : Value} : ∀ {l : List (PySem.Str × Value)}, (l.map (·.1)).Nodup → (x, v) ∈ l → l.lookup x = some v
  | [], _, h => nomatch h
  | (a, b) :: r, hd, hm => by
    rw [List.map_cons, List.nodup_cons] at hd
    rw [List.lookup_cons]
    rcases List.mem_cons.mp hm with e | hm
    · cases e; rw [beq_self_eq_true]
    · have : (x == a) = false := beq_eq_false_iff_ne.mpr fun e => hd.1 (e ▸ List.mem_map.mpr ⟨_, hm, rfl⟩)
      rw [this]; exact lookup_of hd.2 hm
theorem zip_nodup : ∀ {xs : List PySem.Str} {vs : List Value}, xs.Nodup → ((xs.zip vs).map (·.1)).Nodup
  | [], _, _ => .nil
  | _ :: _, [], _ => .nil
  | a :: xs, b :: vs, h => List.nodup_cons.mpr ⟨fun hm => by
      obtain ⟨p, hp, e⟩ := List.mem_map.mp hm
      have e : p.1 = a := e
      exact (List.nodup_cons.mp h).1 (e ▸ zip_fst hp), zip_nodup (List.nodup_cons.mp h).2⟩
theorem lookup_zip {x : PySem.Str} {v : Value} {xs : List PySem.Str} {vs : List Value} {j : Nat} (hd : xs.Nodup) (h1 : xs[j]? = some x) (h2 : vs[j]? = some v) : (xs.zip vs).reverse.lookup x = some v := by
  refine lookup_of ?_ (List.mem_reverse.mpr (List.mem_of_getElem? (i := j) (List.getElem?_zip_eq_some.mpr ⟨h1, h2⟩)))
  rw [List.map_reverse]
  exact List.pairwise_reverse.mpr (List.Pairwise.imp (R := (· ≠ ·)) (fun h => Ne.symm h) (zip_nodup hd))

theorem call_clo (W : Wld K) (hE : Ext K) (hC : OrcOk K C n) (hg : C.glob = gl) {f : FnDef} {np : Nat} {body : List Stmt} {N : List PySem.Str} {src : List Stmt} (FA : CloAt K f np body N src) (I : CallIn K A (n + 1) G s)
    {t : D} {mm : Int} {ds : List D} {v : Value} {vs : List Value} {Q' : D → MEnv → Prop} (rv : Rep K G (.clo t mm) v) (rs : RepL K G ds vs) (hrun : runP C False f (ds.map .val ++ [.val (.int mm), .val t]) Q') (hl : ds.length = np)
    (hQ : ∀ d ρ', Q' d ρ' → Ret K G s d Q) : WP K A E (call v vs) Q s := by
  have hA := I.room
  obtain ⟨a, o, cd, oc, c1, o1, c2, o2, v1, rfl, ga, gc, g1, g2, ⟨fd, cvs, tq, tk0, hd, hlk, hcd, ocd, hvf, lk1, lk2, e1, e2⟩, r1⟩ := rv
  obtain ⟨lq, lp, lb, ls, lg, lbu, _⟩ := id hlk
  have hvl : vs.length = np := rs.length.trans hl
  have hlim : s.heap.NoLimit := let ⟨mc, q1, q2⟩ := W.lim; ⟨mc, q1.keeps I.top, q2⟩
  refine wpAny_call (codeAny_call_function (o := o) (fd := fd) (body := body) (by have := hA.2.1; (first | grind | omega)) (I.inc _ _ ga) hd (by rw [ls]; exact FA.co) (by rw [ls]; exact FA.gen) (by rw [lb]; exact FA.bodyE) ⟨cd, oc, cvs, tq, hcd, I.inc _ _ gc, ocd, hvf⟩ ?_)
  rw [FA.bind fd hlk vs hvl]
  refine wpAny_pure (wpAny_newFunctionEnv (by rw [ls]; exact FA.nocell) (fun x hx => by rw [ls]; exact FA.par x.1 (zip_fst hx)) (fun h₁ hns hsb => ?_) (by rw [ls]; exact FA.fkind))
  generalize hL : s.heap.objs.size = L at hns hsb ⊢
  have keep : ∀ b o, s.heap.get? b = some o → h₁.get? b = some o := fun b o e => hsb.extBut b o (fun h => absurd (Heap.lt_size e) (by rw [hL, h]; exact Nat.lt_irrefl _)) (Heap.get?_push_of_some _ e)
  refine ⟨hlim.keeps keep, codeAny_func ?_⟩
  generalize hE0 : newEnv fd.scope L fd.globals fd.closure (fd.qualname ++ ".<locals>.") (some a) fd.code none fd.builtins = env
  have hk1 : env.scope = K.within.scope := by rw [← hE0, ← ls]; rfl
  have hk2 : env.locals = L := by rw [← hE0]; rfl
  have hk3 : env.cells = fd.closure := by rw [← hE0]; rfl
  have hkindOf : ∀ x, env.kindOf x = K.within.scope.names.lookup x := fun x => by unfold Env.kindOf; rw [hk1]
  let P : Frm := { env := env, names := N, src := src, s₀ := s, G₀ := G, io := none }
  let ρ0 : MEnv := (ds.map .val ++ [.val (.int mm), .val t]) ++ List.replicate (f.ns - f.np) .unset
  have getρ : ∀ (i : Nat) (x : Slot), ρ0[i]? = some x → (∃ d', ds[i]? = some d' ∧ x = .val d') ∨ (i = np ∧ x = .val (.int mm)) ∨ (i = np + 1 ∧ x = .val t) ∨ x = .unset := fun i x h => by
    rcases pad_get h with h | rfl
    · by_cases hi : i < np
      · rw [List.getElem?_append_left (by rw [List.length_map, hl]; exact hi), List.getElem?_map, Option.map_eq_some_iff] at h
        obtain ⟨d', h', rfl⟩ := h
        exact .inl ⟨d', h', rfl⟩
      · rw [List.getElem?_append_right (by rw [List.length_map, hl]; exact Nat.le_of_not_lt hi), List.length_map, hl] at h
        obtain ⟨q, rfl⟩ : ∃ q, i = np + q := ⟨i - np, by (first | grind | omega)⟩
        rw [Nat.add_sub_cancel_left] at h
        match q, h with
        | 0, h => cases h; exact .inr (.inl ⟨rfl, rfl⟩)
        | 1, h => cases h; exact .inr (.inr (.inl ⟨rfl, rfl⟩))
    · exact .inr (.inr (.inr rfl))
  have noex : ∀ (i : Nat) (x : Slot), ρ0[i]? = some x → x.excl = true → False := fun i x h he => by
    rcases getρ i x h with ⟨_, _, rfl⟩ | ⟨_, rfl⟩ | ⟨_, rfl⟩ | rfl <;> cases he
  have hGlt : ∀ b o, G b = some o → b < L := fun b o e => hL ▸ Heap.lt_size (I.inc b o e)
  have X0 : Sm K P (fun _ => 0) ρ0 G { s with heap := h₁, toks := s.toks + ((N.take np).zip vs).length } := by
    refine ⟨⟨_, _, rfl⟩, ⟨_, by rw [show P.env.locals = L from hk2]; exact hns, fun i x sl' hx hsl' => ?_⟩, FA.nd, fun b o e => keep b o (I.inc b o e), ?_, fun i x sl' hx hsl' he => (noex i sl' hsl' he).elim, fun i j x y sl1 sl2 hx hy h1 h2 he1 he2 _ => (noex i sl1 h1 he1).elim, fun b o e _ _ => keep b o e, fun b o hb e => e, ?_, fun a ha => (nomatch ha), fun b o e => keep b o (I.top b o e), ?_, fun b o hb => (nomatch hb), ?_, ?_⟩
    · have hx : N[i]? = some x := hx
      rcases getρ i sl' hsl' with ⟨d', hd', rfl⟩ | ⟨rfl, rfl⟩ | ⟨rfl, rfl⟩ | rfl
      · obtain ⟨u, hu, ru⟩ := rs.get hd'
        have hi : i < np := hl ▸ (List.getElem?_eq_some_iff.mp hd').1
        have hxt : (N.take np)[i]? = some x := by rw [List.getElem?_take, if_pos hi]; exact hx
        exact .inl ⟨(hkindOf x).trans (FA.par x (List.mem_of_getElem? hxt)), u, lookup_zip (FA.nd.sublist (List.take_sublist _ _)) hxt hu, ru⟩
      · rw [FA.many.1] at hx; cases hx
        exact .inr ⟨.inr ((hkindOf _).trans FA.many.2), c2, o2, _, by rw [show P.env.cells = fd.closure from hk3]; exact lk2, g2, e2, ⟨_, rfl⟩⟩
      · rw [FA.told.1] at hx; cases hx
        exact .inr ⟨.inr ((hkindOf _).trans FA.told.2), c1, o1, _, by rw [show P.env.cells = fd.closure from hk3]; exact lk1, g1, e1, r1⟩
      · trivial
    · rw [show P.env.locals = L from hk2]
      cases hg : G L with
      | none => rfl
      | some o' => exact absurd (hGlt _ _ hg) (Nat.lt_irrefl _)
    · rw [show P.env.locals = L from hk2]; exact Nat.le_of_eq hL
    · rw [show P.env.locals = L from hk2, ← hL]; exact I.sz
    · obtain ⟨⟨ot, t1, t2⟩, t3, t4⟩ := I.tab
      have hpL : K.pT < L := hL ▸ Heap.lt_size t1
      exact ⟨⟨ot, keep _ _ t1, t2⟩, t3, by rw [show P.env.locals = L from hk2]; exact Nat.ne_of_lt hpL, t4, fun i x sl' hx hsl' he => (noex i sl' hsl' he).elim, fun b o hb => (nomatch hb), Heap.lt_size t1⟩
    · show ((ds.map Slot.val ++ [Slot.val (.int mm), Slot.val t]) ++ List.replicate _ _).length = N.length
      rw [List.length_append, List.length_replicate, List.length_append, List.length_map, hl, FA.len, FA.npf]
      have := FA.le
      have := FA.npf
      show np + 2 + (f.ns - (np + 2)) = f.ns
      (first | grind | omega)
  let X : Ctx K := ⟨P, A.deeper env, C, n, fun x => K.within.scope.names.lookup x, false⟩
  have ok : CtxOk X := ⟨W, hA.deeper _, hC, hg, by show env.scope.kind = _; rw [hk1]; exact FA.fkind, hkindOf, by show env.globals = _; rw [← hE0]; exact lg.trans FA.globals, by show env.builtins = _; rw [← hE0]; exact lbu.trans FA.builtins, fun x hx => absurd rfl (FA.nocell _ (mem_of_lookup hx)), FA.pl, fun _ => rfl⟩
  have hB := soundB hE f.body X ok FA.ck False (fun e s' => WP K (A.deeper env) E (leaving env e) (fun _ s'' => E e s'') s') (fun r => r.elim) _ ρ0 G _ _ (fun fl s' => Q (match fl with | .ret v => v | _ => .none) s') hrun X0 fun fl ρ' q oa' G' s' fl' _ x hf => ?_
  · exact FA.text ▸ hB
  · cases fl with
    | next => cases hf; exact Sm.leave (P := P) (d := .none) x rfl rfl (hQ _ _ q)
    | ret d => obtain ⟨v, rfl, r⟩ := hf; exact Sm.leave (P := P) x rfl r (hQ _ _ q)
end

structure TblOk (K : Cfg) (tbl : Nat → Option FnDef) (wf : FnDef) : Prop where
  fns : ∀ k f, tbl k = some f → ∃ o fd body N src, FnAt K k f o fd body N src
  clo : ∃ np body N src, CloAt K wf np body N src

section
variable {K : Cfg} {tbl : Nat → Option FnDef} {wf : FnDef}

theorem vals_get {ds : List D} {j : Nat} {x : Slot} (h : (ds.map Slot.val)[j]? = some x) : ∃ d, ds[j]? = some d ∧ x = .val d := by
  rw [List.getElem?_map, Option.map_eq_some_iff] at h
  obtain ⟨d, h, rfl⟩ := h
  exact ⟨d, h, rfl⟩

theorem orc_ok (W : Wld K) (hE : Ext K) (T : TblOk K tbl wf) : ∀ n, OrcOk K (orc tbl wf gl n) n
  | 0 => ⟨fun _ _ _ _ h => h.elim, fun _ _ _ _ h => h.elim, fun _ _ _ _ h => h.elim⟩
  | n + 1 => by
    have ih := orc_ok W hE T n
    have hg : (orc tbl wf gl n).glob = gl := by cases n <;> rfl
    refine ⟨fun R k ds Q h A E G s vs Qv I rs hR hQ => ?_, fun t m ds Q h A E G s v vs Qv I rv rs hQ => ?_, fun k xs ds Q h A E G s vs a us c Qv I hap hGa hTa ha rx rs hQ => ?_⟩
    · obtain ⟨f, hf, hio, hl, hr⟩ := h
      obtain ⟨o, fd, body, N, src, FA⟩ := T.fns k f hf
      refine call_core W hE ih hg FA I (io := none) hr ((List.length_map _).trans hl) (rs.length.trans hl) (fun j x v hx hv => ?_) (fun _ => rfl) (fun a ha => (nomatch ha)) (fun r => ⟨rfl, hR r⟩) fun d ρ' q oa' G' s' v x r => Sm.leave x rfl r (hQ d q)
      obtain ⟨d, hd, rfl⟩ := vals_get hx
      obtain ⟨u, hu, ru⟩ := rs.get hd
      rw [hv] at hu; cases hu
      exact ru
    · obtain ⟨np, body, N, src, FA⟩ := T.clo
      obtain ⟨hl, hr⟩ := h
      exact call_clo W hE ih hg FA I rv rs hr (Nat.add_right_cancel (hl.trans FA.npf)) fun d ρ' q => hQ d q
    · obtain ⟨f, hf, hio, hl, hr⟩ := h
      obtain ⟨o, fd, body, N, src, FA⟩ := T.fns k f hf
      obtain ⟨x0, hx0, hk0, _⟩ := FA.hd.first hio
      refine call_core W hE ih hg FA I (io := some a) hr ((congrArg Nat.succ (List.length_map _)).trans hl) ((congrArg Nat.succ rs.length).trans hl) (fun j x v hx hv => ?_) (fun h => by rw [hio] at h; cases h) (fun b hb => by cases hb; exact ⟨Heap.lt_size ha, hTa, hap⟩) (fun r => r.elim) fun d ρ' q oa' G' s' v x r => ?_
      · cases j with
        | zero =>
          cases hx; cases hv
          exact ⟨rfl, a, us, c, rfl, rfl, hap, hGa, hTa, ha, rx⟩
        | succ j =>
          obtain ⟨d, hd, rfl⟩ := vals_get hx
          obtain ⟨u, hu, ru⟩ := rs.get hd
          cases Option.some.inj (hu.symm.trans hv)
          exact ru
      · unfold ioP at q
        split at q
        · rename_i ys hys
          obtain ⟨m, hm, hsl⟩ := x.slots
          obtain ⟨_, _, hoa, us', c', hh, hr'⟩ := hsl 0 x0 _ hx0 hys
          cases hoa
          obtain ⟨h', tk, e⟩ := x.same
          have hsub : Sub G' (Mine.ext G s.heap.objs.size s'.heap) := fun b o eb => by
            unfold Mine.ext
            split
            · rename_i hlt
              exact x.old b o hlt eb
            · exact x.inc b o eb
          obtain ⟨⟨ot, t1, t2⟩, _⟩ := x.tab
          have es : s' = { s with heap := s'.heap, toks := s'.toks } := by
            conv => lhs; rw [e]
            rw [e]
          rw [es]
          exact hQ d ys q v s'.heap s'.toks us' c' (fun b o hb hp eb => x.keep b o eb (fun h => hb (Option.some.inj h).symm) hp) ⟨ot, t1, K.tabMono _ _ _ hsub t2⟩ hh (RepL.mono hsub _ _ hr') (Rep.mono hsub _ _ r)
        · exact q.elim
end
end Mine

set_option autoImplicit false
set_option linter.all false
set_option maxRecDepth 100000
namespace Mine
open PySem
/- normal: 0=a 1=end -/
noncomputable def f_normal : FnDef := ⟨false, 1, 2, [.asg (.one 1 (nat_lit 17179873287)) (.b1 .len (nat_lit 17179879437) (.var 0 (nat_lit 17179883535)) (nat_lit 17179879440)) (nat_lit 17179873296), .whl (.and (.cmp (.var 1 (nat_lit 18253621261)) .gt (.cint 0 (nat_lit 18253627409)) (nat_lit 18253621265)) [.cmp (.idx (.var 0 (nat_lit 18253633559)) (.bin .Sub (.var 1 (nat_lit 18253635611)) (.cint 1 (nat_lit 18253641759)) (nat_lit 18253635615)) (nat_lit 18253633568)) .eq (.cint 0 (nat_lit 18253647909)) (nat_lit 18253633573)] (nat_lit 18253621285)) [.aug 1 (nat_lit 19327361035) .Sub (.cint 1 (nat_lit 19327368208)) (nat_lit 19327361040)] (nat_lit 18254663696), .ret (.cut 0 (nat_lit 20401105932) none (some (.var 1 (nat_lit 20401109009))) (nat_lit 20401107985) (nat_lit 20401105938)) (nat_lit 20401098770)]⟩
/- nat_of: 0=number 1=w 2=found 3=mask -/
noncomputable def f_nat_of : FnDef := ⟨false, 2, 4, [.ite (.cmp (.var 0 (nat_lit 22548585485)) .lt (.cint 0 (nat_lit 22548594705)) (nat_lit 22548585489)) [.bad [0, 0, 0]] [] (nat_lit 22549631016), .asgL [(2, (nat_lit 24696066057)), (3, (nat_lit 24696073231))] (nat_lit 24696066063) [.list [] (nat_lit 24696081429), .bin .Sub (.bin .LShift (.cint 1 (nat_lit 24696086553)) (.var 1 (nat_lit 24696091678)) (nat_lit 24696086558)) (.cint 1 (nat_lit 24696096803)) (nat_lit 24696085539)] (nat_lit 24696080420) (nat_lit 24696066084), .whl (.cmp (.var 0 (nat_lit 25769814032)) .gt (.cint 0 (nat_lit 25769823252)) (nat_lit 25769814036)) [.app 2 (nat_lit 26843553805) (.bin .BitAnd (.var 0 (nat_lit 26843567131)) (.var 3 (nat_lit 26843576354)) (nat_lit 26843567138)) (nat_lit 26843553812) (nat_lit 26843553827) (nat_lit 26843553827), .aug 0 (nat_lit 27917295630) .RShift (.var 1 (nat_lit 27917306900)) (nat_lit 27917295636)] (nat_lit 25771905044), .ret (.var 2 (nat_lit 28991040528)) (nat_lit 28991033360)]⟩
/- compare: 0=a 1=b 2=at -/
noncomputable def f_compare : FnDef := ⟨false, 2, 3, [.ite (.cmp (.b1 .len (nat_lit 31138520074) (.var 0 (nat_lit 31138524172)) (nat_lit 31138520077)) .ne (.b1 .len (nat_lit 31138530324) (.var 1 (nat_lit 31138534422)) (nat_lit 31138530327)) (nat_lit 31138520087)) [.ret (.ite (.cmp (.b1 .len (nat_lit 32212276248) (.var 0 (nat_lit 32212280346)) (nat_lit 32212276251)) .lt (.b1 .len (nat_lit 32212285473) (.var 1 (nat_lit 32212289571)) (nat_lit 32212285476)) (nat_lit 32212276260)) (.neg (.cint 1 (nat_lit 32212271121)) (nat_lit 32212270097)) (.cint 1 (nat_lit 32212297771)) (nat_lit 32212270123)) (nat_lit 32212262955)] [] (nat_lit 31139565611), .for_ (.one 2 (nat_lit 33286004746)) (.range (nat_lit 33286010899) [.bin .Sub (.b1 .len (nat_lit 33286017047) (.var 0 (nat_lit 33286021145)) (nat_lit 33286017050)) (.cint 1 (nat_lit 33286026270)) (nat_lit 33286017054), .neg (.cint 1 (nat_lit 33286030370)) (nat_lit 33286029346), .neg (.cint 1 (nat_lit 33286034470)) (nat_lit 33286033446)] (nat_lit 33286010919)) [.ite (.cmp (.idx (.var 0 (nat_lit 34359749644)) (.var 2 (nat_lit 34359751695)) (nat_lit 34359749648)) .ne (.idx (.var 1 (nat_lit 34359758869)) (.var 2 (nat_lit 34359760920)) (nat_lit 34359758873)) (nat_lit 34359749657)) [.ret (.ite (.cmp (.idx (.var 0 (nat_lit 35433505818)) (.var 2 (nat_lit 35433507869)) (nat_lit 35433505822)) .lt (.idx (.var 1 (nat_lit 35433514018)) (.var 2 (nat_lit 35433516069)) (nat_lit 35433514022)) (nat_lit 35433505830)) (.neg (.cint 1 (nat_lit 35433500693)) (nat_lit 35433499669)) (.cint 1 (nat_lit 35433525293)) (nat_lit 35433499693)) (nat_lit 35433492525)] [] (nat_lit 34360795181)] (nat_lit 33288097837), .ret (.cint 0 (nat_lit 36507233292)) (nat_lit 36507226124)]⟩
/- add: 0=a 1=b 2=w 3=found 4=carry 5=mask 6=at -/
noncomputable def f_add : FnDef := ⟨false, 3, 7, [.ite (.cmp (.b1 .len (nat_lit 38654712842) (.var 0 (nat_lit 38654716940)) (nat_lit 38654712845)) .lt (.b1 .len (nat_lit 38654722067) (.var 1 (nat_lit 38654726165)) (nat_lit 38654722070)) (nat_lit 38654712854)) [.asgL [(0, (nat_lit 39728455689)), (1, (nat_lit 39728458764))] (nat_lit 39728455692) [.var 1 (nat_lit 39728463889), .var 0 (nat_lit 39728466964)] (nat_lit 39728462869) (nat_lit 39728455701)] [] (nat_lit 38655758357), .asgL [(3, (nat_lit 40802193417)), (4, (nat_lit 40802200592)), (5, (nat_lit 40802207766))] (nat_lit 40802193430) [.list [] (nat_lit 40802215964), .cint 0 (nat_lit 40802220063), .bin .Sub (.bin .LShift (.cint 1 (nat_lit 40802224163)) (.var 2 (nat_lit 40802229288)) (nat_lit 40802224168)) (.cint 1 (nat_lit 40802234413)) (nat_lit 40802223149)] (nat_lit 40802214958) (nat_lit 40802193454), .for_ (.one 6 (nat_lit 41875939338)) (.range (nat_lit 41875945491) [.b1 .len (nat_lit 41875951639) (.var 1 (nat_lit 41875955737)) (nat_lit 41875951642)] (nat_lit 41875945499)) [.aug 4 (nat_lit 42949681165) .Add (.bin .Add (.idx (.var 0 (nat_lit 42949690386)) (.var 6 (nat_lit 42949692437)) (nat_lit 42949690390)) (.idx (.var 1 (nat_lit 42949698586)) (.var 6 (nat_lit 42949700637)) (nat_lit 42949698590)) (nat_lit 42949690398)) (nat_lit 42949681182), .app 3 (nat_lit 44023422989) (.bin .BitAnd (.var 4 (nat_lit 44023436314)) (.var 5 (nat_lit 44023444513)) (nat_lit 44023436321)) (nat_lit 44023422996) (nat_lit 44023423010) (nat_lit 44023423010), .aug 4 (nat_lit 45097164813) .RShift (.var 2 (nat_lit 45097175059)) (nat_lit 45097164819)] (nat_lit 41879080979), .for_ (.one 6 (nat_lit 46170906634)) (.range (nat_lit 46170912787) [.b1 .len (nat_lit 46170918935) (.var 1 (nat_lit 46170923033)) (nat_lit 46170918938), .b1 .len (nat_lit 46170927135) (.var 0 (nat_lit 46170931233)) (nat_lit 46170927138)] (nat_lit 46170912803)) [.aug 4 (nat_lit 47244648461) .Add (.idx (.var 0 (nat_lit 47244657682)) (.var 6 (nat_lit 47244659733)) (nat_lit 47244657686)) (nat_lit 47244648470), .app 3 (nat_lit 48318390285) (.bin .BitAnd (.var 4 (nat_lit 48318403610)) (.var 5 (nat_lit 48318411809)) (nat_lit 48318403617)) (nat_lit 48318390292) (nat_lit 48318390306) (nat_lit 48318390306), .aug 4 (nat_lit 49392132109) .RShift (.var 2 (nat_lit 49392142355)) (nat_lit 49392132115)] (nat_lit 46174048275), .ite (.cmp (.var 4 (nat_lit 50465872908)) .gt (.cint 0 (nat_lit 50465881104)) (nat_lit 50465872912)) [.app 3 (nat_lit 51539615757) (.var 4 (nat_lit 51539629082)) (nat_lit 51539615764) (nat_lit 51539615771) (nat_lit 51539615771)] [] (nat_lit 50466918427), .ret (.var 3 (nat_lit 52613360656)) (nat_lit 52613353488)]⟩
/- sub: 0=a 1=b 2=w 3=found 4=borrow 5=base 6=at 7=limb -/
noncomputable def f_sub : FnDef := ⟨false, 3, 8, [.ite (.cmp (.call 2 (nat_lit 54760840206) [.var 0 (nat_lit 54760848400), .var 1 (nat_lit 54760851475)] (nat_lit 54760840212)) .lt (.cint 0 (nat_lit 54760856600)) (nat_lit 54760840216)) [.bad [0, 0, 0]] [] (nat_lit 54761885736), .asgL [(3, (nat_lit 56908320777)), (4, (nat_lit 56908327953)), (5, (nat_lit 56908336151))] (nat_lit 56908320791) [.list [] (nat_lit 56908344349), .cint 0 (nat_lit 56908348448), .bin .LShift (.cint 1 (nat_lit 56908351523)) (.var 2 (nat_lit 56908356648)) (nat_lit 56908351528)] (nat_lit 56908343337) (nat_lit 56908320809), .for_ (.one 6 (nat_lit 57982066698)) (.range (nat_lit 57982072851) [.b1 .len (nat_lit 57982078999) (.var 0 (nat_lit 57982083097)) (nat_lit 57982079002)] (nat_lit 57982072859)) [.asg (.one 7 (nat_lit 59055808524)) (.bin .Sub (.bin .Sub (.idx (.var 0 (nat_lit 59055815696)) (.var 6 (nat_lit 59055817747)) (nat_lit 59055815700)) (.var 4 (nat_lit 59055823901)) (nat_lit 59055815709)) (.ite (.cmp (.var 6 (nat_lit 59055843372)) .lt (.b1 .len (nat_lit 59055848498) (.var 1 (nat_lit 59055852596)) (nat_lit 59055848501)) (nat_lit 59055843381)) (.idx (.var 1 (nat_lit 59055834146)) (.var 6 (nat_lit 59055836197)) (nat_lit 59055834150)) (.cint 0 (nat_lit 59055860796)) (nat_lit 59055834172)) (nat_lit 59055815741)) (nat_lit 59055808573), .asg (.one 4 (nat_lit 60129550350)) (.ite (.cmp (.var 7 (nat_lit 60129564698)) .lt (.cint 0 (nat_lit 60129571870)) (nat_lit 60129564702)) (.cint 1 (nat_lit 60129559570)) (.cint 0 (nat_lit 60129579045)) (nat_lit 60129559589)) (nat_lit 60129550373), .app 3 (nat_lit 61203292173) (.ite (.cmp (.var 7 (nat_lit 61203320872)) .lt (.cint 0 (nat_lit 61203328044)) (nat_lit 61203320876)) (.bin .Add (.var 7 (nat_lit 61203305497)) (.var 5 (nat_lit 61203312672)) (nat_lit 61203305504)) (.var 7 (nat_lit 61203335222)) (nat_lit 61203305526)) (nat_lit 61203292180) (nat_lit 61203292215) (nat_lit 61203292215)] (nat_lit 57985208375), .ret (.call 0 (nat_lit 62277037073) [.var 3 (nat_lit 62277044247)] (nat_lit 62277037080)) (nat_lit 62277029912)]⟩
/- add_at: 0=a 1=b 2=spot 3=w -/
noncomputable def f_add_at : FnDef := ⟨false, 4, 4, [.ite (.cmp (.b1 .len (nat_lit 64424516618) (.var 1 (nat_lit 64424520716)) (nat_lit 64424516621)) .eq (.cint 0 (nat_lit 64424526866)) (nat_lit 64424516626)) [.ret (.cut 0 (nat_lit 65498266640) none none (nat_lit 65498268690) (nat_lit 65498266643)) (nat_lit 65498259475)] [] (nat_lit 64425562131), .ite (.cmp (.var 2 (nat_lit 66572000267)) .ge (.b1 .len (nat_lit 66572008466) (.var 0 (nat_lit 66572012564)) (nat_lit 66572008469)) (nat_lit 66572000277)) [.ret (.bin .Add (.bin .Add (.var 0 (nat_lit 67645750288)) (.bin .Mult (.list [.cint 0 (nat_lit 67645755413)] (nat_lit 67645754390)) (.bin .Sub (.var 2 (nat_lit 67645761566)) (.b1 .len (nat_lit 67645768740) (.var 0 (nat_lit 67645772838)) (nat_lit 67645768743)) (nat_lit 67645761575)) (nat_lit 67645754408)) (nat_lit 67645750312)) (.var 1 (nat_lit 67645778988)) (nat_lit 67645750316)) (nat_lit 67645743148)] [] (nat_lit 66573045804), .ret (.bin .Add (.cut 0 (nat_lit 68719488012) none (some (.var 2 (nat_lit 68719491090))) (nat_lit 68719490066) (nat_lit 68719488019)) (.call 3 (nat_lit 68719499289) [.cut 0 (nat_lit 68719503387) (some (.var 2 (nat_lit 68719505440))) none (nat_lit 68719505441) (nat_lit 68719503394), .var 1 (nat_lit 68719513637), .var 3 (nat_lit 68719516712)] (nat_lit 68719499305)) (nat_lit 68719488041)) (nat_lit 68719480873)]⟩
/- divrem_limb: 0=a 1=limb 2=w 3=found 4=rest 5=at -/
noncomputable def f_divrem_limb : FnDef := ⟨false, 3, 6, [.ite (.cmp (.var 1 (nat_lit 70866967563)) .eq (.cint 0 (nat_lit 70866975760)) (nat_lit 70866967568)) [.bad [0, 0, 0]] [] (nat_lit 70868013106), .asgL [(3, (nat_lit 73014448137)), (4, (nat_lit 73014455311))] (nat_lit 73014448143) [.bin .Mult (.list [.cint 0 (nat_lit 73014464533)] (nat_lit 73014463510)) (.b1 .len (nat_lit 73014469660) (.var 0 (nat_lit 73014473758)) (nat_lit 73014469663)) (nat_lit 73014463519), .cint 0 (nat_lit 73014477858)] (nat_lit 73014462499) (nat_lit 73014448163), .for_ (.one 5 (nat_lit 74088194058)) (.range (nat_lit 74088200211) [.bin .Sub (.b1 .len (nat_lit 74088206359) (.var 0 (nat_lit 74088210457)) (nat_lit 74088206362)) (.cint 1 (nat_lit 74088215582)) (nat_lit 74088206366), .neg (.cint 1 (nat_lit 74088219682)) (nat_lit 74088218658), .neg (.cint 1 (nat_lit 74088223782)) (nat_lit 74088222758)] (nat_lit 74088200231)) [.asg (.one 4 (nat_lit 75161935884)) (.bin .BitOr (.bin .LShift (.var 4 (nat_lit 75161943059)) (.var 2 (nat_lit 75161951256)) (nat_lit 75161943064)) (.idx (.var 0 (nat_lit 75161955356)) (.var 5 (nat_lit 75161957407)) (nat_lit 75161955360)) (nat_lit 75161943072)) (nat_lit 75161935904), .setI 3 (nat_lit 76235677709) (.var 5 (nat_lit 76235683856)) (.bin .FloorDiv (.var 4 (nat_lit 76235690008)) (.var 1 (nat_lit 76235698208)) (nat_lit 76235690016)) (nat_lit 76235677713) (nat_lit 76235677728), .aug 4 (nat_lit 77309419532) .Mod (.var 1 (nat_lit 77309427732)) (nat_lit 77309419540)] (nat_lit 74091335700), .ret (.tup [.call 0 (nat_lit 78383165458) [.var 3 (nat_lit 78383172632)] (nat_lit 78383165465), .var 4 (nat_lit 78383180831)] (nat_lit 78383164448)) (nat_lit 78383157280)]⟩
/- shift_left: 0=a 1=n 2=w 3=spots 4=few 5=found 6=carry 7=mask 8=one -/
noncomputable def f_shift_left : FnDef := ⟨false, 3, 9, [.ite (.cmp (.b1 .len (nat_lit 80530643978) (.var 0 (nat_lit 80530648076)) (nat_lit 80530643981)) .eq (.cint 0 (nat_lit 80530654226)) (nat_lit 80530643986)) [.ret (.list [] (nat_lit 81604394001)) (nat_lit 81604386833)] [] (nat_lit 80531689489), .asgL [(3, (nat_lit 82678124553)), (4, (nat_lit 82678131726))] (nat_lit 82678124558) [.bin .FloorDiv (.var 1 (nat_lit 82678138899)) (.var 2 (nat_lit 82678144024)) (nat_lit 82678138904), .bin .Mod (.var 1 (nat_lit 82678147099)) (.var 2 (nat_lit 82678151199)) (nat_lit 82678147103)] (nat_lit 82678137888) (nat_lit 82678124576), .asgL [(5, (nat_lit 83751866377)), (6, (nat_lit 83751873552)), (7, (nat_lit 83751880726))] (nat_lit 83751866390) [.bin .Mult (.list [.cint 0 (nat_lit 83751889948)] (nat_lit 83751888925)) (.var 3 (nat_lit 83751895077)) (nat_lit 83751888933), .cint 0 (nat_lit 83751902248), .bin .Sub (.bin .LShift (.cint 1 (nat_lit 83751906348)) (.var 2 (nat_lit 83751911473)) (nat_lit 83751906353)) (.cint 1 (nat_lit 83751916598)) (nat_lit 83751905334)] (nat_lit 83751887927) (nat_lit 83751866423), .for_ (.one 8 (nat_lit 84825612299)) (.seq (.var 0 (nat_lit 84825619472))) [.aug 6 (nat_lit 85899354125) .BitOr (.bin .LShift (.var 8 (nat_lit 85899363348)) (.var 4 (nat_lit 85899370523)) (nat_lit 85899363355)) (nat_lit 85899354139), .app 5 (nat_lit 86973095949) (.bin .BitAnd (.var 6 (nat_lit 86973109274)) (.var 7 (nat_lit 86973117473)) (nat_lit 86973109281)) (nat_lit 86973095956) (nat_lit 86973095970) (nat_lit 86973095970), .aug 6 (nat_lit 88046837773) .RShift (.var 2 (nat_lit 88046848019)) (nat_lit 88046837779)] (nat_lit 84828753939), .ite (.cmp (.var 6 (nat_lit 89120578572)) .gt (.cint 0 (nat_lit 89120586768)) (nat_lit 89120578576)) [.app 5 (nat_lit 90194321421) (.var 6 (nat_lit 90194334746)) (nat_lit 90194321428) (nat_lit 90194321435) (nat_lit 90194321435)] [] (nat_lit 89121624091), .ret (.var 5 (nat_lit 91268066320)) (nat_lit 91268059152)]⟩
/- shift_right: 0=a 1=n 2=w 3=spots 4=few 5=found 6=mask 7=at 8=above -/
noncomputable def f_shift_right : FnDef := ⟨false, 3, 9, [.asgL [(3, (nat_lit 93415542793)), (4, (nat_lit 93415549966))] (nat_lit 93415542798) [.bin .FloorDiv (.var 1 (nat_lit 93415557139)) (.var 2 (nat_lit 93415562264)) (nat_lit 93415557144), .bin .Mod (.var 1 (nat_lit 93415565339)) (.var 2 (nat_lit 93415569439)) (nat_lit 93415565343)] (nat_lit 93415556128) (nat_lit 93415542816), .asgL [(5, (nat_lit 94489284617)), (6, (nat_lit 94489291791))] (nat_lit 94489284623) [.list [] (nat_lit 94489299989), .bin .Sub (.bin .LShift (.cint 1 (nat_lit 94489305113)) (.var 2 (nat_lit 94489310238)) (nat_lit 94489305118)) (.cint 1 (nat_lit 94489315363)) (nat_lit 94489304099)] (nat_lit 94489298980) (nat_lit 94489284644), .for_ (.one 7 (nat_lit 95563030538)) (.range (nat_lit 95563036691) [.var 3 (nat_lit 95563042841), .b1 .len (nat_lit 95563050014) (.var 0 (nat_lit 95563054112)) (nat_lit 95563050017)] (nat_lit 95563036706)) [.asg (.one 8 (nat_lit 96636772365)) (.ite (.cmp (.bin .Add (.var 7 (nat_lit 96636793887)) (.cint 1 (nat_lit 96636799011)) (nat_lit 96636793891)) .lt (.b1 .len (nat_lit 96636803113) (.var 0 (nat_lit 96636807211)) (nat_lit 96636803116)) (nat_lit 96636793900)) (.idx (.var 0 (nat_lit 96636780561)) (.bin .Add (.var 7 (nat_lit 96636782612)) (.cint 1 (nat_lit 96636787736)) (nat_lit 96636782616)) (nat_lit 96636780569)) (.cint 0 (nat_lit 96636815411)) (nat_lit 96636780595)) (nat_lit 96636772403), .app 5 (nat_lit 97710514189) (.bin .BitAnd (.bin .BitOr (.bin .RShift (.idx (.var 0 (nat_lit 97710528535)) (.var 7 (nat_lit 97710530586)) (nat_lit 97710528539)) (.var 4 (nat_lit 97710537762)) (nat_lit 97710528546)) (.bin .LShift (.var 8 (nat_lit 97710543914)) (.bin .Sub (.var 2 (nat_lit 97710553135)) (.var 4 (nat_lit 97710557237)) (nat_lit 97710553141)) (nat_lit 97710543925)) (nat_lit 97710528565)) (.var 6 (nat_lit 97710564413)) (nat_lit 97710527549)) (nat_lit 97710514196) (nat_lit 97710514238) (nat_lit 97710514238)] (nat_lit 95565123646), .ret (.call 0 (nat_lit 98784259089) [.var 5 (nat_lit 98784266263)] (nat_lit 98784259096)) (nat_lit 98784251928)]⟩
/- bits: 0=a 1=w -/
noncomputable def f_bits : FnDef := ⟨false, 2, 2, [.ret (.ite (.cmp (.b1 .len (nat_lit 100931784759) (.var 0 (nat_lit 100931788857)) (nat_lit 100931784762)) .gt (.cint 0 (nat_lit 100931793982)) (nat_lit 100931784766)) (.bin .Add (.bin .Mult (.bin .Sub (.b1 .len (nat_lit 100931743759) (.var 0 (nat_lit 100931747857)) (nat_lit 100931743762)) (.cint 1 (nat_lit 100931752982)) (nat_lit 100931743766)) (.var 1 (nat_lit 100931758107)) (nat_lit 100931742747)) (.bitlen (.idx (.var 0 (nat_lit 100931762207)) (.neg (.cint 1 (nat_lit 100931765282)) (nat_lit 100931764258)) (nat_lit 100931762211)) (nat_lit 100931762222) (nat_lit 100931762224)) (nat_lit 100931742768)) (.cint 0 (nat_lit 100931801157)) (nat_lit 100931742789)) (nat_lit 100931735621)]⟩
/- split: 0=a 1=spot -/
noncomputable def f_split : FnDef := ⟨false, 2, 2, [.ret (.tup [.call 0 (nat_lit 108447936530) [.cut 0 (nat_lit 108447943700) none (some (.var 1 (nat_lit 108447946778))) (nat_lit 108447945754) (nat_lit 108447943707)] (nat_lit 108447936540), .cut 0 (nat_lit 108447954975) (some (.var 1 (nat_lit 108447957028))) none (nat_lit 108447957029) (nat_lit 108447954982)] (nat_lit 108447935527)) (nat_lit 108447928359)]⟩
/- piece: 0=a 1=begin 2=end -/
noncomputable def f_piece : FnDef := ⟨false, 3, 3, [.ret (.call 0 (nat_lit 110595419153) [.cut 0 (nat_lit 110595426323) (some (.var 1 (nat_lit 110595428377))) (some (.var 2 (nat_lit 110595434525))) (nat_lit 110595428381) (nat_lit 110595426334)] (nat_lit 110595419167)) (nat_lit 110595411999)]⟩
/- common: 0=a 1=b 2=w 3=divrem -/
noncomputable def f_common : FnDef := ⟨false, 4, 4, [.whl (.cmp (.b1 .len (nat_lit 114890385421) (.var 1 (nat_lit 114890389519)) (nat_lit 114890385424)) .gt (.cint 0 (nat_lit 114890394644)) (nat_lit 114890385428)) [.asgL [(0, (nat_lit 115964125193)), (1, (nat_lit 115964128268))] (nat_lit 115964125196) [.var 1 (nat_lit 115964133393), .idx (.callv 3 (nat_lit 115964136473) [.var 0 (nat_lit 115964143643), .var 1 (nat_lit 115964146718), .var 2 (nat_lit 115964149793)] (nat_lit 115964136482)) (.cint 1 (nat_lit 115964152868)) (nat_lit 115964136485)] (nat_lit 115964132390) (nat_lit 115964125222)] (nat_lit 114891427878), .ret (.call 0 (nat_lit 117037870097) [.var 0 (nat_lit 117037877267)] (nat_lit 117037870100)) (nat_lit 117037862932)]⟩
/- signed_of: 0=nat -/
noncomputable def f_signed_of : FnDef := ⟨false, 1, 1, [.ret (.tup [.cbool false (nat_lit 119185354769), .var 0 (nat_lit 119185361942)] (nat_lit 119185353751)) (nat_lit 119185346583)]⟩
/- r_make: 0=top 1=bottom 2=w 3=divrem 4=told -/
noncomputable def f_r_make : FnDef := ⟨false, 4, 5, [.ite (.cmp (.b1 .len (nat_lit 121332833290) (.idx (.var 1 (nat_lit 121332837393)) (.cint 1 (nat_lit 121332844563)) (nat_lit 121332837396)) (nat_lit 121332833301)) .eq (.cint 0 (nat_lit 121332851738)) (nat_lit 121332833306)) [.bad [0, 0, 0]] [] (nat_lit 121333878834), .ite (.cmp (.b1 .len (nat_lit 123480316938) (.idx (.var 0 (nat_lit 123480321038)) (.cint 1 (nat_lit 123480325136)) (nat_lit 123480321041)) (nat_lit 123480316946)) .eq (.cint 0 (nat_lit 123480332311)) (nat_lit 123480316951)) [.ret (.tup [.tup [.cbool false (nat_lit 124554069014), .list [] (nat_lit 124554076186)] (nat_lit 124554067995), .list [.cint 1 (nat_lit 124554082335)] (nat_lit 124554081312)] (nat_lit 124554066977)) (nat_lit 124554059809)] [] (nat_lit 123481362465), .asg (.one 4 (nat_lit 125627797512)) (.call 12 (nat_lit 125627804689) [.idx (.var 0 (nat_lit 125627811861)) (.cint 1 (nat_lit 125627815959)) (nat_lit 125627811864), .idx (.var 1 (nat_lit 125627820064)) (.cint 1 (nat_lit 125627827234)) (nat_lit 125627820067), .var 2 (nat_lit 125627831334), .var 3 (nat_lit 125627834414)] (nat_lit 125627804719)) (nat_lit 125627797551), .ret (.tup [.tup [.cmp (.idx (.var 0 (nat_lit 126701548560)) (.cint 0 (nat_lit 126701552658)) (nat_lit 126701548563)) .ne (.idx (.var 1 (nat_lit 126701558813)) (.cint 0 (nat_lit 126701565983)) (nat_lit 126701558816)) (nat_lit 126701548576), .idx (.callv 3 (nat_lit 126701570088) [.idx (.var 0 (nat_lit 126701577260)) (.cint 1 (nat_lit 126701581358)) (nat_lit 126701577263), .var 4 (nat_lit 126701585461), .var 2 (nat_lit 126701591608)] (nat_lit 126701570105)) (.cint 0 (nat_lit 126701594683)) (nat_lit 126701570108)] (nat_lit 126701547581), .idx (.callv 3 (nat_lit 126701599813) [.idx (.var 1 (nat_lit 126701606988)) (.cint 1 (nat_lit 126701614158)) (nat_lit 126701606991), .var 4 (nat_lit 126701618261), .var 2 (nat_lit 126701624408)] (nat_lit 126701599833)) (.cint 0 (nat_lit 126701627483)) (nat_lit 126701599836)] (nat_lit 126701546589)) (nat_lit 126701539421)]⟩
/- plain_of: 0=a 1=w 2=found 3=limb -/
noncomputable def f_plain_of : FnDef := ⟨false, 2, 4, [.asg (.one 2 (nat_lit 128849022985)) (.cint 0 (nat_lit 128849031181)) (nat_lit 128849022989), .for_ (.one 3 (nat_lit 129922768908)) (.rever (nat_lit 129922777112) (.var 0 (nat_lit 129922786330)) (nat_lit 129922777115)) [.asg (.one 2 (nat_lit 130996510733)) (.bin .Add (.bin .LShift (.var 2 (nat_lit 130996519958)) (.var 1 (nat_lit 130996529179)) (nat_lit 130996519963)) (.var 3 (nat_lit 130996534307)) (nat_lit 130996518947)) (nat_lit 130996510755)] (nat_lit 129923813411), .ret (.var 2 (nat_lit 132070255632)) (nat_lit 132070248464)]⟩
/- need_base: 0=base -/
noncomputable def f_need_base : FnDef := ⟨false, 1, 1, [.ite (.not (.cmp2 (.cint 2 (nat_lit 134217739276)) .le (.var 0 (nat_lit 134217744404)) .le (.b1 .len (nat_lit 134217752603) (.glob 0 (nat_lit 134217756705)) (nat_lit 134217752610)) (nat_lit 134217739298)) (nat_lit 134217735202)) [.raise (nat_lit 135291484184) "a base from 2 to 36 is wanted" (nat_lit 135291495480) (nat_lit 135291484217) (nat_lit 135291478073)] [] (nat_lit 134218780729)]⟩
/- nat_text: 0=a 1=base 2=w 3=divrem 4=found 5=told 6=rest -/
noncomputable def f_nat_text : FnDef := ⟨false, 4, 7, [.expr (.call 16 (nat_lit 137438957581) [.var 1 (nat_lit 137438967826)] (nat_lit 137438957587)) (nat_lit 137438957587), .asgL [(4, (nat_lit 138512699401)), (5, (nat_lit 138512706575))] (nat_lit 138512699407) [.list [] (nat_lit 138512714773), .call 1 (nat_lit 138512718877) [.var 1 (nat_lit 138512726050), .var 2 (nat_lit 138512732197)] (nat_lit 138512718886)] (nat_lit 138512713767) (nat_lit 138512699431), .whl (.cmp (.b1 .len (nat_lit 139586447373) (.var 0 (nat_lit 139586451471)) (nat_lit 139586447376)) .gt (.cint 0 (nat_lit 139586456596)) (nat_lit 139586447380)) [.asg (.many [(0, (nat_lit 140660187145)), (6, (nat_lit 140660190223))] (nat_lit 140660187151)) (.callv 3 (nat_lit 140660197400) [.var 0 (nat_lit 140660204570), .var 5 (nat_lit 140660207648), .var 2 (nat_lit 140660213795)] (nat_lit 140660197412)) (nat_lit 140660187172), .app 4 (nat_lit 141733928973) (.idx (.glob 0 (nat_lit 141733942298)) (.call 15 (nat_lit 141733948451) [.var 6 (nat_lit 141733957672), .var 2 (nat_lit 141733963819)] (nat_lit 141733948460)) (nat_lit 141733942317)) (nat_lit 141733928980) (nat_lit 141733929006) (nat_lit 141733929006)] (nat_lit 139588538414), .ret (.ite (.cmp (.b1 .len (nat_lit 142807702570) (.var 4 (nat_lit 142807706672)) (nat_lit 142807702577)) .gt (.cint 0 (nat_lit 142807715893)) (nat_lit 142807702581)) (.joinr (nat_lit 142807673869) (nat_lit 142807673874) (nat_lit 142807682075) (.var 4 (nat_lit 142807691297)) (nat_lit 142807682082) (nat_lit 142807673891)) (.cstr [48] (nat_lit 142807723070)) (nat_lit 142807673918)) (nat_lit 142807666750)]⟩
/- r_text: 0=x 1=base 2=w 3=divrem 4=found -/
noncomputable def f_r_text : FnDef := ⟨false, 4, 5, [.asg (.one 4 (nat_lit 144955150345)) (.bin .Add (.ite (.idx (.idx (.var 0 (nat_lit 144955166741)) (.cint 0 (nat_lit 144955168791)) (nat_lit 144955166744)) (.cint 0 (nat_lit 144955171866)) (nat_lit 144955166747)) (.cstr [45] (nat_lit 144955159568)) (.cstr [] (nat_lit 144955180067)) (nat_lit 144955159587)) (.call 17 (nat_lit 144955186223) [.idx (.idx (.var 0 (nat_lit 144955195441)) (.cint 0 (nat_lit 144955197491)) (nat_lit 144955195444)) (.cint 1 (nat_lit 144955200566)) (nat_lit 144955195447), .var 1 (nat_lit 144955204669), .var 2 (nat_lit 144955210816), .var 3 (nat_lit 144955213896)] (nat_lit 144955186249)) (nat_lit 144955158601)) (nat_lit 144955150409), .ret (.ite (.cmp (.idx (.var 0 (nat_lit 146028908565)) (.cint 1 (nat_lit 146028910615)) (nat_lit 146028908568)) .eq (.list [.cint 1 (nat_lit 146028917790)] (nat_lit 146028916767)) (nat_lit 146028908575)) (.var 4 (nat_lit 146028899344)) (.bin .Add (.bin .Add (.var 4 (nat_lit 146028925994)) (.cstr [47] (nat_lit 146028934192)) (nat_lit 146028926000)) (.call 17 (nat_lit 146028940347) [.idx (.var 0 (nat_lit 146028949565)) (.cint 1 (nat_lit 146028951615)) (nat_lit 146028949568), .var 1 (nat_lit 146028955718), .var 2 (nat_lit 146028961865), .var 3 (nat_lit 146028964945)] (nat_lit 146028940370)) (nat_lit 146028926034)) (nat_lit 146028899410)) (nat_lit 146028892242)]⟩
/- nat_from_text: 0=text 1=spot 2=base 3=w 4=mul 5=found 6=told 7=at 8=sign 9=digit -/
noncomputable def f_nat_from_text : FnDef := ⟨false, 5, 10, [.expr (.call 16 (nat_lit 148176375821) [.var 2 (nat_lit 148176386066)] (nat_lit 148176375827)) (nat_lit 148176375827), .ite (.cmp (.b1 .len (nat_lit 149250120714) (.var 0 (nat_lit 149250124815)) (nat_lit 149250120720)) .eq (.cint 0 (nat_lit 149250134037)) (nat_lit 149250120725)) [.bad [1, 0, 0]] [] (nat_lit 149251166235), .asgL [(5, (nat_lit 151397601289)), (6, (nat_lit 151397608463))] (nat_lit 151397601295) [.list [] (nat_lit 151397616661), .call 1 (nat_lit 151397620765) [.var 2 (nat_lit 151397627938), .var 3 (nat_lit 151397634085)] (nat_lit 151397620774)] (nat_lit 151397615655) (nat_lit 151397601319), .for_ (.many [(7, (nat_lit 152471347210)), (8, (nat_lit 152471351312))] (nat_lit 152471347216)) (.enum (nat_lit 152471359517) (.var 0 (nat_lit 152471369762)) (nat_lit 152471359523)) [.asg (.one 9 (nat_lit 153545089037)) (.find (.glob 0 (nat_lit 153545097237)) (.ite (.cmp (.var 8 (nat_lit 153545116711)) .ge (.cstr [97] (nat_lit 153545124910)) (nat_lit 153545116718)) (.var 8 (nat_lit 153545108511)) (.lower (.var 8 (nat_lit 153545134136)) (nat_lit 153545134142) (nat_lit 153545134144)) (nat_lit 153545108544)) (nat_lit 153545097242) (nat_lit 153545097281)) (nat_lit 153545089089), .ite (.not (.cmp2 (.cint 0 (nat_lit 154618838032)) .le (.var 9 (nat_lit 154618843161)) .lt (.var 2 (nat_lit 154618851360)) (nat_lit 154618838048)) (nat_lit 154618833952)) [.bad [3, 0, 1, 0, 0]] [] (nat_lit 154619879460), .asg (.one 5 (nat_lit 156766314509)) (.call 3 (nat_lit 156766322707) [.callv 4 (nat_lit 156766326807) [.var 5 (nat_lit 156766330909), .var 6 (nat_lit 156766338083), .var 3 (nat_lit 156766344230)] (nat_lit 156766326823), .call 1 (nat_lit 156766348335) [.var 9 (nat_lit 156766355509), .var 3 (nat_lit 156766362680)] (nat_lit 156766348345), .var 3 (nat_lit 156766366780)] (nat_lit 156766322749)) (nat_lit 156766314557)] (nat_lit 152475537469), .ret (.var 5 (nat_lit 157840059408)) (nat_lit 157840052240)]⟩
/- r_from_text: 0=text 1=base 2=w 3=mul 4=divrem 5=begin 6=bar 7=top 8=bottom -/
noncomputable def f_r_from_text : FnDef := ⟨false, 5, 9, [.asg (.one 5 (nat_lit 159987535881)) (.ite (.cmp (.cut 0 (nat_lit 159987549205) none (some (.cint 1 (nat_lit 159987555352))) (nat_lit 159987554328) (nat_lit 159987549209)) .eq (.cstr [45] (nat_lit 159987561504)) (nat_lit 159987549216)) (.cint 1 (nat_lit 159987544077)) (.cint 0 (nat_lit 159987570727)) (nat_lit 159987544103)) (nat_lit 159987535911), .asg (.one 6 (nat_lit 161061277703)) (.find (.var 0 (nat_lit 161061283854)) (.cstr [47] (nat_lit 161061294103)) (nat_lit 161061283859) (nat_lit 161061283864)) (nat_lit 161061277720), .ite (.cmp (.var 6 (nat_lit 162135022602)) .lt (.cint 0 (nat_lit 162135028750)) (nat_lit 162135022606)) [.asg (.one 6 (nat_lit 163208765451)) (.b1 .len (nat_lit 163208771601) (.var 0 (nat_lit 163208775702)) (nat_lit 163208771607)) (nat_lit 163208765463)] [] (nat_lit 162136068119), .asg (.one 7 (nat_lit 164282503175)) (.call 19 (nat_lit 164282509335) [.cut 0 (nat_lit 164282523676) (some (.var 5 (nat_lit 164282528802))) (some (.var 6 (nat_lit 164282534950))) (nat_lit 164282528806) (nat_lit 164282523687), .var 5 (nat_lit 164282541102), .var 1 (nat_lit 164282548276), .var 2 (nat_lit 164282554423), .var 3 (nat_lit 164282557500)] (nat_lit 164282509373)) (nat_lit 164282503229), .asg (.one 8 (nat_lit 165356245002)) (.ite (.cmp (.var 6 (nat_lit 165356261399)) .eq (.b1 .len (nat_lit 165356268574) (.var 0 (nat_lit 165356272675)) (nat_lit 165356268580)) (nat_lit 165356261412)) (.list [.cint 1 (nat_lit 165356255247)] (nat_lit 165356254224)) (.call 19 (nat_lit 165356283959) [.cut 0 (nat_lit 165356298300) (some (.bin .Add (.var 6 (nat_lit 165356303424)) (.cint 1 (nat_lit 165356309572)) (nat_lit 165356303428))) none (nat_lit 165356303429) (nat_lit 165356298310), .bin .Add (.var 6 (nat_lit 165356314699)) (.cint 1 (nat_lit 165356320847)) (nat_lit 165356314703), .var 1 (nat_lit 165356323925), .var 2 (nat_lit 165356330072), .var 3 (nat_lit 165356333149)] (nat_lit 165356283998)) (nat_lit 165356254302)) (nat_lit 165356245086), .ret (.call 14 (nat_lit 166429994001) [.tup [.and (.cmp (.var 5 (nat_lit 166430002200)) .eq (.cint 1 (nat_lit 166430011421)) (nat_lit 166430002205)) [.cmp (.b1 .len (nat_lit 166430017573) (.var 7 (nat_lit 166430021673)) (nat_lit 166430017578)) .gt (.cint 0 (nat_lit 166430028846)) (nat_lit 166430017582)] (nat_lit 166430002222), .var 7 (nat_lit 166430031923)] (nat_lit 166430001204), .call 13 (nat_lit 166430038079) [.var 8 (nat_lit 166430048326)] (nat_lit 166430038087), .var 2 (nat_lit 166430057546), .var 4 (nat_lit 166430060626)] (nat_lit 166429994067)) (nat_lit 166429986899)]⟩
/- difference: 0=a 1=b 2=w -/
noncomputable def f_difference : FnDef := ⟨false, 3, 3, [.ite (.cmp (.call 2 (nat_lit 170724957198) [.var 0 (nat_lit 170724965392), .var 1 (nat_lit 170724968467)] (nat_lit 170724957204)) .lt (.cint 0 (nat_lit 170724973592)) (nat_lit 170724957208)) [.ret (.tup [.cbool true (nat_lit 171798708244), .call 4 (nat_lit 171798714393) [.var 1 (nat_lit 171798718491), .var 0 (nat_lit 171798721566), .var 2 (nat_lit 171798724641)] (nat_lit 171798714402)] (nat_lit 171798707235)) (nat_lit 171798700067)] [] (nat_lit 170726002723), .ret (.tup [.cbool false (nat_lit 172872445969), .call 4 (nat_lit 172872453142) [.var 0 (nat_lit 172872457240), .var 1 (nat_lit 172872460315), .var 2 (nat_lit 172872463390)] (nat_lit 172872453151)] (nat_lit 172872444960)) (nat_lit 172872437792)]⟩
/- put_together_karatsuba: 0=low 1=middle 2=high 3=spot 4=w -/
noncomputable def f_put_together_karatsuba : FnDef := ⟨false, 5, 5, [.ret (.call 5 (nat_lit 175019928593) [.call 5 (nat_lit 175019935768) [.var 0 (nat_lit 175019942940), .var 1 (nat_lit 175019948068), .var 3 (nat_lit 175019956266), .var 4 (nat_lit 175019962413)] (nat_lit 175019935790), .var 2 (nat_lit 175019966516), .bin .Mult (.cint 2 (nat_lit 175019972663)) (.var 3 (nat_lit 175019976766)) (nat_lit 175019972670), .var 4 (nat_lit 175019982913)] (nat_lit 175019928642)) (nat_lit 175019921474)]⟩
/- middle_of: 0=low 1=high 2=is_below 3=apart 4=w 5=both -/
noncomputable def f_middle_of : FnDef := ⟨false, 5, 6, [.asg (.one 5 (nat_lit 178241146888)) (.call 3 (nat_lit 178241154062) [.var 0 (nat_lit 178241158162), .var 1 (nat_lit 178241163288), .var 4 (nat_lit 178241169435)] (nat_lit 178241154076)) (nat_lit 178241146908), .ret (.ite (.var 2 (nat_lit 179314919466)) (.call 3 (nat_lit 179314895886) [.var 5 (nat_lit 179314899987), .var 3 (nat_lit 179314906138), .var 4 (nat_lit 179314913309)] (nat_lit 179314895902)) (.call 4 (nat_lit 179314933811) [.var 5 (nat_lit 179314937912), .var 3 (nat_lit 179314944063), .var 4 (nat_lit 179314951234)] (nat_lit 179314933827)) (nat_lit 179314895939)) (nat_lit 179314888771)]⟩
/- mul_karatsuba: 0=a 1=b 2=w 3=least 4=mul 5=found 6=at 7=spot 8=a_low 9=a_high 10=b_low 11=b_high 12=low 13=high 14=a_below 15=a_apart 16=b_below 17=b_apart 18=apart -/
noncomputable def f_mul_karatsuba : FnDef := ⟨false, 5, 19, [.ite (.cmp (.b1 .len (nat_lit 181462375434) (.var 0 (nat_lit 181462379532)) (nat_lit 181462375437)) .lt (.b1 .len (nat_lit 181462384659) (.var 1 (nat_lit 181462388757)) (nat_lit 181462384662)) (nat_lit 181462375446)) [.asgL [(0, (nat_lit 182536118281)), (1, (nat_lit 182536121356))] (nat_lit 182536118284) [.var 1 (nat_lit 182536126481), .var 0 (nat_lit 182536129556)] (nat_lit 182536125461) (nat_lit 182536118293)] [] (nat_lit 181463420949), .ite (.cmp (.b1 .len (nat_lit 183609859082) (.var 1 (nat_lit 183609863180)) (nat_lit 183609859085)) .lt (.bn .max (nat_lit 183609868307) [.var 3 (nat_lit 183609872409), .glob 1 (nat_lit 183609879585)] (nat_lit 183609868322)) (nat_lit 183609859106)) [.ret (.callv 4 (nat_lit 184683609106) [.var 0 (nat_lit 184683613204), .var 1 (nat_lit 184683616279), .var 2 (nat_lit 184683619354)] (nat_lit 184683609115)) (nat_lit 184683601947)] [] (nat_lit 183610904603), .ite (.cmp (.bin .Mult (.cint 2 (nat_lit 185757342728)) (.b1 .len (nat_lit 185757346830) (.var 1 (nat_lit 185757350928)) (nat_lit 185757346833)) (nat_lit 185757342737)) .le (.b1 .len (nat_lit 185757357080) (.var 0 (nat_lit 185757361178)) (nat_lit 185757357083)) (nat_lit 185757342747)) [.asg (.one 5 (nat_lit 186831085581)) (.list [] (nat_lit 186831093778)) (nat_lit 186831085586), .for_ (.one 6 (nat_lit 187904831502)) (.range (nat_lit 187904837655) [.cint 0 (nat_lit 187904843801), .b1 .len (nat_lit 187904846878) (.var 0 (nat_lit 187904850976)) (nat_lit 187904846881), .b1 .len (nat_lit 187904855078) (.var 1 (nat_lit 187904859176)) (nat_lit 187904855081)] (nat_lit 187904837674)) [.asg (.one 5 (nat_lit 188978573329)) (.call 5 (nat_lit 188978581530) [.var 5 (nat_lit 188978588704), .call 24 (nat_lit 188978595887) [.call 11 (nat_lit 188978610229) [.var 0 (nat_lit 188978616375), .var 6 (nat_lit 188978619451), .bin .Add (.var 6 (nat_lit 188978623551)) (.b1 .len (nat_lit 188978628677) (.var 1 (nat_lit 188978632775)) (nat_lit 188978628680)) (nat_lit 188978623560)] (nat_lit 188978610249), .var 1 (nat_lit 188978637900), .var 2 (nat_lit 188978640975), .var 3 (nat_lit 188978644054), .var 4 (nat_lit 188978651227)] (nat_lit 188978595932), .var 6 (nat_lit 188978657376), .var 2 (nat_lit 188978661475)] (nat_lit 188978581604)) (nat_lit 188978573412)] (nat_lit 187905876068), .ret (.var 5 (nat_lit 190052318228)) (nat_lit 190052311060)] [] (nat_lit 185761533972), .asg (.one 7 (nat_lit 191126048776)) (.bin .FloorDiv (.bin .Add (.b1 .len (nat_lit 191126056975) (.var 0 (nat_lit 191126061073)) (nat_lit 191126056978)) (.cint 1 (nat_lit 191126066198)) (nat_lit 191126056982)) (.cint 2 (nat_lit 191126072348)) (nat_lit 191126055964)) (nat_lit 191126048796), .asg (.many [(8, (nat_lit 192199790601)), (9, (nat_lit 192199797777))] (nat_lit 192199790609)) (.call 10 (nat_lit 192199807001) [.var 0 (nat_lit 192199813147), .var 7 (nat_lit 192199816225)] (nat_lit 192199807010)) (nat_lit 192199790626), .asg (.many [(10, (nat_lit 193273532425)), (11, (nat_lit 193273539601))] (nat_lit 193273532433)) (.call 10 (nat_lit 193273548825) [.var 1 (nat_lit 193273554971), .var 7 (nat_lit 193273558049)] (nat_lit 193273548834)) (nat_lit 193273532450), .asg (.one 12 (nat_lit 194347274247)) (.call 24 (nat_lit 194347280407) [.var 8 (nat_lit 194347294749), .var 10 (nat_lit 194347301924), .var 2 (nat_lit 194347309095), .var 3 (nat_lit 194347312174), .var 4 (nat_lit 194347319347)] (nat_lit 194347280436)) (nat_lit 194347274292), .asg (.one 13 (nat_lit 195421016072)) (.call 24 (nat_lit 195421023256) [.var 9 (nat_lit 195421037599), .var 11 (nat_lit 195421045799), .var 2 (nat_lit 195421053994), .var 3 (nat_lit 195421057073), .var 4 (nat_lit 195421064246)] (nat_lit 195421023287)) (nat_lit 195421016119), .asg (.many [(14, (nat_lit 196494757899)), (15, (nat_lit 196494767124))] (nat_lit 196494757908)) (.call 21 (nat_lit 196494777377) [.var 8 (nat_lit 196494788647), .var 9 (nat_lit 196494795823), .var 2 (nat_lit 196494804018)] (nat_lit 196494777395)) (nat_lit 196494757939), .asg (.many [(16, (nat_lit 197568499723)), (17, (nat_lit 197568508948))] (nat_lit 197568499732)) (.call 21 (nat_lit 197568519201) [.var 10 (nat_lit 197568530471), .var 11 (nat_lit 197568537647), .var 2 (nat_lit 197568545842)] (nat_lit 197568519219)) (nat_lit 197568499763), .asg (.one 18 (nat_lit 198642241545)) (.call 24 (nat_lit 198642249753) [.var 15 (nat_lit 198642264097), .var 17 (nat_lit 198642273322), .var 2 (nat_lit 198642282541), .var 3 (nat_lit 198642285620), .var 4 (nat_lit 198642292793)] (nat_lit 198642249786)) (nat_lit 198642241594), .ret (.call 22 (nat_lit 199715990561) [.var 12 (nat_lit 199716014117), .call 23 (nat_lit 199716019248) [.var 12 (nat_lit 199716029492), .var 13 (nat_lit 199716034618), .cmp (.var 14 (nat_lit 199716040771)) .ne (.var 16 (nat_lit 199716052046)) (nat_lit 199716040782), .var 18 (nat_lit 199716061269), .var 2 (nat_lit 199716068440)] (nat_lit 199716019289), .var 13 (nat_lit 199716072543), .var 7 (nat_lit 199716078693), .var 2 (nat_lit 199716084840)] (nat_lit 199715990633)) (nat_lit 199715983465)]⟩
/- mul_school: 0=a 1=b 2=w 3=found 4=mask 5=at 6=limb 7=carry 8=spot 9=other -/
noncomputable def f_mul_school : FnDef := ⟨false, 3, 10, [.asgL [(3, (nat_lit 287762812937)), (4, (nat_lit 287762820111))] (nat_lit 287762812943) [.bin .Mult (.list [.cint 0 (nat_lit 287762829333)] (nat_lit 287762828310)) (.bin .Add (.b1 .len (nat_lit 287762835485) (.var 0 (nat_lit 287762839583)) (nat_lit 287762835488)) (.b1 .len (nat_lit 287762844710) (.var 1 (nat_lit 287762848808)) (nat_lit 287762844713)) (nat_lit 287762835497)) (nat_lit 287762828330), .bin .Sub (.bin .LShift (.cint 1 (nat_lit 287762854958)) (.var 2 (nat_lit 287762860083)) (nat_lit 287762854963)) (.cint 1 (nat_lit 287762865208)) (nat_lit 287762853944)] (nat_lit 287762827321) (nat_lit 287762812985), .for_ (.many [(5, (nat_lit 288836558858)), (6, (nat_lit 288836562960))] (nat_lit 288836558864)) (.enum (nat_lit 288836571165) (.var 0 (nat_lit 288836581407)) (nat_lit 288836571168)) [.asg (.one 7 (nat_lit 289910300685)) (.cint 0 (nat_lit 289910308881)) (nat_lit 289910300689), .for_ (.many [(8, (nat_lit 290984046608)), (9, (nat_lit 290984052759))] (nat_lit 290984046615)) (.enum (nat_lit 290984061988) (.var 1 (nat_lit 290984072230)) (nat_lit 290984061991)) [.aug 7 (nat_lit 292057788433) .Add (.bin .Add (.idx (.var 3 (nat_lit 292057797658)) (.bin .Add (.var 5 (nat_lit 292057803805)) (.var 8 (nat_lit 292057808932)) (nat_lit 292057803812)) (nat_lit 292057797669)) (.bin .Mult (.var 6 (nat_lit 292057817132)) (.var 9 (nat_lit 292057824308)) (nat_lit 292057817140)) (nat_lit 292057797684)) (nat_lit 292057788468), .setI 3 (nat_lit 293131530257) (.bin .Add (.var 5 (nat_lit 293131536404)) (.var 8 (nat_lit 293131541531)) (nat_lit 293131536411)) (.bin .BitAnd (.var 7 (nat_lit 293131549732)) (.var 4 (nat_lit 293131557931)) (nat_lit 293131549739)) (nat_lit 293131530268) (nat_lit 293131530283), .aug 7 (nat_lit 294205272081) .RShift (.var 2 (nat_lit 294205282327)) (nat_lit 294205272087)] (nat_lit 290987188247), .setI 3 (nat_lit 295279009805) (.bin .Add (.var 5 (nat_lit 295279015952)) (.b1 .len (nat_lit 295279021078) (.var 1 (nat_lit 295279025176)) (nat_lit 295279021081)) (nat_lit 295279015961)) (.var 7 (nat_lit 295279031330)) (nat_lit 295279009818) (nat_lit 295279009826)] (nat_lit 288842846242), .ret (.call 0 (nat_lit 296352754705) [.var 3 (nat_lit 296352761879)] (nat_lit 296352754712)) (nat_lit 296352747544)]⟩
/- divrem_small: 0=a 1=b 2=w 3=quotient 4=rest -/
noncomputable def f_divrem_small : FnDef := ⟨false, 3, 5, [.asg (.many [(3, (nat_lit 298500231180)), (4, (nat_lit 298500241426))] (nat_lit 298500231186)) (.call 6 (nat_lit 298500248608) [.var 0 (nat_lit 298500260898), .idx (.var 1 (nat_lit 298500263973)) (.cint 0 (nat_lit 298500266023)) (nat_lit 298500263976), .var 2 (nat_lit 298500270123)] (nat_lit 298500248620)) (nat_lit 298500231212), .ret (.tup [.var 3 (nat_lit 299573981204), .ite (.cmp (.var 4 (nat_lit 299574001700)) .gt (.cint 0 (nat_lit 299574008872)) (nat_lit 299574001704)) (.list [.var 4 (nat_lit 299573992475)] (nat_lit 299573991452)) (.list [] (nat_lit 299574016048)) (nat_lit 299573991472)] (nat_lit 299573980209)) (nat_lit 299573973041)]⟩
/- guessed_limb: 0=top 1=first 2=second 3=w 4=high 5=base 6=limb 7=rest -/
noncomputable def f_guessed_limb : FnDef := ⟨false, 4, 8, [.asgL [(4, (nat_lit 301721456648)), (5, (nat_lit 301721462798))] (nat_lit 301721456654) [.bin .BitOr (.bin .LShift (.idx (.var 0 (nat_lit 301721470997)) (.cint 2 (nat_lit 301721475095)) (nat_lit 301721471000)) (.var 3 (nat_lit 301721481245)) (nat_lit 301721471005)) (.idx (.var 0 (nat_lit 301721485347)) (.cint 1 (nat_lit 301721489445)) (nat_lit 301721485350)) (nat_lit 301721471014), .bin .LShift (.cint 1 (nat_lit 301721493545)) (.var 3 (nat_lit 301721498670)) (nat_lit 301721493550)] (nat_lit 301721469999) (nat_lit 301721456687), .asg (.one 6 (nat_lit 302795198472)) (.bn .min (nat_lit 302795205646) [.bin .FloorDiv (.var 4 (nat_lit 302795209747)) (.var 1 (nat_lit 302795217948)) (nat_lit 302795209756), .bin .Sub (.var 5 (nat_lit 302795225122)) (.cint 1 (nat_lit 302795232294)) (nat_lit 302795225126)] (nat_lit 302795205671)) (nat_lit 302795198503), .asg (.one 7 (nat_lit 303868940296)) (.bin .Sub (.var 4 (nat_lit 303868947471)) (.bin .Mult (.var 6 (nat_lit 303868954646)) (.var 1 (nat_lit 303868961822)) (nat_lit 303868954654)) (nat_lit 303868947486)) (nat_lit 303868940318), .whl (.and (.cmp (.var 7 (nat_lit 304942688270)) .lt (.var 5 (nat_lit 304942695445)) (nat_lit 304942688277)) [.cmp (.bin .Mult (.var 6 (nat_lit 304942704670)) (.var 2 (nat_lit 304942711847)) (nat_lit 304942704679)) .gt (.bin .BitOr (.bin .LShift (.var 7 (nat_lit 304942721070)) (.var 3 (nat_lit 304942729267)) (nat_lit 304942721075)) (.idx (.var 0 (nat_lit 304942733369)) (.cint 0 (nat_lit 304942737467)) (nat_lit 304942733372)) (nat_lit 304942721084)) (nat_lit 304942704700)] (nat_lit 304942688316)) [.aug 6 (nat_lit 306016428044) .Sub (.cint 1 (nat_lit 306016436241)) (nat_lit 306016428049), .aug 7 (nat_lit 307090169868) .Add (.var 1 (nat_lit 307090178069)) (nat_lit 307090169877)] (nat_lit 304944779285), .ret (.var 6 (nat_lit 308163914767)) (nat_lit 308163907599)]⟩
/- take_away: 0=rest 1=b 2=limb 3=at 4=w 5=carry 6=base 7=spot 8=other 9=here -/
noncomputable def f_take_away : FnDef := ⟨true, 5, 10, [.asgL [(5, (nat_lit 310311391241)), (6, (nat_lit 310311398415))] (nat_lit 310311391247) [.cint 0 (nat_lit 310311406612), .bin .LShift (.cint 1 (nat_lit 310311409687)) (.var 4 (nat_lit 310311414812)) (nat_lit 310311409692)] (nat_lit 310311405597) (nat_lit 310311391261), .for_ (.many [(7, (nat_lit 311385137164)), (8, (nat_lit 311385143315))] (nat_lit 311385137171)) (.enum (nat_lit 311385152544) (.var 1 (nat_lit 311385162786)) (nat_lit 311385152547)) [.asg (.one 9 (nat_lit 312458878988)) (.bin .Sub (.idx (.var 0 (nat_lit 312458886163)) (.bin .Add (.var 3 (nat_lit 312458891286)) (.var 7 (nat_lit 312458896413)) (nat_lit 312458891293)) (nat_lit 312458886174)) (.bin .Mod (.bin .Add (.bin .Mult (.var 2 (nat_lit 312458905638)) (.var 8 (nat_lit 312458912814)) (nat_lit 312458905646)) (.var 5 (nat_lit 312458921014)) (nat_lit 312458905654)) (.var 6 (nat_lit 312458930238)) (nat_lit 312458904638)) (nat_lit 312458886206)) (nat_lit 312458879038), .asg (.one 5 (nat_lit 313532620813)) (.bin .Add (.bin .FloorDiv (.bin .Add (.bin .Mult (.var 2 (nat_lit 313532630037)) (.var 8 (nat_lit 313532637213)) (nat_lit 313532630045)) (.var 5 (nat_lit 313532645413)) (nat_lit 313532630053)) (.var 6 (nat_lit 313532655662)) (nat_lit 313532629038)) (.ite (.cmp (.var 9 (nat_lit 313532668987)) .lt (.cint 0 (nat_lit 313532676159)) (nat_lit 313532668991)) (.cint 1 (nat_lit 313532663859)) (.cint 0 (nat_lit 313532683334)) (nat_lit 313532663878)) (nat_lit 313532629063)) (nat_lit 313532620871), .setI 0 (nat_lit 314606362636) (.bin .Add (.var 3 (nat_lit 314606367759)) (.var 7 (nat_lit 314606372886)) (nat_lit 314606367766)) (.ite (.cmp (.var 9 (nat_lit 314606396461)) .lt (.cint 0 (nat_lit 314606403633)) (nat_lit 314606396465)) (.bin .Add (.var 9 (nat_lit 314606381086)) (.var 6 (nat_lit 314606388261)) (nat_lit 314606381093)) (.var 9 (nat_lit 314606410811)) (nat_lit 314606381115)) (nat_lit 314606362647) (nat_lit 314606362683)] (nat_lit 311388278843), .asg (.one 9 (nat_lit 315680100360)) (.bin .Sub (.idx (.var 0 (nat_lit 315680107535)) (.bin .Add (.var 3 (nat_lit 315680112658)) (.b1 .len (nat_lit 315680117784) (.var 1 (nat_lit 315680121882)) (nat_lit 315680117787)) (nat_lit 315680112667)) (nat_lit 315680107548)) (.var 5 (nat_lit 315680128036)) (nat_lit 315680107556)) (nat_lit 315680100388), .setI 0 (nat_lit 316753842184) (.bin .Add (.var 3 (nat_lit 316753847307)) (.b1 .len (nat_lit 316753852433) (.var 1 (nat_lit 316753856531)) (nat_lit 316753852436)) (nat_lit 316753847316)) (.ite (.cmp (.var 9 (nat_lit 316753878059)) .lt (.cint 0 (nat_lit 316753885231)) (nat_lit 316753878063)) (.bin .Add (.var 9 (nat_lit 316753862684)) (.var 6 (nat_lit 316753869859)) (nat_lit 316753862691)) (.var 9 (nat_lit 316753892409)) (nat_lit 316753862713)) (nat_lit 316753842197) (nat_lit 316753842233), .ret (.ite (.cmp (.var 9 (nat_lit 317827596308)) .lt (.cint 0 (nat_lit 317827603480)) (nat_lit 317827596312)) (.cint 1 (nat_lit 317827591180)) (.cint 0 (nat_lit 317827610655)) (nat_lit 317827591199)) (nat_lit 317827584031)]⟩
/- put_back: 0=rest 1=b 2=at 3=w 4=carry 5=mask 6=spot 7=other -/
noncomputable def f_put_back : FnDef := ⟨true, 4, 8, [.asgL [(4, (nat_lit 319975067657)), (5, (nat_lit 319975074831))] (nat_lit 319975067663) [.cint 0 (nat_lit 319975083028), .bin .Sub (.bin .LShift (.cint 1 (nat_lit 319975087128)) (.var 3 (nat_lit 319975092253)) (nat_lit 319975087133)) (.cint 1 (nat_lit 319975097378)) (nat_lit 319975086114)] (nat_lit 319975082019) (nat_lit 319975067683), .for_ (.many [(6, (nat_lit 321048813580)), (7, (nat_lit 321048819731))] (nat_lit 321048813587)) (.enum (nat_lit 321048828960) (.var 1 (nat_lit 321048839202)) (nat_lit 321048828963)) [.aug 4 (nat_lit 322122555405) .Add (.bin .Add (.idx (.var 0 (nat_lit 322122564629)) (.bin .Add (.var 2 (nat_lit 322122569752)) (.var 6 (nat_lit 322122574879)) (nat_lit 322122569759)) (nat_lit 322122564640)) (.var 7 (nat_lit 322122583080)) (nat_lit 322122564648)) (nat_lit 322122555432), .setI 0 (nat_lit 323196297228) (.bin .Add (.var 2 (nat_lit 323196302351)) (.var 6 (nat_lit 323196307478)) (nat_lit 323196302358)) (.bin .BitAnd (.var 4 (nat_lit 323196315679)) (.var 5 (nat_lit 323196323878)) (nat_lit 323196315686)) (nat_lit 323196297239) (nat_lit 323196297254), .aug 4 (nat_lit 324270039053) .RShift (.var 3 (nat_lit 324270049299)) (nat_lit 324270039059)] (nat_lit 321051955219), .setI 0 (nat_lit 325343776776) (.bin .Add (.var 2 (nat_lit 325343781899)) (.b1 .len (nat_lit 325343787025) (.var 1 (nat_lit 325343791123)) (nat_lit 325343787028)) (nat_lit 325343781908)) (.bin .BitAnd (.bin .Add (.idx (.var 0 (nat_lit 325343797276)) (.bin .Add (.var 2 (nat_lit 325343802399)) (.b1 .len (nat_lit 325343807525) (.var 1 (nat_lit 325343811623)) (nat_lit 325343807528)) (nat_lit 325343802408)) (nat_lit 325343797289)) (.var 4 (nat_lit 325343817777)) (nat_lit 325343797297)) (.var 5 (nat_lit 325343825976)) (nat_lit 325343797304)) (nat_lit 325343776789) (nat_lit 325343776824)]⟩
/- divide_rows: 0=rest 1=b 2=w 3=size 4=quotient 5=at 6=limb -/
noncomputable def f_divide_rows : FnDef := ⟨true, 3, 7, [.asg (.one 3 (nat_lit 327491260424)) (.b1 .len (nat_lit 327491267598) (.var 1 (nat_lit 327491271696)) (nat_lit 327491267601)) (nat_lit 327491260433), .asg (.one 4 (nat_lit 328565002252)) (.bin .Mult (.list [.cint 0 (nat_lit 328565014545)] (nat_lit 328565013522)) (.bin .Sub (.b1 .len (nat_lit 328565020697) (.var 0 (nat_lit 328565024798)) (nat_lit 328565020703)) (.var 3 (nat_lit 328565032998)) (nat_lit 328565020710)) (nat_lit 328565013543)) (nat_lit 328565002279), .for_ (.one 5 (nat_lit 329638748170)) (.range (nat_lit 329638754323) [.bin .Sub (.bin .Sub (.b1 .len (nat_lit 329638760471) (.var 0 (nat_lit 329638764572)) (nat_lit 329638760477)) (.var 3 (nat_lit 329638772772)) (nat_lit 329638760484)) (.cint 1 (nat_lit 329638779944)) (nat_lit 329638760488), .neg (.cint 1 (nat_lit 329638784044)) (nat_lit 329638783020), .neg (.cint 1 (nat_lit 329638788144)) (nat_lit 329638787120)] (nat_lit 329638754353)) [.asg (.one 6 (nat_lit 330712489996)) (.call 27 (nat_lit 330712497179) [.cut 0 (nat_lit 330712510496) (some (.bin .Sub (.bin .Add (.var 5 (nat_lit 330712515619)) (.var 3 (nat_lit 330712520746)) (nat_lit 330712515626)) (.cint 2 (nat_lit 330712527918)) (nat_lit 330712515630))) (some (.bin .Add (.bin .Add (.var 5 (nat_lit 330712529969)) (.var 3 (nat_lit 330712535096)) (nat_lit 330712529976)) (.cint 1 (nat_lit 330712542268)) (nat_lit 330712529980))) (nat_lit 330712515644) (nat_lit 330712510525), .idx (.var 1 (nat_lit 330712546368)) (.bin .Sub (.var 3 (nat_lit 330712548421)) (.cint 1 (nat_lit 330712555593)) (nat_lit 330712548425)) (nat_lit 330712546378), .idx (.var 1 (nat_lit 330712559693)) (.bin .Sub (.var 3 (nat_lit 330712561746)) (.cint 2 (nat_lit 330712568918)) (nat_lit 330712561750)) (nat_lit 330712559703), .var 2 (nat_lit 330712573018)] (nat_lit 330712497243)) (nat_lit 330712490075), .ite (.cmp (.callio 28 (nat_lit 331786234900) 0 (nat_lit 331786245145) [.var 1 (nat_lit 331786251292), .var 6 (nat_lit 331786254370), .var 5 (nat_lit 331786260518), .var 2 (nat_lit 331786264617)] (nat_lit 331786234922)) .eq (.cint 1 (nat_lit 331786270767)) (nat_lit 331786234927)) [.aug 6 (nat_lit 332859977744) .Sub (.cint 1 (nat_lit 332859985941)) (nat_lit 332859977749), .expr (.callio 29 (nat_lit 333933719572) 0 (nat_lit 333933728793) [.var 1 (nat_lit 333933734940), .var 5 (nat_lit 333933738016), .var 2 (nat_lit 333933742115)] (nat_lit 333933719588)) (nat_lit 333933719588)] [] (nat_lit 331788328996), .setI 4 (nat_lit 335007457296) (.var 5 (nat_lit 335007466515)) (.var 6 (nat_lit 335007472667)) (nat_lit 335007457300) (nat_lit 335007457307)] (nat_lit 329643986971), .ret (.var 4 (nat_lit 336081202195)) (nat_lit 336081195027)]⟩
/- divrem_school: 0=a 1=b 2=w 3=shift 4=divisor 5=rest 6=quotient -/
noncomputable def f_divrem_school : FnDef := ⟨false, 3, 7, [.ite (.cmp (.b1 .len (nat_lit 338228681738) (.var 1 (nat_lit 338228685836)) (nat_lit 338228681741)) .eq (.cint 0 (nat_lit 338228691986)) (nat_lit 338228681746)) [.bad [0, 0, 0]] [] (nat_lit 338229727282), .ite (.cmp (.call 2 (nat_lit 340376165390) [.var 0 (nat_lit 340376173584), .var 1 (nat_lit 340376176659)] (nat_lit 340376165396)) .lt (.cint 0 (nat_lit 340376181784)) (nat_lit 340376165400)) [.ret (.tup [.list [] (nat_lit 341449916434), .cut 0 (nat_lit 341449920533) none none (nat_lit 341449922583) (nat_lit 341449920536)] (nat_lit 341449915417)) (nat_lit 341449908249)] [] (nat_lit 340377210905), .ite (.cmp (.b1 .len (nat_lit 342523649034) (.var 1 (nat_lit 342523653132)) (nat_lit 342523649037)) .eq (.cint 1 (nat_lit 342523659282)) (nat_lit 342523649042)) [.ret (.call 26 (nat_lit 343597399067) [.var 0 (nat_lit 343597412381), .var 1 (nat_lit 343597415456), .var 2 (nat_lit 343597418531)] (nat_lit 343597399076)) (nat_lit 343597391908)] [] (nat_lit 342524694564), .asg (.one 3 (nat_lit 344671129609)) (.bin .Sub (.var 2 (nat_lit 344671137805)) (.call 9 (nat_lit 344671141908) [.list [.idx (.var 1 (nat_lit 344671148055)) (.neg (.cint 1 (nat_lit 344671151130)) (nat_lit 344671150106)) (nat_lit 344671148059)] (nat_lit 344671147036), .var 2 (nat_lit 344671156255)] (nat_lit 344671141920)) (nat_lit 344671137824)) (nat_lit 344671129632), .asg (.one 4 (nat_lit 345744871435)) (.call 7 (nat_lit 345744881688) [.var 1 (nat_lit 345744892954), .var 3 (nat_lit 345744896033), .var 2 (nat_lit 345744903204)] (nat_lit 345744881701)) (nat_lit 345744871461), .asg (.one 5 (nat_lit 346818613256)) (.call 7 (nat_lit 346818620437) [.var 0 (nat_lit 346818631703), .var 3 (nat_lit 346818634782), .var 2 (nat_lit 346818641953)] (nat_lit 346818620450)) (nat_lit 346818613282), .asg (.one 5 (nat_lit 347892355080)) (.bin .Add (.var 5 (nat_lit 347892362255)) (.bin .Mult (.list [.cint 0 (nat_lit 347892370452)] (nat_lit 347892369429)) (.bin .Sub (.bin .Add (.b1 .len (nat_lit 347892376604) (.var 0 (nat_lit 347892380702)) (nat_lit 347892376607)) (.cint 1 (nat_lit 347892385827)) (nat_lit 347892376611)) (.b1 .len (nat_lit 347892389929) (.var 5 (nat_lit 347892394030)) (nat_lit 347892389935)) (nat_lit 347892376623)) (nat_lit 347892369456)) (nat_lit 347892362288)) (nat_lit 347892355120), .asg (.one 6 (nat_lit 348966096908)) (.callio 30 (nat_lit 348966108186) 5 (nat_lit 348966120479) [.var 4 (nat_lit 348966126632), .var 2 (nat_lit 348966135851)] (nat_lit 348966108204)) (nat_lit 348966096940), .ret (.tup [.call 0 (nat_lit 350039846930) [.var 6 (nat_lit 350039854107)] (nat_lit 350039846940), .call 8 (nat_lit 350039865385) [.call 0 (nat_lit 350039877680) [.var 5 (nat_lit 350039884853)] (nat_lit 350039877686), .var 3 (nat_lit 350039892029), .var 2 (nat_lit 350039899200)] (nat_lit 350039865409)] (nat_lit 350039845954)) (nat_lit 350039838786)]⟩
/- signed: 0=is_below 1=nat -/
noncomputable def f_signed : FnDef := ⟨false, 2, 2, [.ret (.tup [.and (.var 0 (nat_lit 353261072404)) [.cmp (.b1 .len (nat_lit 353261085724) (.var 1 (nat_lit 353261089824)) (nat_lit 353261085729)) .gt (.cint 0 (nat_lit 353261096997)) (nat_lit 353261085733)] (nat_lit 353261072421), .var 1 (nat_lit 353261100074)] (nat_lit 353261071403)) (nat_lit 353261064235)]⟩
/- s_neg: 0=x -/
noncomputable def f_s_neg : FnDef := ⟨false, 1, 1, [.ret (.call 32 (nat_lit 355408555025) [.not (.idx (.var 0 (nat_lit 355408566295)) (.cint 0 (nat_lit 355408568345)) (nat_lit 355408566298)) (nat_lit 355408562202), .idx (.var 0 (nat_lit 355408572445)) (.cint 1 (nat_lit 355408574495)) (nat_lit 355408572448)] (nat_lit 355408555041)) (nat_lit 355408547873)]⟩
/- s_add: 0=x 1=y 2=w -/
noncomputable def f_s_add : FnDef := ⟨false, 3, 3, [.ite (.cmp (.idx (.var 0 (nat_lit 357556034568)) (.cint 0 (nat_lit 357556036618)) (nat_lit 357556034571)) .eq (.idx (.var 1 (nat_lit 357556042768)) (.cint 0 (nat_lit 357556044818)) (nat_lit 357556042771)) (nat_lit 357556034579)) [.ret (.call 32 (nat_lit 358629784597) [.idx (.var 0 (nat_lit 358629791767)) (.cint 0 (nat_lit 358629793817)) (nat_lit 358629791770), .call 3 (nat_lit 358629797919) [.idx (.var 0 (nat_lit 358629802017)) (.cint 1 (nat_lit 358629804067)) (nat_lit 358629802020), .idx (.var 1 (nat_lit 358629808167)) (.cint 1 (nat_lit 358629810217)) (nat_lit 358629808170), .var 2 (nat_lit 358629814317)] (nat_lit 358629797934)] (nat_lit 358629784623)) (nat_lit 358629777455)] [] (nat_lit 357557080111), .ite (.cmp (.call 2 (nat_lit 359703518222) [.idx (.var 0 (nat_lit 359703526416)) (.cint 1 (nat_lit 359703528466)) (nat_lit 359703526419), .idx (.var 1 (nat_lit 359703532566)) (.cint 1 (nat_lit 359703534616)) (nat_lit 359703532569)] (nat_lit 359703518234)) .lt (.cint 0 (nat_lit 359703540766)) (nat_lit 359703518238)) [.ret (.call 32 (nat_lit 360777268245) [.idx (.var 1 (nat_lit 360777275415)) (.cint 0 (nat_lit 360777277465)) (nat_lit 360777275418), .call 4 (nat_lit 360777281567) [.idx (.var 1 (nat_lit 360777285665)) (.cint 1 (nat_lit 360777287715)) (nat_lit 360777285668), .idx (.var 0 (nat_lit 360777291815)) (.cint 1 (nat_lit 360777293865)) (nat_lit 360777291818), .var 2 (nat_lit 360777297965)] (nat_lit 360777281582)] (nat_lit 360777268271)) (nat_lit 360777261103)] [] (nat_lit 359704563759), .ret (.call 32 (nat_lit 361851005969) [.idx (.var 0 (nat_lit 361851013139)) (.cint 0 (nat_lit 361851015189)) (nat_lit 361851013142), .call 4 (nat_lit 361851019291) [.idx (.var 0 (nat_lit 361851023389)) (.cint 1 (nat_lit 361851025439)) (nat_lit 361851023392), .idx (.var 1 (nat_lit 361851029539)) (.cint 1 (nat_lit 361851031589)) (nat_lit 361851029542), .var 2 (nat_lit 361851035689)] (nat_lit 361851019306)] (nat_lit 361851005995)) (nat_lit 361850998827)]⟩
/- s_sub: 0=x 1=y 2=w -/
noncomputable def f_s_sub : FnDef := ⟨false, 3, 3, [.ret (.call 34 (nat_lit 363998489616) [.var 0 (nat_lit 363998495762), .call 33 (nat_lit 363998498841) [.var 1 (nat_lit 363998504987)] (nat_lit 363998498844), .var 2 (nat_lit 363998509087)] (nat_lit 363998489632)) (nat_lit 363998482464)]⟩
/- s_mul: 0=x 1=y 2=w 3=mul -/
noncomputable def f_s_mul : FnDef := ⟨false, 4, 4, [.ret (.call 32 (nat_lit 366145973265) [.cmp (.idx (.var 0 (nat_lit 366145980435)) (.cint 0 (nat_lit 366145982485)) (nat_lit 366145980438)) .ne (.idx (.var 1 (nat_lit 366145988635)) (.cint 0 (nat_lit 366145990685)) (nat_lit 366145988638)) (nat_lit 366145980446), .callv 3 (nat_lit 366145994787) [.idx (.var 0 (nat_lit 366145998885)) (.cint 1 (nat_lit 366146000935)) (nat_lit 366145998888), .idx (.var 1 (nat_lit 366146005035)) (.cint 1 (nat_lit 366146007085)) (nat_lit 366146005038), .var 2 (nat_lit 366146011185)] (nat_lit 366145994802)] (nat_lit 366145973299)) (nat_lit 366145966131)]⟩
/- pieces: 0=a 1=many 2=size 3=found -/
noncomputable def f_pieces : FnDef := ⟨false, 3, 4, [.asg (.one 3 (nat_lit 369367191561)) (.comp ⟨.function, [(".0", .local), ("at", .local), ("normal", .globalImplicit), ("a", .free), ("size", .free)], false, false, []⟩ ["at"] [0, 2] (.call 0 (nat_lit 369367200787) [.cut 1 (nat_lit 369367207957) (some (.bin .Mult (.var 0 (nat_lit 369367210008)) (.var 2 (nat_lit 369367215135)) (nat_lit 369367210015))) (some (.bin .Mult (.bin .Add (.var 0 (nat_lit 369367221283)) (.cint 1 (nat_lit 369367226407)) (nat_lit 369367221287)) (.var 2 (nat_lit 369367231535)) (nat_lit 369367220271))) (nat_lit 369367210031) (nat_lit 369367207984)] (nat_lit 369367200817)) (.one 0 (nat_lit 369367242808)) (.range (nat_lit 369367248961) [.bin .Sub (.var 1 (nat_lit 369367255110)) (.cint 1 (nat_lit 369367262282)) (nat_lit 369367255114)] (nat_lit 369367248971)) (nat_lit 369367199820)) (nat_lit 369367191628), .ret (.bin .Add (.var 3 (nat_lit 370440940560)) (.list [.call 0 (nat_lit 370440949786) [.cut 0 (nat_lit 370440956956) (some (.bin .Mult (.bin .Sub (.var 1 (nat_lit 370440960034)) (.cint 1 (nat_lit 370440967206)) (nat_lit 370440960038)) (.var 2 (nat_lit 370440972334)) (nat_lit 370440959022))) none (nat_lit 370440959023) (nat_lit 370440956976)] (nat_lit 370440949809)] (nat_lit 370440948786)) (nat_lit 370440940594)) (nat_lit 370440933426)]⟩
/- piece_size: 0=length 1=many -/
noncomputable def f_piece_size : FnDef := ⟨false, 2, 2, [.ret (.bin .FloorDiv (.bin .Sub (.bin .Add (.var 0 (nat_lit 372588425234)) (.var 1 (nat_lit 372588434457)) (nat_lit 372588425241)) (.cint 1 (nat_lit 372588441629)) (nat_lit 372588425245)) (.var 1 (nat_lit 372588447782)) (nat_lit 372588424230)) (nat_lit 372588417062)]⟩
/- scaled: 0=x 1=n 2=w -/
noncomputable def f_scaled : FnDef := ⟨false, 3, 3, [.ret (.tup [.idx (.var 0 (nat_lit 374735908877)) (.cint 0 (nat_lit 374735910927)) (nat_lit 374735908880), .call 7 (nat_lit 374735915036) [.idx (.var 0 (nat_lit 374735926302)) (.cint 1 (nat_lit 374735928352)) (nat_lit 374735926305), .var 1 (nat_lit 374735932452), .var 2 (nat_lit 374735935527)] (nat_lit 374735915048)] (nat_lit 374735907881)) (nat_lit 374735900713)]⟩
/- exact_small: 0=x 1=d 2=w 3=found 4=rest 5=limb 6=whole -/
noncomputable def f_exact_small : FnDef := ⟨false, 3, 7, [.ite (.cmp (.var 1 (nat_lit 376883387400)) .eq (.cint 0 (nat_lit 376883392525)) (nat_lit 376883387405)) [.bad [0, 0, 0]] [] (nat_lit 376884432946), .ite (.cmp (.var 1 (nat_lit 379030871048)) .lt (.cint 0 (nat_lit 379030875148)) (nat_lit 379030871052)) [.bad [1, 0, 0]] [] (nat_lit 379031916594), .asgL [(3, (nat_lit 381178351625)), (4, (nat_lit 381178358799))] (nat_lit 381178351631) [.list [] (nat_lit 381178366997), .cint 0 (nat_lit 381178371096)] (nat_lit 381178365977) (nat_lit 381178351641), .for_ (.one 5 (nat_lit 382252097548)) (.rever (nat_lit 382252105752) (.idx (.var 0 (nat_lit 382252114970)) (.cint 1 (nat_lit 382252117020)) (nat_lit 382252114973)) (nat_lit 382252105758)) [.asg (.one 6 (nat_lit 383325839373)) (.bin .Add (.bin .LShift (.var 4 (nat_lit 383325848597)) (.var 2 (nat_lit 383325856794)) (nat_lit 383325848602)) (.var 5 (nat_lit 383325861922)) (nat_lit 383325847586)) (nat_lit 383325839394), .app 3 (nat_lit 384399581197) (.bin .FloorDiv (.var 6 (nat_lit 384399594522)) (.var 1 (nat_lit 384399603743)) (nat_lit 384399594527)) (nat_lit 384399581204) (nat_lit 384399581216) (nat_lit 384399581216), .asg (.one 4 (nat_lit 385473323020)) (.bin .Mod (.var 6 (nat_lit 385473330196)) (.var 1 (nat_lit 385473338392)) (nat_lit 385473330200)) (nat_lit 385473323032)] (nat_lit 382255239192), .ite (.cmp (.var 4 (nat_lit 386547063819)) .ne (.cint 0 (nat_lit 386547072016)) (nat_lit 386547063824)) [.bad [4, 0, 0]] [] (nat_lit 386548109388), .ret (.tup [.idx (.var 0 (nat_lit 388694552589)) (.cint 0 (nat_lit 388694554639)) (nat_lit 388694552592), .call 0 (nat_lit 388694558744) [.rev 3 (nat_lit 388694565918) (nat_lit 388694575139) (nat_lit 388694574115) (nat_lit 388694572067) (nat_lit 388694565924)] (nat_lit 388694558757)] (nat_lit 388694551590)) (nat_lit 388694544422)]⟩
/- both_values: 0=parts 1=power 2=w 3=even 4=odd 5=at 6=part 7=term -/
noncomputable def f_both_values : FnDef := ⟨false, 3, 8, [.asgL [(3, (nat_lit 390842028040)), (4, (nat_lit 390842034189))] (nat_lit 390842028045) [.list [] (nat_lit 390842041363), .list [] (nat_lit 390842045463)] (nat_lit 390842040344) (nat_lit 390842028056), .for_ (.many [(5, (nat_lit 391915773962)), (6, (nat_lit 391915778064))] (nat_lit 391915773968)) (.enum (nat_lit 391915786269) (.var 0 (nat_lit 391915796515)) (nat_lit 391915786276)) [.asg (.one 7 (nat_lit 392989515788)) (.call 7 (nat_lit 392989522969) [.var 6 (nat_lit 392989534238), .bin .Mult (.var 1 (nat_lit 392989540389)) (.var 5 (nat_lit 392989548586)) (nat_lit 392989540394), .var 2 (nat_lit 392989552685)] (nat_lit 392989522990)) (nat_lit 392989515822), .ite (.cmp (.bin .Mod (.var 5 (nat_lit 394063260685)) (.cint 2 (nat_lit 394063265809)) (nat_lit 394063260689)) .eq (.cint 0 (nat_lit 394063270934)) (nat_lit 394063260694)) [.asg (.one 3 (nat_lit 395137003536)) (.call 3 (nat_lit 395137010710) [.var 3 (nat_lit 395137014811), .var 7 (nat_lit 395137020961), .var 2 (nat_lit 395137027108)] (nat_lit 395137010725)) (nat_lit 395137003557)] [.asg (.one 4 (nat_lit 397284487183)) (.call 3 (nat_lit 397284493333) [.var 4 (nat_lit 397284497433), .var 7 (nat_lit 397284502559), .var 2 (nat_lit 397284508706)] (nat_lit 397284493347)) (nat_lit 397284487203)] (nat_lit 394066403363)] (nat_lit 391921012771), .ret (.tup [.tup [.cbool false (nat_lit 398358230034), .call 3 (nat_lit 398358237207) [.var 3 (nat_lit 398358241308), .var 4 (nat_lit 398358247457), .var 2 (nat_lit 398358252580)] (nat_lit 398358237221)] (nat_lit 398358229030), .call 35 (nat_lit 398358257709) [.tup [.cbool false (nat_lit 398358264884), .var 3 (nat_lit 398358272058)] (nat_lit 398358263867), .tup [.cbool false (nat_lit 398358280259), .var 4 (nat_lit 398358287432)] (nat_lit 398358279241), .var 2 (nat_lit 398358293580)] (nat_lit 398358257741)] (nat_lit 398358228046)) (nat_lit 398358220878)]⟩
/- value_at_two: 0=parts 1=w 2=found 3=part -/
noncomputable def f_value_at_two : FnDef := ⟨false, 2, 4, [.asg (.one 2 (nat_lit 400505704457)) (.list [] (nat_lit 400505712654)) (nat_lit 400505704462), .for_ (.one 3 (nat_lit 401579450380)) (.rever (nat_lit 401579458584) (.var 0 (nat_lit 401579467806)) (nat_lit 401579458591)) [.asg (.one 2 (nat_lit 402653192205)) (.call 3 (nat_lit 402653200403) [.call 7 (nat_lit 402653204510) [.var 2 (nat_lit 402653215780), .cint 1 (nat_lit 402653222951), .var 1 (nat_lit 402653226026)] (nat_lit 402653204523), .var 3 (nat_lit 402653230129), .var 1 (nat_lit 402653236276)] (nat_lit 402653200437)) (nat_lit 402653192245)] (nat_lit 401580494901), .ret (.tup [.cbool false (nat_lit 403726938129), .var 2 (nat_lit 403726945304)] (nat_lit 403726937113)) (nat_lit 403726929945)]⟩
/- natural: 0=x -/
noncomputable def f_natural : FnDef := ⟨false, 1, 1, [.ite (.idx (.var 0 (nat_lit 413390609416)) (.cint 0 (nat_lit 413390611466)) (nat_lit 413390609419)) [.bad [0, 0, 0]] [] (nat_lit 413391654964), .ret (.idx (.var 0 (nat_lit 415538097164)) (.cint 1 (nat_lit 415538099214)) (nat_lit 415538097167)) (nat_lit 415538089999)]⟩
/- from_five: 0=at_zero 1=plus 2=minus 3=at_two 4=at_far 5=w 6=third 7=odd 8=second 9=first -/
noncomputable def f_from_five : FnDef := ⟨false, 6, 10, [.asg (.one 6 (nat_lit 417685573641)) (.call 40 (nat_lit 417685581847) [.call 35 (nat_lit 417685594141) [.var 3 (nat_lit 417685600292), .var 2 (nat_lit 417685608491), .var 5 (nat_lit 417685615662)] (nat_lit 417685594159), .cint 3 (nat_lit 417685619762), .var 5 (nat_lit 417685622837)] (nat_lit 417685581878)) (nat_lit 417685573686), .asg (.one 7 (nat_lit 418759315463)) (.call 40 (nat_lit 418759321621) [.call 35 (nat_lit 418759333915) [.var 1 (nat_lit 418759340064), .var 2 (nat_lit 418759346215), .var 5 (nat_lit 418759353386)] (nat_lit 418759333931), .cint 2 (nat_lit 418759357486), .var 5 (nat_lit 418759360561)] (nat_lit 418759321650)) (nat_lit 418759315506), .asg (.one 8 (nat_lit 419833057290)) (.call 35 (nat_lit 419833066514) [.var 1 (nat_lit 419833072663), .var 0 (nat_lit 419833078816), .var 5 (nat_lit 419833088035)] (nat_lit 419833066532)) (nat_lit 419833057316), .asg (.one 6 (nat_lit 420906799113)) (.call 40 (nat_lit 420906807319) [.call 35 (nat_lit 420906819613) [.var 6 (nat_lit 420906825763), .var 8 (nat_lit 420906832939), .var 5 (nat_lit 420906841134)] (nat_lit 420906819631), .cint 2 (nat_lit 420906845234), .var 5 (nat_lit 420906848309)] (nat_lit 420906807350)) (nat_lit 420906799158), .asg (.one 8 (nat_lit 421980540938)) (.call 35 (nat_lit 421980550162) [.call 35 (nat_lit 421980556312) [.var 8 (nat_lit 421980562463), .var 7 (nat_lit 421980570660), .var 5 (nat_lit 421980575783)] (nat_lit 421980556328), .var 4 (nat_lit 421980579888), .var 5 (nat_lit 421980588083)] (nat_lit 421980550196)) (nat_lit 421980540980), .asg (.one 6 (nat_lit 423054282761)) (.call 35 (nat_lit 423054290961) [.var 6 (nat_lit 423054297111), .call 39 (nat_lit 423054304287) [.var 4 (nat_lit 423054311462), .cint 1 (nat_lit 423054319657), .var 5 (nat_lit 423054322732)] (nat_lit 423054304301), .var 5 (nat_lit 423054326832)] (nat_lit 423054290993)) (nat_lit 423054282801), .asg (.one 9 (nat_lit 424128024585)) (.call 35 (nat_lit 424128032785) [.var 7 (nat_lit 424128038933), .var 6 (nat_lit 424128044060), .var 5 (nat_lit 424128051231)] (nat_lit 424128032800)) (nat_lit 424128024608), .ret (.comp ⟨.function, [(".0", .local), ("one", .local), ("natural", .globalImplicit)], false, false, []⟩ ["one"] [] (.call 43 (nat_lit 425201774611) [.var 0 (nat_lit 425201782807)] (nat_lit 425201774616)) (.one 0 (nat_lit 425201792032)) (.seq (.tup [.var 0 (nat_lit 425201800236), .var 9 (nat_lit 425201809459), .var 8 (nat_lit 425201816635), .var 6 (nat_lit 425201824834), .var 4 (nat_lit 425201832010)] (nat_lit 425201799243))) (nat_lit 425201773644)) (nat_lit 425201766476)]⟩
/- recomposed: 0=coefficients 1=size 2=w 3=found 4=at 5=one -/
noncomputable def f_recomposed : FnDef := ⟨false, 3, 6, [.asg (.one 3 (nat_lit 447750344713)) (.list [] (nat_lit 447750352910)) (nat_lit 447750344718), .for_ (.many [(4, (nat_lit 448824090634)), (5, (nat_lit 448824094735))] (nat_lit 448824090639)) (.enum (nat_lit 448824101916) (.var 0 (nat_lit 448824112169)) (nat_lit 448824101930)) [.asg (.one 3 (nat_lit 449897832461)) (.call 5 (nat_lit 449897840662) [.var 3 (nat_lit 449897847836), .var 5 (nat_lit 449897855009), .bin .Mult (.var 4 (nat_lit 449897860133)) (.var 1 (nat_lit 449897865260)) (nat_lit 449897860140), .var 2 (nat_lit 449897871407)] (nat_lit 449897840688)) (nat_lit 449897832496)] (nat_lit 448825135152), .ret (.var 3 (nat_lit 450971577360)) (nat_lit 450971570192)]⟩
/- products_of: 0=some 1=others 2=w 3=mul -/
noncomputable def f_products_of : FnDef := ⟨false, 4, 4, [.ret (.comp ⟨.function, [(".0", .local), ("one", .local), ("other", .local), ("s_mul", .globalImplicit), ("mul", .free), ("w", .free)], false, false, []⟩ ["one", "other"] [3, 2] (.call 36 (nat_lit 454192803857) [.var 0 (nat_lit 454192810005), .var 1 (nat_lit 454192815132), .var 3 (nat_lit 454192822303), .var 2 (nat_lit 454192825380)] (nat_lit 454192803877)) (.many [(0, (nat_lit 454192834605)), (1, (nat_lit 454192839732))] (nat_lit 454192834612)) (.zip (nat_lit 454192848955) (.var 0 (nat_lit 454192853056)) (.var 1 (nat_lit 454192859208)) (nat_lit 454192848969)) (nat_lit 454192802890)) (nat_lit 454192795722)]⟩
/- ends_of: 0=parts -/
noncomputable def f_ends_of : FnDef := ⟨false, 1, 1, [.ret (.list [.tup [.cbool false (nat_lit 456340288530), .idx (.var 0 (nat_lit 456340295705)) (.cint 0 (nat_lit 456340301851)) (nat_lit 456340295708)] (nat_lit 456340287517), .tup [.cbool false (nat_lit 456340308005), .idx (.var 0 (nat_lit 456340315180)) (.bin .Sub (.b1 .len (nat_lit 456340321328) (.var 0 (nat_lit 456340325430)) (nat_lit 456340321335)) (.cint 1 (nat_lit 456340334651)) (nat_lit 456340321339)) (nat_lit 456340315196)] (nat_lit 456340307005)] (nat_lit 456340286526)) (nat_lit 456340279358)]⟩
/- values_four: 0=parts 1=w -/
noncomputable def f_values_four : FnDef := ⟨false, 2, 2, [.ret (.bin .Add (.call 47 (nat_lit 458487770130) [.var 0 (nat_lit 458487778328)] (nat_lit 458487770137)) (.b1 .tolist (nat_lit 458487787552) (.call 41 (nat_lit 458487792684) [.var 0 (nat_lit 458487804978), .cint 0 (nat_lit 458487812149), .var 1 (nat_lit 458487815224)] (nat_lit 458487792697)) (nat_lit 458487787578)) (nat_lit 458487770170)) (nat_lit 458487763002)]⟩
/- values_five: 0=parts 1=w -/
noncomputable def f_values_five : FnDef := ⟨false, 2, 2, [.ret (.bin .Add (.call 48 (nat_lit 460635253782) [.var 0 (nat_lit 460635266076), .var 1 (nat_lit 460635273247)] (nat_lit 460635253792)) (.list [.call 42 (nat_lit 460635279408) [.var 0 (nat_lit 460635292726), .var 1 (nat_lit 460635299897)] (nat_lit 460635279418)] (nat_lit 460635278395)) (nat_lit 460635253819)) (nat_lit 460635246651)]⟩
/- joined_five: 0=values 1=size 2=w -/
noncomputable def f_joined_five : FnDef := ⟨false, 3, 3, [.ret (.call 45 (nat_lit 464930221077) [.call 44 (nat_lit 464930232351) [.idx (.var 0 (nat_lit 464930242598)) (.cint 0 (nat_lit 464930249768)) (nat_lit 464930242601), .idx (.var 0 (nat_lit 464930253873)) (.cint 2 (nat_lit 464930261043)) (nat_lit 464930253876), .idx (.var 0 (nat_lit 464930265148)) (.cint 3 (nat_lit 464930272318)) (nat_lit 464930265151), .idx (.var 0 (nat_lit 464930276423)) (.cint 4 (nat_lit 464930283593)) (nat_lit 464930276426), .idx (.var 0 (nat_lit 464930287698)) (.cint 1 (nat_lit 464930294868)) (nat_lit 464930287701), .var 2 (nat_lit 464930298968)] (nat_lit 464930232409), .var 1 (nat_lit 464930303071), .var 2 (nat_lit 464930309218)] (nat_lit 464930221155)) (nat_lit 464930213987)]⟩
/- common_size: 0=a 1=b 2=first 3=second -/
noncomputable def f_common_size : FnDef := ⟨false, 4, 4, [.ret (.bn .max (nat_lit 470298930190) [.call 38 (nat_lit 470298934297) [.b1 .len (nat_lit 470298945565) (.var 0 (nat_lit 470298949663)) (nat_lit 470298945568), .var 2 (nat_lit 470298953767)] (nat_lit 470298934312), .call 38 (nat_lit 470298961972) [.b1 .len (nat_lit 470298973240) (.var 1 (nat_lit 470298977338)) (nat_lit 470298973243), .var 3 (nat_lit 470298981443)] (nat_lit 470298961988), .cint 1 (nat_lit 470298990663)] (nat_lit 470298930248)) (nat_lit 470298923080)]⟩
/- toom3: 0=a 1=b 2=w 3=mul 4=size 5=some 6=others -/
noncomputable def f_toom3 : FnDef := ⟨false, 4, 7, [.asg (.one 4 (nat_lit 472446406664)) (.call 51 (nat_lit 472446413846) [.var 0 (nat_lit 472446426136), .var 1 (nat_lit 472446429211), .cint 3 (nat_lit 472446432286), .cint 3 (nat_lit 472446435361)] (nat_lit 472446413858)) (nat_lit 472446406690), .asgL [(5, (nat_lit 473520148488)), (6, (nat_lit 473520154640))] (nat_lit 473520148496) [.call 49 (nat_lit 473520164895) [.call 37 (nat_lit 473520177190) [.var 0 (nat_lit 473520184360), .cint 3 (nat_lit 473520187435), .var 4 (nat_lit 473520190513)] (nat_lit 473520177202), .var 2 (nat_lit 473520197685)] (nat_lit 473520164918), .call 49 (nat_lit 473520201795) [.call 37 (nat_lit 473520214090) [.var 1 (nat_lit 473520221260), .cint 3 (nat_lit 473520224335), .var 4 (nat_lit 473520227413)] (nat_lit 473520214102), .var 2 (nat_lit 473520234585)] (nat_lit 473520201818)] (nat_lit 473520163931) (nat_lit 473520148571), .ret (.call 50 (nat_lit 474593897494) [.call 46 (nat_lit 474593909794) [.var 5 (nat_lit 474593922087), .var 6 (nat_lit 474593928239), .var 2 (nat_lit 474593936434), .var 3 (nat_lit 474593939511)] (nat_lit 474593909816), .var 4 (nat_lit 474593945662), .var 2 (nat_lit 474593951809)] (nat_lit 474593897538)) (nat_lit 474593890370)]⟩
/- toom42: 0=a 1=b 2=w 3=mul 4=size 5=some 6=others -/
noncomputable def f_toom42 : FnDef := ⟨false, 4, 7, [.ite (.cmp (.b1 .len (nat_lit 481036344330) (.var 0 (nat_lit 481036348428)) (nat_lit 481036344333)) .lt (.b1 .len (nat_lit 481036353555) (.var 1 (nat_lit 481036357653)) (nat_lit 481036353558)) (nat_lit 481036344342)) [.ret (.call 53 (nat_lit 482110094357) [.var 1 (nat_lit 482110101527), .var 0 (nat_lit 482110104602), .var 2 (nat_lit 482110107677), .var 3 (nat_lit 482110110754)] (nat_lit 482110094371)) (nat_lit 482110087203)] [] (nat_lit 481037389859), .asg (.one 4 (nat_lit 483183824904)) (.call 51 (nat_lit 483183832086) [.var 0 (nat_lit 483183844376), .var 1 (nat_lit 483183847451), .cint 4 (nat_lit 483183850526), .cint 2 (nat_lit 483183853601)] (nat_lit 483183832098)) (nat_lit 483183824930), .asgL [(5, (nat_lit 484257566728)), (6, (nat_lit 484257572880))] (nat_lit 484257566736) [.call 49 (nat_lit 484257583135) [.call 37 (nat_lit 484257595430) [.var 0 (nat_lit 484257602600), .cint 4 (nat_lit 484257605675), .var 4 (nat_lit 484257608753)] (nat_lit 484257595442), .var 2 (nat_lit 484257615925)] (nat_lit 484257583158), .call 49 (nat_lit 484257620035) [.call 37 (nat_lit 484257632330) [.var 1 (nat_lit 484257639500), .cint 2 (nat_lit 484257642575), .var 4 (nat_lit 484257645653)] (nat_lit 484257632342), .var 2 (nat_lit 484257652825)] (nat_lit 484257620058)] (nat_lit 484257582171) (nat_lit 484257566811), .ret (.call 50 (nat_lit 485331315734) [.call 46 (nat_lit 485331328034) [.var 5 (nat_lit 485331340327), .var 6 (nat_lit 485331346479), .var 2 (nat_lit 485331354674), .var 3 (nat_lit 485331357751)] (nat_lit 485331328056), .var 4 (nat_lit 485331363902), .var 2 (nat_lit 485331370049)] (nat_lit 485331315778)) (nat_lit 485331308610)]⟩
/- by_slices: 0=longer 1=shorter 2=w 3=mul 4=size 5=many -/
noncomputable def f_by_slices : FnDef := ⟨false, 4, 6, [.ite (.cmp (.b1 .len (nat_lit 487478795274) (.var 1 (nat_lit 487478799378)) (nat_lit 487478795283)) .eq (.cint 0 (nat_lit 487478811672)) (nat_lit 487478795288)) [.ret (.list [] (nat_lit 488552545297)) (nat_lit 488552538129)] [] (nat_lit 487479840785), .asg (.one 4 (nat_lit 489626275848)) (.bin .Mult (.cint 2 (nat_lit 489626283020)) (.b1 .len (nat_lit 489626287122) (.var 1 (nat_lit 489626291226)) (nat_lit 489626287131)) (nat_lit 489626283035)) (nat_lit 489626275867), .asg (.one 5 (nat_lit 490700017672)) (.call 38 (nat_lit 490700024853) [.b1 .len (nat_lit 490700036121) (.var 0 (nat_lit 490700040224)) (nat_lit 490700036129), .var 4 (nat_lit 490700049447)] (nat_lit 490700024872)) (nat_lit 490700017704), .ret (.call 45 (nat_lit 491773766677) [.comp ⟨.function, [(".0", .local), ("one", .local), ("toom42", .globalImplicit), ("mul", .free), ("shorter", .free), ("w", .free)], false, false, []⟩ ["one"] [3, 1, 2] (.call 53 (nat_lit 491773778973) [.var 0 (nat_lit 491773786145), .var 2 (nat_lit 491773791274), .var 3 (nat_lit 491773800493), .var 1 (nat_lit 491773803570)] (nat_lit 491773778995)) (.one 0 (nat_lit 491773812795)) (.seq (.call 37 (nat_lit 491773819973) [.var 0 (nat_lit 491773827148), .var 5 (nat_lit 491773835346), .var 4 (nat_lit 491773841496)] (nat_lit 491773819993))) (nat_lit 491773778010), .var 4 (nat_lit 491773849696), .var 2 (nat_lit 491773855843)] (nat_lit 491773766756)) (nat_lit 491773759588)]⟩
/- way_for: 0=many 1=told 2=found 3=reached 4=name 5=least -/
noncomputable def f_way_for : FnDef := ⟨false, 2, 6, [.asgL [(2, (nat_lit 507879886857)), (3, (nat_lit 507879894034))] (nat_lit 507879886866) [.cstr [115, 99, 104, 111, 111, 108] (nat_lit 507879905310), .cint 0 (nat_lit 507879915553)] (nat_lit 507879904290) (nat_lit 507879886882), .for_ (.many [(4, (nat_lit 508953632780)), (5, (nat_lit 508953638931))] (nat_lit 508953632787)) (.seq (.tup [.tup [.cstr [107, 97, 114, 97, 116, 115, 117, 98, 97] (nat_lit 508953650212), .attr 1 (nat_lit 508953663530) 0 (nat_lit 508953663540)] (nat_lit 508953649205), .tup [.cstr [116, 111, 111, 109, 51] (nat_lit 508953681983), .attr 1 (nat_lit 508953691205) 1 (nat_lit 508953691211)] (nat_lit 508953680972), .tup [.cstr [116, 111, 111, 109, 52] (nat_lit 508953705558), .attr 1 (nat_lit 508953714780) 2 (nat_lit 508953714786)] (nat_lit 508953704547), .tup [.cstr [114, 105, 110, 103, 115] (nat_lit 508953729133), .attr 1 (nat_lit 508953738355) 3 (nat_lit 508953738361)] (nat_lit 508953728122)] (nat_lit 508953648251))) [.ite (.cmp2 (.var 0 (nat_lit 510027377679)) .ge (.var 5 (nat_lit 510027385880)) .ge (.var 3 (nat_lit 510027395107)) (nat_lit 510027377699)) [.asgL [(2, (nat_lit 511101120529)), (3, (nat_lit 511101127706))] (nat_lit 511101120538) [.var 4 (nat_lit 511101138978), .var 5 (nat_lit 511101145129)] (nat_lit 511101137962) (nat_lit 511101120554)] [] (nat_lit 510028423210)] (nat_lit 508955725866), .ret (.var 2 (nat_lit 512174861328)) (nat_lit 512174854160)]⟩
/- multiplied: 0=a 1=b 2=w 3=told -/
noncomputable def f_multiplied : FnDef := ⟨false, 4, 4, [.ite (.cmp (.b1 .len (nat_lit 525059759114) (.var 0 (nat_lit 525059763212)) (nat_lit 525059759117)) .lt (.b1 .len (nat_lit 525059768339) (.var 1 (nat_lit 525059772437)) (nat_lit 525059768342)) (nat_lit 525059759126)) [.asgL [(0, (nat_lit 526133501961)), (1, (nat_lit 526133505036))] (nat_lit 526133501964) [.var 1 (nat_lit 526133510161), .var 0 (nat_lit 526133513236)] (nat_lit 526133509141) (nat_lit 526133501973)] [] (nat_lit 525060804629), .ite (.cmp (.b1 .len (nat_lit 527207242762) (.var 1 (nat_lit 527207246860)) (nat_lit 527207242765)) .eq (.cint 0 (nat_lit 527207253010)) (nat_lit 527207242770)) [.ret (.list [] (nat_lit 528280992785)) (nat_lit 528280985617)] [] (nat_lit 527208288273), .ite (.and (.cmp (.b1 .len (nat_lit 529354726410) (.var 1 (nat_lit 529354730508)) (nat_lit 529354726413)) .lt (.attr 3 (nat_lit 529354735636) 0 (nat_lit 529354735646)) (nat_lit 529354726430)) [.cmp (.b1 .len (nat_lit 529354755110) (.var 1 (nat_lit 529354759208)) (nat_lit 529354755113)) .lt (.attr 3 (nat_lit 529354764336) 1 (nat_lit 529354764342)) (nat_lit 529354755126), .cmp (.b1 .len (nat_lit 529354780735) (.var 1 (nat_lit 529354784833)) (nat_lit 529354780738)) .lt (.attr 3 (nat_lit 529354789961) 2 (nat_lit 529354789967)) (nat_lit 529354780751), .cmp (.b1 .len (nat_lit 529354807385) (.var 1 (nat_lit 529354811483)) (nat_lit 529354807388)) .lt (.attr 3 (nat_lit 529354816611) 3 (nat_lit 529354816617)) (nat_lit 529354807401)] (nat_lit 529354726506)) [.ret (.call 25 (nat_lit 530428476441) [.var 0 (nat_lit 530428487707), .var 1 (nat_lit 530428490782), .var 2 (nat_lit 530428493857)] (nat_lit 530428476450)) (nat_lit 530428469282)] [] (nat_lit 529355771938), .ite (.cmp (.b1 .len (nat_lit 531502210058) (.var 0 (nat_lit 531502214156)) (nat_lit 531502210061)) .ge (.bin .Mult (.glob 2 (nat_lit 531502220312)) (.b1 .len (nat_lit 531502230558) (.var 1 (nat_lit 531502234656)) (nat_lit 531502230561)) (nat_lit 531502220321)) (nat_lit 531502210081)) [.ret (.call 58 (nat_lit 532575960096) [.var 0 (nat_lit 532575978530), .var 1 (nat_lit 532575981605), .var 2 (nat_lit 532575984680), .var 3 (nat_lit 532575987758)] (nat_lit 532575960111)) (nat_lit 532575952943)] [] (nat_lit 531503255599), .ret (.call 57 (nat_lit 533649697815) [.var 0 (nat_lit 533649711129), .var 1 (nat_lit 533649714204), .var 2 (nat_lit 533649717279), .var 3 (nat_lit 533649720357)] (nat_lit 533649697830)) (nat_lit 533649690662)]⟩
/- mul_balanced: 0=a 1=b 2=w 3=told 4=way 5=total -/
noncomputable def f_mul_balanced : FnDef := ⟨false, 4, 6, [.asg (.one 4 (nat_lit 535797174279)) (.call 55 (nat_lit 535797180433) [.b1 .len (nat_lit 535797188629) (.var 1 (nat_lit 535797192727)) (nat_lit 535797188632), .var 3 (nat_lit 535797196830)] (nat_lit 535797180447)) (nat_lit 535797174303), .ite (.cmp (.var 4 (nat_lit 536870919178)) .eq (.cstr [114, 105, 110, 103, 115] (nat_lit 536870926357)) (nat_lit 536870919189)) [.asg (.one 5 (nat_lit 537944662029)) (.bin .Add (.call 9 (nat_lit 537944670228) [.var 0 (nat_lit 537944675350), .var 2 (nat_lit 537944678425)] (nat_lit 537944670234)) (.call 9 (nat_lit 537944683553) [.var 1 (nat_lit 537944688675), .var 2 (nat_lit 537944691750)] (nat_lit 537944683559)) (nat_lit 537944670247)) (nat_lit 537944662055), .bad [1, 0, 1], .asg (.one 4 (nat_lit 541165887499)) (.cstr [116, 111, 111, 109, 52] (nat_lit 541165893653)) (nat_lit 541165887509)] [] (nat_lit 536875110421), .ite (.cmp (.var 4 (nat_lit 542239628298)) .eq (.cstr [116, 111, 111, 109, 52] (nat_lit 542239635477)) (nat_lit 542239628309)) [.bad [2, 0, 0]] [] (nat_lit 542240673847), .ite (.cmp (.var 4 (nat_lit 544387111946)) .eq (.cstr [116, 111, 111, 109, 51] (nat_lit 544387119125)) (nat_lit 544387111957)) [.ret (.call 52 (nat_lit 545460861972) [.var 0 (nat_lit 545460868118), .var 1 (nat_lit 545460871193), .var 2 (nat_lit 545460874268), .clo (nat_lit 545460877352) [.var 3 (nat_lit 545460888621), .b1 .len (nat_lit 545460894770) (.var 1 (nat_lit 545460898868)) (nat_lit 545460894773)] (nat_lit 545460877366)] (nat_lit 545460862007)) (nat_lit 545460854839)] [] (nat_lit 544388157495), .ite (.cmp (.var 4 (nat_lit 546534595594)) .eq (.cstr [107, 97, 114, 97, 116, 115, 117, 98, 97] (nat_lit 546534602777)) (nat_lit 546534595609)) [.ret (.call 24 (nat_lit 547608345628) [.var 0 (nat_lit 547608359966), .var 1 (nat_lit 547608363041), .var 2 (nat_lit 547608366116), .attr 3 (nat_lit 547608369194) 0 (nat_lit 547608369204), .fn 25 (nat_lit 547608385600)] (nat_lit 547608345665)) (nat_lit 547608338497)] [] (nat_lit 546535641153), .ret (.call 25 (nat_lit 548682083349) [.var 0 (nat_lit 548682094615), .var 1 (nat_lit 548682097690), .var 2 (nat_lit 548682100765)] (nat_lit 548682083358)) (nat_lit 548682076190)]⟩
/- multiplied_slices: 0=a 1=b 2=w 3=told 4=found 5=size 6=begin -/
noncomputable def f_multiplied_slices : FnDef := ⟨false, 4, 7, [.ite (.cmp (.b1 .len (nat_lit 558345755658) (.var 1 (nat_lit 558345759756)) (nat_lit 558345755661)) .eq (.cint 0 (nat_lit 558345765906)) (nat_lit 558345755666)) [.ret (.list [] (nat_lit 559419505681)) (nat_lit 559419498513)] [] (nat_lit 558346801169), .asgL [(4, (nat_lit 560493236233)), (5, (nat_lit 560493243407))] (nat_lit 560493236239) [.list [] (nat_lit 560493251605), .b1 .len (nat_lit 560493255706) (.var 1 (nat_lit 560493259804)) (nat_lit 560493255709)] (nat_lit 560493250590) (nat_lit 560493236254), .for_ (.one 6 (nat_lit 561566982157)) (.range (nat_lit 561566991382) [.cint 0 (nat_lit 561566997528), .b1 .len (nat_lit 561567000605) (.var 0 (nat_lit 561567004703)) (nat_lit 561567000608), .var 5 (nat_lit 561567008806)] (nat_lit 561566991399)) [.asg (.one 4 (nat_lit 562640723981)) (.call 5 (nat_lit 562640732182) [.var 4 (nat_lit 562640739356), .call 56 (nat_lit 562640746536) [.call 11 (nat_lit 562640757806) [.var 0 (nat_lit 562640763952), .var 6 (nat_lit 562640767031), .bin .Add (.var 6 (nat_lit 562640774206)) (.var 5 (nat_lit 562640782405)) (nat_lit 562640774213)] (nat_lit 562640757830), .var 1 (nat_lit 562640789577), .var 2 (nat_lit 562640792652), .var 3 (nat_lit 562640795730)] (nat_lit 562640746579), .var 6 (nat_lit 562640802906), .var 2 (nat_lit 562640810077)] (nat_lit 562640732254)) (nat_lit 562640724062)] (nat_lit 561568026718), .ret (.var 4 (nat_lit 563714468880)) (nat_lit 563714461712)]⟩
/- _law_next: 0=rope 1=many 2=turn -/
noncomputable def f_law_next : FnDef := ⟨true, 2, 3, [.setI 0 (nat_lit 566935687176) (.cint 1 (nat_lit 566935692298)) (.bin .Add (.idx (.var 0 (nat_lit 566935697426)) (.cint 1 (nat_lit 566935702548)) (nat_lit 566935697429)) (.cint 1 (nat_lit 566935707673)) (nat_lit 566935697433)) (nat_lit 566935687179) (nat_lit 566935687193), .asg (.one 2 (nat_lit 568009429000)) (.idx (.var 0 (nat_lit 568009436175)) (.cint 1 (nat_lit 568009441297)) (nat_lit 568009436178)) (nat_lit 568009429010), .ret (.ite (.cmp (.var 2 (nat_lit 569083211824)) .le (.b1 .len (nat_lit 569083220023) (.idx (.var 0 (nat_lit 569083224124)) (.cint 0 (nat_lit 569083229246)) (nat_lit 569083224127)) (nat_lit 569083220032)) (nat_lit 569083211840)) (.bin .Mod (.b1 .abs (nat_lit 569083177998) (.idx (.idx (.var 0 (nat_lit 569083182099)) (.cint 0 (nat_lit 569083187221)) (nat_lit 569083182102)) (.bin .Sub (.var 2 (nat_lit 569083190299)) (.cint 1 (nat_lit 569083197471)) (nat_lit 569083190303)) (nat_lit 569083182112)) (nat_lit 569083178017)) (.var 1 (nat_lit 569083203624)) (nat_lit 569083178024)) (.bin .Mod (.bin .Add (.bin .Add (.bin .Mult (.cint 9 (nat_lit 569083239496)) (.var 2 (nat_lit 569083243599)) (nat_lit 569083239503)) (.bin .FloorDiv (.var 2 (nat_lit 569083250774)) (.cint 2 (nat_lit 569083258971)) (nat_lit 569083250779)) (nat_lit 569083239515)) (.cint 1 (nat_lit 569083263071)) (nat_lit 569083239519)) (.var 1 (nat_lit 569083268199)) (nat_lit 569083238503)) (nat_lit 569083178087)) (nat_lit 569083170919)]⟩
/- _law_row: 0=number 1=w 2=found -/
noncomputable def f_law_row : FnDef := ⟨false, 2, 3, [.asg (.one 2 (nat_lit 571230654473)) (.list [] (nat_lit 571230662670)) (nat_lit 571230654478), .whl (.cmp (.var 0 (nat_lit 572304402448)) .gt (.cint 0 (nat_lit 572304411668)) (nat_lit 572304402452)) [.app 2 (nat_lit 573378142221) (.bin .Mod (.var 0 (nat_lit 573378155547)) (.bin .Pow (.cint 2 (nat_lit 573378164767)) (.var 1 (nat_lit 573378169892)) (nat_lit 573378164772)) (nat_lit 573378155556)) (nat_lit 573378142228) (nat_lit 573378142245) (nat_lit 573378142245), .asg (.one 0 (nat_lit 574451884046)) (.bin .FloorDiv (.var 0 (nat_lit 574451893271)) (.bin .Pow (.cint 2 (nat_lit 574451903516)) (.var 1 (nat_lit 574451908641)) (nat_lit 574451903521)) (nat_lit 574451893281)) (nat_lit 574451884065)] (nat_lit 572306493473), .ret (.var 2 (nat_lit 575525628944)) (nat_lit 575525621776)]⟩
/- _law_number: 0=rope 1=w 2=most 3=found 4=turn -/
noncomputable def f_law_number : FnDef := ⟨true, 3, 5, [.asg (.one 3 (nat_lit 577673105417)) (.cint 0 (nat_lit 577673113613)) (nat_lit 577673105421), .for_ (.one 4 (nat_lit 578746851340)) (.range (nat_lit 578746859541) [.callio 59 (nat_lit 578746865695) 0 (nat_lit 578746875940) [.bin .Add (.var 2 (nat_lit 578746882090)) (.cint 1 (nat_lit 578746889262)) (nat_lit 578746882094)] (nat_lit 578746865711)] (nat_lit 578746859568)) [.asg (.one 3 (nat_lit 579820593165)) (.bin .Add (.bin .Mult (.var 3 (nat_lit 579820601365)) (.bin .Pow (.cint 2 (nat_lit 579820609561)) (.var 1 (nat_lit 579820614686)) (nat_lit 579820609566)) (nat_lit 579820601374)) (.callio 59 (nat_lit 579820618794) 0 (nat_lit 579820629039) [.bin .Pow (.cint 2 (nat_lit 579820635186)) (.var 1 (nat_lit 579820640311)) (nat_lit 579820635191)] (nat_lit 579820618808)) (nat_lit 579820601400)) (nat_lit 579820593208)] (nat_lit 578747895864), .ret (.var 3 (nat_lit 580894338064)) (nat_lit 580894330896)]⟩
/- within: 0=x 1=y 2=width 3=many 4=told -/
noncomputable def f_within : FnDef := ⟨false, 5, 5, [.ite (.cmp (.bn .min (nat_lit 552977050638) [.b1 .len (nat_lit 552977054738) (.var 0 (nat_lit 552977058836)) (nat_lit 552977054741), .b1 .len (nat_lit 552977062938) (.var 1 (nat_lit 552977067036)) (nat_lit 552977062941)] (nat_lit 552977050654)) .ge (.var 3 (nat_lit 552977074214)) (nat_lit 552977050662)) [.ret (.call 25 (nat_lit 554050800669) [.var 0 (nat_lit 554050811935), .var 1 (nat_lit 554050815010), .var 2 (nat_lit 554050818089)] (nat_lit 554050800682)) (nat_lit 554050793514)] [] (nat_lit 552978096170), .ret (.call 56 (nat_lit 555124538393) [.var 0 (nat_lit 555124549659), .var 1 (nat_lit 555124552734), .var 2 (nat_lit 555124555813), .var 4 (nat_lit 555124562987)] (nat_lit 555124538412)) (nat_lit 555124531244)]⟩
/- law: 0=script 1=rope 2=base 3=w 4=top 5=bottom 6=one 7=other 8=thing 9=text 10=long 11=short 12=a 13=b 14=told 15=due 16=found -/
noncomputable def nsLaw : List String := ["script", "rope", "base", "w", "top", "bottom", "one", "other", "thing", "text", "long", "short", "a", "b", "told", "due", "found"]
noncomputable def lawA : List MS := [.asg (.one 1 (nat_lit 589484265480)) (.list [.cut 0 (nat_lit 589484273682) none (some (.cint 30 (nat_lit 589484281878))) (nat_lit 589484280854) (nat_lit 589484273687), .cint 0 (nat_lit 589484287002)] (nat_lit 589484272667)) (nat_lit 589484265499), .asgTC [(2, (nat_lit 590558007304)), (3, (nat_lit 590558013451))] (nat_lit 590558007307) [.bin .Sub (.callio 59 (nat_lit 590558018584) 1 (nat_lit 590558028829) [.cint 44 (nat_lit 590558034977)] (nat_lit 590558018594)) (.cint 3 (nat_lit 590558041126)) (nat_lit 590558018598), .bin .Add (.cint 2 (nat_lit 590558044201)) (.callio 59 (nat_lit 590558048309) 1 (nat_lit 590558058554) [.cint 8 (nat_lit 590558064701)] (nat_lit 590558048318)) (nat_lit 590558044222)] (nat_lit 590558017599) (nat_lit 590558007359), .asgL [(4, (nat_lit 591631749127)), (5, (nat_lit 591631754255))] (nat_lit 591631749135) [.bin .Sub (.callio 59 (nat_lit 591631764508) 1 (nat_lit 591631774753) [.cint 2001 (nat_lit 591631780903)] (nat_lit 591631764520)) (.cint 1000 (nat_lit 591631789103)) (nat_lit 591631764527), .bin .Add (.cint 1 (nat_lit 591631795250)) (.callio 59 (nat_lit 591631799358) 1 (nat_lit 591631809603) [.cint 40 (nat_lit 591631815751)] (nat_lit 591631799368)) (nat_lit 591631795272)] (nat_lit 591631763529) (nat_lit 591631749193), .asgL [(6, (nat_lit 592705490951)), (7, (nat_lit 592705496078))] (nat_lit 592705490958) [.b1 .abs (nat_lit 592705505301) (.var 4 (nat_lit 592705509401)) (nat_lit 592705505306), .var 5 (nat_lit 592705515554)] (nat_lit 592705504291) (nat_lit 592705490979), .whl (.cmp (.var 7 (nat_lit 593779238927)) .gt (.cint 0 (nat_lit 593779247123)) (nat_lit 593779238931)) [.asgL [(6, (nat_lit 594852978699)), (7, (nat_lit 594852983826))] (nat_lit 594852978706) [.var 7 (nat_lit 594852993051), .bin .Mod (.var 6 (nat_lit 594853000224)) (.var 7 (nat_lit 594853006376)) (nat_lit 594853000232)] (nat_lit 594852992041) (nat_lit 594852978729)] (nat_lit 593780281385), .asgC 8 (nat_lit 595926716425) (.tup [.tup [.cmp (.var 4 (nat_lit 595926726673)) .lt (.cint 0 (nat_lit 595926732821)) (nat_lit 595926726677), .call 60 (nat_lit 595926735903) [.bin .FloorDiv (.b1 .abs (nat_lit 595926745123) (.var 4 (nat_lit 595926749223)) (nat_lit 595926745128)) (.var 6 (nat_lit 595926757423)) (nat_lit 595926745135), .var 3 (nat_lit 595926762546)] (nat_lit 595926735923)] (nat_lit 595926725684), .call 60 (nat_lit 595926767678) [.bin .FloorDiv (.var 5 (nat_lit 595926776901)) (.var 6 (nat_lit 595926787148)) (nat_lit 595926776908), .var 3 (nat_lit 595926792271)] (nat_lit 595926767696)] (nat_lit 595926724689)) (nat_lit 595926716497)]
noncomputable def lawT : ME := .cmp2 (.cint 2 (nat_lit 597000461320)) .le (.var 2 (nat_lit 597000466448)) .le (.cint 36 (nat_lit 597000474646)) (nat_lit 597000461334)
noncomputable def lawB : List MS := [.asgC 9 (nat_lit 598074204172) (.call 18 (nat_lit 598074211349) [.var 8 (nat_lit 598074218523), .var 2 (nat_lit 598074225697), .var 3 (nat_lit 598074231844), .fn 31 (nat_lit 598074234931)] (nat_lit 598074211380)) (nat_lit 598074204212), .ite (.cmp (.call 20 (nat_lit 599147949078) [.var 9 (nat_lit 599147961371), .var 2 (nat_lit 599147967521), .var 3 (nat_lit 599147973668), .fn 25 (nat_lit 599147976752), .fn 31 (nat_lit 599147989055)] (nat_lit 599147949120)) .ne (.var 8 (nat_lit 599148007497)) (nat_lit 599147949129)) [.ret (.cbool false (nat_lit 600221699096)) (nat_lit 600221691928)] [] (nat_lit 599148994584)]
noncomputable def lawC : List MS := [.asgC 9 (nat_lit 602369171468) (.idx (.list [.cstr [48] (nat_lit 602369179667), .cstr [49, 48, 47, 55] (nat_lit 602369184795), .cstr [122] (nat_lit 602369192992), .cstr [45] (nat_lit 602369198117), .cstr [] (nat_lit 602369203241), .cstr [63] (nat_lit 602369207342), .cstr [49, 47, 48] (nat_lit 602369212469), .cstr [47] (nat_lit 602369219642)] (nat_lit 602369178683)) (.callio 59 (nat_lit 602369224773) 1 (nat_lit 602369235018) [.cint 8 (nat_lit 602369241165)] (nat_lit 602369224782)) (nat_lit 602369178703)) (nat_lit 602369171535)]
noncomputable def lawD : List MS := [.asgL [(10, (nat_lit 607737876488)), (11, (nat_lit 607737882639))] (nat_lit 607737876495) [.callio 61 (nat_lit 607737891870) 1 (nat_lit 607737904163) [.var 3 (nat_lit 607737910310), .cint 9 (nat_lit 607737913385)] (nat_lit 607737891882), .callio 61 (nat_lit 607737917495) 1 (nat_lit 607737929788) [.var 3 (nat_lit 607737935935), .cint 3 (nat_lit 607737939010)] (nat_lit 607737917507)] (nat_lit 607737890884) (nat_lit 607737876548), .asgL [(12, (nat_lit 608811618309)), (13, (nat_lit 608811621384))] (nat_lit 608811618312) [.call 60 (nat_lit 608811626516) [.var 10 (nat_lit 608811635737), .var 3 (nat_lit 608811641884)] (nat_lit 608811626525), .call 60 (nat_lit 608811645991) [.var 11 (nat_lit 608811655213), .var 3 (nat_lit 608811662384)] (nat_lit 608811646001)] (nat_lit 608811625522) (nat_lit 608811618354), .asgL [(14, (nat_lit 609885360136)), (15, (nat_lit 609885366285))] (nat_lit 609885360141) [.thr (nat_lit 609885373467) [.callio 59 (nat_lit 609885384741) 1 (nat_lit 609885394986) [.cint 5 (nat_lit 609885401133)] (nat_lit 609885384750), .callio 59 (nat_lit 609885405241) 1 (nat_lit 609885415486) [.cint 6 (nat_lit 609885421633)] (nat_lit 609885405250), .bin .Add (.cint 4 (nat_lit 609885425733)) (.callio 59 (nat_lit 609885429841) 1 (nat_lit 609885440086) [.cint 3 (nat_lit 609885446233)] (nat_lit 609885429850)) (nat_lit 609885425754), .cint 99 (nat_lit 609885450334)] (nat_lit 609885373535), .call 60 (nat_lit 609885455465) [.bin .Mult (.var 10 (nat_lit 609885464686)) (.var 11 (nat_lit 609885471862)) (nat_lit 609885464694), .var 3 (nat_lit 609885479033)] (nat_lit 609885455482)] (nat_lit 609885372539) (nat_lit 609885360251), .asg (.one 16 (nat_lit 610959101961)) (.list [.call 54 (nat_lit 610959111190) [.var 12 (nat_lit 610959121432), .var 13 (nat_lit 610959124507), .var 3 (nat_lit 610959127582), .fn 25 (nat_lit 610959130666)] (nat_lit 610959111211), .call 58 (nat_lit 610959143998) [.var 12 (nat_lit 610959162432), .var 13 (nat_lit 610959165507), .var 3 (nat_lit 610959168582), .var 14 (nat_lit 610959171660)] (nat_lit 610959144013), .call 58 (nat_lit 610959178848) [.var 13 (nat_lit 610959197282), .var 12 (nat_lit 610959200357), .var 3 (nat_lit 610959203432), .var 14 (nat_lit 610959206510)] (nat_lit 610959178863)] (nat_lit 610959110256)) (nat_lit 610959102064), .ret (.cmp (.var 16 (nat_lit 612032850960)) .eq (.list [.var 15 (nat_lit 612032861208), .var 15 (nat_lit 612032866333), .var 15 (nat_lit 612032871458)] (nat_lit 612032860195)) (nat_lit 612032850979)) (nat_lit 612032843811)]
noncomputable def lam1 : ME := .call 20 (nat_lit 603442941999) [.var 1 (nat_lit 603442954292), .var 0 (nat_lit 603442960442), .var 2 (nat_lit 603442966589), .fn 25 (nat_lit 603442969673), .fn 31 (nat_lit 603442981976)] (nat_lit 603442942041)
noncomputable def lam2 : ME := .call 18 (nat_lit 605590425642) [.var 1 (nat_lit 605590432816), .var 0 (nat_lit 605590439990), .var 2 (nat_lit 605590446137), .fn 31 (nat_lit 605590449224)] (nat_lit 605590425673)
noncomputable def fnL : List FnDef := [f_normal, f_nat_of, f_compare, f_add, f_sub, f_add_at, f_divrem_limb, f_shift_left, f_shift_right, f_bits, f_split, f_piece, f_common, f_signed_of, f_r_make, f_plain_of, f_need_base, f_nat_text, f_r_text, f_nat_from_text, f_r_from_text, f_difference, f_put_together_karatsuba, f_middle_of, f_mul_karatsuba, f_mul_school, f_divrem_small, f_guessed_limb, f_take_away, f_put_back, f_divide_rows, f_divrem_school, f_signed, f_s_neg, f_s_add, f_s_sub, f_s_mul, f_pieces, f_piece_size, f_scaled, f_exact_small, f_both_values, f_value_at_two, f_natural, f_from_five, f_recomposed, f_products_of, f_ends_of, f_values_four, f_values_five, f_joined_five, f_common_size, f_toom3, f_toom42, f_by_slices, f_way_for, f_multiplied, f_mul_balanced, f_multiplied_slices, f_law_next, f_law_row, f_law_number]
noncomputable def nsL : List (List String) := [["a", "end"], ["number", "w", "found", "mask"], ["a", "b", "at"], ["a", "b", "w", "found", "carry", "mask", "at"], ["a", "b", "w", "found", "borrow", "base", "at", "limb"], ["a", "b", "spot", "w"], ["a", "limb", "w", "found", "rest", "at"], ["a", "n", "w", "spots", "few", "found", "carry", "mask", "one"], ["a", "n", "w", "spots", "few", "found", "mask", "at", "above"], ["a", "w"], ["a", "spot"], ["a", "begin", "end"], ["a", "b", "w", "divrem"], ["nat"], ["top", "bottom", "w", "divrem", "told"], ["a", "w", "found", "limb"], ["base"], ["a", "base", "w", "divrem", "found", "told", "rest"], ["x", "base", "w", "divrem", "found"], ["text", "spot", "base", "w", "mul", "found", "told", "at", "sign", "digit"], ["text", "base", "w", "mul", "divrem", "begin", "bar", "top", "bottom"], ["a", "b", "w"], ["low", "middle", "high", "spot", "w"], ["low", "high", "is_below", "apart", "w", "both"], ["a", "b", "w", "least", "mul", "found", "at", "spot", "a_low", "a_high", "b_low", "b_high", "low", "high", "a_below", "a_apart", "b_below", "b_apart", "apart"], ["a", "b", "w", "found", "mask", "at", "limb", "carry", "spot", "other"], ["a", "b", "w", "quotient", "rest"], ["top", "first", "second", "w", "high", "base", "limb", "rest"], ["rest", "b", "limb", "at", "w", "carry", "base", "spot", "other", "here"], ["rest", "b", "at", "w", "carry", "mask", "spot", "other"], ["rest", "b", "w", "size", "quotient", "at", "limb"], ["a", "b", "w", "shift", "divisor", "rest", "quotient"], ["is_below", "nat"], ["x"], ["x", "y", "w"], ["x", "y", "w"], ["x", "y", "w", "mul"], ["a", "many", "size", "found"], ["length", "many"], ["x", "n", "w"], ["x", "d", "w", "found", "rest", "limb", "whole"], ["parts", "power", "w", "even", "odd", "at", "part", "term"], ["parts", "w", "found", "part"], ["x"], ["at_zero", "plus", "minus", "at_two", "at_far", "w", "third", "odd", "second", "first"], ["coefficients", "size", "w", "found", "at", "one"], ["some", "others", "w", "mul"], ["parts"], ["parts", "w"], ["parts", "w"], ["values", "size", "w"], ["a", "b", "first", "second"], ["a", "b", "w", "mul", "size", "some", "others"], ["a", "b", "w", "mul", "size", "some", "others"], ["longer", "shorter", "w", "mul", "size", "many"], ["many", "told", "found", "reached", "name", "least"], ["a", "b", "w", "told"], ["a", "b", "w", "told", "way", "total"], ["a", "b", "w", "told", "found", "size", "begin"], ["rope", "many", "turn"], ["number", "w", "found"], ["rope", "w", "most", "found", "turn"]]
end Mine

set_option autoImplicit false
set_option linter.all false
set_option maxRecDepth 100000
namespace Mine
open PySem PySem.W PySem.Calls PyProof.Rows
abbrev pw := PySem.Challenge.pw_rr0060_01
noncomputable def faL : List Nat := [91, 98, 105, 112, 119, 126, 133, 140, 147, 154, 168, 175, 182, 189, 196, 203, 210, 217, 224, 231, 238, 245, 252, 259, 266, 374, 381, 388, 395, 402, 409, 416, 423, 430, 437, 444, 451, 456, 463, 470, 477, 484, 491, 512, 517, 543, 548, 555, 562, 569, 583, 597, 604, 618, 623, 651, 672, 679, 693, 700, 707, 714]
noncomputable def idxL : List Nat := [6, 7, 8, 9, 10, 11, 12, 13, 14, 15, 17, 18, 21, 22, 23, 24, 25, 26, 27, 28, 29, 32, 33, 35, 36, 55, 56, 57, 58, 59, 60, 61, 63, 64, 65, 66, 67, 69, 70, 71, 72, 73, 74, 77, 78, 82, 84, 85, 86, 87, 89, 91, 92, 94, 95, 103, 106, 107, 109, 111, 112, 113]
noncomputable def nsS (k : Nat) : List Str := (nsL.getD k []).map Str.ofString
noncomputable def fnK (k : Nat) : FnDef := fnL.getD k f_normal
noncomputable def recAt (i : Nat) : Arguments × List Stmt × Scope := match pw.main.body[i]? with
  | some (.FunctionDef _ a b _ _ _ sc _ _ _) => (a, b, sc)
  | _ => (⟨[], [], none, [], [], none, []⟩, [], ⟨.function, [], false, false, []⟩)
noncomputable def recK (k : Nat) : Arguments × List Stmt × Scope := recAt (idxL.getD k 0)
theorem texts : (List.range 62).map (fun k => toB (fnK k).body (nsS k) (recK k).2.1) = (List.range 62).map fun k => (recK k).2.1 := by kernel_rfl
noncomputable def isFunK (s : Scope) : Bool := match s.kind with
  | .function => !s.isCoroutine && !s.isGenerator
  | _ => false
noncomputable def plainPars (a : Arguments) (xs : List Str) : Bool := a.posonlyargs.isEmpty && a.vararg.isNone && a.kwonlyargs.isEmpty && a.kw_defaults.isEmpty && a.kwarg.isNone && a.defaults.isEmpty && a.args.map (·.arg) == xs
noncomputable def okFn (a : Arguments) (sc : Scope) (N : List Str) (f : FnDef) (np : Nat) : Bool :=
  isFunK sc && plainPars a (N.take np) && decide N.Nodup && N.all plainNm && Nat.beq N.length f.ns && Nat.ble f.np f.ns &&
    (N.take np).all (fun x => sc.names.lookup x == some .local || sc.names.lookup x == some .cell) && (!f.io || (N.take 1).all (fun x => sc.names.lookup x == some .local) && Nat.ble 1 f.np) && okB f.body ⟨N, fun x => sc.names.lookup x, f.io⟩
theorem okAll : (List.range 62).all (fun k => okFn (recK k).1 (recK k).2.2 (nsS k) (fnK k) (fnK k).np) = true := by kernel_rfl
end Mine

set_option autoImplicit false
set_option linter.all false
set_option maxRecDepth 100000
namespace Mine
open PySem PySem.W PySem.Calls PyProof.Rows

/-! the head: the run of the top, and what is looked at behind it -/
noncomputable def env0 : Env := { scope := pw.main.scope, locals := mainNs, globals := mainNs, cells := [], code := .ref 13, frame := some 14 }
noncomputable def pos0 : Pos := ⟨0, 0, 0, 0⟩
noncomputable def treeOf (l : List Obj) : BT := (l.foldl (fun (p : Nat × BT) o => (p.1 + 1, p.2.ins p.1 o)) (0, .nil)).2
noncomputable def bootS (w : World) (os : OsState) : Shared := ⟨boot_heap w.params, Array.mk [], boot_drawn, boot_toks, os⟩
noncomputable def preR (w : World) (os : OsState) : Option (Shared × Thread) := Fast.tw15667345088766844465 Fast.tw14364793385576792824 pw w 11 (some (.ref 6)) 12 (bootS w os) (topStub pw)
noncomputable def preS (w : World) (os : OsState) : Shared := match preR w os with
  | some (s, _) => s
  | none => bootS w os
noncomputable def S1 (w : World) (os : OsState) : SharedT := ⟨treeOf (preS w os).heap.objs.toList, 15, {}, #[], {}, 187, os⟩
theorem abs1 (w : World) (os : OsState) : preS w os = (S1 w os).abs := by kernel_rfl
theorem pre_eq (w : World) (os : OsState) : preR w os = some (preS w os, ⟨Fast.tw11892475500146522536 Fast.tw14364793385576792824 (.body (behindTheImports pw) env0), .body (behindTheImports pw) env0, pos0, [topFrame pos0]⟩) := by kernel_rfl
noncomputable def keepL : List Nat := [1, 5, 115]
noncomputable def qv : Program := view pw keepL
noncomputable def looseL : List Str := (pw.main.scope.names.map (·.1)).filter fun x => !(["GmpError", "OutOfRange", "law", "__name__"] : List Str).contains x
noncomputable def runT (w : World) (os : OsState) : Option (Flow × SharedT × Code × Pos) := Fast.tw10110043849684766642 Fast.tw14364793385576792824 pw w 11 (some (.ref 6)) 1 4470 (S1 w os) (piecesOf (behindTheImports pw) env0 (.body (behindTheImports pw) env0) pos0 [topFrame pos0])

/-! own looks -/
noncomputable def codeSee (h : Heap) (fd : FuncData) : Bool := match fd.code with
  | .ref c => (match h.get? c with
    | some oc => (match oc.data with
      | .fields vs => (match (vs[1]? : Option Value) with
        | some (.str q _) => decide (q = fd.qualname)
        | _ => false)
      | _ => false)
    | none => false)
  | _ => false
noncomputable def isNone (v : Value) : Bool := match v with
  | .none => true
  | _ => false
noncomputable def qnSee (h : Heap) (a : Addr) (q : Str) : Bool := match h.get? a with
  | some o => (match o.data with
    | .func fd => decide (fd.qualname = q)
    | _ => false)
  | none => false
abbrev FnSeen := Arguments × FuncBody × Scope × Addr × List (Str × Addr) × Addr × Value × Bool
noncomputable def fnSee (h : Heap) (a : Addr) : Option FnSeen := match h.get? a with
  | some o => (match o.data with
    | .func fd => some (fd.params, fd.body, fd.scope, fd.globals, fd.closure, fd.builtins, fd.code, codeSee h fd && isNone fd.defaults && isNone fd.kwdefaults)
    | _ => none)
  | none => none
noncomputable def fnWant (r : Arguments × List Stmt × Scope) (c : Addr) : Option FnSeen := some (r.1, .stmts r.2.1, r.2.2, mainGlobals, [], builtinsNs, .ref c, true)
/-- the codes of the functions -/
noncomputable def codeK (k : Nat) : Addr := faL.getD k 91 - 1
noncomputable def vSee : Value → D
  | .int i _ => .int i
  | .str s _ => .str s.cps.toList
  | _ => .none
noncomputable def fragOf (h : Heap) (as : List Addr) : Frag := as.filterMap fun a => (h.get? a).map fun o => (a, o)
noncomputable def stmtAt (i : Nat) : Option Stmt := pw.main.body[i]?
noncomputable def recOf : Option Stmt → Arguments × List Stmt × Scope
  | some (.FunctionDef _ a b _ _ _ sc _ _ _) => (a, b, sc)
  | _ => (⟨[], [], none, [], [], none, []⟩, [], ⟨.function, [], false, false, []⟩)
noncomputable def clsBody : Option Stmt → List Stmt
  | some (.ClassDef _ _ _ b _ _ _ _ _ _ _) => b
  | _ => []
noncomputable def initR : Arguments × List Stmt × Scope := recOf (clsBody (stmtAt 102)).head?
noncomputable def thrNames : List Str := ["karatsuba", "toom3", "toom4", "rings"]
noncomputable def glNames : List Str := ["SIGNS", "FEWEST", "BALANCE", "LEAST_KARATSUBA", "LEAST_TOOM3", "LEAST_TOOM4", "LEAST_RINGS"]
noncomputable def glWant : List (Option D) := [some (gl 0), some (.int 2), some (.int 2), some (.int 2), some (.int 3), some (.int 4), some (.int 6)]
abbrev ThrSeen := Bool × Option (Option Value) × Option Value × Option (Option Value) × Bool × List (Option (Option Value)) × Bool × List Bool × List (Option (Option Value)) × Bool
noncomputable def thrSee (K : Frag) : ThrSeen :=
  (makesIn K 640, PySem.W.findIn K (.ref 640) "__init__", typeIn K (.ref 637), PySem.W.findIn K (.ref 640) "__setattr__", plainOver K 640, thrNames.map (takerIn K 640), hasDictIn K 640, thrNames.map (plainGet K 640), thrNames.map (PySem.W.findIn K (.ref 640)), keepIn K (.ref 640))
noncomputable def thrWant : ThrSeen := (true, some (some (.ref 637)), some (.type "function"), some (some (.builtin "object.__setattr__")), true, thrNames.map (fun _ => some none), true, thrNames.map (fun _ => true), thrNames.map (fun _ => some none), true)
abbrev Seen := List Bool × List (Option Value) × List (Option FnSeen) × List (Option Value × Option Value) × List (Option D) × List (Option Addr) × ThrSeen
noncomputable def moreNames : List Str := ["way_within", "Thresholds", "law", "_law_refused"]
noncomputable def lookY (s : Shared) : Seen :=
  let mg := s.heap.nsMap mainGlobals
  let mb := s.heap.nsMap builtinsNs
  ([s.heap.isNs mainGlobals, s.heap.isNs builtinsNs, qnSee s.heap 686 "way_within"], (List.range 62).map (fun k => mg (nm k)) ++ moreNames.map mg,
   (List.range 62).map (fun k => fnSee s.heap (faL.getD k 91)) ++ [fnSee s.heap 686, fnSee s.heap 637, fnSee s.heap 728, fnSee s.heap 721],
   biList.map (fun p => (mg p.1, mb p.1)), glNames.map (fun x => (mg x).map vSee), [s.heap.tab0At 685, s.heap.tab0At 727], thrSee (fragOf s.heap [637, 639, 640]))
noncomputable def wantY : Seen :=
  ([true, true, true], (List.range 62).map (fun k => some (.ref (faL.getD k 91))) ++ [some (.ref 686), some (.ref 640), some (.ref 728), some (.ref 721)],
   (List.range 62).map (fun k => fnWant (recK k) (codeK k)) ++ [fnWant (recAt 108) 685, fnWant initR 636, fnWant (recAt 115) 727, fnWant (recAt 114) 720],
   biList.map (fun p => (none, some p.2)), glWant, [some 681, some 723], thrWant)
theorem run_look (w : World) (os : OsState) : (runT w os).map (fun r => (r.1, r.2.2.1, (staticsOk (importedModules pw.main.body) (boot_heap w.params) r.2.1.abs.heap && namesBound pw r.2.1.abs.heap && gensDone r.2.1.abs && laidKept (boot_heap w.params) r.2.1.abs.heap),
    Fast.tw4187177175401517315 qv looseL (importedModules pw.main.body) (fun _ => true) true r.2.1.abs, lookY r.2.1.abs)) = some (.next, .body (behindTheImports pw) env0, true, openGood qv looseL, wantY) := by kernel_rfl
end Mine

set_option autoImplicit false
set_option linter.all false
set_option maxRecDepth 100000
namespace Mine
open PySem PySem.W PySem.Calls PyProof.Rows

theorem open_plain : opening pw = plainProg pw.main.scope.names := by kernel_rfl
theorem fence_plain (s : Shared) : fenceModules? pw s = some s := by kernel_rfl
theorem boot_facts (w : World) : ((boot_heap w.params).isNs mainGlobals, (boot_heap w.params).objs.size, (boot_heap w.params).nsMap mainGlobals "__annotations__") = (true, 11, some (.ref 6)) := by kernel_rfl
theorem block_run (w : World) (s : Shared) : segRun treeTable pw w 11 (some (.ref 6)) 1 1 s (blockOf (behindTheImports pw) env0 (.body (behindTheImports pw) env0) pos0 [topFrame pos0]) = some (.next, s, .body (behindTheImports pw) env0, pos0) := by kernel_rfl
theorem fin_run (w : World) (s : Shared) (c : Code) (p : Pos) : topRun treeTable pw w 11 (some (.ref 6)) 2 s (restOf [] env0 c p [topFrame pos0]) = some s := by kernel_rfl
theorem pre_run (w : World) (os : OsState) : topGo treeTable pw w 11 (some (.ref 6)) 12 (bootS w os) (topStub pw) = some (preS w os, ⟨denote treeTable (.body (behindTheImports pw) env0), .body (behindTheImports pw) env0, pos0, [topFrame pos0]⟩) := by
  have h := pre_eq w os
  unfold preR at h
  rw [← Fast.te15667345088766844465, ← Fast.te14364793385576792824, ← Fast.te11892475500146522536] at h
  exact h
theorem run_of {p : Program} {w : World} {n₀ n : Nat} {ann : Option Value} {env : Env} {q pos p' : Pos} {c : Code} {b : List Stmt} {s₀ s₁ s₂ : Shared} {t : Thread} (pre : topGo treeTable p w n₀ ann 12 s₀ t = some (s₁, ⟨denote treeTable (.body b env), c, pos, [topFrame q]⟩))
    (block : segRun treeTable p w n₀ ann 1 1 s₁ (blockOf b env c pos [topFrame q]) = some (.next, s₁, c, pos)) (h : segRun treeTable p w n₀ ann 1 n s₁ (piecesOf b env c pos [topFrame q]) = some (.next, s₂, c, p'))
    (fin : topRun treeTable p w n₀ ann 2 s₂ (restOf [] env c p' [topFrame q]) = some s₂) : topRun treeTable p w n₀ ann (12 + (1 + (n + 2))) s₀ t = some s₂ := by
  refine go_top pre (piece_block block ?_)
  have := piece_app (rest := []) h fin
  rwa [List.append_nil] at this
theorem looks_of {p q : Program} {loose : List Str} {w : World} {n₀ n : Nat} {ann : Option Value} {T : SharedT} {th : Thread} {h₀ : Heap} {c : Code} {A : Type} {Y : Shared → A} {y : A} {g : _}
    (h : (segRunT treeTable p w n₀ ann 1 n T th).map (fun r => (r.1, r.2.2.1, (staticsOk (importedModules p.main.body) h₀ r.2.1.abs.heap && namesBound p r.2.1.abs.heap && gensDone r.2.1.abs && laidKept h₀ r.2.1.abs.heap),
      openSeen q loose (importedModules p.main.body) (fun _ => true) true r.2.1.abs, Y r.2.1.abs)) = some (.next, c, true, g, y)) :
    ∃ s p', segRun treeTable p w n₀ ann 1 n T.abs th = some (.next, s, c, p') ∧ (staticsOk (importedModules p.main.body) h₀ s.heap && namesBound p s.heap && gensDone s && laidKept h₀ s.heap) = true ∧
      openSeen q loose (importedModules p.main.body) (fun _ => true) true s = g ∧ Y s = y := by
  obtain ⟨⟨f, s, c', p'⟩, h1, h2⟩ := Option.map_eq_some_iff.mp h
  obtain ⟨e1, h2⟩ := Prod.mk.inj h2
  obtain ⟨e0, h2⟩ := Prod.mk.inj h2
  obtain ⟨e2, h2⟩ := Prod.mk.inj h2
  obtain ⟨e3, e4⟩ := Prod.mk.inj h2
  have e1 : f = .next := e1
  have e0 : c' = c := e0
  subst e1 e0
  exact ⟨s.abs, p', segRun_of h1, e2, e3, e4⟩
theorem top_run (w : World) (os : OsState) : ∃ s, topRun treeTable pw w 11 (some (.ref 6)) (12 + (1 + (4470 + 2))) (bootS w os) (topStub pw) = some s ∧
    (staticsOk (importedModules pw.main.body) (boot_heap w.params) s.heap && namesBound pw s.heap && gensDone s && laidKept (boot_heap w.params) s.heap) = true ∧ openSeen qv looseL (importedModules pw.main.body) (fun _ => true) true s = openGood qv looseL ∧ lookY s = wantY := by
  have h := run_look w os
  unfold runT at h
  rw [← Fast.te10110043849684766642, ← Fast.te14364793385576792824, ← Fast.te4187177175401517315] at h
  obtain ⟨s, p, r, l⟩ := looks_of h
  rw [← abs1] at r
  exact ⟨s, run_of (pre_run w os) (block_run w _) r (fin_run w s _ p), l⟩
theorem topFrom_of {tb : String → Option Builtin} {p : Program} {w : World} {N n : Nat} {s₀ s₁ : Shared} {ann : Option Value} (h1 : s₀.heap.isNs mainGlobals = true) (h2 : s₀.gens.size = 0) (h3 : s₀.heap.objs.size = n) (h4 : s₀.heap.nsMap mainGlobals "__annotations__" = ann)
    (r : topRun tb p w n ann N s₀ (topStub p) = some s₁) (l : (staticsOk (importedModules p.main.body) s₀.heap s₁.heap && namesBound p s₁.heap && gensDone s₁ && laidKept s₀.heap s₁.heap) = true) : topFrom tb p w N s₀ = some s₁ := by
  unfold topFrom
  rw [h1, h2, h3, h4]
  show (topRun tb p w n ann N s₀ (topStub p)).bind _ = _
  rw [r]
  show (match (staticsOk (importedModules p.main.body) s₀.heap s₁.heap && namesBound p s₁.heap && gensDone s₁ && laidKept s₀.heap s₁.heap) with | true => _ | false => _) = _
  rw [l]
theorem left_of {p q : Program} {loose : List Str} {Xt : Shared → Bool} {α : Type} {Yf : Shared → α} {Ya : World → α} {N n k : Nat} {w : World} {ann : Option Value} {H₀ : Params → Heap} {d₀ : Drawn} {k₀ : Nat} (hN : n + k = N)
    (e : (fencedOpening treeTable p w N).map (fun s => (s.heap, s.gens, s.drawn, s.toks)) = some (H₀ w.params, Array.mk [], d₀, k₀)) {m : Nat} (z : ((H₀ w.params).isNs mainGlobals, (H₀ w.params).objs.size, (H₀ w.params).nsMap mainGlobals "__annotations__") = (true, m, ann))
    (H : ∀ os, ∃ s, topRun treeTable p w m ann n ⟨H₀ w.params, Array.mk [], d₀, k₀, os⟩ (topStub p) = some s ∧ (staticsOk (importedModules p.main.body) (H₀ w.params) s.heap && namesBound p s.heap && gensDone s && laidKept (H₀ w.params) s.heap) = true ∧
      openSeen q loose (importedModules p.main.body) Xt true s = openGood q loose ∧ Yf s = Ya w) : (openEnds treeTable p w N).map (fun s => (openSeen q loose (importedModules p.main.body) Xt true s, Yf s)) = some (openGood q loose, Ya w) := by
  obtain ⟨⟨h, gs, d, k', os⟩, e, e'⟩ := Option.map_eq_some_iff.mp e
  obtain ⟨e1, e'⟩ := Prod.mk.inj e'
  obtain ⟨e2, e'⟩ := Prod.mk.inj e'
  obtain ⟨e3, e4⟩ := Prod.mk.inj e'
  have e : fencedOpening treeTable p w N = some ⟨H₀ w.params, Array.mk [], d₀, k₀, os⟩ := by
    rw [e, show h = _ from e1, show gs = _ from e2, show d = _ from e3, show k' = _ from e4]
  obtain ⟨z1, z2⟩ := Prod.mk.inj z
  obtain ⟨z2, z3⟩ := Prod.mk.inj z2
  obtain ⟨s, r, l1, l2, l3⟩ := H os
  have t : topFrom treeTable p w N ⟨H₀ w.params, Array.mk [], d₀, k₀, os⟩ = some s := topFrom_of z1 rfl z2 z3 (by subst hN; exact topRun_mono k _ _ _ _ r) l1
  unfold openEnds
  rw [e]
  show (topFrom treeTable p w N ⟨H₀ w.params, Array.mk [], d₀, k₀, os⟩).map _ = _
  rw [t]
  exact congrArg some (Prod.ext l2 l3)
theorem left_ok : LeftO pw qv looseL (fun _ => true) lookY (fun _ => wantY) 9048 := fun w =>
  left_of (q := qv) (loose := looseL) (Xt := fun _ => true) (Yf := lookY) (Ya := fun _ => wantY) (n := 12 + (1 + (4470 + 2))) (k := 4563) (by decide) (boot_open (N := 9048) open_plain (by decide) fence_plain w) (boot_facts w) fun os => by have := top_run w os; unfold bootS at this; exact this
end Mine

set_option autoImplicit false
set_option linter.all false
set_option maxRecDepth 100000
namespace Mine
open PySem PySem.W PySem.Calls PyProof.Rows

/-! what stands behind the top -/
noncomputable def FnIs (h : Heap) (a : Addr) (r : Arguments × List Stmt × Scope) (c : Addr) : Prop := ∃ o fd, h.get? a = some o ∧ o.data = .func fd ∧ fd.params = r.1 ∧ fd.body = .stmts r.2.1 ∧ fd.scope = r.2.2 ∧ fd.globals = mainGlobals ∧ fd.closure = [] ∧ fd.builtins = builtinsNs ∧ fd.code = .ref c ∧
  h.CodeRec fd.code fd.qualname ∧ fd.defaults = .none ∧ fd.kwdefaults = .none
theorem FnIs.keeps {h h' : Heap} {a c : Addr} {r : Arguments × List Stmt × Scope} (x : FnIs h a r c) (k : ∀ b o, h.get? b = some o → h'.get? b = some o) : FnIs h' a r c :=
  let ⟨o, fd, e, d, p1, p2, p3, p4, p5, p6, p7, p8, p9⟩ := x; ⟨o, fd, k _ _ e, d, p1, p2, p3, p4, p5, p6, p7, p8.keeps k, p9⟩
theorem isNone_eq {v : Value} (h : isNone v = true) : v = .none := by cases v <;> first | rfl | cases h
theorem codeSee_of {h : Heap} {fd : FuncData} (e : codeSee h fd = true) : h.CodeRec fd.code fd.qualname := by
  unfold codeSee at e
  split at e
  · rename_i c hc
    split at e
    · rename_i oc ho
      split at e
      · rename_i vs hd
        split at e
        · rename_i q t hv
          exact ⟨c, oc, vs, t, hc, ho, hd, of_decide_eq_true e ▸ hv⟩
        · cases e
      · cases e
    · cases e
  · cases e
theorem fnIs_of {h : Heap} {a c : Addr} {r : Arguments × List Stmt × Scope} (e : fnSee h a = fnWant r c) : FnIs h a r c := by
  unfold fnSee fnWant at e
  split at e
  · rename_i o ho
    split at e
    · rename_i fd hd
      have e := Option.some.inj e
      obtain ⟨e1, e⟩ := Prod.mk.inj e
      obtain ⟨e2, e⟩ := Prod.mk.inj e
      obtain ⟨e3, e⟩ := Prod.mk.inj e
      obtain ⟨e4, e⟩ := Prod.mk.inj e
      obtain ⟨e5, e⟩ := Prod.mk.inj e
      obtain ⟨e6, e⟩ := Prod.mk.inj e
      obtain ⟨e7, e⟩ := Prod.mk.inj e
      obtain ⟨e, e9⟩ := band e
      obtain ⟨e, e8⟩ := band e
      exact ⟨o, fd, ho, hd, e1, e2, e3, e4, e5, e6, e7, codeSee_of e, isNone_eq e8, isNone_eq e9⟩
    · cases e
  · cases e
theorem fragOf_in (h : Heap) : ∀ as : List Addr, (fragOf h as).In h
  | [] => fun a o e => nomatch e
  | b :: as => fun a o e => by
    unfold fragOf at e
    rw [List.filterMap_cons] at e
    cases hb : h.get? b with
    | none => rw [hb] at e; exact fragOf_in h as a o e
    | some x =>
      rw [hb] at e
      have e : List.lookup a ((b, x) :: fragOf h as) = some o := e
      rw [List.lookup_cons] at e
      split at e
      · rename_i hab
        rw [eq_of_beq hab, hb, Option.some.inj e]
      · exact fragOf_in h as a o e

theorem fragOf_key (h : Heap) : ∀ (as : List Addr) (a : Addr) (o : Obj), (fragOf h as).lookup a = some o → a ∈ as
  | [], a, o, e => nomatch e
  | b :: as, a, o, e => by
    unfold fragOf at e
    rw [List.filterMap_cons] at e
    cases hb : h.get? b with
    | none => rw [hb] at e; exact .tail _ (fragOf_key h as a o e)
    | some x =>
      rw [hb] at e
      have e : List.lookup a ((b, x) :: fragOf h as) = some o := e
      rw [List.lookup_cons] at e
      split at e
      · rename_i hab
        rw [eq_of_beq hab]; exact .head _
      · exact .tail _ (fragOf_key h as a o e)
theorem qnSee_of {h : Heap} {a : Addr} {q : Str} (e : qnSee h a q = true) : ∀ o fd, h.get? a = some o → o.data = .func fd → fd.qualname = q := fun o fd h1 h2 => by
  unfold qnSee at e
  rw [h1] at e
  dsimp only at e
  rw [h2] at e
  exact of_decide_eq_true e
structure Facts (mg mb : Str → Option Value) (h : Heap) : Prop where
  g : h.Ns mainGlobals mg
  b : h.Ns builtinsNs mb
  nmK : ∀ k, k < 62 → mg (nm k) = some (.ref (faL.getD k 91))
  ww : mg "way_within" = some (.ref 686)
  thrN : mg "Thresholds" = some (.ref 640)
  law : mg "law" = some (.ref 728)
  ref : mg "_law_refused" = some (.ref 721)
  fnK : ∀ k, k < 62 → FnIs h (faL.getD k 91) (recK k) (codeK k)
  wwF : FnIs h 686 (recAt 108) 685
  wwQ : ∀ o fd, h.get? 686 = some o → o.data = .func fd → fd.qualname = "way_within"
  initF : FnIs h 637 initR 636
  lawF : FnIs h 728 (recAt 115) 727
  refF : FnIs h 721 (recAt 114) 720
  bi : ∀ p ∈ biList, mg p.1 = none ∧ mb p.1 = some p.2
  gls : glNames.map (fun x => (mg x).map vSee) = glWant
  tab1 : h.IsCode 685 681 #[] ∧ h.TableAt 685 681 #[]
  tab2 : h.IsCode 727 723 #[] ∧ h.TableAt 727 723 #[]
  thr : ∃ K : Frag, K.In h ∧ (∀ a o, K.lookup a = some o → a ∈ [637, 639, 640]) ∧ thrSee K = thrWant
theorem Facts.keeps {mg mb : Str → Option Value} {h h' : Heap} (x : Facts mg mb h) (k : ∀ b o, h.get? b = some o → h'.get? b = some o) : Facts mg mb h' :=
  ⟨x.g.keeps k, x.b.keeps k, x.nmK, x.ww, x.thrN, x.law, x.ref, fun i hi => (x.fnK i hi).keeps k, x.wwF.keeps k, (fun o fd e d => let ⟨o', fd', e', d', _⟩ := x.wwF; by have e2 := k _ _ e'; rw [e] at e2; cases e2; exact x.wwQ _ fd e' d), x.initF.keeps k, x.lawF.keeps k, x.refF.keeps k, x.bi, x.gls, ⟨x.tab1.1.keeps k, x.tab1.2.keeps k⟩, ⟨x.tab2.1.keeps k, x.tab2.2.keeps k⟩, let ⟨K, a, b, c⟩ := x.thr; ⟨K, a.keeps k, b, c⟩⟩

theorem range_at {α : Type} {f g : Nat → α} {n : Nat} (h : (List.range n).map f = (List.range n).map g) (k : Nat) (hk : k < n) : f k = g k := by
  have := congrArg (fun l => l[k]?) h
  simp only [List.getElem?_map, List.getElem?_range hk, Option.map_some] at this
  exact Option.some.inj this
theorem app_of {α : Type} {a b c d : List α} (h : a ++ b = c ++ d) (hl : a.length = c.length) : a = c ∧ b = d := List.append_inj h hl
theorem cons4 {α : Type} {a b c d a' b' c' d' : α} (h : [a, b, c, d] = [a', b', c', d']) : a = a' ∧ b = b' ∧ c = c' ∧ d = d' := by
  cases h; exact ⟨rfl, rfl, rfl, rfl⟩
theorem all_at {α β : Type} {f g : α → β} : ∀ {l : List α}, l.map f = l.map g → ∀ x ∈ l, f x = g x
  | _ :: _, h, x, hx => by
    rcases List.mem_cons.mp hx with rfl | hx
    · exact (List.cons.inj h).1
    · exact all_at (List.cons.inj h).2 x hx
theorem len_range {α : Type} (f g : Nat → α) (n : Nat) : ((List.range n).map f).length = ((List.range n).map g).length := by rw [List.length_map, List.length_map]
theorem facts_of {s : Shared} (e : lookY s = wantY) : Facts (s.heap.nsMap mainGlobals) (s.heap.nsMap builtinsNs) s.heap := by
  obtain ⟨e0, e⟩ := Prod.mk.inj e
  obtain ⟨e1, e⟩ := Prod.mk.inj e
  obtain ⟨e2, e⟩ := Prod.mk.inj e
  obtain ⟨e3, e⟩ := Prod.mk.inj e
  obtain ⟨e4, e⟩ := Prod.mk.inj e
  obtain ⟨e5, e6⟩ := Prod.mk.inj e
  obtain ⟨i1, i2⟩ := List.cons.inj e0
  obtain ⟨i2, i3⟩ := List.cons.inj i2
  obtain ⟨i3, _⟩ := List.cons.inj i3
  obtain ⟨a1, a2⟩ := app_of e1 (len_range _ _ 62)
  obtain ⟨a3, a4, a5, a6⟩ := cons4 a2
  obtain ⟨b1, b2⟩ := app_of e2 (len_range _ _ 62)
  obtain ⟨b3, b4, b5, b6⟩ := cons4 b2
  obtain ⟨t1, t2⟩ := List.cons.inj e5
  obtain ⟨t2, _⟩ := List.cons.inj t2
  exact ⟨.of_isNs i1, .of_isNs i2, range_at a1, a3, a4, a5, a6, fun k hk => fnIs_of (range_at b1 k hk), fnIs_of b3, qnSee_of i3, fnIs_of b4, fnIs_of b5, fnIs_of b6, fun p hp => Prod.mk.inj (all_at e3 p hp), e4, Heap.tab0At_spec t1, Heap.tab0At_spec t2, _, fragOf_in _ _, fun a o e => fragOf_key _ _ a o e, e6⟩
end Mine

set_option autoImplicit false
set_option linter.all false
set_option maxRecDepth 100000
namespace Mine
open PySem PySem.W PySem.Calls PyProof.Rows
theorem lookup_zip_some {x : Str} : ∀ {xs : List Str} {vs : List Value}, x ∈ xs → xs.length ≤ vs.length → ((xs.zip vs).lookup x).isSome = true
  | y :: xs, v :: vs, hx, hl => by
    rw [List.zip_cons_cons, List.lookup_cons]
    split
    · rfl
    · rename_i hn
      rcases List.mem_cons.mp hx with rfl | hx
      · rw [beq_self_eq_true] at hn; cases hn
      · exact lookup_zip_some hx (Nat.le_of_succ_le_succ hl)
  | [], _, hx, _ => nomatch hx
  | _ :: _, [], _, hl => nomatch hl
theorem lookup_self : ∀ {xs : List Str} {vs : List Value} {pre : List (Str × Value)}, xs.Nodup → xs.length = vs.length → (∀ x ∈ xs, pre.lookup x = none) → xs.filterMap (fun n => ((pre ++ xs.zip vs).lookup n).map (n, ·)) = xs.zip vs
  | [], _, _, _, _, _ => rfl
  | x :: xs, v :: vs, pre, hd, hl, hp => by
    rw [List.filterMap_cons]
    have e : (pre ++ (x :: xs).zip (v :: vs)).lookup x = some v := by
      rw [List.lookup_append, hp x (.head _), List.zip_cons_cons, List.lookup_cons, beq_self_eq_true]; rfl
    rw [e]
    show (x, v) :: _ = _
    rw [List.zip_cons_cons]
    congr 1
    have := @lookup_self xs vs (pre ++ [(x, v)]) (List.nodup_cons.mp hd).2 (Nat.succ.inj hl) fun y hy => by
      rw [List.lookup_append, hp y (.tail _ hy), List.lookup_cons]
      have : (y == x) = false := beq_eq_false_iff_ne.mpr fun e => (List.nodup_cons.mp hd).1 (e ▸ hy)
      rw [this]; rfl
    rw [List.append_assoc] at this
    exact this
theorem bind_plain {fd : FuncData} {xs : List Str} (h : plainPars fd.params xs = true) (hd : xs.Nodup) (h1 : fd.defaults = .none) (h2 : fd.kwdefaults = .none) (vals : List Value) (hl : vals.length = xs.length) : bindArgs fd ⟨vals, []⟩ = pure (xs.zip vals) := by
  obtain ⟨nm, qn, ⟨po, ar, va, ko, kd, kw, df⟩, bd, sc, gl, cl, dd, dk, dc, pm, an, cd, ct, bi⟩ := fd
  unfold plainPars at h
  obtain ⟨h, e7⟩ := band h
  obtain ⟨h, e6⟩ := band h
  obtain ⟨h, e5⟩ := band h
  obtain ⟨h, e4⟩ := band h
  obtain ⟨h, e3⟩ := band h
  obtain ⟨e1, e2⟩ := band h
  have f1 : po = [] := List.isEmpty_iff.mp e1
  have f2 : va = none := Option.isNone_iff_eq_none.mp e2
  have f3 : ko = [] := List.isEmpty_iff.mp e3
  have f5 : kw = none := Option.isNone_iff_eq_none.mp e5
  have f7 : ar.map (·.arg) = xs := eq_of_beq e7
  have g1 : dd = .none := h1
  have g2 : dk = .none := h2
  clear e1 e2 e3 e5 e6 e4 e7 h1 h2; subst f1 f2 f3 f5 g1 g2
  have hx : ∀ x ∈ xs, ((xs.zip vals).lookup x).isNone = false := fun x hx => by
    have := lookup_zip_some hx (Nat.le_of_eq hl.symm)
    cases q : (xs.zip vals).lookup x with
    | none => rw [q] at this; cases this
    | some v => rfl
  have hf : (xs.filter fun n => ((xs.zip vals).lookup n).isNone) = [] := List.filter_eq_nil_iff.mpr fun x h => by rw [hx x h]; exact Bool.false_ne_true
  have hs := lookup_self (pre := []) hd hl.symm fun _ _ => rfl
  unfold bindArgs
  simp only [List.map_nil, List.nil_append, f7, hl, seqItems?, gt_iff_lt, Nat.lt_irrefl, decide_false, Bool.false_and]
  simp [hf, hs, hl]
  show (fun a => List.filterMap _ xs) <$> (pure _ : Sem _) = _
  exact congrArg (fun x => (pure x : Sem (List (Str × Value)))) hs
end Mine

set_option autoImplicit false
set_option linter.all false
set_option maxRecDepth 100000
namespace Mine
open PySem PySem.W PySem.Calls PyProof.Rows

/-! the world of names, and the functions' texts -/
noncomputable def posOf : Option Stmt → Pos
  | some (.FunctionDef _ _ _ _ _ _ _ _ _ p) => p
  | _ => pos0
noncomputable def withinS : Option Stmt := (recAt 108).2.1.head?
noncomputable def withinR : Arguments × List Stmt × Scope := recOf withinS
noncomputable def withinQ : Str := "way_within.<locals>.within"
noncomputable def withinFd : FuncData := { name := "within", qualname := withinQ, params := withinR.1, body := .stmts withinR.2.1, scope := withinR.2.2, globals := mainGlobals, closure := [], defaults := .none, kwdefaults := .none, builtins := builtinsNs }
noncomputable def TabIs (q : Pos) (nm : Str) (G : PH) (o : Obj) : Prop := ∃ ps : Array Value, o = { cls := .none, data := .fields ps } ∧ TriplesOk ps.toList ∧ (codeAmong q ps.toList = none ∨ ∃ c oc vs t, codeAmong q ps.toList = some (.ref c) ∧ G c = some oc ∧ oc.data = .fields vs ∧ vs[1]? = some (.str nm t))
theorem TabIs.mono {q : Pos} {nm : Str} {G G' : PH} {o : Obj} (h : Sub G G') (x : TabIs q nm G o) : TabIs q nm G' o := by
  obtain ⟨ps, a, b, c⟩ := x
  exact ⟨ps, a, b, c.imp id fun ⟨c, oc, vs, t, e1, e2, e3⟩ => ⟨c, oc, vs, t, e1, h _ _ e2, e3⟩⟩
noncomputable def mkK (w : World) (h : Heap) (cOut : Addr) (mg mb : Str → Option Value) : Cfg :=
  { prog := pw, w, hT := hide h [681, 723], fa := fun k => faL.getD k 91, cThr := 640, cOut, within := withinFd, mg, mb, pT := 681, TabOk := TabIs (posOf withinS) withinQ, tabMono := fun _ _ _ h x => TabIs.mono h x }

section
variable {h : Heap} {mg mb : Str → Option Value} {w : World} {cOut : Addr}
theorem hid (F : Facts mg mb h) {b : Addr} {o : Obj} (e : h.get? b = some o) (hn : o ≠ { cls := .none, data := .fields #[] }) : (hide h [681, 723]).get? b = some o := by
  refine (hide_out fun hm => hn ?_).trans e
  rcases List.mem_cons.mp hm with rfl | hm
  · exact Option.some.inj (e.symm.trans F.tab1.2.2)
  · rw [List.mem_singleton.mp hm] at e
    exact Option.some.inj (e.symm.trans F.tab2.2.2)
theorem hid_ns (F : Facts mg mb h) {a : Addr} {m : Str → Option Value} (x : h.Ns a m) : (hide h [681, 723]).Ns a m :=
  let ⟨o, es, ep, e, d, r⟩ := x; ⟨o, es, ep, hid F e (fun q => by rw [q] at d; cases d), d, r⟩
theorem hid_fn (F : Facts mg mb h) {a c : Addr} {r : Arguments × List Stmt × Scope} (x : FnIs h a r c) : FnIs (hide h [681, 723]) a r c := by
  obtain ⟨o, fd, e, d, p1, p2, p3, p4, p5, p6, p7, ⟨c', oc, vs, t, q1, q2, q3, q4⟩, p9⟩ := x
  exact ⟨o, fd, hid F e (fun q => by rw [q] at d; cases d), d, p1, p2, p3, p4, p5, p6, p7, ⟨c', oc, vs, t, q1, hid F q2 (fun q => by rw [q] at q3; cases q3; cases q4), q3, q4⟩, p9⟩
theorem nm_out {k : Nat} (hk : ¬ k < 62) : nm k = nm 0 ∧ faL.getD k 91 = faL.getD 0 91 := by
  have h1 : nmL.length = 62 := by decide +kernel
  have h2 : faL.length = 62 := by decide +kernel
  unfold nm
  rw [List.getD_eq_getElem?_getD, List.getElem?_eq_none (by (first | grind | omega)), List.getD_eq_getElem?_getD (l := faL) (i := k), List.getElem?_eq_none (by (first | grind | omega))]
  exact ⟨by decide +kernel, by decide +kernel⟩
theorem vSee_rep {K : Cfg} {d : D} {v : Value} (G : PH) (h : vSee v = d) (hd : (∃ i, d = .int i) ∨ ∃ s, d = .str s) : Rep K G d v := by
  subst h
  cases v with
  | int i t => exact ⟨t, rfl⟩
  | str s t => exact ⟨t, rfl⟩
  | _ => rcases hd with ⟨_, h⟩ | ⟨_, h⟩ <;> cases h
theorem glAt {i : Nat} {x : Str} {d : D} (F : Facts mg mb h) (h1 : glNames[i]? = some x) (h2 : glWant[i]? = some (some d)) : ∃ v, mg x = some v ∧ vSee v = d := by
  have := congrArg (fun l => l[i]?) F.gls
  simp only [List.getElem?_map, h1, h2, Option.map_some] at this
  exact Option.map_eq_some_iff.mp (Option.some.inj this)
theorem wld (F : Facts mg mb h) (hl : h.NoLimit) : Wld (mkK w h cOut mg mb) := by
  refine ⟨hid_ns F F.g, hid_ns F F.b, let ⟨mc, a, b⟩ := hl; ⟨mc, hid_ns F a, b⟩, fun k => ?_, fun g => ?_, fun x v hm => F.bi (x, v) hm⟩
  · have at_ : ∀ k, k < 62 → mg (nm k) = some (.ref (faL.getD k 91)) ∧ ∃ o fd, (hide h [681, 723]).get? (faL.getD k 91) = some o ∧ o.data = .func fd := fun k hk => by
      obtain ⟨o, fd, e, d, _⟩ := hid_fn F (F.fnK k hk)
      exact ⟨F.nmK k hk, o, fd, e, d⟩
    by_cases hk : k < 62
    · exact at_ k hk
    · show mg (nm k) = some (.ref (faL.getD k 91)) ∧ ∃ o fd, (hide h [681, 723]).get? (faL.getD k 91) = some o ∧ o.data = .func fd
      rw [(nm_out hk).1, (nm_out hk).2]
      exact at_ 0 (by decide)
  · match g with
    | 0 => obtain ⟨v, e, r⟩ := glAt (i := 0) (x := gn 0) (d := gl 0) F rfl rfl; exact ⟨v, e, fun G => vSee_rep G r (.inr ⟨_, rfl⟩)⟩
    | 1 => obtain ⟨v, e, r⟩ := glAt (i := 1) (x := gn 1) (d := gl 1) F rfl rfl; exact ⟨v, e, fun G => vSee_rep G r (.inl ⟨_, rfl⟩)⟩
    | g + 2 => obtain ⟨v, e, r⟩ := glAt (i := 2) (x := gn 2) (d := gl 2) F rfl rfl; exact ⟨v, e, fun G => vSee_rep G r (.inl ⟨_, rfl⟩)⟩

theorem isFunK_of {s : Scope} (h : isFunK s = true) : s.kind = .function ∧ s.isCoroutine = false ∧ s.isGenerator = false := by
  unfold isFunK at h
  split at h
  · rename_i hk
    exact ⟨hk, bnot (band h).1, bnot (band h).2⟩
  · cases h
theorem fnAt_of {K : Cfg} {k : Nat} {f : FnDef} {N : List Str} {r : Arguments × List Stmt × Scope} {c : Addr} (X : FnIs K.hT (K.fa k) r c) (ht : toB f.body N r.2.1 = r.2.1) (ho : okFn r.1 r.2.2 N f f.np = true) : ∃ o fd, FnAt K k f o fd r.2.1 N r.2.1 := by
  obtain ⟨o, fd, e, d, p1, p2, p3, p4, p5, p6, p7, p8, p9, p10⟩ := X
  unfold okFn at ho
  obtain ⟨ho, o9⟩ := band ho
  obtain ⟨ho, o8⟩ := band ho
  obtain ⟨ho, o7⟩ := band ho
  obtain ⟨ho, o6⟩ := band ho
  obtain ⟨ho, o5⟩ := band ho
  obtain ⟨ho, o4⟩ := band ho
  obtain ⟨ho, o3⟩ := band ho
  obtain ⟨o1, o2⟩ := band ho
  obtain ⟨k1, k2, k3⟩ := isFunK_of o1
  have nd : N.Nodup := of_decide_eq_true o3
  have len : N.length = f.ns := Nat.eq_of_beq_eq_true o5
  have np : f.np ≤ f.ns := Nat.le_of_ble_eq_true o6
  have tk : (N.take f.np).length = f.np := by rw [List.length_take, len]; exact Nat.min_eq_left np
  refine ⟨o, fd, ⟨e, d, p8, p2, p5, p4, p6, by rw [p3]; exact k1, by rw [p3]; exact k2, by rw [p3]; exact k3, nd, o4, len, np, fun vals hv => bind_plain (by rw [p1]; exact o2) (nd.sublist (List.take_sublist _ _)) p9 p10 vals (hv.trans tk.symm), fun x hx => ?_, fun hf => ?_, fun n x hx => Option.isSome_iff_exists.mp (cellsFrom_some _ _ _ (.inl hx))⟩, ht, by rw [p3]; exact o9⟩
  · rw [p3]
    exact (Bool.or_eq_true_iff.mp (List.all_eq_true.mp o7 x hx)).imp eq_of_beq eq_of_beq
  · rw [hf] at o8
    obtain ⟨q1, q2⟩ := band o8
    have h1 : 1 ≤ f.np := Nat.le_of_ble_eq_true q2
    cases N with
    | nil => have len : 0 = f.ns := len; (first | grind | omega)
    | cons x N => exact ⟨x, rfl, by rw [p3]; exact eq_of_beq (List.all_eq_true.mp q1 x (.head _)), h1⟩
noncomputable def tbl (k : Nat) : Option FnDef := if k < 62 then some (fnK k) else none
theorem withinN : ([ "x", "y", "width", "many", "told"] : List String).map Str.ofString = [("x" : Str), "y", "width", "many", "told"] := rfl
noncomputable def nsW : List Str := ["x", "y", "width", "many", "told"]
noncomputable def okClo (r : Arguments × List Stmt × Scope) : Bool := isFunK r.2.2 && plainPars r.1 (nsW.take 3) && decide nsW.Nodup && nsW.all plainNm && (nsW.take 3).all (fun x => r.2.2.names.lookup x == some .local) && r.2.2.names.all (fun x => x.2 != .cell) &&
  (r.2.2.names.lookup ("many" : Str) == some NameKind.free && r.2.2.names.lookup ("told" : Str) == some NameKind.free) && okB f_within.body ⟨nsW, fun x => r.2.2.names.lookup x, false⟩
theorem okW : okClo withinR = true := by kernel_rfl
theorem textW : toB f_within.body nsW [] = withinR.2.1 := by kernel_rfl
theorem cloAt : CloAt (mkK w h cOut mg mb) f_within 3 withinR.2.1 nsW [] := by
  have ho := okW
  unfold okClo at ho
  obtain ⟨ho, o9⟩ := band ho
  obtain ⟨ho, o8⟩ := band ho
  obtain ⟨ho, o7⟩ := band ho
  obtain ⟨ho, o6⟩ := band ho
  obtain ⟨ho, o5⟩ := band ho
  obtain ⟨ho, o4⟩ := band ho
  obtain ⟨o1, o2⟩ := band ho
  obtain ⟨k1, k2, k3⟩ := isFunK_of o1
  have nd : nsW.Nodup := of_decide_eq_true o4
  refine ⟨rfl, rfl, rfl, k1, k2, k3, fun x hx => bne_iff_ne.mp (List.all_eq_true.mp o7 x hx), nd, o5, rfl, by decide +kernel, rfl, fun fd L vals hv => ?_, fun x hx => eq_of_beq (List.all_eq_true.mp o6 x hx), ⟨rfl, eq_of_beq (band o8).1⟩, ⟨rfl, eq_of_beq (band o8).2⟩, textW, o9⟩
  obtain ⟨_, lp, _, _, _, _, l7, l8⟩ := L
  exact bind_plain (by rw [lp]; exact o2) (nd.sublist (List.take_sublist _ _)) l7 l8 vals hv
theorem tblOk (F : Facts mg mb h) : TblOk (mkK w h cOut mg mb) tbl f_within := by
  refine ⟨fun k f e => ?_, _, _, _, _, cloAt⟩
  unfold tbl at e
  split at e
  · rename_i hk
    cases e
    obtain ⟨o, fd, A⟩ := fnAt_of (K := mkK w h cOut mg mb) (hid_fn F (F.fnK k hk)) (range_at texts k hk) (List.all_eq_true.mp okAll k (List.mem_range.mpr hk))
    exact ⟨o, fd, _, _, _, A⟩
  · cases e
end
end Mine

set_option autoImplicit false
set_option linter.all false
set_option maxRecDepth 100000
namespace Mine
open PySem PySem.W PySem.Calls PyProof.Rows

/-! way_within -/
noncomputable def wwR : Arguments × List Stmt × Scope := recAt 108
theorem wwBody : wwR.2.1 = [.FunctionDef "within" withinR.1 withinR.2.1 [] none [] withinR.2.2 none "within" (posOf withinS), .Return (some (.Name "within" ⟨518, 11, 518, 17⟩)) ⟨518, 4, 518, 17⟩] := by kernel_rfl
noncomputable def okWw : Bool := isFunK wwR.2.2 && plainPars wwR.1 ["told", "many"] && (wwR.2.2.names.lookup ("told" : Str) == some NameKind.cell && wwR.2.2.names.lookup ("many" : Str) == some NameKind.cell && wwR.2.2.names.lookup ("within" : Str) == some NameKind.local)
theorem ww_ok : okWw = true := by kernel_rfl
theorem ww_anns (env : Env) : annTrees withinR.1 none env = [] := by kernel_rfl
theorem ww_defs : withinR.1.defaults = [] ∧ withinR.1.kw_defaults = [] := ⟨by kernel_rfl, by kernel_rfl⟩
noncomputable def wwEnv (L a c : Addr) (qn : Str) : Env := newEnv wwR.2.2 L mainGlobals (cellsFrom (L + 1) wwR.2.2.names []) (qn ++ ".<locals>.") (some a) (.ref c) none builtinsNs
theorem ww_clos (L a c : Addr) (qn : Str) : closureFor withinR.2.2 (wwEnv L a c qn) = pure [(("told" : Str), L + 1), (("many" : Str), L + 2)] := by kernel_rfl
theorem ww_cells (L a c : Addr) (qn : Str) : (wwEnv L a c qn).cells.lookup ("told" : Str) = some (L + 1) ∧ (wwEnv L a c qn).cells.lookup ("many" : Str) = some (L + 2) := ⟨by kernel_rfl, by kernel_rfl⟩
theorem ww_qual (L a c : Addr) : qualnameIn (wwEnv L a c "way_within") "within" "within" = withinQ := by kernel_rfl

theorem tabIs_hit {q : Pos} {nm : Str} {G : PH} {ps : Array Value} (ht : TriplesOk ps.toList) {c : Addr} {oc : Obj} {vs : Array Value} {t : Nat} (hf : codeAmong q ps.toList = some (.ref c)) (e1 : G c = some oc) (e2 : oc.data = .fields vs) (e3 : vs[1]? = some (.str nm t)) : TabIs q nm G { cls := .none, data := .fields ps } :=
  ⟨ps, rfl, ht, .inr ⟨c, oc, vs, t, hf, e1, e2, e3⟩⟩
section
variable {h : Heap} {mg mb : Str → Option Value} {w : World} {cOut : Addr}
/-- what making the closure gives -/
theorem ww_make {A : Around} {E : Value → Shared → Prop} {G : PH} {s₁ : Shared} {L : Addr} {Q : Value → Shared → Prop} (F : Facts mg mb h) (hb : (hide h [681, 723]).BuiltinsAt mg 681) (top : ∀ b o, (hide h [681, 723]).get? b = some o → s₁.heap.get? b = some o)
    (inc : ∀ b o, G b = some o → s₁.heap.get? b = some o) (ht : ∃ o, s₁.heap.get? 681 = some o ∧ TabIs (posOf withinS) withinQ G o)
    (hQ : ∀ (c : Addr) (oc : Obj) (vs : Array Value) (t : Nat) (ctv doc : Value) (h' : Heap) (tk : Nat), (∀ b o, b ≠ 681 → s₁.heap.get? b = some o → h'.get? b = some o) → (c < h'.objs.size ∧ h'.get? c = some oc ∧ oc.data = .fields vs ∧ vs[1]? = some (.str withinQ t)) → (G c = some oc ∨ s₁.heap.objs.size ≤ c) →
      (∃ ps : Array Value, h'.get? 681 = some { cls := .none, data := .fields ps } ∧ TriplesOk ps.toList ∧ codeAmong (posOf withinS) ps.toList = some (.ref c)) → s₁.heap.objs.size ≤ h'.objs.size →
      Q (.ref h'.objs.size) { s₁ with heap := h'.push (fnMade "within" withinQ withinR.1 withinR.2.1 withinR.2.2 [(("told" : Str), L + 1), (("many" : Str), L + 2)] doc ((mg "__name__").getD .none) c ctv), toks := tk }) :
    WP (mkK w h cOut mg mb) A E (makeFunction "within" withinQ withinR.1 (.stmts withinR.2.1) withinR.2.2 (wwEnv L 686 685 "way_within") [] [] [] (posOf withinS) (posOf withinS).line) Q s₁ := by
  obtain ⟨o, e, ps, rfl, tr, hn⟩ := ht
  have C : CodeHd s₁.heap 685 681 := by
    obtain ⟨oc, vs, file, tf, flags, tg, inF, text, tt, q1, q2, q3, q4, r⟩ := CodeHd.of F.tab1.1 F.tab1.2
    exact ⟨oc, vs, file, tf, flags, tg, inF, text, tt, top _ _ (hid F q1 (fun q => by rw [q] at q2; cases q2)), q2, q3, q4, r⟩
  have hg : s₁.heap.Ns mainGlobals mg := (hid_ns F F.g).keeps top
  have hb : s₁.heap.BuiltinsAt mg 681 := hb.keeps top
  rcases hn with hn | ⟨c, oc, vs, t, hf, g1, g2, g3⟩
  · refine makeFunction_K (mg := mg) (ww_clos L 686 685 _) rfl hg rfl C e tr hn (by decide) hb fun c' ctv doc h' tk hx hge hlt hrec htb => ?_
    obtain ⟨c, oc, vs, t, q1, q2, q3, q4⟩ := hrec
    cases q1
    have hl : (ps ++ #[rawInt (posOf withinS).line, rawInt (posOf withinS).col, Value.ref c']).toList = ps.toList ++ [rawInt (posOf withinS).line, rawInt (posOf withinS).col, .ref c'] := by rw [Array.toList_append]
    exact hQ c' oc vs t ctv doc h' tk (fun b o hb e => hx b o hb e) ⟨hlt, q2, q3, q4⟩ (.inr hge) ⟨_, htb, by rw [hl]; exact TriplesOk_snoc _ _ _ _ tr, by rw [hl]; exact codeAmong_snoc _ tr hn⟩ (Nat.le_of_lt (Nat.lt_of_le_of_lt hge hlt))
  · refine makeFunction_hit (mg := mg) (ww_clos L 686 685 _) rfl hg rfl C e tr hf hb fun ctv doc h' tk hk hsz => ?_
    have e2 := hk _ _ (inc _ _ g1)
    exact hQ c oc vs t ctv doc h' tk (fun b o _ e => hk b o e) ⟨Heap.lt_size e2, e2, g2, g3⟩ (.inl g1) ⟨ps, hk _ _ e, tr, hf⟩ hsz
end
end Mine

set_option autoImplicit false
set_option linter.all false
set_option maxRecDepth 100000
namespace Mine
open PySem PySem.W PySem.Calls PyProof.Rows
section
variable {h : Heap} {mg mb : Str → Option Value} {w : World} {cOut : Addr}
theorem ext_ww (F : Facts mg mb h) (hl : h.NoLimit) (hb : (hide h [681, 723]).BuiltinsAt mg 681) {A : Around} {E : Value → Shared → Prop} {n : Nat} {G : PH} {s : Shared} {vs : List Value} {t : D} {m : Int} {Qv : Value → Shared → Prop}
    (I : CallIn (mkK w h cOut mg mb) A n G s) (rs : RepL (mkK w h cOut mg mb) G [t, .int m] vs) (hQ : Ret (mkK w h cOut mg mb) G s (.clo t m) Qv) : WP (mkK w h cOut mg mb) A E (call (.ref 686) vs) Qv s := by
  obtain ⟨v1, _, rfl, r1, v2, _, rfl, ⟨tk2, rfl⟩, rfl⟩ := rs
  obtain ⟨o, fd, e, d, p1, p2, p3, p4, p5, p6, p7, p8, p9, p10⟩ := hid_fn F F.wwF
  have qn := F.wwQ o fd (hide_stays _ _ e) d
  have hk := ww_ok
  unfold okWw at hk
  obtain ⟨hk, k4⟩ := band hk
  obtain ⟨k1, k2⟩ := band hk
  obtain ⟨k4, k6⟩ := band k4
  obtain ⟨k4, k5⟩ := band k4
  obtain ⟨f1, f2, f3⟩ := isFunK_of k1
  have he : ∀ L, callEnvC fd L 686 = wwEnv L 686 685 "way_within" := fun L => by
    show newEnv fd.scope L fd.globals (cellsFrom (L + 1) fd.scope.names []) (fd.qualname ++ ".<locals>.") (some 686) fd.code none fd.builtins = _
    rw [p3, p4, p6, p7, qn]; rfl
  have kd : ∀ x, (fd.scope.names.lookup x) = wwR.2.2.names.lookup x := fun x => by rw [p3]; rfl
  have hroom : A.depth < recursionLimit := by have := I.room.2.1; (first | grind | omega)
  refine wpAny_call (codeAny_call_cells (o := o) (fd := fd) (body := wwR.2.1) (binds := [(("told" : Str), v1), (("many" : Str), .int m tk2)]) hroom (I.top _ _ e) d (let ⟨mc, q1, q2⟩ := hl; ⟨mc, (hid_ns F q1).keeps I.top, q2⟩) (p8.keeps I.top) p2
    (bind_plain (xs := ["told", "many"]) (by rw [p1]; exact k2) (by decide +kernel) p9 p10 [v1, .int m tk2] rfl) p5 (fun x hx => .inr ?_) (fun s₁ Y => ?_) (by rw [p3]; exact f2) (by rw [p3]; exact f3) (by rw [p3]; exact f1))
  · have : fd.scope.names.lookup x.1 = some .cell := by
      rw [kd]
      rcases List.mem_cons.mp hx with rfl | hx
      · exact eq_of_beq k4
      · rw [List.mem_singleton.mp hx]; exact eq_of_beq k5
    exact ⟨this, cellsFrom_some _ _ _ (.inl this)⟩
  rw [he] at Y ⊢
  generalize hL : s.heap.objs.size = L at Y ⊢
  have keep := Y.toInCall.keep
  have hns := Y.toInCall.ns
  obtain ⟨hh, tk0, hs₁⟩ := Y.toInCall.same
  have c1 := Y.cell _ _ (ww_cells L 686 685 "way_within").1
  have c2 := Y.cell _ _ (ww_cells L 686 685 "way_within").2
  have kL : (wwEnv L 686 685 "way_within").kindOf "told" = some .cell ∧ (wwEnv L 686 685 "way_within").kindOf "many" = some .cell ∧ (wwEnv L 686 685 "way_within").kindOf "within" = some .local := ⟨eq_of_beq k4, eq_of_beq k5, eq_of_beq k6⟩
  have b1 : PySem.bindC (wwEnv L 686 685 "way_within").kindOf [(("told" : Str), v1), (("many" : Str), .int m tk2)] (fun _ => none) "told" = some v1 :=
    (bind_get (xs := ["told", "many"]) (vs := [v1, .int m tk2]) (m := fun _ => none) (j := 0) (by decide +kernel) rfl rfl).2 (by rw [kL.1]; exact fun h => nomatch h)
  have b2 : PySem.bindC (wwEnv L 686 685 "way_within").kindOf [(("told" : Str), v1), (("many" : Str), .int m tk2)] (fun _ => none) "many" = some (.int m tk2) :=
    (bind_get (xs := ["told", "many"]) (vs := [v1, .int m tk2]) (m := fun _ => none) (j := 1) (by decide +kernel) rfl rfl).2 (by rw [kL.2.1]; exact fun h => nomatch h)
  rw [b1] at c1
  rw [b2] at c2
  obtain ⟨o1, g1, d1⟩ := c1
  obtain ⟨o2, g2, d2⟩ := c2
  have szL : s.heap.objs.size ≤ s₁.heap.objs.size := Nat.le_trans (Nat.le_of_eq hL) (Nat.le_of_lt hns.lt)
  have hp : (681 : Nat) < L := by obtain ⟨⟨ot, t1, _⟩, _⟩ := I.tab; exact hL ▸ Heap.lt_size t1
  rw [wwBody]
  refine wpAny_execs_cons (nestDef_K ww_defs.1 ww_defs.2 (ww_anns _) ?_)
  rw [ww_qual]
  refine ww_make F hb (fun b o e => keep _ _ (I.top _ _ e)) (fun b o e => keep _ _ (I.inc _ _ e)) (let ⟨⟨ot, t1, t2⟩, _⟩ := I.tab; ⟨ot, keep _ _ t1, t2⟩) fun c oc vs tq ctv doc h' tk hx hc hcg htab hsz => ?_
  have hns' : ∀ mm, s₁.heap.Ns (wwEnv L 686 685 "way_within").locals mm → (h'.push (fnMade "within" withinQ withinR.1 withinR.2.1 withinR.2.2 [(("told" : Str), L + 1), (("many" : Str), L + 2)] doc ((mg "__name__").getD .none) c ctv)).Ns (wwEnv L 686 685 "way_within").locals mm := fun mm hn => by
    obtain ⟨oo, es, ep, q1, r⟩ := hn
    exact ⟨oo, es, ep, Heap.get?_push_of_some _ (hx _ _ (Nat.ne_of_gt hp) q1), r⟩
  refine wpAny_storeName_local kL.2.2 (hns' _ hns) (fun h₂ hns₂ hsb => ?_) (by show (wwR.2.2.kind == .class || (wwR.2.2.kind == .module && _)) = false; rw [f1]; rfl)
  refine wpAny_execs_cons (wpAny_Return_some (wpAny_Name (wpAny_loadName_local f1 kL.2.2 hns₂ (v := .ref h'.objs.size) (if_pos rfl) ?_) (by decide +kernel)))
  show Qv (.ref h'.objs.size) _
  have lt : s.heap.objs.size ≤ h'.objs.size := Nat.le_trans szL hsz
  have k2 : ∀ b o, b ≠ L → (h'.push (fnMade "within" withinQ withinR.1 withinR.2.1 withinR.2.2 [(("told" : Str), L + 1), (("many" : Str), L + 2)] doc ((mg "__name__").getD .none) c ctv)).get? b = some o → h₂.get? b = some o := fun b o hb e => (hsb.2 b hb).trans e
  have k1 : ∀ b o, b ≠ 681 → b ≠ L → s₁.heap.get? b = some o → h₂.get? b = some o := fun b o hb hbL e => k2 b o hbL (Heap.get?_push_of_some _ (hx b o hb e))
  have neL : ∀ {b : Addr}, L < b → b ≠ L := fun h => Nat.ne_of_gt h
  have old : ∀ b o, b ≠ 681 → s.heap.get? b = some o → h₂.get? b = some o := fun b o hb e => k1 b o hb (Nat.ne_of_lt (hL ▸ Heap.lt_size e)) (keep b o e)
  have new : ∀ b o, s.heap.objs.size ≤ b → h₂.get? b = some o → ext G s.heap.objs.size h₂ b = some o := fun b o hb e => by unfold ext; rw [if_neg (Nat.not_lt.mpr hb)]; exact e
  have hsub : Sub G (ext G s.heap.objs.size h₂) := sub_ext I.inc fun b o e => old b o (fun q => by have := I.tab.2.1; rw [q] at e; rw [show G 681 = none from this] at e; cases e) (I.inc b o e)
  have gc : ext G s.heap.objs.size h₂ c = some oc := by
    rcases hcg with hcg | hcg
    · exact hsub _ _ hcg
    · have : L < c := Nat.lt_of_lt_of_le hns.lt hcg
      exact new c oc (Nat.le_trans szL hcg) (k2 c oc (neL this) (Heap.get?_push_of_some _ hc.2.1))
  have := hQ (.ref h'.objs.size) h₂ (tk + 1) (fun b o hb e => old b o hb e) ?_ ?_
  · rw [hs₁]; exact this
  · obtain ⟨ps, q1, q2, q3⟩ := htab
    exact ⟨_, k2 _ _ (Nat.ne_of_lt hp) (Heap.get?_push_of_some _ q1), tabIs_hit q2 q3 gc hc.2.2.1 hc.2.2.2⟩
  · have hgt : L < h'.objs.size := Nat.lt_of_lt_of_le hns.lt hsz
    refine ⟨h'.objs.size, _, c, oc, L + 1, o1, L + 2, o2, v1, rfl, new _ _ lt (k2 _ _ (neL hgt) (Heap.get?_push_size _ rfl)), gc, new _ _ (by (first | grind | omega)) (k1 _ _ ?_ (neL (by (first | grind | omega))) g1), new _ _ (by (first | grind | omega)) (k1 _ _ ?_ (neL (by (first | grind | omega))) g2), ⟨_, vs, tq, tk2, rfl, ⟨rfl, rfl, rfl, rfl, rfl, rfl, rfl, rfl⟩, rfl, hc.2.2.1, hc.2.2.2, rfl, rfl, d1, d2⟩, Rep.mono hsub _ _ r1⟩ <;> (show ¬ _ = _; (first | grind | omega))
end
end Mine

set_option autoImplicit false
set_option linter.all false
set_option maxRecDepth 100000
namespace Mine
open PySem PySem.W PySem.Calls PyProof.Rows

/-! the class Thresholds -/
noncomputable def initS (nm cn : Str) (l a b : Nat) : Stmt :=
  .Assign [.Attribute (.Name "self" ⟨l, 8, l, 12⟩) nm ⟨l, 8, l, 13 + a⟩] (.Call (.Name "max" ⟨l, 16 + a, l, 19 + a⟩) [.Name nm ⟨l, 20 + a, l, 20 + a + a⟩, .Name cn ⟨l, 22 + a + a, l, 22 + a + a + b⟩] [] ⟨l, 16 + a, l, 23 + a + a + b⟩) ⟨l, 8, l, 23 + a + a + b⟩
theorem initBody : initR.2.1 = [initS "karatsuba" "LEAST_KARATSUBA" 468 9 15, initS "toom3" "LEAST_TOOM3" 469 5 11, initS "toom4" "LEAST_TOOM4" 470 5 11, initS "rings" "LEAST_RINGS" 471 5 11] := by kernel_rfl
noncomputable def initN : List Str := ["self", "karatsuba", "toom3", "toom4", "rings"]
noncomputable def okInit : Bool := isFunK initR.2.2 && plainPars initR.1 initN && initN.all (fun x => initR.2.2.names.lookup x == some .local) && (["max", "LEAST_KARATSUBA", "LEAST_TOOM3", "LEAST_TOOM4", "LEAST_RINGS"] : List Str).all (fun x => initR.2.2.names.lookup x == some .globalImplicit && !isDebug x) && initR.2.2.names.all (fun x => x.2 != .cell) && initN.all plainNm && decide initN.Nodup
theorem init_ok : okInit = true := by kernel_rfl

section
variable {h : Heap} {mg mb : Str → Option Value} {w : World} {cOut : Addr} {A : Around} {E : Value → Shared → Prop} {s : Shared} {h₀ : Heap} {L x dx : Addr} {m : Str → Option Value} {env : Env} {es : List DictEntry} {n : Nat} {Q : Flow → Shared → Prop}
theorem thr_in (F : Facts mg mb h) {K : Frag} (a : K.In h) (b : ∀ a o, K.lookup a = some o → a ∈ [637, 639, 640]) : K.In (hide h [681, 723]) := fun c o e => (hide_out fun hm => by
  have h1 := b c o e
  rcases List.mem_cons.mp hm with rfl | hm
  · revert h1; decide
  · rw [List.mem_singleton.mp hm] at h1; revert h1; decide).trans (a c o e)
structure InitAt (h : Heap) (mg mb : Str → Option Value) (env : Env) (L : Addr) : Prop where
  fn : env.scope.kind = .function
  loc : ∀ x ∈ initN, env.kindOf x = some .local
  glo : ∀ x ∈ (["max", "LEAST_KARATSUBA", "LEAST_TOOM3", "LEAST_TOOM4", "LEAST_RINGS"] : List Str), env.kindOf x = some .globalImplicit ∧ (x == ("__debug__" : Str)) = false
  pl : ∀ x ∈ initN, (x == ("__debug__" : Str)) = false
  lo : env.locals = L
  gl : env.globals = mainGlobals
  bi : env.builtins = builtinsNs
  g : h.Ns mainGlobals mg
  b : h.Ns builtinsNs mb
  mx : mg "max" = none ∧ mb "max" = some (.builtin "max")
theorem init_step {K : Frag} {cn nm : Str} {l a b : Nat} {x₁ : Int} {t₁ : Tok} {c : Int} (hT : thrSee K = thrWant) (X : K.In h₀) (I : InitAt h₀ mg mb env L) (hA : A.handled = none) (hi : nm ∈ thrNames) (hn : nm ∈ initN) (hc : cn ∈ (["max", "LEAST_KARATSUBA", "LEAST_TOOM3", "LEAST_TOOM4", "LEAST_RINGS"] : List Str))
    (F : Fr h₀ L s.heap m) (N : News h₀ L s.heap [(x, instObj 640 dx), (dx, dictOf es n)]) (hne : x ≠ dx) (h1 : m "self" = some (.ref x)) (h2 : m nm = some (.int x₁ t₁)) (h3 : ∃ t, mg cn = some (.int c t))
    (hl : getL nm es = some none) (he : ∀ hs k v, putL nm hs k v es = es ++ [⟨hs, k, v⟩]) (hz : es.length < 1000)
    (hQ : ∀ hs k t h' tk, Fr h₀ L h' m → News h₀ L h' [(x, instObj 640 dx), (dx, dictOf (es ++ [⟨hs, .str nm k, .int (max2 x₁ c) t⟩]) (putN nm es n))] → Q .next { s with heap := h', toks := tk }) :
    WP (mkK w h cOut mg mb) A E (exec (initS nm cn l a b) env) Q s := by
  obtain ⟨t₂, h3⟩ := h3
  have lo : env.locals = L := I.lo
  have hns : s.heap.Ns env.locals m := by rw [lo]; exact F.ns
  have hgl : s.heap.Ns env.globals mg := by rw [I.gl]; exact I.g.keeps F.keep
  have hbl : s.heap.Ns env.builtins mb := by rw [I.bi]; exact I.b.keeps F.keep
  obtain ⟨e1, e2⟩ := Prod.mk.inj hT
  obtain ⟨_, e2⟩ := Prod.mk.inj e2
  obtain ⟨_, e2⟩ := Prod.mk.inj e2
  obtain ⟨e3, e2⟩ := Prod.mk.inj e2
  obtain ⟨e4, e2⟩ := Prod.mk.inj e2
  obtain ⟨e5, e2⟩ := Prod.mk.inj e2
  obtain ⟨e6, _⟩ := Prod.mk.inj e2
  refine plainObj_wpAny_Assign_Attribute ?_
  refine Call_ (Calls.Name_function_global I.fn (I.glo _ (.head _)).1 (Calls.loadGlobal_builtin hgl I.mx.1 hbl I.mx.2 ?_) (I.glo _ (.head _)).2) (by rfl)
  refine callWith_b (fun e he => by
    rcases List.mem_cons.mp he with rfl | he
    · rfl
    · rw [List.mem_singleton.mp he]; rfl) ?_
  rw [starEach_cons rfl, starEach_cons rfl]
  refine Calls.spliced_cons (wpAny_Name (wpAny_loadName_local I.fn (I.loc _ hn) hns h2 ?_) (I.pl _ hn))
  refine Calls.spliced_cons (Calls.Name_function_global I.fn (I.glo _ hc).1 (Calls.loadGlobal_global hgl h3 (Calls.spliced_nil ?_)) (I.glo _ hc).2)
  refine max_two_N (h₀ := h₀) (L := L) (m := m) hA F N fun h' tk F' N' => ?_
  have hs' : h'.Ns env.locals m := by rw [lo]; exact F'.ns
  refine wpAny_Name (wpAny_loadName_local I.fn (I.loc _ (.head _)) hs' h1 ?_) (I.pl _ (.head _))
  refine set_dict (s := { s with heap := h', toks := tk }) F' X N' (InstAt.of_news N' (.head _) (.tail _ (.head _))) rfl e3 e4 (all_at e5 nm hi) e6 (by rw [hl]; rfl) (Prod.ext (he _ _ _) rfl) (.tail hne (.head fun p hp => (nomatch hp))) (by rw [List.length_append]; exact hz) fun h'' F'' N'' => ?_
  exact hQ _ _ _ h'' _ F'' N''
end
end Mine

set_option autoImplicit false
set_option linter.all false
set_option maxRecDepth 100000
namespace Mine
open PySem PySem.W PySem.Calls PyProof.Rows
section
variable {h : Heap} {mg mb : Str → Option Value} {w : World} {cOut : Addr}
theorem const_of (F : Facts mg mb h) {i : Nat} {x : Str} {c : Int} (h1 : glNames[i]? = some x) (h2 : glWant[i]? = some (some (.int c))) : ∃ t, mg x = some (.int c t) := by
  obtain ⟨v, e, r⟩ := glAt F h1 h2
  cases v with
  | int i t => cases r; exact ⟨t, e⟩
  | str s t => cases r
  | _ => cases r
theorem int4s {K : Cfg} {G : PH} {a b c d : Int} {vs : List Value} (r : RepL K G [.int a, .int b, .int c, .int d] vs) : ∃ t1 t2 t3 t4, vs = [.int a t1, .int b t2, .int c t3, .int d t4] := by
  obtain ⟨_, _, rfl, ⟨t1, rfl⟩, _, _, rfl, ⟨t2, rfl⟩, _, _, rfl, ⟨t3, rfl⟩, _, _, rfl, ⟨t4, rfl⟩, rfl⟩ := r
  exact ⟨t1, t2, t3, t4, rfl⟩
theorem ext_thr (F : Facts mg mb h) (hl : h.NoLimit) {A : Around} {E : Value → Shared → Prop} {n : Nat} {G : PH} {s : Shared} {vs : List Value} {a b c d : Int} {Qv : Value → Shared → Prop}
    (I : CallIn (mkK w h cOut mg mb) A n G s) (rs : RepL (mkK w h cOut mg mb) G [.int a, .int b, .int c, .int d] vs) (hQ : Ret (mkK w h cOut mg mb) G s (.thr (max2 a 2) (max2 b 3) (max2 c 4) (max2 d 6)) Qv) : WP (mkK w h cOut mg mb) A E (call (.ref 640) vs) Qv s := by
  obtain ⟨t1, t2, t3, t4, rfl⟩ := int4s rs
  obtain ⟨K, X, hk, hT⟩ := F.thr
  have X := (thr_in F X hk).keeps I.top
  obtain ⟨e1, e2⟩ := Prod.mk.inj hT
  obtain ⟨e2, e3⟩ := Prod.mk.inj e2
  obtain ⟨e3, _⟩ := Prod.mk.inj e3
  obtain ⟨o, fd, e, dt, p1, p2, p3, p4, p5, p6, p7, p8, p9, p10⟩ := hid_fn F F.initF
  have hi := init_ok
  unfold okInit at hi
  obtain ⟨hi, i7⟩ := band hi
  obtain ⟨hi, i6⟩ := band hi
  obtain ⟨hi, i5⟩ := band hi
  obtain ⟨hi, i4⟩ := band hi
  obtain ⟨hi, i3⟩ := band hi
  obtain ⟨i1, i2⟩ := band hi
  obtain ⟨f1, f2, f3⟩ := isFunK_of i1
  have sc : fd.scope = initR.2.2 := p3
  obtain ⟨hh, g, dr, tk, os⟩ := s
  refine wpAny_call (make_core (makes_of X e1) (looks_findIn X e2) (fun self => bind_fn X self e3) (.inl rfl) ?_)
  generalize hH : (hh.push emptyDict).push (PySem.W.instObj 640 hh.objs.size) = H
  have kH : ∀ b o, hh.get? b = some o → H.get? b = some o := fun b o e => hH ▸ Heap.get?_push_of_some _ (Heap.get?_push_of_some _ e)
  have gd : H.get? hh.objs.size = some (dictOf [] 0) := hH ▸ Heap.get?_push_of_some _ (Heap.get?_push_size _ rfl)
  have gx : H.get? (hh.objs.size + 1) = some (PySem.W.instObj 640 hh.objs.size) := by
    rw [← hH]
    have := Heap.get?_push_size (hh.push emptyDict) (o := PySem.W.instObj 640 hh.objs.size) rfl
    rw [Heap.size_push] at this
    exact this
  have hz : H.objs.size = hh.objs.size + 1 + 1 := by rw [← hH, Heap.size_push, Heap.size_push]
  have hroom : (A.under (.builtin "type.__call__" ⟨.ref 640 :: [.int a t1, .int b t2, .int c t3, .int d t4], []⟩)).depth < recursionLimit := by
    have := I.room.2.1
    show A.depth + 1 < recursionLimit
    (first | grind | omega)
  refine codeAny_call_def (o := o) (fd := fd) (body := initR.2.1) (binds := initN.zip [.ref (hh.objs.size + 1), .int a t1, .int b t2, .int c t3, .int d t4]) hroom (kH _ _ (I.top _ _ e)) dt (let ⟨mc, q1, q2⟩ := hl; ⟨mc, ((hid_ns F q1).keeps I.top).keeps kH, q2⟩) ((p8.keeps I.top).keeps kH) p2
    (.of_eq (bind_plain (xs := initN) (by rw [p1]; exact i2) (of_decide_eq_true i7) p9 p10 _ rfl)) (fun x hx => by rw [sc] at hx; exact bne_iff_ne.mp (List.all_eq_true.mp i5 x hx)) (fun x hx => by rw [sc]; exact eq_of_beq (List.all_eq_true.mp i3 _ (zip_fst hx))) (fun h₁ hns hk₁ => ?_) (by rw [sc]; exact f2) (by rw [sc]; exact f3) (by rw [sc]; exact f1)
  dsimp only at hns hk₁ ⊢
  generalize hE : callEnv fd H.objs.size 637 = env
  have hsc : env.scope = initR.2.2 := by rw [← hE, ← sc]; rfl
  have kd : ∀ x, env.kindOf x = initR.2.2.names.lookup x := fun x => by unfold Env.kindOf; rw [hsc]
  have F₀ : Fr hh H.objs.size h₁ _ := ⟨hns, fun b o e => hk₁ b o (kH b o e), by (first | grind | omega)⟩
  have ndx : ∀ q, hh.objs.size ≤ q → hh.get? q = none := fun q hq => Heap.get?_none_of_le hq
  have N₀ : News hh H.objs.size h₁ [(hh.objs.size + 1, PySem.W.instObj 640 hh.objs.size), (hh.objs.size, dictOf [] 0)] := fun p hp => by
    rcases List.mem_cons.mp hp with rfl | hp
    · exact ⟨hk₁ _ _ gx, (by show hh.objs.size + 1 ≠ _; (first | grind | omega)), ndx _ (by show _ ≤ hh.objs.size + 1; (first | grind | omega))⟩
    · rw [List.mem_singleton.mp hp]
      exact ⟨hk₁ _ _ gd, (by show hh.objs.size ≠ _; (first | grind | omega)), ndx _ (Nat.le_refl _)⟩
  have mx := F.bi ("max", .builtin "max") (.tail _ (.head _))
  have IA : InitAt hh mg mb env H.objs.size := ⟨by rw [hsc]; exact f1, fun x hx => (kd x).trans (eq_of_beq (List.all_eq_true.mp i3 x hx)), fun x hx => by
      have := band (List.all_eq_true.mp i4 x hx)
      exact ⟨(kd x).trans (eq_of_beq this.1), bnot this.2⟩, fun x hx => bnot (band (List.all_eq_true.mp i6 x hx)).1, by rw [← hE]; rfl, by rw [← hE]; exact p4, by rw [← hE]; exact p6, (hid_ns F F.g).keeps I.top, (hid_ns F F.b).keeps I.top, mx⟩
  have hne : hh.objs.size + 1 ≠ hh.objs.size := by (first | grind | omega)
  have hA : A.handled = none := I.room.1
  rw [initBody]
  refine wpAny_execs_cons (init_step (cOut := cOut) (h := h) hT X IA hA (.head _) (.tail _ (.head _)) (.tail _ (.head _)) F₀ N₀ hne rfl (by rfl) (const_of F (i := 3) rfl rfl) (by rfl) (fun hs k v => by rfl) (Nat.le_of_ble_eq_true rfl) fun hs1 k1 u1 h1 tk1 F₁ N₁ => ?_)
  refine wpAny_execs_cons (init_step (cOut := cOut) (h := h) hT X IA hA (.tail _ (.head _)) (.tail _ (.tail _ (.head _))) (.tail _ (.tail _ (.head _))) F₁ N₁ hne rfl (by rfl) (const_of F (i := 4) rfl rfl) (by rfl) (fun hs k v => by rfl) (Nat.le_of_ble_eq_true rfl) fun hs2 k2 u2 h2 tk2 F₂ N₂ => ?_)
  refine wpAny_execs_cons (init_step (cOut := cOut) (h := h) hT X IA hA (.tail _ (.tail _ (.head _))) (.tail _ (.tail _ (.tail _ (.head _)))) (.tail _ (.tail _ (.tail _ (.head _)))) F₂ N₂ hne rfl (by rfl) (const_of F (i := 5) rfl rfl) (by rfl) (fun hs k v => by rfl) (Nat.le_of_ble_eq_true rfl) fun hs3 k3 u3 h3 tk3 F₃ N₃ => ?_)
  refine wpAny_execs_cons (init_step (cOut := cOut) (h := h) hT X IA hA (.tail _ (.tail _ (.tail _ (.head _)))) (.tail _ (.tail _ (.tail _ (.tail _ (.head _))))) (.tail _ (.tail _ (.tail _ (.tail _ (.head _))))) F₃ N₃ hne rfl (by rfl) (const_of F (i := 6) rfl rfl) (by rfl) (fun hs k v => by rfl) (Nat.le_of_ble_eq_true rfl) fun hs4 k4 u4 h4 tk4 F₄ N₄ => ?_)
  refine wpAny_execs_nil ?_
  refine ⟨rfl, ?_⟩
  have nx := N₄ _ (.head _)
  have nd := N₄ _ (.tail _ (.head _))
  have hsub : Sub G (ext G hh.objs.size h4) := sub_ext I.inc fun b o e => F₄.keep b o (I.inc b o e)
  have new : ∀ b o, hh.objs.size ≤ b → h4.get? b = some o → ext G hh.objs.size h4 b = some o := fun b o hb e => by unfold ext; rw [if_neg (Nat.not_lt.mpr hb)]; exact e
  obtain ⟨⟨ot, q1, q2⟩, _⟩ := I.tab
  exact hQ _ h4 tk4 (fun b o _ e => F₄.keep b o e) ⟨ot, F₄.keep _ _ q1, (mkK w h cOut mg mb).tabMono _ _ _ hsub q2⟩ ⟨_, _, _, _, rfl, new _ _ (Nat.le_succ _) nx.1, new _ _ (Nat.le_refl _) nd.1, _, _, _, _, _, _, _, _, _, _, _, _, rfl⟩
end
end Mine

set_option autoImplicit false
set_option linter.all false
set_option maxRecDepth 100000
namespace Mine
open PySem PySem.W PySem.Calls PyProof.Rows
section
variable {h : Heap} {mg mb : Str → Option Value} {w : World} {cOut : Addr}
noncomputable def thrAt (a b c d : Int) : Nat → Int
  | 0 => a
  | 1 => b
  | 2 => c
  | _ => d
theorem dict_get {es : List DictEntry} {a b c d : Int} (h : ThrEs es a b c d) (f : Nat) : ∃ t, getL (atNm f) es = some (some (.int (thrAt a b c d f) t)) := by
  obtain ⟨e1, e2, e3, e4, t1, t2, t3, t4, u1, u2, u3, u4, rfl⟩ := h
  match f with
  | 0 => exact ⟨u1, by rfl⟩
  | 1 => exact ⟨u2, by rfl⟩
  | 2 => exact ⟨u3, by rfl⟩
  | f + 3 => exact ⟨u4, by rfl⟩
theorem at_in (f : Nat) : atNm f ∈ thrNames := by
  match f with
  | 0 => exact .head _
  | 1 => exact .tail _ (.head _)
  | 2 => exact .tail _ (.tail _ (.head _))
  | f + 3 => exact .tail _ (.tail _ (.tail _ (.head _)))
theorem attr_inv {a b c d : Int} {f : Nat} {Q : D → Prop} (h : attrP (.thr a b c d) f Q) : Q (.int (thrAt a b c d f)) := by
  match f with
  | 0 => exact h
  | 1 => exact h
  | 2 => exact h
  | f + 3 => exact h
theorem ext_get (F : Facts mg mb h) {A : Around} {E : Value → Shared → Prop} {G : PH} {s : Shared} {v : Value} {a b c d : Int} {f : Nat} {Q : D → Prop} {Qv : Value → Shared → Prop} (top : ∀ x o, (hide h [681, 723]).get? x = some o → s.heap.get? x = some o) (inc : ∀ x o, G x = some o → s.heap.get? x = some o)
    (r : Rep (mkK w h cOut mg mb) G (.thr a b c d) v) (ha : attrP (.thr a b c d) f Q) (hQ : ∀ z, Q z → ∀ u tk, Rep (mkK w h cOut mg mb) G z u → Qv u { s with toks := tk }) : WP (mkK w h cOut mg mb) A E (getAttr v (atNm f) true) Qv s := by
  obtain ⟨x, dx, es, n, rfl, g1, g2, he⟩ := r
  obtain ⟨K, X, hk, hT⟩ := F.thr
  have X := (thr_in F X hk).keeps top
  obtain ⟨e1, e2⟩ := Prod.mk.inj hT
  obtain ⟨_, e2⟩ := Prod.mk.inj e2
  obtain ⟨_, e2⟩ := Prod.mk.inj e2
  obtain ⟨_, e2⟩ := Prod.mk.inj e2
  obtain ⟨_, e2⟩ := Prod.mk.inj e2
  obtain ⟨_, e2⟩ := Prod.mk.inj e2
  obtain ⟨e6, e2⟩ := Prod.mk.inj e2
  obtain ⟨e7, e2⟩ := Prod.mk.inj e2
  obtain ⟨e8, _⟩ := Prod.mk.inj e2
  obtain ⟨t, hl⟩ := dict_get he f
  exact get_value X ⟨inc _ _ g1, rfl, rfl, inc _ _ g2⟩ (plainGet_of (all_at e7 _ (at_in f))).1 (findObj_own (od := dictOf es n) e6 (all_at e8 _ (at_in f)) rfl hl) rfl (hQ _ (attr_inv ha) _ _ ⟨t, rfl⟩)
theorem ext_callW (F : Facts mg mb h) {A : Around} {E : Value → Shared → Prop} {env : Env} {pos : Pos} {xs : List Expr} {s : Shared} {Qv : Value → Shared → Prop} (hx : xs ≠ []) (hn : ∀ e ∈ xs, notStar e = true) (top : ∀ x o, (hide h [681, 723]).get? x = some o → s.heap.get? x = some o)
    (H : WP (mkK w h cOut mg mb) A E (spliced (backTo pos (starEach xs env))) (fun vs s' => (∀ x o, (hide h [681, 723]).get? x = some o → s'.heap.get? x = some o) ∧ WP (mkK w h cOut mg mb) A E (call (.ref 640) vs) Qv s') s) :
    WP (mkK w h cOut mg mb) A E (callWith pos (.ref 640) [] (backTo pos (starEach xs env)) []) Qv s := by
  obtain ⟨K, X, hk, hT⟩ := F.thr
  have X := thr_in F X hk
  obtain ⟨_, e2⟩ := Prod.mk.inj hT
  obtain ⟨_, e2⟩ := Prod.mk.inj e2
  obtain ⟨_, e2⟩ := Prod.mk.inj e2
  obtain ⟨_, e2⟩ := Prod.mk.inj e2
  obtain ⟨_, e2⟩ := Prod.mk.inj e2
  obtain ⟨_, e2⟩ := Prod.mk.inj e2
  obtain ⟨_, e2⟩ := Prod.mk.inj e2
  obtain ⟨_, e2⟩ := Prod.mk.inj e2
  obtain ⟨_, e9⟩ := Prod.mk.inj e2
  cases xs with
  | nil => exact absurd rfl hx
  | cons e xs => exact callWith_K (X.keeps top) e9 (wpAny_mono H (fun vs s' q => ⟨X.keeps q.1, q.2⟩) fun _ _ z => z) (starEach_cons (hn e (.head _))) (by
      have := backTo_any pos env xs fun e he => hn e (.tail _ he)
      first | exact this | (simpa using this))
theorem ext_ok (F : Facts mg mb h) (hl : h.NoLimit) (hb : (hide h [681, 723]).BuiltinsAt mg 681) {bm : List Value} {newId initId : String} (O : OwnCls "OutOfRange" cOut bm newId mg (hide h [681, 723])) (FB : ExcBaseFacts "Exception" newId initId bm) : Ext (mkK w h cOut mg mb) :=
  ⟨F.thrN, fun A E s G v a b c d f Q Qv top inc r ha hQ => ext_get F top inc r ha hQ, fun A E n G s vs a b c d Qv I rs hQ => ext_thr F hl I rs hQ, fun A E env pos xs s Qv hx hn top H => ext_callW F hx hn top H,
    let ⟨o, fd, e, d, _⟩ := hid_fn F F.wwF; ⟨686, o, fd, F.ww, e, d, fun A E n G s vs t m Qv I rs hQ => ext_ww F hl hb I rs hQ⟩, ⟨bm, newId, initId, O, FB⟩⟩
end
end Mine

set_option autoImplicit false
set_option linter.all false
set_option maxRecDepth 100000
namespace Mine
open PySem PySem.W PySem.Calls PyProof.Rows

/-! law's text -/
noncomputable def nsL_ : List Str := nsLaw.map Str.ofString
noncomputable def noPars : Arguments := ⟨[], [], none, [], [], none, []⟩
noncomputable def lamE (body : Expr) (names : List (Str × NameKind)) (l e : Nat) : Expr := .Lambda noPars body ⟨.function, names, false, false, []⟩ ⟨l, 28, l, e⟩
noncomputable def refS (lam : Expr) (l e : Nat) : Stmt :=
  .If (.UnaryOp .Not (.Call (.Name "_law_refused" ⟨l, 15, l, 27⟩) [lam] [] ⟨l, 15, l, e + 1⟩) ⟨l, 11, l, e + 1⟩) [.Return (some (.Constant (.bool false) 0 ⟨l + 1, 19, l + 1, 24⟩)) ⟨l + 1, 12, l + 1, 24⟩] [] ⟨l, 8, l + 1, 24⟩
noncomputable def lamNs1 : List (Str × NameKind) := [("base", .free), ("text", .free), ("w", .free), ("r_from_text", .globalImplicit), ("mul_school", .globalImplicit), ("divrem_school", .globalImplicit)]
noncomputable def lamNs2 : List (Str × NameKind) := [("base", .free), ("thing", .free), ("w", .free), ("r_text", .globalImplicit), ("divrem_school", .globalImplicit)]
noncomputable def frees1 : List Str := ["base", "text", "w"]
noncomputable def frees2 : List Str := ["base", "thing", "w"]
noncomputable def lamX1 : Expr := lamE (toE lam1 frees1) lamNs1 562 89
noncomputable def lamX2 : Expr := lamE (toE lam2 frees2) lamNs2 564 73
noncomputable def lawR : Arguments × List Stmt × Scope := recAt 115
theorem lawText : lawR.2.1 = toB lawA nsL_ [] ++ (.If (toE lawT nsL_) (toB lawB nsL_ []) (toB lawC nsL_ [] ++ [refS lamX1 562 89, refS lamX2 564 73]) ⟨556, 4, 565, 24⟩ :: toB lawD nsL_ []) := by kernel_rfl
noncomputable def lawSt : St := ⟨nsL_, fun x => lawR.2.2.names.lookup x, false⟩
noncomputable def okLaw : Bool := isFunK lawR.2.2 && plainPars lawR.1 ["script"] && decide nsL_.Nodup && nsL_.all plainNm && lawR.2.2.names.lookup ("script" : Str) == some NameKind.local && okG (fun x => lawR.2.2.names.lookup x) "_law_refused" &&
  (okB lawA lawSt && okE lawT lawSt && okB lawB lawSt && okB lawC lawSt && okB lawD lawSt) &&
  (okE lam1 ⟨frees1, fun x => lamNs1.lookup x, false⟩ && okE lam2 ⟨frees2, fun x => lamNs2.lookup x, false⟩)
theorem law_ok : okLaw = true := by kernel_rfl
/-- the slots beyond the parameter, at first -/
noncomputable def lawRest : List Slot := [.unset, .cel, .cel, .unset, .unset, .unset, .unset, .cel, .cel, .unset, .unset, .unset, .unset, .unset, .unset, .unset]
noncomputable def refR : Arguments × List Stmt × Scope := recAt 114
theorem refText : refR.2.1 = [.Try [.Expr (.Call (.Name "work" ⟨544, 8, 544, 12⟩) [] [] ⟨544, 8, 544, 14⟩) ⟨544, 8, 544, 14⟩] [.ExceptHandler (some (.Name "OutOfRange" ⟨545, 11, 545, 21⟩)) none [.Return (some (.Constant (.bool true) 0 ⟨546, 15, 546, 19⟩)) ⟨546, 8, 546, 19⟩] ⟨545, 4, 546, 19⟩] [] [] ⟨543, 4, 546, 19⟩, .Return (some (.Constant (.bool false) 0 ⟨547, 11, 547, 16⟩)) ⟨547, 4, 547, 16⟩] := by kernel_rfl
noncomputable def okRef : Bool := isFunK refR.2.2 && plainPars refR.1 ["work"] && refR.2.2.names.lookup ("work" : Str) == some NameKind.local && okG (fun x => refR.2.2.names.lookup x) "OutOfRange" && refR.2.2.names.all (fun x => x.2 != .cell)
theorem ref_ok : okRef = true := by kernel_rfl
noncomputable def lawEnv (fd : FuncData) (L : Addr) : Env := callEnvC fd L 728

section
variable {h : Heap} {mg mb : Str → Option Value}
theorem hid_tail (F : Facts mg mb h) {bm tl : List Value} (T : OwnTailQ h bm tl) : OwnTailQ (hide h [681, 723]) bm tl := by
  induction T with
  | base => exact .base
  | own e n q _ ih => exact .own (hid F e (fun q => by cases q)) (hid_ns F n) q ih
theorem hid_own (F : Facts mg mb h) {x : Str} {C : Addr} {bm : List Value} {newId : String} (O : OwnClsQ x C bm newId mg h) : OwnClsQ x C bm newId mg (hide h [681, 723]) :=
  let ⟨bm', N, nm, q, bs, hdct, sn, sub, ab, col, dd, k0, k1, k2, k3, k5, mN, hC, hN, hni, T⟩ := O.obj
  ⟨O.bound, bm', N, nm, q, bs, hdct, sn, sub, ab, col, dd, k0, k1, k2, k3, k5, mN, hid F hC (fun q => by cases q), hid_ns F hN, hni, hid_tail F T⟩
end
end Mine

set_option autoImplicit false
set_option linter.all false
set_option maxRecDepth 100000
namespace Mine
open PySem PySem.W PySem.Calls PyProof.Rows
section
variable {K : Cfg} {P : Frm} {oa : Nat → Addr} {ρ : MEnv} {G : PH} {s : Shared}
noncomputable def reb (P : Frm) (q : Addr) (nt : Obj) : Frm := { P with s₀ := { P.s₀ with heap := P.s₀.heap.update q fun _ => nt } }
/-- one old object, of which the frame knows nothing, is changed -/
theorem Sm.rebase (x : Sm K P oa ρ G s) {q : Addr} {nt : Obj} {h' : Heap} {tk : Nat} (hio : P.io = none) (hban : P.ban = []) (h1 : q ≠ K.pT) (h2 : q ≠ P.env.locals) (h3 : G q = none) (h4 : K.hT.get? q = none) (h5 : ∀ i y sl, P.names[i]? = some y → ρ[i]? = some sl → sl.excl = true → oa i ≠ q)
    (hk : ∀ b o, b ≠ q → s.heap.get? b = some o → h'.get? b = some o) (hq : h'.get? q = some nt) (hs : ∃ o, P.s₀.heap.get? q = some o) (hf : nt.isFreed = false) : Sm K (reb P q nt) oa ρ G { s with heap := h', toks := tk } := by
  have sz : (reb P q nt).s₀.heap.objs.size = P.s₀.heap.objs.size := Heap.size_after_update ..
  have neG : ∀ b o, G b = some o → b ≠ q := fun b o e h => by rw [h, h3] at e; cases e
  obtain ⟨m, hm, hsl⟩ := x.slots
  refine ⟨?_, ⟨m, ?_, fun i y sl hn hs => ?_⟩, x.nodup, fun b o e => hk b o (neG b o e) (x.inc b o e), x.offL, fun i y sl hn hs he => ?_, x.apart, fun b o e _ hp => ?_, fun b o hb e => x.old b o (sz ▸ hb) e, sz.symm ▸ x.above, fun b hb => ?_, fun b o e => hk b o (fun h => by rw [h, h4] at e; cases e) (x.top b o e), x.topL, fun b o hb => ?_, ?_, x.len⟩
  · obtain ⟨h, t, e⟩ := x.same
    exact ⟨h', tk, by rw [e]; rfl⟩
  · obtain ⟨o, es, ep, e, r⟩ := hm
    exact ⟨o, es, ep, hk _ _ (Ne.symm h2) e, r⟩
  · have y' := hsl i y sl hn hs
    have := y'.stp (h' := h') fun he o e => hk _ _ (h5 i y sl hn hs he) e
    cases sl <;> exact this
  · obtain ⟨a, b, c, d⟩ := x.off i y sl hn hs he
    exact ⟨a, b, c, d.imp id fun d => sz.symm ▸ d⟩
  · by_cases hb : b = q
    · obtain ⟨o', e'⟩ := hs
      subst hb
      have e2 : (P.s₀.heap.update b fun _ => nt).get? b = some nt := Heap.get?_update_self _ e' hf
      rw [show (reb P b nt).s₀.heap.get? b = _ from e2] at e
      cases e; exact hq
    · exact hk b o hb (x.keep b o ((Heap.get?_update_other _ _ (Ne.symm hb)).symm.trans e) (by rw [hio]; exact fun h => nomatch h) hp)
  · rw [show (reb P q nt).io = none from hio] at hb; cases hb
  · rw [show (reb P q nt).ban = [] from hban] at hb; cases hb
  · obtain ⟨⟨o, t1, t2⟩, t3, t4, t5, t6, t7, t8⟩ := x.tab
    exact ⟨⟨o, hk _ _ (Ne.symm h1) t1, t2⟩, t3, t4, t5, t6, (fun b o hb => by rw [show (reb P q nt).ban = [] from hban] at hb; cases hb), sz.symm ▸ t8⟩
end
end Mine

set_option autoImplicit false
set_option linter.all false
set_option maxRecDepth 100000
namespace Mine
open PySem PySem.W PySem.Calls PyProof.Rows
section
variable {K : Cfg} {A : Around} {E : Value → Shared → Prop} {C : Orc} {n : Nat} {G : PH} {s : Shared} {Qv : Value → Shared → Prop}
theorem lam_bind (fd : FuncData) (h : fd.params = noPars) (h1 : fd.defaults = .none) (h2 : fd.kwdefaults = .none) : bindArgs fd ⟨[], []⟩ = pure [] := bind_plain (xs := []) (by rw [h]; rfl) .nil h1 h2 [] rfl
/-- a lambda whose body raises -/
theorem lam_call (W : Wld K) (hE : Ext K) (hC : OrcOk K C n) (hg : C.glob = gl) (I : CallIn K A (n + 1) G s) {f c' : Addr} {qual : Str} {pm ctv : Value} {clos : List (Str × Addr)} {names : List (Str × NameKind)} {lm : ME} {frees : List Str} {ds : List D}
    (ho : s.heap.get? f = some (kla_obj "<lambda>" qual noPars (toE lm frees) ⟨.function, names, false, false, []⟩ clos pm c' ctv)) (hcd : s.heap.CodeRec (.ref c') qual) (hok : okE lm ⟨frees, fun x => names.lookup x, false⟩ = true) (hn : ∀ x ∈ names, x.2 ≠ .cell) (nd : frees.Nodup) (pl : frees.all plainNm = true) (hl : ds.length = frees.length)
    (hfr : ∀ (i : Nat) (x : Str) (d : D), frees[i]? = some x → ds[i]? = some d → names.lookup x = some .free ∧ ∃ c o v, clos.lookup x = some c ∧ G c = some o ∧ o.data = .cell (some v) ∧ Rep K G d v) (hw : wpE C lm True (ds.map .val) (fun _ _ => False)) (hR : RRet K A G s E) : WP K A E (call (.ref f) []) Qv s := by
  have hA := I.room
  have hlim : s.heap.NoLimit := let ⟨mc, q1, q2⟩ := W.lim; ⟨mc, q1.keeps I.top, q2⟩
  refine wpAny_call (kla_callFunE (by have := hA.2.1; (first | grind | omega)) ho rfl rfl rfl rfl hcd ?_)
  rw [lam_bind _ rfl rfl rfl]
  refine wpAny_pure (wpAny_newFunctionEnv hn (fun x hx => nomatch hx) (fun h₁ hns hsb => ?_) rfl)
  generalize hL : s.heap.objs.size = L at hns hsb ⊢
  have keep : ∀ b o, s.heap.get? b = some o → h₁.get? b = some o := fun b o e => hsb.extBut b o (fun h => absurd (Heap.lt_size e) (by rw [hL, h]; exact Nat.lt_irrefl _)) (Heap.get?_push_of_some _ e)
  refine ⟨hlim.keeps keep, kla_codeExpr ?_⟩
  let env : Env := newEnv ⟨.function, names, false, false, []⟩ L mainGlobals clos (qual ++ ".<locals>.") (some f) (.ref c') none builtinsNs
  let P : Frm := { env := env, names := frees, src := [], s₀ := s, G₀ := G, io := none }
  have hGlt : ∀ b o, G b = some o → b < L := fun b o e => hL ▸ Heap.lt_size (I.inc b o e)
  have noex : ∀ (i : Nat) (x : Slot), (ds.map Slot.val)[i]? = some x → x.excl = true → False := fun i x h he => by
    obtain ⟨d, _, rfl⟩ := vals_get h
    cases he
  have X0 : Sm K P (fun _ => 0) (ds.map .val) G { s with heap := h₁, toks := s.toks + ([] : List (Str × Value)).length } := by
    refine ⟨⟨_, _, rfl⟩, ⟨_, hns, fun i x sl' hx hsl' => ?_⟩, nd, fun b o e => keep b o (I.inc b o e), ?_, fun i x sl' hx hsl' he => (noex i sl' hsl' he).elim, fun i j x y sl1 sl2 hx hy h1 h2 he1 he2 _ => (noex i sl1 h1 he1).elim, fun b o e _ _ => keep b o e, fun b o hb e => e, Nat.le_of_eq hL, fun a ha => (nomatch ha), fun b o e => keep b o (I.top b o e), Nat.le_trans I.sz (Nat.le_of_eq hL), fun b o hb => (nomatch hb), ?_, ?_⟩
    · obtain ⟨d, hd, rfl⟩ := vals_get hsl'
      obtain ⟨k, c, o, v, e1, e2, e3, e4⟩ := hfr i x d hx hd
      exact .inr ⟨.inr k, c, o, v, e1, e2, e3, e4⟩
    · cases hg : G L with
      | none => exact hg
      | some o' => exact absurd (hGlt _ _ hg) (Nat.lt_irrefl _)
    · obtain ⟨⟨ot, t1, t2⟩, t3, t4⟩ := I.tab
      have hpL : K.pT < L := hL ▸ Heap.lt_size t1
      exact ⟨⟨ot, keep _ _ t1, t2⟩, t3, Nat.ne_of_lt hpL, t4, fun i x sl' hx hsl' he => (noex i sl' hsl' he).elim, fun b o hb => (nomatch hb), Heap.lt_size t1⟩
    · rw [List.length_map]; exact hl
  let X : Ctx K := ⟨P, A.deeper env, C, n, fun x => names.lookup x, false⟩
  have ok : CtxOk X := ⟨W, hA.deeper _, hC, hg, rfl, fun x => rfl, rfl, rfl, fun x hx => absurd rfl (hn _ (mem_of_lookup hx)), pl, fun _ => rfl⟩
  exact (sound hE lm X ok hok).1 True _ (fun _ => rp_of rfl rfl rfl rfl hR) _ _ G _ _ _ hw X0 fun d ρ q => q.elim
end
end Mine

set_option autoImplicit false
set_option linter.all false
set_option maxRecDepth 100000
namespace Mine
open PySem PySem.W PySem.Calls PyProof.Rows
section
variable {K : Cfg} {A : Around} {E : Value → Shared → Prop} {n : Nat} {G : PH} {s : Shared} {Q : Flow → Shared → Prop}
/-- a raise of OutOfRange in a try that catches it and returns True -/
theorem catch_ok {env : Env} {outer : List Env} {L : Addr} {bm : List Value} {newId : String} {p1 p2 p3 p4 : Pos} {rest : List ExceptHandler} (hfr : A.frames = some (env :: outer)) (hf : env.frame = some L)
    (hmod : ∀ e ∈ env :: outer, e.scope.kind ≠ .module ∧ ∃ L o, e.frame = some L ∧ s.heap.get? L = some o ∧ (∀ vs, o.data ≠ .fields vs) ∧ G L = none) (hpt : K.pT ∉ frs (env :: outer)) (hTf : ∀ L ∈ frs (env :: outer), K.hT.get? L = none) (hTp : K.hT.get? K.pT = none)
    (hk : env.scope.kind = .function) (hx : env.kindOf "OutOfRange" = some .globalImplicit) (hgl : env.globals = mainGlobals) (hg : K.hT.Ns mainGlobals K.mg) (O : OwnClsQ "OutOfRange" K.cOut bm newId K.mg K.hT) (hbase : bm.contains (.type "BaseException") = true)
    (top : ∀ b o, K.hT.get? b = some o → s.heap.get? b = some o) (inc : ∀ b o, G b = some o → s.heap.get? b = some o) (hGf : ∀ L ∈ frs (env :: outer), G L = none) (hGp : G K.pT = none)
    (hQ : ∀ h' tk, (∀ b o, b ≠ K.pT → b ∉ frs (env :: outer) → s.heap.get? b = some o → h'.get? b = some o) → (∀ L ∈ frs (env :: outer), ∀ m, s.heap.Ns L m → h'.Ns L m) → (∃ o, h'.get? K.pT = some o ∧ K.TabOk (ext G s.heap.objs.size h') o) → Q (.ret (.bool true)) { s with heap := h', toks := tk }) :
    RRet K A G s (fun e s₁ => WP K A E (noteFrame e env) (fun _ s₂ => WP K A E (setFlight e none) (fun _ s₃ => WP K A E (handleBy e env (.ExceptHandler (some (.Name "OutOfRange" p1)) none [.Return (some (.Constant (.bool true) 0 p2)) p3] p4 :: rest)) Q s₃) s₂) s₁) := by
  refine ⟨env :: outer, hfr, hmod, hpt, fun e B h' tk a0 q1 q2 q3 q4 => ?_⟩
  have hTB : ∀ b o, K.hT.get? b = some o → B.get? b = some o := fun b o eb => q1 b o (fun h => by rw [h, hTp] at eb; cases eb) (fun h => by rw [hTf b h] at eb; cases eb) (top b o eb)
  refine wpAny_looks_onW hfr hf q3 fun h₄ hheld₄ hsm₄ => ?_
  refine wpAny_landsW hheld₄ fun h₅ hheld hsm₅ => ?_
  have k5 : ∀ b o, K.hT.get? b = some o → h₅.get? b = some o := fun b o eb => hheld.1 b o (hTB b o eb)
  refine handleBy_own hbase (Calls.Name_function_global hk hx (Calls.loadGlobal_global (mg := K.mg) (v := .ref K.cOut) (by rw [hgl]; exact hg.keeps k5) O.bound ⟨rfl, O.keeps k5, hheld.there, ?_⟩) (by decide +kernel))
  refine lands_againW hheld fun h₆ hfl₆ hsm₆ => ?_
  refine wpAny_execs_cons (wpAny_Return_some (wpAny_pure ?_))
  have sm := (hsm₄.trans hsm₅).trans hsm₆
  have kB : ∀ b o, B.get? b = some o → h₆.get? b = some o := hfl₆.1
  refine hQ h₆ tk (fun b o h1 h2 eb => kB b o (q1 b o h1 h2 eb)) (fun L hL m hm => ?_) ?_
  · obtain ⟨o, es, ep, ho, hd, r⟩ := hm
    obtain ⟨sl, e1⟩ := q4 L hL o ho
    obtain ⟨sl', e2⟩ := sm L _ e1 fun vs h => by rw [show o.data = _ from hd] at h; cases h
    exact ⟨_, es, ep, e2, hd, r⟩
  · obtain ⟨o, t1, t2⟩ := q2
    refine ⟨o, kB _ _ t1, K.tabMono _ _ _ (fun b y ey => ?_) t2⟩
    unfold ext at ey ⊢
    split
    · rename_i hb; rw [if_pos hb] at ey; exact ey
    · rename_i hb; rw [if_neg hb] at ey; exact kB b y ey
end
end Mine

set_option autoImplicit false
set_option linter.all false
set_option maxRecDepth 100000
namespace Mine
open PySem PySem.W PySem.Calls PyProof.Rows
section
variable {h : Heap} {mg mb : Str → Option Value} {w : World} {cOut : Addr} {A : Around} {E : Value → Shared → Prop} {C : Orc} {n : Nat} {G : PH} {s : Shared} {Qv : Value → Shared → Prop}
/-- _law_refused of a lambda that raises -/
theorem ref_call (F : Facts mg mb h) (W : Wld (mkK w h cOut mg mb)) (hE : Ext (mkK w h cOut mg mb)) (hC : OrcOk (mkK w h cOut mg mb) C n) (hg : C.glob = gl) (I : CallIn (mkK w h cOut mg mb) A (n + 2) G s)
    {env1 : Env} {L1 : Addr} {bm : List Value} {newId : String} (hF : A.frames = some [env1]) (hk1 : env1.scope.kind ≠ .module) (hf1 : env1.frame = some L1) (hL1 : ∃ o, s.heap.get? L1 = some o ∧ ∀ vs, o.data ≠ .fields vs) (hG1 : G L1 = none) (hT1 : (hide h [681, 723]).get? L1 = none)
    (O : OwnClsQ "OutOfRange" cOut bm newId mg (hide h [681, 723])) (hbase : bm.contains (.type "BaseException") = true)
    {f c' : Addr} {qual : Str} {pm ctv : Value} {clos : List (Str × Addr)} {names : List (Str × NameKind)} {lm : ME} {frees : List Str} {ds : List D}
    (ho : s.heap.get? f = some (kla_obj "<lambda>" qual noPars (toE lm frees) ⟨.function, names, false, false, []⟩ clos pm c' ctv)) (hcd : s.heap.CodeRec (.ref c') qual) (hok : okE lm ⟨frees, fun x => names.lookup x, false⟩ = true) (hn : ∀ x ∈ names, x.2 ≠ .cell) (nd : frees.Nodup) (pl : frees.all plainNm = true) (hl : ds.length = frees.length)
    (hfr : ∀ (i : Nat) (x : Str) (d : D), frees[i]? = some x → ds[i]? = some d → names.lookup x = some .free ∧ ∃ c o v, clos.lookup x = some c ∧ G c = some o ∧ o.data = .cell (some v) ∧ Rep (mkK w h cOut mg mb) G d v) (hw : wpE C lm True (ds.map .val) (fun _ _ => False))
    (hQ : ∀ h' tk, (∀ b o, b ≠ 681 → b ≠ L1 → s.heap.get? b = some o → h'.get? b = some o) → (∀ m, s.heap.Ns L1 m → h'.Ns L1 m) → (∃ o, h'.get? 681 = some o ∧ TabIs (posOf withinS) withinQ (ext G s.heap.objs.size h') o) → Qv (.bool true) { s with heap := h', toks := tk }) : WP (mkK w h cOut mg mb) A E (call (.ref 721) [.ref f]) Qv s := by
  have hA := I.room
  obtain ⟨o, fd, e, d, p1, p2, p3, p4, p5, p6, p7, p8, p9, p10⟩ := hid_fn F F.refF
  have hi := ref_ok
  unfold okRef at hi
  obtain ⟨hi, i5⟩ := band hi
  obtain ⟨hi, i4⟩ := band hi
  obtain ⟨hi, i3⟩ := band hi
  obtain ⟨i1, i2⟩ := band hi
  obtain ⟨f1, f2, f3⟩ := isFunK_of i1
  have sc : fd.scope = refR.2.2 := p3
  obtain ⟨g4, g5⟩ := okG_iff i4
  have hlim : s.heap.NoLimit := let ⟨mc, q1, q2⟩ := W.lim; ⟨mc, q1.keeps I.top, q2⟩
  refine wpAny_call (codeAny_call_def (o := o) (fd := fd) (body := refR.2.1) (binds := [(("work" : Str), .ref f)]) (by have := hA.2.1; (first | grind | omega)) (I.top _ _ e) d hlim (p8.keeps I.top) p2
    (.of_eq (bind_plain (xs := ["work"]) (by rw [p1]; exact i2) (by decide +kernel) p9 p10 [.ref f] rfl)) (fun x hx => by rw [sc] at hx; exact bne_iff_ne.mp (List.all_eq_true.mp i5 x hx)) (fun x hx => by rw [List.mem_singleton.mp hx, sc]; exact eq_of_beq i3) (fun h₁ hns hk₁ => ?_) (by rw [sc]; exact f2) (by rw [sc]; exact f3) (by rw [sc]; exact f1))
  generalize hL : s.heap.objs.size = L at hns ⊢
  generalize hE2 : callEnv fd L 721 = env2
  have hsc : env2.scope = refR.2.2 := by rw [← hE2, ← sc]; rfl
  have kd : ∀ x, env2.kindOf x = refR.2.2.names.lookup x := fun x => by unfold Env.kindOf; rw [hsc]
  have hf2 : env2.frame = some L := by rw [← hE2]; rfl
  have hl2 : env2.locals = L := by rw [← hE2]; rfl
  have hk2 : env2.scope.kind = .function := by rw [hsc]; exact f1
  have hgl2 : env2.globals = mainGlobals := by rw [← hE2]; exact p4
  obtain ⟨o1, ho1, hd1⟩ := hL1
  have l1 : L1 < L := hL ▸ Heap.lt_size ho1
  have GL : ∀ b o, G b = some o → b < L := fun b o e => hL ▸ Heap.lt_size (I.inc b o e)
  have hGL : G L = none := by
    cases q : G L with
    | none => rfl
    | some o' => exact absurd (GL _ _ q) (Nat.lt_irrefl _)
  have hp : (681 : Nat) < L := by obtain ⟨⟨ot, t1, _⟩, _⟩ := I.tab; exact hL ▸ Heap.lt_size t1
  have hTL : (hide h [681, 723]).get? L = none := Heap.get?_none_of_le (Nat.le_trans I.sz (Nat.le_of_eq hL))
  have ef : frs [env2, env1] = [L, L1] := by show List.filterMap _ _ = _; rw [List.filterMap_cons, hf2, List.filterMap_cons, hf1]; rfl
  obtain ⟨oL, es, ep, hoL, hdL, rL⟩ := hns
  have Q1 : ∀ h' tk, (∀ b o, b ≠ 681 → b ∉ frs [env2, env1] → h₁.get? b = some o → h'.get? b = some o) → (∀ M ∈ frs [env2, env1], ∀ m, h₁.Ns M m → h'.Ns M m) → (∃ o, h'.get? 681 = some o ∧ TabIs (posOf withinS) withinQ (ext G h₁.objs.size h') o) → Qv (.bool true) { s with heap := h', toks := tk } := fun h' tk a b c => by
    rw [ef] at a b
    refine hQ h' tk (fun x o' h1 h2 ex => a x o' h1 (fun hm => ?_) (hk₁ x o' ex)) (fun m hm => b L1 (.tail _ (.head _)) m (let ⟨q, r⟩ := hm; ⟨q, let ⟨u, v, x, y⟩ := r; ⟨u, v, hk₁ _ _ x, y⟩⟩)) ?_
    · rcases List.mem_cons.mp hm with rfl | hm
      · exact absurd (Heap.lt_size ex) (by rw [hL]; exact Nat.lt_irrefl _)
      · exact h2 (List.mem_singleton.mp hm)
    · obtain ⟨o', c1, c2⟩ := c
      refine ⟨o', c1, TabIs.mono (fun x y ex => ?_) c2⟩
      unfold ext at ex ⊢
      split
      · rename_i hx
        split at ex
        · exact ex
        · rename_i hx2
          exact absurd (Nat.lt_trans (hL ▸ hx) (Heap.lt_size hoL)) hx2
      · split at ex
        · rename_i hx _
          exact absurd (GL _ _ ex) (hL ▸ hx)
        · exact ex
  have hpt2 : (681 : Nat) ∉ frs [env2, env1] := by
    rw [ef]
    intro hm
    rcases List.mem_cons.mp hm with q | hm
    · rw [q] at hp; exact Nat.lt_irrefl _ hp
    · have q : 681 = L1 := List.mem_singleton.mp hm
      obtain ⟨⟨ot, t1, ps, rfl, _⟩, _⟩ := I.tab
      rw [← q] at ho1
      have e3 := Option.some.inj (ho1.symm.trans t1)
      rw [e3] at hd1
      exact hd1 _ rfl
  rw [refText]
  have hA2 : AOk (A.deeper env2) (n + 1) := hA.deeper env2
  have I2 : CallIn (mkK w h cOut mg mb) (A.deeper env2) (n + 1) G { s with heap := h₁, toks := s.toks + [(("work" : Str), Value.ref f)].length } :=
    ⟨hA2, fun b o e => hk₁ b o (I.inc b o e), fun b o e => hk₁ b o (I.top b o e), ⟨(let ⟨ot, t1, t2⟩ := I.tab.1; ⟨ot, hk₁ _ _ t1, t2⟩), I.tab.2⟩, Nat.le_trans I.sz (Nat.le_trans (Nat.le_of_eq hL) (Nat.le_of_lt (Heap.lt_size hoL)))⟩
  refine wpAny_execs_cons (wpAny_Try_except (wpAny_execs_cons (wpAny_Expr (Call_ (wpAny_Name (wpAny_loadName_local (m := fun x => ([(("work" : Str), Value.ref f)] : List (Str × Value)).reverse.lookup x) (v := .ref f) hk2 ((kd _).trans (eq_of_beq i3)) (by rw [hl2]; exact ⟨oL, es, ep, hoL, hdL, rL⟩) (by rfl) ?_) (by decide +kernel)) (by rfl)) ?_ (by rfl))))
  · refine Calls.callWith_function (o := kla_obj "<lambda>" qual noPars (toE lm frees) ⟨.function, names, false, false, []⟩ clos pm c' ctv) (evalArgs_ok (xs := []) (fun e he => nomatch he) (Calls.spliced_nil ⟨⟨hk₁ _ _ ho, rfl⟩, lam_call W hE hC hg I2 (hk₁ _ _ ho) (hcd.keeps hk₁) hok hn nd pl hl hfr hw
      (catch_ok (bm := bm) (newId := newId) (by show A.frames.map _ = _; rw [hF]; rfl) hf2 (fun e he => ?_) hpt2 (fun M hM => ?_) (hide_in (.head _)) hk2 ((kd _).trans g4) hgl2 (hid_ns F F.g) O hbase (fun b o e => hk₁ b o (I.top b o e)) (fun b o e => hk₁ b o (I.inc b o e)) (fun M hM => ?_) I.tab.2.1 fun h' tk a b c => Q1 h' tk a b c)⟩))
    · rcases List.mem_cons.mp he with rfl | he
      · exact ⟨(by rw [hk2]; exact fun h => nomatch h), L, oL, hf2, hoL, (fun vs h => by rw [hdL] at h; cases h), hGL⟩
      · rw [List.mem_singleton.mp he]
        exact ⟨hk1, L1, o1, hf1, hk₁ _ _ ho1, hd1, hG1⟩
    · rw [ef] at hM
      rcases List.mem_cons.mp hM with rfl | hM
      · exact hTL
      · rw [List.mem_singleton.mp hM]; exact hT1
    · rw [ef] at hM
      rcases List.mem_cons.mp hM with rfl | hM
      · exact hGL
      · rw [List.mem_singleton.mp hM]; exact hG1
  · unfold interactive
    rw [hk2]; rfl
end
end Mine

set_option autoImplicit false
set_option linter.all false
set_option maxRecDepth 100000
namespace Mine
open PySem PySem.W PySem.Calls PyProof.Rows
section
variable {h : Heap} {mg mb : Str → Option Value} {w : World} {cOut : Addr} {E : Value → Shared → Prop} {C : Orc} {n : Nat} {G : PH} {s : Shared} {Qv : Flow → Shared → Prop} {oa : Nat → Addr} {ρ : MEnv}
/-- the statement «if not _law_refused(lambda: ..): return False» where the lambda raises -/
theorem ref_stmt (F : Facts mg mb h) (hE : Ext (mkK w h cOut mg mb)) (hb : (hide h [681, 723]).BuiltinsAt mg 723) (hC : OrcOk (mkK w h cOut mg mb) C n) (hg : C.glob = gl) {X : Ctx (mkK w h cOut mg mb)} (ok : CtxOk X) (hn2 : X.n = n + 2) (hio : X.P.io = none) (hban : X.P.ban = [])
    (hXF : X.A.frames = some [X.P.env]) (hXf : X.P.env.frame = some X.P.env.locals) (hcode : X.P.env.code = .ref 727) {bm : List Value} {newId : String} (O : OwnClsQ "OutOfRange" cOut bm newId mg (hide h [681, 723])) (hbase : bm.contains (.type "BaseException") = true) (hq : okG X.kd "_law_refused" = true)
    {names : List (Str × NameKind)} {lm : ME} {frees : List Str} {ds : List D} {l e : Nat} {clos : List (Str × Addr)} (hcl : closureFor ⟨.function, names, false, false, []⟩ X.P.env = pure clos) (hcL : ∀ x ∈ frees, clos.lookup x = X.P.env.cells.lookup x)
    (hok : okE lm ⟨frees, fun x => names.lookup x, false⟩ = true) (hn : ∀ x ∈ names, x.2 ≠ .cell) (nd : frees.Nodup) (pl : frees.all plainNm = true) (hl : ds.length = frees.length)
    (hfr : ∀ (i : Nat) (x : Str) (d : D), frees[i]? = some x → ds[i]? = some d → names.lookup x = some .free ∧ X.kd x = some .cell ∧ ∃ j : Nat, X.P.names[j]? = some x ∧ ρ[j]? = some (Slot.val d)) (hw : wpE C lm True (ds.map .val) (fun _ _ => False))
    (x : Sm (mkK w h cOut mg mb) X.P oa ρ G s) {ps : Array Value} (ht : s.heap.get? 723 = some { cls := .none, data := .fields ps }) (htr : TriplesOk ps.toList) (hnf : codeAmong ⟨l, 28, l, e⟩ ps.toList = none) (hG : G 723 = none) (hs : ∃ o, X.P.s₀.heap.get? 723 = some o)
    (hQ : ∀ c G' s', Sub G G' → G' 723 = none → s'.heap.get? 723 = some { cls := .none, data := .fields (ps ++ #[rawInt l, rawInt 28, .ref c]) } → Sm (mkK w h cOut mg mb) (reb X.P 723 { cls := .none, data := .fields (ps ++ #[rawInt l, rawInt 28, .ref c]) }) oa ρ G' s' → Qv .next s') :
    WP (mkK w h cOut mg mb) X.A E (exec (refS (lamE (toE lm frees) names l e) l e) X.P.env) Qv s := by
  have W := ok.W
  obtain ⟨o2, fd2, e2, d2, _⟩ := hid_fn F F.refF
  have C1 : CodeHd s.heap 727 723 := by
    obtain ⟨oc, vs, file, tf, flags, tg, inF, text, tt, q1, q2, q3, q4, r⟩ := CodeHd.of F.tab2.1 F.tab2.2
    exact ⟨oc, vs, file, tf, flags, tg, inF, text, tt, x.top _ _ (hid F q1 (fun q => by rw [q] at q2; cases q2)), q2, q3, q4, r⟩
  have hgl : s.heap.Ns mainGlobals mg := x.globals W
  have hbs : s.heap.BuiltinsAt mg 723 := hb.keeps x.top
  refine wpAny_If (isTrue_not (isTrue_plain (Call_ (glob_name ok x hq F.ref (Calls.callWith_function (o := o2) (fd := fd2) (evalArgs_ok (fun e he => by rw [List.mem_singleton.mp he]; rfl) ?_))) (by rfl)) (by rfl)))
  rw [starEach_cons (by rfl)]
  refine Calls.spliced_cons (kla_eval (params := noPars) (by rfl) (kla_makeFunction (mg := mg) hcl ok.globals hgl hcode C1 ht htr hnf (by decide) hbs fun c ctv h' tk hx hge hlt hrec htb => ?_))
  have lt7 : (723 : Nat) < X.P.s₀.heap.objs.size := let ⟨_, e⟩ := hs; Heap.lt_size e
  have neL : (723 : Nat) ≠ X.P.env.locals := Nat.ne_of_lt (Nat.lt_of_lt_of_le lt7 x.above)
  obtain ⟨m, hm, hsl⟩ := x.slots
  have x1 := x.rebase (q := 723) (nt := { cls := .none, data := .fields (ps ++ #[rawInt l, rawInt 28, .ref c]) }) (tk := tk) hio hban (show (723 : Nat) ≠ 681 by decide) neL hG (hide_in (.tail _ (.head _))) (fun i y sl hn hsl' he => by
    rcases (x.off i y sl hn hsl' he).2.2.2 with ⟨xs, rfl⟩ | hle
    · have := (hsl i y _ hn hsl').2.2.1
      rw [hio] at this; cases this
    · exact (Nat.ne_of_lt (Nat.lt_of_lt_of_le lt7 hle)).symm) (fun b o hb e => Heap.get?_push_of_some _ (hx b o hb e)) (Heap.get?_push_of_some (kla_obj "<lambda>" (X.P.env.qual ++ "<lambda>") noPars (toE lm frees) ⟨.function, names, false, false, []⟩ clos ((mg "__name__").getD .none) c ctv) htb) hs rfl
  obtain ⟨m1, hm1, hsl1⟩ := x1.slots
  have hT1 : (hide h [681, 723]).get? X.P.env.locals = none := Heap.get?_none_of_le x.topL
  refine Calls.spliced_nil ⟨⟨x1.top _ _ e2, d2⟩, ref_call F W hE hC hg (hn2 ▸ x1.callIn ok.hA) hXF (by rw [ok.kindf]; exact fun h => nomatch h) hXf (let ⟨o, es, ep, q1, q2, _⟩ := hm1; ⟨o, q1, fun vs h => by rw [q2] at h; cases h⟩) x1.offL hT1 O hbase (Heap.get?_push_size _ rfl) (hrec.keeps fun b o e => Heap.get?_push_of_some _ e) hok hn nd pl hl (fun i y d h1 h2 => ?_) hw fun h'' tk' a b c' => ?_⟩
  · obtain ⟨k1, k2, j, k3, k4⟩ := hfr i y d h1 h2
    refine ⟨k1, ?_⟩
    rcases hsl1 j y _ k3 k4 with ⟨k, _⟩ | ⟨_, c, o, v, q1, q2, q3, q4⟩
    · have k3 : X.P.env.kindOf y = some .local := k
      rw [(ok.kd y).trans k2] at k3; cases k3
    · exact ⟨c, o, v, (hcL y (List.mem_of_getElem? h1)).trans q1, q2, q3, q4⟩
  · obtain ⟨hG', x2⟩ := x1.extL (tk := tk') a b c'
    refine wpAny_truthy_bool (wpAny_execs_nil (hQ c _ _ hG' ?_ ?_ x2))
    · unfold ext
      rw [if_pos (Heap.lt_size (Heap.get?_push_of_some _ htb))]; exact hG
    · exact a _ _ (by decide) neL (Heap.get?_push_of_some _ htb)
end
end Mine

set_option autoImplicit false
set_option linter.all false
set_option maxRecDepth 100000
namespace Mine
open PySem PySem.W PySem.Calls PyProof.Rows
theorem execs_app {env : Env} (b : List Stmt) : ∀ a : List Stmt, execs (a ++ b) env = (execs a env >>= fun f => match f with | .next => execs b env | f => pure f)
  | [] => rfl
  | x :: a => by
    rw [List.cons_append, execs_cons, execs_cons, bind_assoc]
    congr 1
    funext f
    cases f with
    | next => exact execs_app b a
    | _ => rfl

/-- what law is to do, in the mini language; C: the calls of its frame, C': those of the lambdas' frames -/
noncomputable def isTrueP : Fl → MEnv → Prop := fun f _ => f = .ret (.bool true)
noncomputable def valsP (ρ : MEnv) (is : List Nat) (Q : List D → Prop) : Prop := mapP (fun i Q => valP ρ i Q) is Q
noncomputable def refP (C' : Orc) (lm : ME) (i : Nat) (ρ : MEnv) : Prop := ∃ d1 d2 d3, ρ[2]? = some (Slot.val d1) ∧ ρ[i]? = some (Slot.val d2) ∧ ρ[3]? = some (Slot.val d3) ∧ wpE C' lm True [.val d1, .val d2, .val d3] fun _ _ => False
noncomputable def lawP (C C' : Orc) (ρ : MEnv) : Prop :=
  wpB C lawA False ρ fun f ρ => flP f (wpE C lawT False ρ fun d ρ => boolP d fun b => brP b
    (wpB C lawB False ρ fun f ρ => flP f (wpB C lawD False ρ isTrueP) fun _ => False)
    (wpB C lawC False ρ fun f ρ => flP f ((refP C' lam1 9 ρ ∧ refP C' lam2 8 ρ) ∧ wpB C lawD False ρ isTrueP) fun _ => False)) fun _ => False
end Mine

set_option autoImplicit false
set_option linter.all false
set_option maxRecDepth 100000
namespace Mine
open PySem PySem.W PySem.Calls PyProof.Rows
noncomputable def lawDef : FnDef := ⟨false, 1, 17, []⟩
section
variable {h : Heap} {mg mb : Str → Option Value} {w : World} {cOut : Addr}
theorem lawHd (F : Facts mg mb h) : ∃ o fd, FnHd (mkK w h cOut mg mb) 728 lawDef o fd lawR.2.1 nsL_ ∧ fd.scope = lawR.2.2 ∧ fd.code = .ref 727 := by
  obtain ⟨o, fd, e, d, p1, p2, p3, p4, p5, p6, p7, p8, p9, p10⟩ := hid_fn F F.lawF
  have hi := law_ok
  unfold okLaw at hi
  obtain ⟨hi, _⟩ := band hi
  obtain ⟨hi, _⟩ := band hi
  obtain ⟨hi, _⟩ := band hi
  obtain ⟨hi, i5⟩ := band hi
  obtain ⟨hi, i4⟩ := band hi
  obtain ⟨hi, i3⟩ := band hi
  obtain ⟨i1, i2⟩ := band hi
  obtain ⟨f1, f2, f3⟩ := isFunK_of i1
  have sc : fd.scope = lawR.2.2 := p3
  have nd : nsL_.Nodup := of_decide_eq_true i3
  refine ⟨o, fd, ⟨e, d, p8, p2, p5, p4, p6, by rw [sc]; exact f1, by rw [sc]; exact f2, by rw [sc]; exact f3, nd, i4, by decide +kernel, by decide, fun vals hv => bind_plain (xs := ["script"]) (by rw [p1]; exact i2) (by decide +kernel) p9 p10 vals hv, fun x hx => .inl ?_, (fun h => nomatch h), fun n x hx => Option.isSome_iff_exists.mp (cellsFrom_some _ _ _ (.inl hx))⟩, sc, p7⟩
  have : x = "script" := List.mem_singleton.mp hx
  rw [this, sc]; exact eq_of_beq i5
end
end Mine

set_option autoImplicit false
set_option linter.all false
set_option maxRecDepth 100000
namespace Mine
open PySem PySem.W PySem.Calls PyProof.Rows
theorem law_clos1 (fd : FuncData) (h : fd.scope = lawR.2.2) (L : Addr) : ∃ clos, closureFor ⟨.function, lamNs1, false, false, []⟩ (callEnvC fd L 728) = pure clos ∧ ∀ x ∈ frees1, clos.lookup x = (callEnvC fd L 728).cells.lookup x := by
  obtain ⟨nm, qn, ps, bd, sc, g, cl, dd, dk, dc, pm, an, cd, ct, bi⟩ := fd
  have h : sc = lawR.2.2 := h
  subst h
  refine ⟨[("w", L + 4), ("text", L + 2), ("base", L + 1)], by kernel_rfl, fun x hx => ?_⟩
  rcases List.mem_cons.mp hx with rfl | hx
  · kernel_rfl
  · rcases List.mem_cons.mp hx with rfl | hx
    · kernel_rfl
    · rw [List.mem_singleton.mp hx]; kernel_rfl
theorem law_clos2 (fd : FuncData) (h : fd.scope = lawR.2.2) (L : Addr) : ∃ clos, closureFor ⟨.function, lamNs2, false, false, []⟩ (callEnvC fd L 728) = pure clos ∧ ∀ x ∈ frees2, clos.lookup x = (callEnvC fd L 728).cells.lookup x := by
  obtain ⟨nm, qn, ps, bd, sc, g, cl, dd, dk, dc, pm, an, cd, ct, bi⟩ := fd
  have h : sc = lawR.2.2 := h
  subst h
  refine ⟨[("w", L + 4), ("thing", L + 3), ("base", L + 1)], by kernel_rfl, fun x hx => ?_⟩
  rcases List.mem_cons.mp hx with rfl | hx
  · kernel_rfl
  · rcases List.mem_cons.mp hx with rfl | hx
    · kernel_rfl
    · rw [List.mem_singleton.mp hx]; kernel_rfl
end Mine

set_option autoImplicit false
set_option linter.all false
set_option maxRecDepth 100000
namespace Mine
open PySem PySem.W PySem.Calls PyProof.Rows
theorem restOk (fd : FuncData) (h : fd.scope = lawR.2.2) : RestOk fd nsL_ 1 lawRest := by
  have hc : ∀ j ∈ [1, 2, 7, 8], ∃ y, nsL_[1 + j]? = some y ∧ lawR.2.2.names.lookup y = some NameKind.cell := by
    intro j hj
    rcases List.mem_cons.mp hj with rfl | hj
    · exact ⟨"base", rfl, by kernel_rfl⟩
    · rcases List.mem_cons.mp hj with rfl | hj
      · exact ⟨"w", rfl, by kernel_rfl⟩
      · rcases List.mem_cons.mp hj with rfl | hj
        · exact ⟨"thing", rfl, by kernel_rfl⟩
        · rw [List.mem_singleton.mp hj]; exact ⟨"text", rfl, by kernel_rfl⟩
  intro j x hx
  rw [h]
  match j, hx with
  | 0, hx => cases hx; exact .inl rfl
  | 1, hx => cases hx; exact .inr ⟨rfl, hc 1 (.head _)⟩
  | 2, hx => cases hx; exact .inr ⟨rfl, hc 2 (.tail _ (.head _))⟩
  | 3, hx => cases hx; exact .inl rfl
  | 4, hx => cases hx; exact .inl rfl
  | 5, hx => cases hx; exact .inl rfl
  | 6, hx => cases hx; exact .inl rfl
  | 7, hx => cases hx; exact .inr ⟨rfl, hc 7 (.tail _ (.tail _ (.head _)))⟩
  | 8, hx => cases hx; exact .inr ⟨rfl, hc 8 (.tail _ (.tail _ (.tail _ (.head _))))⟩
  | 9, hx => cases hx; exact .inl rfl
  | 10, hx => cases hx; exact .inl rfl
  | 11, hx => cases hx; exact .inl rfl
  | 12, hx => cases hx; exact .inl rfl
  | 13, hx => cases hx; exact .inl rfl
  | 14, hx => cases hx; exact .inl rfl
  | 15, hx => cases hx; exact .inl rfl
  | j + 16, hx => cases hx
end Mine

set_option autoImplicit false
set_option linter.all false
set_option maxRecDepth 100000
namespace Mine
open PySem PySem.W PySem.Calls PyProof.Rows
section
variable {h : Heap} {mg mb : Str → Option Value} {w : World} {cOut : Addr} {A : Around} {E : Value → Shared → Prop} {n : Nat} {G : PH} {s : Shared} {Qv : Value → Shared → Prop}
/-- what the frame's last state says of the heap before the call -/
theorem law_end {P : Frm} {oa : Nat → Addr} {ρ : MEnv} {G' : PH} {s' : Shared} (x : Sm (mkK w h cOut mg mb) P oa ρ G' s') (hio : P.io = none) {H₀ : Heap} (e0 : P.s₀ = { s with heap := H₀ }) (hk : ∀ b o, b ≠ 723 → s.heap.get? b = some o → H₀.get? b = some o) (h7 : ∃ ps : Array Value, H₀.get? 723 = some { cls := .none, data := .fields ps })
    (hQ : ∀ h' tk, (∀ b o, b ≠ 681 → b ≠ 723 → s.heap.get? b = some o → h'.get? b = some o) → (∃ ps : Array Value, h'.get? 681 = some { cls := .none, data := .fields ps }) → (∃ ps : Array Value, h'.get? 723 = some { cls := .none, data := .fields ps }) → Qv (.bool true) { s with heap := h', toks := tk }) : Qv (.bool true) s' := by
  obtain ⟨h', tk, e⟩ := x.same
  have keep : ∀ b o, b ≠ 681 → H₀.get? b = some o → s'.heap.get? b = some o := fun b o hb eb => x.keep b o (by rw [e0]; exact eb) (by rw [hio]; exact fun h => nomatch h) hb
  obtain ⟨⟨ot, t1, ps, rfl, _⟩, _⟩ := x.tab
  obtain ⟨qs, hq⟩ := h7
  have es : s' = { s with heap := s'.heap, toks := s'.toks } := by
    conv => lhs; rw [e, e0]
    rw [e, e0]
  rw [es]
  exact hQ s'.heap s'.toks (fun b o h1 h2 eb => keep b o h1 (hk b o h2 eb)) ⟨ps, t1⟩ ⟨qs, keep 723 _ (by decide) hq⟩
end
end Mine

set_option autoImplicit false
set_option linter.all false
set_option maxRecDepth 100000
namespace Mine
open PySem PySem.W PySem.Calls PyProof.Rows
section
variable {K : Cfg} {X : Ctx K} {E : Value → Shared → Prop} {oa : Nat → Addr} {ρ : MEnv} {G : PH} {s : Shared} {Qv : Flow → Shared → Prop}
/-- law's frame, generic in its texts -/
theorem law_walk (hE : Ext K) (ok : CtxOk X) {a b c d : List MS} {t : ME} (ka : okB a X.st = true) (kt : okE t X.st = true) (kb : okB b X.st = true) (kc : okB c X.st = true) {S12 : List Stmt} {p : Pos} {Pr : MEnv → Prop} (hsrc : X.P.src = [])
    (hD : ∀ oa ρ G s, Sm K X.P oa ρ G s → wpB X.C d False ρ isTrueP → WP K X.A E (execs (toB d X.P.names []) X.P.env) Qv s)
    (hR : ∀ oa' ρ' G' s', Sub G G' → Sm K X.P oa' ρ' G' s' → Pr ρ' ∧ wpB X.C d False ρ' isTrueP → WP K X.A E (execs S12 X.P.env) (fun f s' => match f with | .next => WP K X.A E (execs (toB d X.P.names []) X.P.env) Qv s' | f => Qv f s') s')
    (hq : wpB X.C a False ρ fun f ρ => flP f (wpE X.C t False ρ fun d' ρ => boolP d' fun b' => brP b' (wpB X.C b False ρ fun f ρ => flP f (wpB X.C d False ρ isTrueP) fun _ => False) (wpB X.C c False ρ fun f ρ => flP f (Pr ρ ∧ wpB X.C d False ρ isTrueP) fun _ => False)) fun _ => False)
    (x : Sm K X.P oa ρ G s) : WP K X.A E (execs (toB a X.P.names [] ++ (.If (toE t X.P.names) (toB b X.P.names []) (toB c X.P.names [] ++ S12) p :: toB d X.P.names [])) X.P.env) Qv s := by
  rw [execs_app]
  refine wpAny_bind ?_
  rw [← hsrc] at hD hR ⊢
  refine soundB hE a X ok ka False _ (fun r => r.elim) oa ρ G s _ _ hq x fun f ρ q oa G2 s2 fl hG2 x2 hf => ?_
  cases f with
  | ret d => exact q.elim
  | next =>
  cases hf
  refine wpAny_execs_cons (wpAny_If ((sound hE t X ok kt).2.1 False _ (fun r => r.elim) oa ρ G2 s2 _ _ q x2 fun b ρ q G3 s3 hG3 x3 => ?_))
  cases b with
  | true =>
    refine soundB hE _ X ok kb False _ (fun r => r.elim) oa ρ G3 s3 _ _ (q.1 rfl) x3 fun f ρ q oa G4 s4 fl hG4 x4 hf => ?_
    cases f with
    | ret d => exact q.elim
    | next => cases hf; exact hD oa ρ G4 s4 x4 q
  | false =>
    show WP K X.A E (execs (toB c X.P.names X.P.src ++ S12) X.P.env) _ s3
    rw [execs_app]
    refine wpAny_bind (soundB hE _ X ok kc False _ (fun r => r.elim) oa ρ G3 s3 _ _ (q.2 rfl) x3 fun f ρ q oa G4 s4 fl hG4 x4 hf => ?_)
    cases f with
    | ret d => exact q.elim
    | next => cases hf; exact hR oa ρ G4 s4 (fun b o e => hG4 b o (hG3 b o (hG2 b o e))) x4 q
end
end Mine

set_option autoImplicit false
set_option linter.all false
set_option maxRecDepth 100000
namespace Mine
open PySem PySem.W PySem.Calls PyProof.Rows
theorem orc_glob {t : Nat → Option FnDef} {w : FnDef} {g : Nat → D} : ∀ n, (orc t w g n).glob = g
  | 0 => rfl
  | n + 1 => rfl
section
variable {h : Heap} {mg mb : Str → Option Value} {w : World} {cOut : Addr} {A : Around} {E : Value → Shared → Prop} {n : Nat} {G : PH} {s : Shared} {Qv : Value → Shared → Prop}
theorem law_run (F : Facts mg mb h) (W : Wld (mkK w h cOut mg mb)) (hE : Ext (mkK w h cOut mg mb)) (hb : (hide h [681, 723]).BuiltinsAt mg 723) {bm : List Value} {newId : String} (O : OwnClsQ "OutOfRange" cOut bm newId mg (hide h [681, 723])) (hbase : bm.contains (.type "BaseException") = true)
    {v : Value} {xs : List D} (I : CallIn (mkK w h cOut mg mb) A (n + 3) G s) (hG : G 723 = none) (h7 : s.heap.get? 723 = some { cls := .none, data := .fields #[] }) (hAF : A.frames = some []) (r : Rep (mkK w h cOut mg mb) G (.list xs) v)
    (hlaw : lawP (orc tbl f_within gl (n + 2)) (orc tbl f_within gl n) (.val (.list xs) :: lawRest))
    (hQ : ∀ h' tk, (∀ b o, b ≠ 681 → b ≠ 723 → s.heap.get? b = some o → h'.get? b = some o) → (∃ ps : Array Value, h'.get? 681 = some { cls := .none, data := .fields ps }) → (∃ ps : Array Value, h'.get? 723 = some { cls := .none, data := .fields ps }) → Qv (.bool true) { s with heap := h', toks := tk }) :
    WP (mkK w h cOut mg mb) A E (call (.ref 728) [v]) Qv s := by
  obtain ⟨o, fd, H, sc, cd⟩ := lawHd (w := w) (cOut := cOut) F
  have T := tblOk (w := w) (cOut := cOut) F
  refine call_enter W H [] I (sl := [.val (.list xs)]) (rest := lawRest) (vs := [v]) (io := none) rfl rfl rfl (restOk fd sc) (fun j x u h1 h2 => ?_) (fun _ => rfl) (fun a ha => nomatch ha) fun oa0 G1 s₁ x0 => ?_
  · match j, h1, h2 with
    | 0, h1, h2 => cases h1; cases h2; exact r
    | j + 1, h1, _ => cases h1
  let env := callEnvC fd s.heap.objs.size 728
  let XX : Heap → Ctx (mkK w h cOut mg mb) := fun H₀ => ⟨{ env := env, names := nsL_, src := [], s₀ := { s with heap := H₀ }, G₀ := G, io := none }, A.deeper env, orc tbl f_within gl (n + 2), n + 2, fun x => fd.scope.names.lookup x, false⟩
  have ok : ∀ H₀, CtxOk (XX H₀) := fun H₀ => ⟨W, I.room.deeper _, orc_ok W hE T _, rfl, H.fkind, fun x => rfl, H.globals, H.builtins, fun x hx => H.cells _ x hx, H.pl, fun _ => rfl⟩
  have hi := law_ok
  unfold okLaw at hi
  obtain ⟨hi, j2⟩ := band hi
  obtain ⟨hi, j1⟩ := band hi
  obtain ⟨_, j0⟩ := band hi
  obtain ⟨j1, c5⟩ := band j1
  obtain ⟨j1, c4⟩ := band j1
  obtain ⟨j1, c3⟩ := band j1
  obtain ⟨c1, c2⟩ := band j1
  obtain ⟨l1, l2⟩ := band j2
  have est : lawSt = (XX s.heap).st := by show (⟨nsL_, fun x => lawR.2.2.names.lookup x, false⟩ : St) = ⟨nsL_, fun x => fd.scope.names.lookup x, false⟩; rw [sc]
  rw [est] at c1 c2 c3 c4 c5
  have j0 : okG (fun x => fd.scope.names.lookup x) "_law_refused" = true := by rw [sc]; exact j0
  have kc : ∀ y, lawR.2.2.names.lookup y = some NameKind.cell → fd.scope.names.lookup y = some NameKind.cell := fun y hy => by rw [sc]; exact hy
  have hXF : (A.deeper env).frames = some [env] := by show A.frames.map _ = _; rw [hAF]; rfl
  -- the last part
  have finD : ∀ (H₀ : Heap), (∀ b o, b ≠ 723 → s.heap.get? b = some o → H₀.get? b = some o) → (∃ ps : Array Value, H₀.get? 723 = some { cls := .none, data := .fields ps }) → ∀ E' oa ρ G' s', Sm (mkK w h cOut mg mb) (XX H₀).P oa ρ G' s' → wpB (orc tbl f_within gl (n + 2)) lawD False ρ isTrueP →
      WP (mkK w h cOut mg mb) (A.deeper env) E' (execs (toB lawD nsL_ []) env) (fun fl s' => Qv (match fl with | .ret v => v | _ => .none) s') s' := fun H₀ hk hp E' oa ρ G' s' x q => by
    refine soundB hE lawD (XX H₀) (ok H₀) c5 False E' (fun r => r.elim) oa ρ G' s' _ _ q x fun f ρ' q oa' G'' s'' fl _ x' hf => ?_
    have q : f = .ret (.bool true) := q
    subst q
    obtain ⟨u, rfl, r⟩ := hf
    cases r
    exact law_end x' rfl rfl hk hp hQ
  have x0 : Sm (mkK w h cOut mg mb) (XX s.heap).P oa0 (.val (.list xs) :: lawRest) G1 s₁ := x0
  rw [lawText]
  have lt7 : (723 : Nat) < s.heap.objs.size := Heap.lt_size h7
  obtain ⟨cl1, k1, k2⟩ := law_clos1 fd sc s.heap.objs.size
  obtain ⟨cl2, k3, k4⟩ := law_clos2 fd sc s.heap.objs.size
  have kb : fd.scope.names.lookup ("base" : Str) = some NameKind.cell := kc _ (by kernel_rfl)
  have kw : fd.scope.names.lookup ("w" : Str) = some NameKind.cell := kc _ (by kernel_rfl)
  have kt : fd.scope.names.lookup ("text" : Str) = some NameKind.cell := kc _ (by kernel_rfl)
  have kth : fd.scope.names.lookup ("thing" : Str) = some NameKind.cell := kc _ (by kernel_rfl)
  have g1 : ∀ oa ρ G4 s4, Sm (mkK w h cOut mg mb) (XX s.heap).P oa ρ G4 s4 → G4 723 = none := fun oa ρ G4 s4 x4 => by
    cases q : G4 723 with
    | none => rfl
    | some o' =>
      have := x4.old 723 o' lt7 q
      exact absurd (this.symm.trans hG) (fun h => nomatch h)
  refine law_walk (X := XX s.heap) (Pr := fun ρ => refP (orc tbl f_within gl n) lam1 9 ρ ∧ refP (orc tbl f_within gl n) lam2 8 ρ) hE (ok _) c1 c2 c3 c4 rfl (fun oa ρ G s' x q => finD s.heap (fun b o _ e => e) ⟨#[], h7⟩ _ oa ρ G s' x q) (fun oa ρ G4 s4 hG4 x4 q => ?_) hlaw x0
  obtain ⟨⟨⟨d1, d2, d3, r1, r2, r3, w1⟩, ⟨e1, e2, e3, u1, u2, u3, w2⟩⟩, qD⟩ := q
  have hfr : ∀ (z : Str) (i : Nat) (frees : List Str) (names : List (Str × NameKind)) (d1 d2 d3 : D), frees = [("base" : Str), z, ("w" : Str)] → names.lookup ("base" : Str) = some .free → names.lookup z = some .free → names.lookup ("w" : Str) = some .free → fd.scope.names.lookup z = some .cell → nsL_[i]? = some z →
      ρ[2]? = some (Slot.val d1) → ρ[i]? = some (Slot.val d2) → ρ[3]? = some (Slot.val d3) → ∀ (j : Nat) (x : Str) (d : D), frees[j]? = some x → [d1, d2, d3][j]? = some d → names.lookup x = some .free ∧ fd.scope.names.lookup x = some .cell ∧ ∃ j : Nat, nsL_[j]? = some x ∧ ρ[j]? = some (Slot.val d) := by
    intro z i frees names d1 d2 d3 ef m1 m2 m3 m4 m5 r1 r2 r3 j x d h1 h2
    subst ef
    match j, h1, h2 with
    | 0, h1, h2 => cases h1; cases h2; exact ⟨m1, kb, 2, by kernel_rfl, r1⟩
    | 1, h1, h2 => cases h1; cases h2; exact ⟨m2, m4, i, m5, r2⟩
    | 2, h1, h2 => cases h1; cases h2; exact ⟨m3, kw, 3, by kernel_rfl, r3⟩
    | j + 3, h1, _ => cases h1
  have h7s : s4.heap.get? 723 = some { cls := .none, data := .fields #[] } := x4.keep 723 _ h7 (fun h => nomatch h) (show (723 : Nat) ≠ 681 by decide)
  refine wpAny_execs_cons (ref_stmt (n := n) F hE hb (orc_ok W hE T n) (orc_glob _) (ok s.heap) rfl rfl rfl hXF rfl cd O hbase j0 k1 k2 l1 (by decide) (by decide) (by decide) rfl (hfr "text" 9 frees1 lamNs1 d1 d2 d3 rfl (by kernel_rfl) (by kernel_rfl) (by kernel_rfl) kt (by kernel_rfl) r1 r2 r3) w1 x4 h7s trivial rfl (g1 _ _ _ _ x4) ⟨_, h7⟩ fun c G5 s5 hG5 g5 h75 x5 => ?_)
  have q1 : (s.heap.update 723 fun _ => { cls := .none, data := .fields (#[] ++ #[rawInt 562, rawInt 28, .ref c]) }).get? 723 = some { cls := .none, data := .fields (#[] ++ #[rawInt 562, rawInt 28, .ref c]) } := Heap.get?_update_self _ h7 rfl
  have q2 : ∀ b o, b ≠ 723 → s.heap.get? b = some o → (s.heap.update 723 fun _ => { cls := .none, data := .fields (#[] ++ #[rawInt 562, rawInt 28, .ref c]) }).get? b = some o := fun b o hb e => (Heap.get?_update_other s.heap _ (Ne.symm hb)).trans e
  refine wpAny_execs_cons (ref_stmt (n := n) (X := XX (s.heap.update 723 fun _ => { cls := .none, data := .fields (#[] ++ #[rawInt 562, rawInt 28, .ref c]) })) F hE hb (orc_ok W hE T n) (orc_glob _) (ok _) rfl rfl rfl hXF rfl cd O hbase j0 k3 k4 l2 (by decide) (by decide) (by decide) rfl (hfr "thing" 8 frees2 lamNs2 e1 e2 e3 rfl (by kernel_rfl) (by kernel_rfl) (by kernel_rfl) kth (by kernel_rfl) u1 u2 u3) w2 x5 h75 trivial rfl g5 ⟨_, q1⟩ fun c' G6 s6 hG6 g6 h76 x6 => wpAny_execs_nil ?_)
  have q3 : ∀ nt : Obj, ∀ b o, b ≠ 723 → s.heap.get? b = some o → ((s.heap.update 723 fun _ => { cls := .none, data := .fields (#[] ++ #[rawInt 562, rawInt 28, .ref c]) }).update 723 fun _ => nt).get? b = some o := fun nt b o hb e => (Heap.get?_update_other _ _ (Ne.symm hb)).trans (q2 b o hb e)
  exact finD _ (q3 _) ⟨_, Heap.get?_update_self _ q1 rfl⟩ _ oa ρ G6 s6 x6 qD
end
end Mine

set_option autoImplicit false
set_option linter.all false
set_option maxRecDepth 100000
namespace Mine
open PySem PySem.W PySem.Calls PyProof.Rows
/-- the plain law: what Part II shows -/
noncomputable def PlainLaw (n : Nat) : Prop := ∀ ns : List Int, ns.length ≤ 63 → lawP (orc tbl f_within gl (n + 2)) (orc tbl f_within gl n) (.val (.list (ns.map .int)) :: lawRest)

theorem own_spec : specOf qv "OutOfRange" = some ("Exception.__new__", [.type "Exception", .type "BaseException", .type "object"]) := by kernel_rfl
theorem wellInts {P : Params} {h : Heap} : ∀ {vs : List Value} {ns : List Int}, WellAll P h vs (ns.map .int) → ∀ (K : Cfg) G, RepL K G (ns.map .int) vs
  | _, [], x, K, G => by cases x; rfl
  | _, n :: ns, x, K, G => by
    cases x with
    | cons a b => cases a; exact ⟨_, _, rfl, ⟨_, rfl⟩, wellInts b K G⟩
theorem most63 {ns : List Int} (h : PySem.Challenge.rw_rr0060_01.pre.holds [] { args := [.list (ns.map .int)] } = true) : ns.length ≤ 63 := by
  by_cases q : ns.length ≤ 63
  · exact q
  · have e : (WTm.lt (.lit (.int ((63 : Nat) : Int))) (.len (.arg 0))).value [] { args := [.list (ns.map .int)] } = some (.bool true) := by
      show (less? (.int ((63 : Nat) : Int)) (.int ((ns.map WData.int).length))).map _ = _
      rw [List.length_map]
      show some (WData.bool (decide (((63 : Nat) : Int) < (ns.length : Int)))) = _
      rw [decide_eq_true (by (first | grind | omega))]
    have e2 : PySem.Challenge.rw_rr0060_01.pre.value [] { args := [.list (ns.map .int)] } = some (.bool false) := by
      show (match (match (WTm.lt (.lit (.int ((63 : Nat) : Int))) (.len (.arg 0))).value [] { args := [.list (ns.map .int)] } with | some (.bool b) => some (WData.bool (!b)) | _ => none) with | some (.bool false) => some (WData.bool false) | some (.bool true) => _ | _ => none) = _
      rw [e]
      rfl
    unfold WTm.holds at h
    rw [e2] at h
    cases h

section
variable {h : Heap} {mg mb : Str → Option Value}
theorem hid_builtins (F : Facts mg mb h) {p : Addr} (hp : ∃ o, h.get? p = some o ∧ o.data ≠ .plain) (hm : ∃ bm ob, mg "__builtins__" = some (.ref bm) ∧ bm ≠ builtinsNs ∧ h.get? bm = some ob ∧ ob.cls = .type "module" ∧ ob.dict = some builtinsNs ∧ ob.data = .plain) : (hide h [681, 723]).BuiltinsAt mg p := by
  obtain ⟨bm, ob, a, b, c, d, e, f⟩ := hm
  refine ⟨bm, ob, a, b, fun q => ?_, fun q => ?_, hid F c (fun q => by rw [q] at d; cases d), d, e, f⟩
  · obtain ⟨o, es, ep, h1, h2, _⟩ := F.g
    rw [q, h1] at c; cases c
    rw [f] at h2; cases h2
  · obtain ⟨o, h1, h2⟩ := hp
    rw [q, h1] at c; cases c
    exact h2 f
end

theorem post_ok (args : List WData) : PySem.Challenge.rw_rr0060_01.row.toRowW.claim.post args (.bool true) args = true := by
  have h1 : WShape.has [] (.bool true) .bool = true := by decide +kernel
  have h2 : WTm.holds [] (.eq .res (.lit (.bool true))) ⟨args, some (.bool true), args, []⟩ = true := by
    have : (WTm.eq .res (.lit (.bool true))).value [] ⟨args, some (.bool true), args, []⟩ = some (.bool (same (.bool true) (.bool true))) := rfl
    unfold WTm.holds
    rw [this]
    decide +kernel
  show (WShape.has [] (.bool true) .bool && WTm.holds [] (.eq .res (.lit (.bool true))) ⟨args, some (.bool true), args, []⟩) = true
  rw [h1, h2]; rfl
theorem law_call {n : Nat} (hn : n ≤ 300) (hp : PlainLaw n) (w : World) {cl : Str → Option Addr} {mean : ExcName → Option Value} {s₁ : Shared} {mg mb : Str → Option Value} {lo : List Str} {me : ExcName → Option Value} (T : Top qv lo me mg mb s₁.heap) (F : ∃ mg mb, Facts mg mb s₁.heap) (hg : s₁.gens = #[]) {a : Addr} (ha : mg "law" = some (.ref a))
    {args : List WData} {vals : List Value} (hpre : PySem.Challenge.rw_rr0060_01.row.toRowW.claim.pre args = true) (hwl : WellAll w.params s₁.heap vals args) :
    wpAny (model pw w) callerA (call (.ref a) vals) (fun v s' => GoodWG PySem.Challenge.rw_rr0060_01.row.toRowW.claim cl mean args s₁ (.ok (.ret v)) s') (fun e s' => GoodWG PySem.Challenge.rw_rr0060_01.row.toRowW.claim cl mean args s₁ (.error e) s') s₁ := by
  obtain ⟨mg', mb', F⟩ := F
  have em : mg = mg' := funext fun x => T.g.agree F.g x
  subst em
  obtain ⟨p1, p2⟩ := pre_splitW hpre
  obtain ⟨d, r, rfl, q1, q2⟩ := hasAllW_cons p1
  have := hasAllW_nil q2; subst this
  obtain ⟨xs, rfl, q3⟩ := hasW_list q1
  obtain ⟨ns, rfl⟩ := items_int q3
  have hlen := most63 p2
  cases hwl with
  | cons w1 w2 =>
  cases w2
  cases w1 with
  | @list la vs _ hla hws =>
  have e1 := F.law
  rw [ha] at e1
  cases e1
  obtain ⟨cOut, O, _⟩ := T.ownAt own_spec
  have F1 : ∃ o, s₁.heap.get? 681 = some o ∧ o.data ≠ .plain := ⟨_, F.tab1.2.2, fun q => by cases q⟩
  have F2 : ∃ o, s₁.heap.get? 723 = some o ∧ o.data ≠ .plain := ⟨_, F.tab2.2.2, fun q => by cases q⟩
  have W : Wld (mkK w s₁.heap cOut mg mb') := wld F T.nolimit
  have O' := hid_own F O
  have hE : Ext (mkK w s₁.heap cOut mg mb') := ext_ok F T.nolimit (hid_builtins F F1 T.bmain) O'.own PySem.F.excBase_Exception
  let G : PH := fun b => if b = 681 ∨ b = 723 then none else s₁.heap.get? b
  have hG : ∀ b o, b ≠ 681 → b ≠ 723 → s₁.heap.get? b = some o → G b = some o := fun b o h1 h2 e => (if_neg (fun q => q.elim h1 h2)).trans e
  have rl : Rep (mkK w s₁.heap cOut mg mb') G (.list (ns.map .int)) (.ref la) := by
    refine ⟨la, vs.toArray, 0, rfl, hG _ _ (fun q => ?_) (fun q => ?_) hla, wellInts hws _ _⟩
    · rw [q, F.tab1.2.2] at hla; cases hla
    · rw [q, F.tab2.2.2] at hla; cases hla
  have I : CallIn (mkK w s₁.heap cOut mg mb') callerA (n + 3) G s₁ := by
    refine ⟨⟨rfl, ?_, ?_⟩, fun b o e => ?_, hide_stays, ⟨⟨_, F.tab1.2.2, #[], rfl, trivial, .inl rfl⟩, if_pos (.inl rfl), hide_in (.head _)⟩, ?_⟩
    · show 1 + claimMargin + 2 * (n + 3) + 10 < recursionLimit
      have : claimMargin = 300 := rfl
      have : recursionLimit = 1000 := rfl
      (first | grind | omega)
    · show 4 + 16 * (n + 3) + 200 < cLine
      have : cLine = 9900 := rfl
      (first | grind | omega)
    · have e : (if b = 681 ∨ b = 723 then none else s₁.heap.get? b) = some o := e
      split at e
      · cases e
      · exact e
    · show (hide s₁.heap _).objs.size ≤ _
      unfold hide
      rw [Array.size_mapIdx]; exact Nat.le_refl _
  refine law_run F W hE (hid_builtins F F2 T.bmain) O' (by decide) I (if_pos (.inr rfl)) F.tab2.2.2 rfl rl (hp ns hlen) fun h' tk k1 k2 k3 => ?_
  refine ⟨.inl ⟨.bool true, .bool true, [], rfl, fun cls => rfl, .bool true, post_ok _, fun _ => ⟨.nil, fun a ha => nomatch ha⟩⟩, ⟨fun b o e => ?_, fun b o e => ?_⟩, rfl, .of_eq hg⟩
  · by_cases b1 : b = 681
    · subst b1
      obtain ⟨ps, e2⟩ := k2
      rw [F.tab1.2.2] at e; cases e
      exact .inr (.inl ⟨F.tab1.2.isCodeTable, rfl, #[], ps, rfl, by rw [Array.empty_append]; exact e2⟩)
    · by_cases b2 : b = 723
      · subst b2
        obtain ⟨ps, e2⟩ := k3
        rw [F.tab2.2.2] at e; cases e
        exact .inr (.inl ⟨F.tab2.2.isCodeTable, rfl, #[], ps, rfl, by rw [Array.empty_append]; exact e2⟩)
      · exact .inl (k1 b o b1 b2 e)
  · by_cases b1 : b = 681
    · obtain ⟨ps, e2⟩ := k2
      exact ⟨_, b1 ▸ e2⟩
    · by_cases b2 : b = 723
      · obtain ⟨ps, e2⟩ := k3
        exact ⟨_, b2 ▸ e2⟩
      · exact ⟨o, k1 b o b1 b2 e⟩
end Mine

set_option autoImplicit false
set_option linter.all false
set_option maxRecDepth 100000
set_option Elab.async false
namespace Mine
open PySem PySem.W PySem.Calls PyProof.Rows
theorem said2 : Fast.tw9446332074065402090 PySem.Challenge.rw_rr0060_01 = true := by kernel_rfl
theorem said : PySem.Challenge.rw_rr0060_01.wellSaid = true := by
  rw [Fast.te9446332074065402090]
  exact said2
end Mine

set_option autoImplicit false
set_option linter.all false
set_option maxRecDepth 100000
set_option Elab.async false
namespace Mine
open PySem PySem.W PySem.Calls PyProof.Rows
noncomputable def lawD_ : DefRec := ⟨"law", lawR.1, lawR.2.1, lawR.2.2, posOf (stmtAt 115)⟩
theorem law_def : defOf qv "law" = some (lawD_, []) := by kernel_rfl
theorem law_the : pw.theDef "law" = some (lawD_.params, lawD_.body, lawD_.scope) := by kernel_rfl
theorem law_kw : kwWritten? lawD_.params.kwonlyargs lawD_.params.kw_defaults = some [] := by kernel_rfl
theorem law_prom : PySem.Challenge.rw_rr0060_01.row.toRowW.promised := by
  refine ⟨[.list []], ?_, ?_⟩ <;> decide +kernel
theorem law_looks : (chainsOk qv && opensWell pw && (frees PySem.Challenge.rw_rr0060_01.row.toRowW && PySem.Challenge.rw_rr0060_01.row.within.isEmpty)) = true := by kernel_rfl
theorem law_bare : pw.bare := ⟨rfl, rfl, rfl, rfl, rfl, by decide +kernel⟩
theorem holds_of {n : Nat} (hn : n ≤ 300) (hp : PlainLaw n) : PySem.Challenge.rw_rr0060_01.Holds :=
  ⟨said, holds_open (r := PySem.Challenge.rw_rr0060_01.row) (q := qv) (loose := looseL) (Xt := fun _ => true) (XP := fun _ _ => True) (Yf := lookY) (Ya := fun _ => wantY) (YP := fun _ h => ∃ mg mb, Facts mg mb h) (d := lawD_) (kwd := []) (N := 9048) left_ok (fun w s e => ⟨_, _, facts_of e⟩) (fun w h h' ⟨mg, mb, x⟩ k => ⟨mg, mb, x.keeps k⟩)
    (fun _ _ => trivial) (fun _ _ _ _ _ => trivial) law_def law_the law_kw (fun s _ => recFacts_nil rfl) rfl (row_said said) law_looks law_bare law_prom
    fun w s₀ s₁ mg mb G Y a o pm cd doc dV kV _ _ _ _ hmg hg args vals as hpre _ _ hwl _ => law_call hn hp w G.T Y hg hmg hpre hwl⟩
end Mine

set_option autoImplicit false
set_option linter.all false
namespace Mine.P
open PySem

/-! numbers as rows of limbs -/
noncomputable abbrev I (n : Nat) : D := .int (n : Int)
noncomputable abbrev L (l : List Nat) : D := .list (l.map I)
noncomputable def val (B : Nat) : List Nat → Nat
  | [] => 0
  | d :: l => d + B * val B l
noncomputable def dgF (B : Nat) : Nat → Nat → List Nat
  | 0, _ => []
  | f + 1, x => if x = 0 then [] else x % B :: dgF B f (x / B)
noncomputable def dg (B x : Nat) : List Nat := dgF B x x
noncomputable def Can (B : Nat) : List Nat → Prop
  | [] => True
  | d :: l => d < B ∧ (l = [] → d ≠ 0) ∧ Can B l
noncomputable def Lim (B : Nat) (l : List Nat) : Prop := ∀ d ∈ l, d < B
noncomputable abbrev N (B x : Nat) : D := L (dg B x)

section
variable {B : Nat}
theorem div_lt' (hB : 2 ≤ B) {x : Nat} (hx : x ≠ 0) : x / B < x := Nat.div_lt_self (Nat.pos_of_ne_zero hx) hB
theorem dgF_eq (hB : 2 ≤ B) : ∀ f g x : Nat, x ≤ f → x ≤ g → dgF B f x = dgF B g x
  | 0, 0, x, _, _ => rfl
  | 0, g + 1, x, h, _ => by cases Nat.le_zero.mp h; rfl
  | f + 1, 0, x, _, h => by cases Nat.le_zero.mp h; rfl
  | f + 1, g + 1, x, h1, h2 => by
    unfold dgF
    split
    · rfl
    · rename_i hx
      have := div_lt' hB hx
      rw [dgF_eq hB f g (x / B) (Nat.le_of_lt_succ (Nat.lt_of_lt_of_le this h1)) (Nat.le_of_lt_succ (Nat.lt_of_lt_of_le this h2))]
theorem dg_zero : dg B 0 = [] := rfl
theorem dg_pos (hB : 2 ≤ B) {x : Nat} (hx : x ≠ 0) : dg B x = x % B :: dg B (x / B) := by
  cases x with
  | zero => exact absurd rfl hx
  | succ x =>
    show (if x + 1 = 0 then [] else (x + 1) % B :: dgF B x ((x + 1) / B)) = _
    rw [if_neg hx, dgF_eq hB x ((x + 1) / B) _ (Nat.le_of_lt_succ (div_lt' hB hx)) (Nat.le_refl _)]; rfl
theorem dg_cons (hB : 2 ≤ B) {d x : Nat} (hd : d < B) (h : d + B * x ≠ 0) : dg B (d + B * x) = d :: dg B x := by
  rw [dg_pos hB h, Nat.add_mul_mod_self_left, Nat.mod_eq_of_lt hd, Nat.add_mul_div_left _ _ (by (first | grind | omega)), Nat.div_eq_of_lt hd, Nat.zero_add]
theorem val_pos (hB : 2 ≤ B) : ∀ {l : List Nat}, Can B l → l ≠ [] → val B l ≠ 0
  | [], _, h => absurd rfl h
  | d :: l, ⟨_, h2, h3⟩, _ => by
    show d + B * val B l ≠ 0
    cases l with
    | nil => exact fun h => h2 rfl (Nat.eq_zero_of_add_eq_zero_right h)
    | cons e l => exact fun h => val_pos hB h3 (fun h => nomatch h) ((Nat.mul_eq_zero.mp (Nat.eq_zero_of_add_eq_zero_left h)).resolve_left (by (first | grind | omega)))
theorem dg_val (hB : 2 ≤ B) : ∀ {l : List Nat}, Can B l → dg B (val B l) = l
  | [], _ => rfl
  | d :: l, h => by
    show dg B (d + B * val B l) = _
    rw [dg_cons hB h.1 (val_pos (l := d :: l) hB h (fun h => nomatch h)), dg_val hB h.2.2]
theorem dg_ind (hB : 2 ≤ B) {P : Nat → List Nat → Prop} (h0 : P 0 []) (h1 : ∀ x, x ≠ 0 → P (x / B) (dg B (x / B)) → P x (x % B :: dg B (x / B))) (x : Nat) : P x (dg B x) := by
  induction x using Nat.strongRecOn with
  | _ x ih =>
    by_cases hx : x = 0
    · subst hx; exact h0
    · rw [dg_pos hB hx]; exact h1 x hx (ih _ (div_lt' hB hx))
theorem val_dg (hB : 2 ≤ B) (x : Nat) : val B (dg B x) = x :=
  dg_ind hB (P := fun x l => val B l = x) rfl (fun x _ ih => by show x % B + B * val B _ = x; rw [ih, Nat.mod_add_div]) x
theorem can_dg (hB : 2 ≤ B) (x : Nat) : Can B (dg B x) :=
  dg_ind hB (P := fun _ l => Can B l) trivial (fun x hx ih => ⟨Nat.mod_lt _ (by (first | grind | omega)), fun h e => hx (by
    have := val_dg hB (x / B)
    rw [h] at this
    have h2 := Nat.mod_add_div x B
    rw [e, ← this] at h2
    exact h2.symm), ih⟩) x
theorem can_lim : ∀ {l : List Nat}, Can B l → Lim B l
  | [], _ => fun d h => nomatch h
  | d :: l, h => fun e he => (List.mem_cons.mp he).elim (fun q => q ▸ h.1) (can_lim h.2.2 e)
theorem n_of (hB : 2 ≤ B) {l : List Nat} (h : Can B l) : L l = N B (val B l) := by
  show D.list (l.map I) = D.list ((dg B (val B l)).map I)
  rw [dg_val hB h]
theorem val_append : ∀ (a b : List Nat), val B (a ++ b) = val B a + B ^ a.length * val B b
  | [], b => by show _ = 0 + 1 * _; rw [Nat.zero_add, Nat.one_mul]; rfl
  | d :: a, b => by
    show d + B * val B (a ++ b) = d + B * val B a + B ^ (a.length + 1) * val B b
    rw [val_append a b, Nat.mul_add, ← Nat.mul_assoc, Nat.add_assoc, Nat.pow_succ, Nat.mul_comm _ B]
theorem lim_lt (hB : 2 ≤ B) : ∀ {l : List Nat}, Lim B l → val B l < B ^ l.length
  | [], _ => Nat.one_pos
  | d :: l, h => by
    have h1 := h d (.head _)
    have h2 := lim_lt hB (l := l) fun e he => h e (.tail _ he)
    show d + B * val B l < B ^ (l.length + 1)
    rw [Nat.pow_succ, Nat.mul_comm _ B]
    exact Nat.lt_of_lt_of_le (by rw [Nat.mul_succ]; (first | grind | omega) : d + B * val B l < B * (val B l + 1)) (Nat.mul_le_mul_left B h2)
end
end Mine.P

set_option autoImplicit false
set_option linter.all false
namespace Mine.P
open PySem

/-! rules of the mini language -/
theorem br {p : Prop} [Decidable p] {t f : Prop} (h1 : p → t) (h2 : ¬ p → f) : brP (decide p) t f := ⟨fun h => h1 (of_decide_eq_true h), fun h => h2 (of_decide_eq_false h)⟩
theorem brn {p : Prop} [Decidable p] {t f : Prop} (h1 : ¬ p → t) (h2 : p → f) : brP (!decide p) t f := ⟨fun h => h1 (of_decide_eq_false (bnot h)), fun h => h2 (by cases hd : decide p with | true => exact of_decide_eq_true hd | false => rw [hd] at h; cases h)⟩
theorem br_t {t f : Prop} (h : t) : brP true t f := ⟨fun _ => h, fun h => nomatch h⟩
theorem br_f {t f : Prop} (h : f) : brP false t f := ⟨(fun h => nomatch h), fun _ => h⟩
theorem wh_rule {T : MEnv → (D → MEnv → Prop) → Prop} {B : MEnv → (Fl → MEnv → Prop) → Prop} {Q : Fl → MEnv → Prop} (J : Nat → MEnv → Prop)
    (h : ∀ m ρ, J m ρ → ∀ K : Fl → MEnv → Prop, (∀ m', m' < m → ∀ ρ', J m' ρ' → K .next ρ') → (∀ d ρ', Q (.ret d) ρ' → K (.ret d) ρ') → T ρ fun d ρ => boolP d fun c => brP c (B ρ K) (Q .next ρ)) {m : Nat} {ρ : MEnv} (hJ : J m ρ) : ∃ n, whP T B Q n ρ := by
  have : ∀ n m ρ, m < n → J m ρ → whP T B Q n ρ := by
    intro n
    induction n with
    | zero => exact fun m ρ h => nomatch h
    | succ n ih => exact fun m ρ hm hJ => h m ρ hJ _ (fun m' hl ρ' hJ' => ih m' ρ' (Nat.lt_of_lt_of_le hl (Nat.le_of_lt_succ hm)) hJ') fun d ρ' q => q
  exact ⟨m + 1, this _ m ρ (Nat.lt_succ_self m) hJ⟩
theorem fo_rule {tg : TG} {B : MEnv → (Fl → MEnv → Prop) → Prop} {Q : Fl → MEnv → Prop} (J : Nat → MEnv → Prop) : ∀ (ds : List D) (i : Nat),
    (∀ j d, ds[j]? = some d → ∀ ρ, J (i + j) ρ → ∀ K : Fl → MEnv → Prop, (∀ ρ', J (i + j + 1) ρ' → K .next ρ') → (∀ d ρ', Q (.ret d) ρ' → K (.ret d) ρ') → stT tg d ρ fun ρ => B ρ K) → (∀ ρ, J (i + ds.length) ρ → Q .next ρ) → ∀ ρ, J i ρ → foP tg B Q ds ρ
  | [], i, _, fin, ρ, hJ => fin ρ hJ
  | d :: ds, i, h, fin, ρ, hJ => h 0 d rfl ρ hJ _ (fun ρ' hJ' => fo_rule J ds (i + 1) (fun j d hj ρ' q K h1 h2 => by
      have e : i + 1 + j = i + (j + 1) := by rw [Nat.add_assoc, Nat.add_comm 1]
      exact h (j + 1) d hj ρ' (e ▸ q) K (fun ρ'' q' => h1 ρ'' (by rw [e]; exact q')) h2) (fun ρ' q => fin ρ' (by
      have e : i + 1 + ds.length = i + (ds.length + 1) := by rw [Nat.add_assoc, Nat.add_comm 1]
      exact e ▸ q)) ρ' hJ') fun d ρ' q => q
/-- over whole numbers up from a -/
theorem for_range {tg : TG} {B : MEnv → (Fl → MEnv → Prop) → Prop} {Q : Fl → MEnv → Prop} (J : Nat → MEnv → Prop) {a b : Nat} (hab : a ≤ b) 
    (h : ∀ i, a ≤ i → i < b → ∀ ρ, J i ρ → ∀ K : Fl → MEnv → Prop, (∀ ρ', J (i + 1) ρ' → K .next ρ') → (∀ d ρ', Q (.ret d) ρ' → K (.ret d) ρ') → stT tg (I i) ρ fun ρ => B ρ K) (fin : ∀ ρ, J b ρ → Q .next ρ) {ρ : MEnv} (hJ : J a ρ) : foP tg B Q (rangeL a b 1) ρ := by
  have hn : rangeN a b 1 = b - a := by
    unfold rangeN
    rw [if_pos (by decide)]
    split <;> (first | grind | omega)
  have hl : (rangeL a b 1).length = b - a := by unfold rangeL; rw [List.length_map, List.length_range, hn]
  refine fo_rule J _ a (fun j d hj ρ q K h1 h2 => ?_) (fun ρ q => fin ρ (by rw [hl] at q; exact (Nat.add_sub_cancel' hab) ▸ q)) ρ hJ
  have hj2 : j < b - a := hl ▸ (List.getElem?_eq_some_iff.mp hj).1
  have e : d = I (a + j) := by
    unfold rangeL at hj
    rw [List.getElem?_map, List.getElem?_range (hn ▸ hj2)] at hj
    cases hj
    show D.int _ = D.int _
    rw [Int.mul_one]; rfl
  rw [e]
  exact h (a + j) (Nat.le_add_right _ _) (by (first | grind | omega)) ρ q K h1 h2
theorem map_rule {α : Type} {f : α → (D → Prop) → Prop} (g : α → D) : ∀ {ds : List α} {Q : List D → Prop}, (∀ d ∈ ds, ∀ K : D → Prop, K (g d) → f d K) → Q (ds.map g) → mapP f ds Q
  | [], Q, _, q => q
  | d :: ds, Q, h, q => h d (.head _) _ (map_rule g (ds := ds) (Q := fun ys => Q (g d :: ys)) (fun d hd => h d (.tail _ hd)) q)
section
variable {l : List Nat} {Q : D → Prop}
theorem len_ok (h : l.length ≤ 4096) (q : Q (I l.length)) : lenP (l.map I).length Q := ⟨by rw [List.length_map]; exact h, by rw [List.length_map]; exact q⟩
theorem place_ok {n k : Nat} {Q : Nat → Prop} (hn : n ≤ 4096) (h : k < n) (q : Q k) : placeP n (k : Int) Q := ⟨hn, .inl ⟨Int.natCast_nonneg k, Int.ofNat_lt.mpr h, q⟩⟩
theorem at_map {k : Nat} (h : k < l.length) : (l.map I)[k]? = some (I (l.getD k 0)) := by
  rw [List.getElem?_map, List.getD_eq_getElem?_getD, List.getElem?_eq_getElem h]; rfl
theorem idx_ok {k : Nat} {i : Int} (e : i = k) (hl : l.length ≤ 4096) (h : k < l.length) (q : Q (I (l.getD k 0))) : idxP (L l) (.int i) Q := by
  subst e
  show placeP (l.map I).length (k : Int) fun k => ∃ y, (l.map I)[k]? = some y ∧ Q y
  exact place_ok (by rw [List.length_map]; exact hl) (by rw [List.length_map]; exact h) ⟨_, at_map h, q⟩
theorem clip_nat (n k : Nat) : clipAt n (k : Int) = min k n := clipAt_nat n k
theorem cut_hi {j : Nat} (hl : l.length ≤ 4096) (q : Q (L (l.take j))) : cutP (L l) none (some (I j)) Q := by
  refine ⟨by rw [List.length_map]; exact hl, ?_⟩
  show Q (.list (((l.map I).drop 0).take (clipAt (l.map I).length (j : Int) - 0)))
  rw [clip_nat, List.drop_zero, List.length_map, Nat.sub_zero, ← List.map_take, ← List.take_take, List.take_length]; exact q
theorem cut_lo {j : Nat} (hl : l.length ≤ 4096) (q : Q (L (l.drop j))) : cutP (L l) (some (I j)) none Q := by
  refine ⟨by rw [List.length_map]; exact hl, ?_⟩
  show Q (.list (((l.map I).drop (clipAt (l.map I).length (j : Int))).take ((l.map I).length - (clipAt (l.map I).length (j : Int)))))
  have e : ((l.map I).drop (clipAt (l.map I).length (j : Int))).take ((l.map I).length - (clipAt (l.map I).length (j : Int))) = (l.drop j).map I := by
    rw [clip_nat, List.length_map, ← List.map_drop, ← List.map_take, ← List.length_drop, List.take_length]
    rcases Nat.le_total j l.length with h | h
    · rw [Nat.min_eq_left h]
    · rw [Nat.min_eq_right h, List.drop_eq_nil_of_le h, List.drop_eq_nil_of_le (Nat.le_refl _)]
  rw [e]; exact q
theorem cut_both {i j : Nat} (hl : l.length ≤ 4096) (q : Q (L ((l.drop i).take (j - i)))) : cutP (L l) (some (I i)) (some (I j)) Q := by
  refine ⟨by rw [List.length_map]; exact hl, ?_⟩
  show Q (.list (((l.map I).drop (clipAt (l.map I).length (i : Int))).take (clipAt (l.map I).length (j : Int) - (clipAt (l.map I).length (i : Int)))))
  have e : ((l.map I).drop (clipAt (l.map I).length (i : Int))).take (clipAt (l.map I).length (j : Int) - (clipAt (l.map I).length (i : Int))) = ((l.drop i).take (j - i)).map I := by
    rw [clip_nat, clip_nat, List.length_map, ← List.map_drop, ← List.map_take]
    rcases Nat.le_total i l.length with h | h
    · rw [Nat.min_eq_left h]
      rcases Nat.le_total j l.length with h2 | h2
      · rw [Nat.min_eq_left h2]
      · rw [Nat.min_eq_right h2, List.take_of_length_le (i := l.length - i), List.take_of_length_le (i := j - i)] <;> rw [List.length_drop] <;> (first | grind | omega)
    · rw [Nat.min_eq_right h, List.drop_eq_nil_of_le h, List.drop_eq_nil_of_le (Nat.le_refl _), List.take_nil, List.take_nil]
  rw [e]; exact q
end

/-! what an expression comes to -/
noncomputable def Ev (C : Orc) (R : Prop) (e : ME) (ρ : MEnv) (d : D) (ρ' : MEnv) : Prop := ∀ Q : D → MEnv → Prop, Q d ρ' → wpE C e R ρ Q
noncomputable def EvL (C : Orc) (R : Prop) (es : List ME) (ρ : MEnv) (ds : List D) (ρ' : MEnv) : Prop := ∀ Q : List D → MEnv → Prop, Q ds ρ' → wpEs C es R ρ Q
noncomputable def EvS (C : Orc) (R : Prop) (es : List ME) (ρ : MEnv) (ds : List Slot) (ρ' : MEnv) : Prop := ∀ Q : List Slot → MEnv → Prop, Q ds ρ' → wpSl C es R ρ Q
noncomputable def Fn (C : Orc) (R : Prop) (k : Nat) (ds : List D) (d : D) : Prop := ∀ Q : D → Prop, Q d → C.fn R k ds Q
noncomputable def Io (C : Orc) (k : Nat) (xs ds : List D) (d : D) (ys : List D) : Prop := ∀ Q : D → List D → Prop, Q d ys → C.io k xs ds Q
noncomputable def SK (C : Orc) (r : List MS) (R : Prop) (Q : Fl → MEnv → Prop) : Fl → MEnv → Prop := fun f ρ => flP f (wpB C r R ρ Q) fun d => Q (.ret d) ρ
section
variable {C : Orc} {R : Prop} {ρ ρ1 ρ2 ρ3 : MEnv} {a b c e : ME} {es : List ME} {d x y z : D} {ds xs : List D} {p p1 p2 p3 i j k m n w : Nat} {l : List Nat} {op : Operator} {co : CO} {t : Bool} {u v : Int} {sl : List Slot} {r body : List MS} {Q K : Fl → MEnv → Prop}
theorem e_c0 : Ev C R (.cint 0 p) ρ (I 0) ρ := fun _ q => q
theorem e_c1 : Ev C R (.cint 1 p) ρ (I 1) ρ := fun _ q => q
theorem e_c2 : Ev C R (.cint 2 p) ρ (I 2) ρ := fun _ q => q
theorem e_c3 : Ev C R (.cint 3 p) ρ (I 3) ρ := fun _ q => q
theorem e_c4 : Ev C R (.cint 4 p) ρ (I 4) ρ := fun _ q => q
theorem e_cint : Ev C R (.cint u p) ρ (.int u) ρ := fun _ q => q
theorem e_str {s : List Nat} : Ev C R (.cstr s p) ρ (.str s) ρ := fun _ q => q
theorem e_bool : Ev C R (.cbool t p) ρ (.bool t) ρ := fun _ q => q
theorem e_fn : Ev C R (.fn k p) ρ (.fn k) ρ := fun _ q => q
theorem e_var (h : ρ[i]? = some (.val d)) : Ev C R (.var i p) ρ d ρ := fun Q q => by
  show varP ρ i Q
  unfold varP; rw [h]; exact q
theorem e_own (h : ρ[i]? = some (.own xs)) : Ev C R (.var i p) ρ (.list xs) (ρ.set i (.val (.list xs))) := fun Q q => by
  show varP ρ i Q
  unfold varP; rw [h]; exact q
theorem e_bin (ha : Ev C R a ρ x ρ1) (hb : Ev C R b ρ1 y ρ2) (h : ∀ Q : D → Prop, Q z → binP op x y Q) : Ev C R (.bin op a b p) ρ z ρ2 := fun Q q => ha _ (hb _ (h _ q))
theorem e_add (ha : Ev C R a ρ (I m) ρ1) (hb : Ev C R b ρ1 (I n) ρ2) : Ev C R (.bin .Add a b p) ρ (I (m + n)) ρ2 := e_bin ha hb fun _ q => q
theorem e_sub (ha : Ev C R a ρ (I m) ρ1) (hb : Ev C R b ρ1 (I n) ρ2) (h : n ≤ m) : Ev C R (.bin .Sub a b p) ρ (I (m - n)) ρ2 := e_bin ha hb fun Q q => by
  show Q (.int ((m : Int) - (n : Int)))
  rw [← Int.ofNat_sub h]; exact q
theorem e_subZ (ha : Ev C R a ρ (.int u) ρ1) (hb : Ev C R b ρ1 (.int v) ρ2) : Ev C R (.bin .Sub a b p) ρ (.int (u - v)) ρ2 := e_bin ha hb fun _ q => q
theorem e_addZ (ha : Ev C R a ρ (.int u) ρ1) (hb : Ev C R b ρ1 (.int v) ρ2) : Ev C R (.bin .Add a b p) ρ (.int (u + v)) ρ2 := e_bin ha hb fun _ q => q
theorem e_mul (ha : Ev C R a ρ (I m) ρ1) (hb : Ev C R b ρ1 (I n) ρ2) (h1 : m < 2 ^ 256) (h2 : n < 2 ^ 256) : Ev C R (.bin .Mult a b p) ρ (I (m * n)) ρ2 := e_bin ha hb fun Q q => ⟨h1, h2, q⟩
theorem e_shl (ha : Ev C R a ρ (I m) ρ1) (hb : Ev C R b ρ1 (I n) ρ2) (h1 : m < 2 ^ 256) (h2 : n ≤ 4096) : Ev C R (.bin .LShift a b p) ρ (I (m * 2 ^ n)) ρ2 := e_bin ha hb fun Q q =>
  ⟨Int.natCast_nonneg n, Int.ofNat_le.mpr h2, h1, by
    show Q (.int ((m : Int) * 2 ^ n))
    rw [show (m : Int) * 2 ^ n = ((m * 2 ^ n : Nat) : Int) by rw [Int.natCast_mul, Int.natCast_pow]; rfl]; exact q⟩
theorem e_pow (ha : Ev C R a ρ (I m) ρ1) (hb : Ev C R b ρ1 (I n) ρ2) (h1 : m < 2 ^ 256) (h2 : n ≤ 4096) : Ev C R (.bin .Pow a b p) ρ (I (m ^ n)) ρ2 := e_bin ha hb fun Q q =>
  ⟨Int.natCast_nonneg n, Int.ofNat_le.mpr h2, h1, by
    show Q (.int ((m : Int) ^ n))
    rw [← Int.natCast_pow]; exact q⟩
theorem fdiv_nat (m n : Nat) : Int.fdiv (m : Int) (n : Int) = ((m / n : Nat) : Int) := by
  rw [Int.fdiv_eq_ediv_of_nonneg _ (Int.natCast_nonneg n)]; rfl
theorem fmod_nat (m n : Nat) : Int.fmod (m : Int) (n : Int) = ((m % n : Nat) : Int) := by
  rw [Int.fmod_eq_emod_of_nonneg _ (Int.natCast_nonneg n)]; rfl
theorem e_div (ha : Ev C R a ρ (I m) ρ1) (hb : Ev C R b ρ1 (I n) ρ2) (h1 : m < 2 ^ 256) (h2 : n ≠ 0) : Ev C R (.bin .FloorDiv a b p) ρ (I (m / n)) ρ2 := e_bin ha hb fun Q q =>
  ⟨fun h => h2 (Int.ofNat_eq_zero.mp h), h1, by
    show Q (.int (Int.fdiv (m : Int) (n : Int)))
    rw [fdiv_nat]; exact q⟩
theorem e_mod (ha : Ev C R a ρ (I m) ρ1) (hb : Ev C R b ρ1 (I n) ρ2) (h2 : n ≠ 0) : Ev C R (.bin .Mod a b p) ρ (I (m % n)) ρ2 := e_bin ha hb fun Q q =>
  ⟨fun h => h2 (Int.ofNat_eq_zero.mp h), by
    show Q (.int (Int.fmod (m : Int) (n : Int)))
    rw [fmod_nat]; exact q⟩
theorem shr_nat (m n : Nat) : Int.fdiv (m : Int) (2 ^ (n : Int).toNat) = ((m / 2 ^ n : Nat) : Int) := by
  show Int.fdiv (m : Int) (2 ^ n) = _
  rw [← fdiv_nat, Int.natCast_pow]; rfl
theorem e_shr (ha : Ev C R a ρ (I m) ρ1) (hb : Ev C R b ρ1 (I n) ρ2) : Ev C R (.bin .RShift a b p) ρ (I (m / 2 ^ n)) ρ2 := e_bin ha hb fun Q q => ⟨Int.natCast_nonneg n, by rw [shr_nat]; exact q⟩
theorem and_nat (m n : Nat) : Builtin.bitAnd (m : Int) (n : Int) = ((m &&& n : Nat) : Int) := PyProof.Rows.bitAnd_pp (Int.natCast_nonneg m) (Int.natCast_nonneg n)
theorem e_and (ha : Ev C R a ρ (I m) ρ1) (hb : Ev C R b ρ1 (I (1 * 2 ^ w - 1)) ρ2) : Ev C R (.bin .BitAnd a b p) ρ (I (m % 2 ^ w)) ρ2 := e_bin ha hb fun Q q => by
  show Q (.int (Builtin.bitAnd (m : Int) ((1 * 2 ^ w - 1 : Nat) : Int)))
  rw [and_nat, Nat.one_mul, Nat.and_two_pow_sub_one_eq_mod]; exact q
theorem and_apart {k n j : Nat} (h : n < 2 ^ j) : (k * 2 ^ j) &&& n = 0 := by
  rw [← Nat.mod_eq_of_lt h, ← Nat.and_two_pow_sub_one_eq_mod n, Nat.and_comm n, ← Nat.and_assoc, Nat.and_two_pow_sub_one_eq_mod, Nat.mul_mod_left, Nat.zero_and]
theorem e_or1 (ha : Ev C R a ρ (I (k * 2 ^ j)) ρ1) (hb : Ev C R b ρ1 (I n) ρ2) (h : n < 2 ^ j) : Ev C R (.bin .BitOr a b p) ρ (I (k * 2 ^ j + n)) ρ2 := e_bin ha hb fun Q q => by
  show Q (.int (Builtin.bitOr ((k * 2 ^ j : Nat) : Int) (n : Int)))
  rw [PyProof.Rows.bitOr_and, and_nat, and_apart h]
  exact Int.sub_zero _ ▸ q
theorem or2 {m k j : Nat} (h : m < 2 ^ j) : Builtin.bitOr (m : Int) ((k * 2 ^ j : Nat) : Int) = ((m + k * 2 ^ j : Nat) : Int) := by
  rw [PyProof.Rows.bitOr_and, and_nat, Nat.and_comm, and_apart h]
  exact Int.sub_zero _
theorem e_or2 (ha : Ev C R a ρ (I m) ρ1) (hb : Ev C R b ρ1 (I (k * 2 ^ j)) ρ2) (h : m < 2 ^ j) : Ev C R (.bin .BitOr a b p) ρ (I (m + k * 2 ^ j)) ρ2 := e_bin ha hb fun Q q => by
  show Q (.int (Builtin.bitOr (m : Int) ((k * 2 ^ j : Nat) : Int)))
  rw [or2 h]; exact q
theorem e_neg (ha : Ev C R a ρ (.int u) ρ1) : Ev C R (.neg a p) ρ (.int (-u)) ρ1 := fun Q q => ha _ q
theorem e_not (ha : Ev C R a ρ (.bool t) ρ1) : Ev C R (.not a p) ρ (.bool !t) ρ1 := fun Q q => ha _ q
theorem e_and2 {s : Bool} (ha : Ev C R a ρ (.bool t) ρ1) (hb : t = true → Ev C R b ρ1 (.bool s) ρ1) : Ev C R (.and a [b] p) ρ (.bool (t && s)) ρ1 := fun Q q => ha _ (by
  cases t with
  | true => exact br_t (hb rfl _ q)
  | false => exact br_f q)
theorem e_cmp (ha : Ev C R a ρ x ρ1) (hb : Ev C R b ρ1 y ρ2) (h : ∀ Q : Bool → Prop, Q t → cmpP co x y Q) : Ev C R (.cmp a co b p) ρ (.bool t) ρ2 := fun Q q => ha _ (hb _ (h _ q))
theorem e_lt (ha : Ev C R a ρ (I m) ρ1) (hb : Ev C R b ρ1 (I n) ρ2) : Ev C R (.cmp a .lt b p) ρ (.bool (decide (m < n))) ρ2 := e_cmp ha hb fun Q q => by
  show Q (decide ((m : Int) < (n : Int)))
  rw [decide_eq_decide.mpr Int.ofNat_lt]; exact q
theorem e_gt (ha : Ev C R a ρ (I m) ρ1) (hb : Ev C R b ρ1 (I n) ρ2) : Ev C R (.cmp a .gt b p) ρ (.bool (decide (n < m))) ρ2 := e_cmp ha hb fun Q q => by
  show Q (decide ((n : Int) < (m : Int)))
  rw [decide_eq_decide.mpr Int.ofNat_lt]; exact q
theorem e_le (ha : Ev C R a ρ (I m) ρ1) (hb : Ev C R b ρ1 (I n) ρ2) : Ev C R (.cmp a .le b p) ρ (.bool (decide (m ≤ n))) ρ2 := e_cmp ha hb fun Q q => by
  show Q (decide ((m : Int) ≤ (n : Int)))
  rw [decide_eq_decide.mpr Int.ofNat_le]; exact q
theorem e_ge (ha : Ev C R a ρ (I m) ρ1) (hb : Ev C R b ρ1 (I n) ρ2) : Ev C R (.cmp a .ge b p) ρ (.bool (decide (n ≤ m))) ρ2 := e_cmp ha hb fun Q q => by
  show Q (decide ((n : Int) ≤ (m : Int)))
  rw [decide_eq_decide.mpr Int.ofNat_le]; exact q
theorem e_eq (ha : Ev C R a ρ (I m) ρ1) (hb : Ev C R b ρ1 (I n) ρ2) : Ev C R (.cmp a .eq b p) ρ (.bool (decide (m = n))) ρ2 := e_cmp ha hb fun Q q => by
  show Q (decide ((m : Int) = (n : Int)))
  rw [decide_eq_decide.mpr Int.ofNat_inj]; exact q
theorem e_ne (ha : Ev C R a ρ (I m) ρ1) (hb : Ev C R b ρ1 (I n) ρ2) : Ev C R (.cmp a .ne b p) ρ (.bool (decide (m ≠ n))) ρ2 := e_cmp ha hb fun Q q => by
  show Q (!decide ((m : Int) = (n : Int)))
  rw [decide_eq_decide.mpr Int.ofNat_inj, ← decide_not]; exact q
theorem e_ltZ (ha : Ev C R a ρ (.int u) ρ1) (hb : Ev C R b ρ1 (.int v) ρ2) : Ev C R (.cmp a .lt b p) ρ (.bool (decide (u < v))) ρ2 := e_cmp ha hb fun Q q => q
theorem e_ite {g : Prop} [Decidable g] (ht : Ev C R c ρ (.bool (decide g)) ρ1) (ha : g → Ev C R a ρ1 x ρ2) (hb : ¬ g → Ev C R b ρ1 y ρ2) : Ev C R (.ite c a b p) ρ (if g then x else y) ρ2 := fun Q q => ht _ (br (fun h => ha h _ (by rw [if_pos h] at q; exact q)) fun h => hb h _ (by rw [if_neg h] at q; exact q))
theorem e_iteI {g : Prop} [Decidable g] (ht : Ev C R c ρ (.bool (decide g)) ρ1) (ha : g → Ev C R a ρ1 (I m) ρ2) (hb : ¬ g → Ev C R b ρ1 (I n) ρ2) : Ev C R (.ite c a b p) ρ (I (if g then m else n)) ρ2 := fun Q q => ht _ (br (fun h => ha h _ (by rw [if_pos h] at q; exact q)) fun h => hb h _ (by rw [if_neg h] at q; exact q))
theorem e_len (h : ρ[i]? = some (.val (L l))) (hl : l.length ≤ 4096) : Ev C R (.b1 .len p (.var i p1) p2) ρ (I l.length) ρ := fun Q q => by
  show pkVar ρ i fun p => pkGet ρ p fun x => b1P .len x fun d => Q d ρ
  unfold pkVar; rw [h]
  exact len_ok (Q := fun d => Q d ρ) hl q
theorem e_lenO (h : ρ[i]? = some (.own (l.map I))) (hl : l.length ≤ 4096) : Ev C R (.b1 .len p (.var i p1) p2) ρ (I l.length) ρ := fun Q q => by
  show pkVar ρ i fun p => pkGet ρ p fun x => b1P .len x fun d => Q d ρ
  unfold pkVar; rw [h]
  show ownP ρ i fun _ xs => lenP xs.length fun d => Q d ρ
  unfold ownP; rw [h]
  exact len_ok (Q := fun d => Q d ρ) hl q
theorem e_lenE (hv : varOf e = none) (h : Ev C R e ρ (L l) ρ1) (hl : l.length ≤ 4096) : Ev C R (.b1 .len p e p2) ρ (I l.length) ρ1 := fun Q q => by
  show pkP (varOf e) (wpE C e R ρ) ρ fun p ρ => pkGet ρ p fun x => b1P .len x fun d => Q d ρ
  rw [hv]
  exact h _ (len_ok (Q := fun d => Q d ρ1) hl q)
theorem e_idx (h : ρ[i]? = some (.val (L l))) (hi : Ev C R e ρ (I k) ρ1) (hl : l.length ≤ 4096) (hk : k < l.length) : Ev C R (.idx (.var i p1) e p) ρ (I (l.getD k 0)) ρ1 := fun Q q => by
  show pkVar ρ i fun p => wpE C e R ρ fun j ρ => pkGet ρ p fun x => idxP x j fun d => Q d ρ
  unfold pkVar; rw [h]
  exact hi _ (idx_ok (Q := fun d => Q d ρ1) rfl hl hk q)
theorem e_idxO (h : ρ[i]? = some (.own (l.map I))) (hi : Ev C R e ρ (I k) ρ) (hl : l.length ≤ 4096) (hk : k < l.length) : Ev C R (.idx (.var i p1) e p) ρ (I (l.getD k 0)) ρ := fun Q q => by
  show pkVar ρ i fun p => wpE C e R ρ fun j ρ => pkGet ρ p fun x => idxP x j fun d => Q d ρ
  unfold pkVar; rw [h]
  refine hi _ ?_
  show ownP ρ i fun _ xs => idxP (.list xs) (I k) fun d => Q d ρ
  unfold ownP; rw [h]
  exact idx_ok (Q := fun d => Q d ρ) rfl hl hk q
theorem e_idxI (h : ρ[i]? = some (.io (l.map I))) (hi : Ev C R e ρ (I k) ρ) (hl : l.length ≤ 4096) (hk : k < l.length) : Ev C R (.idx (.var i p1) e p) ρ (I (l.getD k 0)) ρ := fun Q q => by
  show pkVar ρ i fun p => wpE C e R ρ fun j ρ => pkGet ρ p fun x => idxP x j fun d => Q d ρ
  unfold pkVar; rw [h]
  refine hi _ ?_
  show ownP ρ i fun _ xs => idxP (.list xs) (I k) fun d => Q d ρ
  unfold ownP; rw [h]
  exact idx_ok (Q := fun d => Q d ρ) rfl hl hk q
theorem tupAt {Q : D → Prop} (hl : ds.length ≤ 4096) (hd : ds[k]? = some d) (q : Q d) : placeP ds.length (k : Int) fun k => ∃ y, ds[k]? = some y ∧ Q y := place_ok hl (List.getElem?_eq_some_iff.mp hd).1 ⟨d, hd, q⟩
theorem e_idxT (h : ρ[i]? = some (.val (.tup ds))) (hi : Ev C R e ρ (I k) ρ1) (hl : ds.length ≤ 4096) (hd : ds[k]? = some d) : Ev C R (.idx (.var i p1) e p) ρ d ρ1 := fun Q q => by
  show pkVar ρ i fun p => wpE C e R ρ fun j ρ => pkGet ρ p fun x => idxP x j fun d => Q d ρ
  unfold pkVar; rw [h]
  exact hi _ (tupAt (Q := fun d => Q d ρ1) hl hd q)
theorem e_idxL (h : ρ[i]? = some (.val (.list ds))) (hi : Ev C R e ρ (I k) ρ1) (hl : ds.length ≤ 4096) (hd : ds[k]? = some d) : Ev C R (.idx (.var i p1) e p) ρ d ρ1 := fun Q q => by
  show pkVar ρ i fun p => wpE C e R ρ fun j ρ => pkGet ρ p fun x => idxP x j fun d => Q d ρ
  unfold pkVar; rw [h]
  exact hi _ (tupAt (Q := fun d => Q d ρ1) hl hd q)
theorem e_idxTE (hv : varOf a = none) (h : Ev C R a ρ (.tup ds) ρ1) (hi : Ev C R e ρ1 (I k) ρ2) (hl : ds.length ≤ 4096) (hd : ds[k]? = some d) : Ev C R (.idx a e p) ρ d ρ2 := fun Q q => by
  show pkP (varOf a) (wpE C a R ρ) ρ fun p ρ => wpE C e R ρ fun j ρ => pkGet ρ p fun x => idxP x j fun d => Q d ρ
  rw [hv]
  exact h _ (hi _ (tupAt (Q := fun d => Q d ρ2) hl hd q))
theorem e_idxE (hv : varOf a = none) (h : Ev C R a ρ (L l) ρ1) (hi : Ev C R e ρ1 (I k) ρ2) (hl : l.length ≤ 4096) (hk : k < l.length) : Ev C R (.idx a e p) ρ (I (l.getD k 0)) ρ2 := fun Q q => by
  show pkP (varOf a) (wpE C a R ρ) ρ fun p ρ => wpE C e R ρ fun j ρ => pkGet ρ p fun x => idxP x j fun d => Q d ρ
  rw [hv]
  exact h _ (hi _ (idx_ok (Q := fun d => Q d ρ2) rfl hl hk q))
theorem e_cut0 (h : ρ[i]? = some (.val (L l))) (hl : l.length ≤ 4096) : Ev C R (.cut i p none none p1 p2) ρ (L l) ρ := fun Q q => by
  show pkVar ρ i fun p => pkGet ρ p fun x => cutP x none none fun d => Q d ρ
  unfold pkVar; rw [h]
  refine ⟨by rw [List.length_map]; exact hl, ?_⟩
  show Q (.list (((l.map I).drop 0).take ((l.map I).length - 0))) ρ
  rw [List.drop_zero, Nat.sub_zero, List.take_length]; exact q
theorem e_cutH (h : ρ[i]? = some (.val (L l))) (hi : Ev C R e ρ (I k) ρ1) (hl : l.length ≤ 4096) : Ev C R (.cut i p none (some e) p1 p2) ρ (L (l.take k)) ρ1 := fun Q q => by
  show pkVar ρ i fun p => wpE C e R ρ fun d ρ => pkGet ρ p fun x => cutP x none (some d) fun d => Q d ρ
  unfold pkVar; rw [h]
  exact hi _ (cut_hi (Q := fun d => Q d ρ1) hl q)
theorem e_cutL (h : ρ[i]? = some (.val (L l))) (hi : Ev C R e ρ (I k) ρ1) (hl : l.length ≤ 4096) : Ev C R (.cut i p (some e) none p1 p2) ρ (L (l.drop k)) ρ1 := fun Q q => by
  show pkVar ρ i fun p => wpE C e R ρ fun d ρ => pkGet ρ p fun x => cutP x (some d) none fun d => Q d ρ
  unfold pkVar; rw [h]
  exact hi _ (cut_lo (Q := fun d => Q d ρ1) hl q)
theorem e_cutB (h : ρ[i]? = some (.val (L l))) (ha : Ev C R a ρ (I j) ρ1) (hi : Ev C R e ρ1 (I k) ρ2) (hl : l.length ≤ 4096) : Ev C R (.cut i p (some a) (some e) p1 p2) ρ (L ((l.drop j).take (k - j))) ρ2 := fun Q q => by
  show pkVar ρ i fun p => wpE C a R ρ fun l ρ => wpE C e R ρ fun d ρ => pkGet ρ p fun x => cutP x (some l) (some d) fun d => Q d ρ
  unfold pkVar; rw [h]
  exact ha _ (hi _ (cut_both (Q := fun d => Q d ρ2) hl q))
theorem l_nil : EvL C R [] ρ [] ρ := fun _ q => q
theorem l_cons (he : Ev C R e ρ d ρ1) (h : EvL C R es ρ1 ds ρ2) : EvL C R (e :: es) ρ (d :: ds) ρ2 := fun Q q => he _ (h _ q)
theorem e_call (h : EvL C R es ρ ds ρ1) (hf : Fn C R k ds d) : Ev C R (.call k p es p1) ρ d ρ1 := fun Q q => h _ (hf _ q)
theorem e_callv (hv : ρ[i]? = some (.val (.fn k))) (h : EvL C R es ρ ds ρ1) (hf : Fn C R k ds d) : Ev C R (.callv i p es p1) ρ d ρ1 := fun Q q => by
  show valP ρ i fun f => clP f (fun k => wpEs C es R ρ fun ds ρ => C.fn R k ds fun d => Q d ρ) fun t n => wpEs C es R ρ fun ds ρ => C.clo t n ds fun d => Q d ρ
  unfold valP; rw [hv]
  exact h _ (hf _ q)
theorem e_list (h : EvL C R es ρ ds ρ1) : Ev C R (.list es p) ρ (.list ds) ρ1 := fun Q q => h _ q
theorem e_tup (h : EvL C R es ρ ds ρ1) : Ev C R (.tup es p) ρ (.tup ds) ρ1 := fun Q q => h _ q
theorem e_zeros (hb : Ev C R b ρ (I n) ρ1) (h : n ≤ 4096) : Ev C R (.bin .Mult (.list [.cint 0 p] p1) b p2) ρ (L (List.replicate n 0)) ρ1 := fun Q q => hb _ ⟨rfl, ⟨by show 1 * n ≤ 4096; (first | grind | omega), Int.ofNat_le.mpr h, by (first | grind | omega), fun h => nomatch h⟩, by
  show Q (.list (List.replicate n [D.int 0]).flatten) ρ1
  rw [show (List.replicate n [D.int 0]).flatten = (List.replicate n 0).map I by rw [List.flatten_replicate_singleton, List.map_replicate]; rfl]; exact q⟩
theorem e_cat {l' : List Nat} (ha : Ev C R a ρ (L l) ρ1) (hb : Ev C R b ρ1 (L l') ρ2) (h : l.length + l'.length ≤ 4096) : Ev C R (.bin .Add a b p) ρ (L (l ++ l')) ρ2 := e_bin ha hb fun Q q => ⟨rfl, by rw [List.length_map, List.length_map]; exact h, by rw [← List.map_append]; exact q⟩
/-! statements -/
theorem s_asg (he : Ev C R e ρ d ρ1) (hn : newL e = false) (k : wpB C r R (ρ1.set i (.val d)) Q) : wpB C (.asg (.one i p) e p1 :: r) R ρ Q := he _ (by rw [hn]; exact k)
theorem s_asgN (he : Ev C R e ρ (.list xs) ρ1) (hn : newL e = true) (k : wpB C r R (ρ1.set i (.own xs)) Q) : wpB C (.asg (.one i p) e p1 :: r) R ρ Q := he _ (by rw [hn]; exact k)
theorem s_many {is : List (Nat × Nat)} (he : Ev C R e ρ (.tup ds) ρ1) (hn : newL e = false) (k : bindP is ds ρ1 fun ρ => wpB C r R ρ Q) : wpB C (.asg (.many is p) e p1 :: r) R ρ Q := he _ (by rw [hn]; exact k)
theorem sl_nil : EvS C R [] ρ [] ρ := fun _ q => q
theorem sl_cons (he : Ev C R e ρ d ρ1) (hn : newL e = false) (h : EvS C R es ρ1 sl ρ2) : EvS C R (e :: es) ρ (.val d :: sl) ρ2 := fun Q q => he _ (by rw [hn]; exact h _ q)
theorem sl_consN (he : Ev C R e ρ (.list xs) ρ1) (hn : newL e = true) (h : EvS C R es ρ1 sl ρ2) : EvS C R (e :: es) ρ (.own xs :: sl) ρ2 := fun Q q => he _ (by rw [hn]; exact h _ q)
theorem s_asgL {is : List (Nat × Nat)} (he : EvS C R es ρ sl ρ1) (k : bindS is sl ρ1 fun ρ => wpB C r R ρ Q) : wpB C (.asgL is p es p1 p2 :: r) R ρ Q := he _ k
theorem s_asgL2 {s1 s2 : Slot} (he : EvS C R es ρ [s1, s2] ρ1) (k' : wpB C r R ((ρ1.set i s1).set j s2) Q) : wpB C (.asgL [(i, m), (j, n)] p es p1 p2 :: r) R ρ Q := he _ k'
theorem s_asgL3 {i3 q3 : Nat} {s1 s2 s3 : Slot} (he : EvS C R es ρ [s1, s2, s3] ρ1) (k' : wpB C r R (((ρ1.set i s1).set j s2).set i3 s3) Q) : wpB C (.asgL [(i, m), (j, n), (i3, q3)] p es p1 p2 :: r) R ρ Q := he _ k'
theorem s_many2 (he : Ev C R e ρ (.tup [x, y]) ρ1) (hn : newL e = false) (k' : wpB C r R ((ρ1.set i (.val x)).set j (.val y)) Q) : wpB C (.asg (.many [(i, m), (j, n)] p) e p1 :: r) R ρ Q := he _ (by rw [hn]; exact k')
theorem s_ret (he : Ev C R e ρ d ρ1) (k : Q (.ret d) ρ1) : wpB C (.ret e p :: r) R ρ Q := he _ k
theorem s_nil (k : Q .next ρ) : wpB C [] R ρ Q := k
theorem s_end (k : wpB C r R ρ Q) : wpB C [] R ρ (SK C r R Q) := k
theorem s_if {g : Prop} [Decidable g] {s1 s2 : List MS} (ht : Ev C R c ρ (.bool (decide g)) ρ1) (h1 : g → wpB C s1 R ρ1 (SK C r R Q)) (h2 : ¬ g → wpB C s2 R ρ1 (SK C r R Q)) : wpB C (.ite c s1 s2 p :: r) R ρ Q := ht _ (br h1 h2)
theorem s_ifb {s1 s2 : List MS} (ht : Ev C R c ρ (.bool t) ρ1) (h1 : t = true → wpB C s1 R ρ1 (SK C r R Q)) (h2 : t = false → wpB C s2 R ρ1 (SK C r R Q)) : wpB C (.ite c s1 s2 p :: r) R ρ Q := ht _ ⟨h1, h2⟩
theorem s_expr (he : Ev C R e ρ .none ρ1) (k : wpB C r R ρ1 Q) : wpB C (.expr e p :: r) R ρ Q := he _ k
theorem s_app (ho : ρ[i]? = some (.own (l.map I))) (he : Ev C R e ρ (I n) ρ1) (ho1 : ρ1[i]? = some (.own (l.map I))) (hl : l.length < 4096) (k : wpB C r R (ρ1.set i (.own ((l ++ [n]).map I))) Q) : wpB C (.app i p e p1 p2 p3 :: r) R ρ Q := by
  show ownP ρ i fun _ _ => wpE C e R ρ fun d ρ => appP ρ i d fun ρ => wpB C r R ρ Q
  unfold ownP; rw [ho]
  refine he _ ?_
  unfold appP; rw [ho1]
  refine ⟨by rw [List.length_map]; exact hl, ?_⟩
  rw [List.map_append] at k; exact k
theorem s_setI {s : Slot} (hs : s = .own (l.map I) ∨ s = .io (l.map I)) (he : Ev C R e ρ (I n) ρ1) (ho1 : ρ1[i]? = some s) (hx : Ev C R a ρ1 (I j) ρ1) (hl : l.length ≤ 4096) (hj : j < l.length) (k : wpB C r R (ρ1.set i (s.repl ((l.set j n).map I))) Q) : wpB C (.setI i p a e p1 p2 :: r) R ρ Q := by
  have o1 : ∀ {ρ : MEnv} {Q : Slot → List D → Prop}, ρ[i]? = some s → Q s (l.map I) → ownP ρ i Q := fun h q => by
    unfold ownP; rw [h]
    rcases hs with rfl | rfl <;> exact q
  show wpE C e R ρ fun d ρ => ownP ρ i fun _ _ => wpE C a R ρ fun j ρ => intP j fun j => ownP ρ i fun sl xs => 0 ≤ j ∧ j < xs.length ∧ xs.length ≤ 4096 ∧ wpB C r R (ρ.set i (sl.repl (xs.set j.toNat d))) Q
  refine he _ (o1 (Q := fun _ _ => wpE C a R ρ1 fun j ρ => intP j fun j => ownP ρ i fun sl xs => 0 ≤ j ∧ j < xs.length ∧ xs.length ≤ 4096 ∧ wpB C r R (ρ.set i (sl.repl (xs.set j.toNat (I n)))) Q) ho1 (hx _ (o1 (Q := fun sl xs => 0 ≤ (j : Int) ∧ (j : Int) < xs.length ∧ xs.length ≤ 4096 ∧ wpB C r R (ρ1.set i (sl.repl (xs.set (j : Int).toNat (I n)))) Q) ho1 ⟨Int.natCast_nonneg j, ?_, ?_, ?_⟩)))
  · rw [List.length_map]; exact Int.ofNat_lt.mpr hj
  · rw [List.length_map]; exact hl
  · show wpB C r R (ρ1.set i (s.repl ((l.map I).set j (I n)))) Q
    rw [List.map_set] at k; exact k
theorem s_aug (hs : ρ[i]? = some (.val (.int u))) (he : Ev C R e ρ (.int v) ρ1) (h : ∀ Q : D → Prop, Q (I n) → binP op (.int u) (.int v) Q) (k : wpB C r R (ρ1.set i (.val (I n))) Q) : wpB C (.aug i p op e p1 :: r) R ρ Q := by
  show augP ρ i fun x => wpE C e R ρ fun y ρ => intP y fun y => binI op x y fun z => _
  unfold augP valP; rw [hs]
  exact he _ (h (fun d => wpB C r R (ρ1.set i (.val d)) Q) k)
theorem s_augAdd (hs : ρ[i]? = some (.val (I m))) (he : Ev C R e ρ (I n) ρ1) (k : wpB C r R (ρ1.set i (.val (I (m + n)))) Q) : wpB C (.aug i p .Add e p1 :: r) R ρ Q := s_aug hs he (fun Q q => q) k
theorem s_augSub (hs : ρ[i]? = some (.val (I m))) (he : Ev C R e ρ (I n) ρ1) (h : n ≤ m) (k : wpB C r R (ρ1.set i (.val (I (m - n)))) Q) : wpB C (.aug i p .Sub e p1 :: r) R ρ Q := s_aug hs he (fun Q q => by
  show Q (.int ((m : Int) - (n : Int)))
  rw [← Int.ofNat_sub h]; exact q) k
theorem s_augShr (hs : ρ[i]? = some (.val (I m))) (he : Ev C R e ρ (I n) ρ1) (k : wpB C r R (ρ1.set i (.val (I (m / 2 ^ n)))) Q) : wpB C (.aug i p .RShift e p1 :: r) R ρ Q := s_aug hs he (fun Q q => ⟨Int.natCast_nonneg n, by rw [shr_nat]; exact q⟩) k
theorem s_augMod (hs : ρ[i]? = some (.val (I m))) (he : Ev C R e ρ (I n) ρ1) (h : n ≠ 0) (k : wpB C r R (ρ1.set i (.val (I (m % n)))) Q) : wpB C (.aug i p .Mod e p1 :: r) R ρ Q := s_aug hs he (fun Q q => ⟨fun q => h (Int.ofNat_eq_zero.mp q), by rw [fmod_nat]; exact q⟩) k
theorem s_augOr (hs : ρ[i]? = some (.val (I m))) (he : Ev C R e ρ (I (k * 2 ^ j)) ρ1) (h : m < 2 ^ j) (k' : wpB C r R (ρ1.set i (.val (I (m + k * 2 ^ j)))) Q) : wpB C (.aug i p .BitOr e p1 :: r) R ρ Q := s_aug hs he (fun Q q => by
  show Q (.int (Builtin.bitOr (m : Int) ((k * 2 ^ j : Nat) : Int)))
  rw [or2 h]; exact q) k'
theorem s_whl (J : Nat → MEnv → Prop) (h : ∀ m ρ, J m ρ → ∀ K : Fl → MEnv → Prop, (∀ m', m' < m → ∀ ρ', J m' ρ' → K .next ρ') → (∀ d ρ', Q (.ret d) ρ' → K (.ret d) ρ') → wpE C c False ρ fun d ρ => boolP d fun t => brP t (wpB C body False ρ K) (wpB C r R ρ Q)) (hJ : J m ρ) : wpB C (.whl c body p :: r) R ρ Q :=
  wh_rule (Q := SK C r R Q) J (fun m ρ hJ K h1 h2 => h m ρ hJ K h1 h2) hJ
/-- a test and what stands behind it -/
theorem w_test {g : Prop} [Decidable g] {W : MEnv → Prop} (ht : Ev C R c ρ (.bool (decide g)) ρ1) (h1 : g → wpB C body R ρ1 K) (h2 : ¬ g → W ρ1) : wpE C c R ρ fun d ρ => boolP d fun t => brP t (wpB C body R ρ K) (W ρ) := ht _ (br h1 h2)
theorem w_testb {W : MEnv → Prop} (ht : Ev C R c ρ (.bool t) ρ1) (h1 : t = true → wpB C body R ρ1 K) (h2 : t = false → W ρ1) : wpE C c R ρ fun d ρ => boolP d fun t => brP t (wpB C body R ρ K) (W ρ) := ht _ ⟨h1, h2⟩
abbrev Step (C : Orc) (body : List MS) (Q : Fl → MEnv → Prop) (J : MEnv → Prop) (ρ : MEnv) : Prop := ∀ K : Fl → MEnv → Prop, (∀ ρ', J ρ' → K .next ρ') → (∀ d ρ', Q (.ret d) ρ' → K (.ret d) ρ') → wpB C body False ρ K
theorem s_for (J : Nat → MEnv → Prop) (he : Ev C R e ρ (I n) ρ1) (hn : n ≤ 4096) (hJ : J 0 ρ1) (h : ∀ k, k < n → ∀ ρ, J k ρ → Step C body Q (J (k + 1)) (ρ.set i (.val (I k)))) (fin : ∀ ρ, J n ρ → wpB C r R ρ Q) (heF : Ev C False e ρ (I n) ρ1) : wpB C (.for_ (.one i p) (.range p1 [e] p2) body p3 :: r) R ρ Q :=
  heF _ ⟨by show ((n : Int)).natAbs ≤ 4096; exact hn, for_range (tg := .one i p) (B := wpB C body False) (Q := SK C r R Q) (a := 0) J (Nat.zero_le n) (fun k _ hk ρ q K h1 h2 => h k hk ρ q K h1 h2) (fun ρ q => fin ρ q) hJ⟩
end
end Mine.P

set_option autoImplicit false
set_option linter.all false
namespace Mine.P
open PySem
theorem fn_of {n k : Nat} {f : FnDef} {ds : List D} {R : Prop} {d : D} (h : tbl k = some f) (hio : f.io = false) (hl : ds.length = f.np) (hb : ∀ Q : Fl → MEnv → Prop, (∀ ρ, Q (.ret d) ρ) → wpB (orc tbl f_within gl n) f.body R (ds.map .val ++ List.replicate (f.ns - f.np) .unset) Q) : Fn (orc tbl f_within gl (n + 1)) R k ds d := fun Q q => ⟨f, h, hio, hl, hb _ fun _ => q⟩
section
variable {n : Nat} {R : Prop}
theorem take_snoc {l : List Nat} {B e : Nat} (h : e < l.length) : val B (l.take (e + 1)) = val B (l.take e) + B ^ e * l.getD e 0 := by
  rw [List.take_succ, val_append, List.length_take, Nat.min_eq_left (Nat.le_of_lt h), List.getD_eq_getElem?_getD, List.getElem?_eq_getElem h]
  show _ = _ + B ^ e * l[e]
  show _ + _ * (l[e] + B * 0) = _
  rw [Nat.mul_zero, Nat.add_zero]
theorem can_take {B : Nat} : ∀ {l : List Nat} {e : Nat}, Lim B l → e ≤ l.length → (e ≠ 0 → l.getD (e - 1) 0 ≠ 0) → Can B (l.take e)
  | l, 0, _, _, _ => by rw [List.take_zero]; trivial
  | [], e + 1, _, h, _ => nomatch h
  | d :: l, e + 1, hm, h, hz => by
    refine ⟨hm d (.head _), fun q => ?_, can_take (fun x hx => hm x (.tail _ hx)) (Nat.le_of_succ_le_succ h) fun he => ?_⟩
    · cases e with
      | zero => exact hz (fun h => nomatch h)
      | succ e =>
        cases l with
        | nil => cases Nat.le_of_succ_le_succ h
        | cons x l => cases q
    · cases e with
      | zero => exact absurd rfl he
      | succ e => exact hz (fun h => nomatch h)
theorem normal_ok {B : Nat} (hB : 2 ≤ B) {l : List Nat} (hl : l.length ≤ 4096) (hm : Lim B l) : Fn (orc tbl f_within gl (n + 1)) R 0 [L l] (L (dg B (val B l))) := by
  refine fn_of rfl rfl rfl fun Q q => ?_
  refine s_asg (e_len rfl hl) rfl (s_whl (m := l.length) (fun e ρ => e ≤ l.length ∧ val B (l.take e) = val B l ∧ ρ = [.val (L l), .val (I e)]) ?_ ⟨Nat.le_refl _, by rw [List.take_length], rfl⟩)
  rintro e _ ⟨he, hv, rfl⟩ K h1 h2
  refine w_testb (W := fun ρ => wpB _ _ R ρ Q) (e_and2 (e_gt (e_var rfl) e_c0) fun h => e_eq (e_idx rfl (e_sub (e_var rfl) e_c1 (of_decide_eq_true h)) hl ?_) e_c0) (fun h => ?_) fun h => ?_
  · have := of_decide_eq_true h; (first | grind | omega)
  · obtain ⟨h3, h4⟩ := band h
    have h3 := of_decide_eq_true h3
    have h4 := of_decide_eq_true h4
    refine s_augSub rfl e_c1 h3 (s_nil (h1 (e - 1) (by (first | grind | omega)) _ ⟨by (first | grind | omega), ?_, rfl⟩))
    obtain ⟨e, rfl⟩ := Nat.exists_eq_succ_of_ne_zero (Nat.ne_of_gt h3)
    rw [take_snoc he] at hv
    rw [← hv]
    show _ = _ + _ * l.getD (e + 1 - 1) 0
    rw [h4]; rfl
  · have hc : Can B (l.take e) := can_take hm he fun hz h0 => by
      rw [decide_eq_true (Nat.pos_of_ne_zero hz), decide_eq_true h0] at h; cases h
    refine s_ret (e_cutH rfl (e_var rfl) hl) ?_
    rw [← hv, dg_val hB hc] at q; exact q _
end
end Mine.P

set_option autoImplicit false
set_option linter.all false
namespace Mine.P
open PySem
section
variable {B : Nat} (hB : 2 ≤ B)
include hB
theorem ge_val : ∀ {l : List Nat}, Can B l → l ≠ [] → B ^ (l.length - 1) ≤ val B l
  | [], _, h => absurd rfl h
  | [d], h, _ => Nat.one_le_iff_ne_zero.mpr (val_pos hB (l := [d]) h (fun h => nomatch h))
  | d :: e :: l, h, _ => by
    have := ge_val (l := e :: l) h.2.2 (fun h => nomatch h)
    show B ^ (l.length + 1) ≤ d + B * val B (e :: l)
    rw [Nat.pow_succ, Nat.mul_comm]
    exact Nat.le_trans (Nat.mul_le_mul_left B this) (Nat.le_add_left _ _)
theorem dg_ne {x : Nat} (hx : x ≠ 0) : dg B x ≠ [] := by rw [dg_pos hB hx]; exact fun h => nomatch h
theorem dg_ge {x : Nat} (hx : x ≠ 0) : B ^ ((dg B x).length - 1) ≤ x := by
  have := ge_val hB (can_dg hB x) (dg_ne hB hx)
  rwa [val_dg hB] at this
theorem dg_lt (x : Nat) : x < B ^ (dg B x).length := by
  have := lim_lt hB (can_lim (can_dg hB x))
  rwa [val_dg hB] at this
theorem pow_le {i j : Nat} (h : i ≤ j) : B ^ i ≤ B ^ j := Nat.pow_le_pow_right (Nat.lt_of_lt_of_le Nat.zero_lt_two hB) h
theorem pow_pos' (i : Nat) : 0 < B ^ i := Nat.pow_pos (Nat.lt_of_lt_of_le Nat.zero_lt_two hB)
theorem dg_len {x k : Nat} (h : x < B ^ k) : (dg B x).length ≤ k := by
  by_cases hx : x = 0
  · subst hx; exact Nat.zero_le k
  · refine Nat.le_of_not_lt fun q => Nat.lt_irrefl x (Nat.lt_of_lt_of_le h (Nat.le_trans (pow_le hB (Nat.le_sub_one_of_lt q)) (dg_ge hB hx)))
theorem dg_bd {x : Nat} (h : x < 2 ^ 1000) : (dg B x).length ≤ 1000 := dg_len hB (Nat.lt_of_lt_of_le h (Nat.pow_le_pow_left hB 1000))
theorem len_lt {x y : Nat} (h : (dg B x).length < (dg B y).length) : x < y := by
  have hy : y ≠ 0 := fun q => by subst q; cases h
  exact Nat.lt_of_lt_of_le (dg_lt hB x) (Nat.le_trans (pow_le hB (Nat.le_sub_one_of_lt h)) (dg_ge hB hy))
theorem len_le {x y : Nat} (h : x ≤ y) : (dg B x).length ≤ (dg B y).length := Nat.le_of_not_lt fun q => Nat.lt_irrefl y (Nat.lt_of_lt_of_le (len_lt hB q) h)
theorem can_of {l : List Nat} (hm : Lim B l) (h : l ≠ [] → B ^ (l.length - 1) ≤ val B l) : Can B l := by
  have := can_take hm (Nat.le_refl _) fun hz h0 => by
    have h := h (fun q => hz (by rw [q]; rfl))
    obtain ⟨k, hk⟩ := Nat.exists_eq_succ_of_ne_zero hz
    have e := take_snoc (B := B) (l := l) (e := k) (by rw [hk]; exact Nat.lt_succ_self k)
    rw [hk] at h h0
    rw [show l.getD k 0 = 0 from h0, ← Nat.succ_eq_add_one, ← hk, List.take_length, Nat.mul_zero, Nat.add_zero] at e
    have q := lim_lt hB (l := l.take k) fun d hd => hm d (List.mem_of_mem_take hd)
    rw [← e, List.length_take, hk, Nat.min_eq_left (Nat.le_succ k)] at q
    exact Nat.lt_irrefl _ (Nat.lt_of_lt_of_le q h)
  rwa [List.take_length] at this
theorem dg_of {l : List Nat} {z : Nat} (hm : Lim B l) (hv : val B l = z) (h : l ≠ [] → B ^ (l.length - 1) ≤ z) : l = dg B z := by
  subst hv
  exact (dg_val hB (can_of hB hm h)).symm
theorem can_drop : ∀ (k : Nat) {l : List Nat}, Can B l → Can B (l.drop k)
  | 0, l, h => h
  | k + 1, [], h => h
  | k + 1, d :: l, h => can_drop k h.2.2
theorem val_drop : ∀ (k : Nat) {l : List Nat}, Lim B l → val B (l.drop k) = val B l / B ^ k
  | 0, l, h => (Nat.div_one _).symm
  | k + 1, [], h => (Nat.zero_div _).symm
  | k + 1, d :: l, h => by
    show val B (l.drop k) = (d + B * val B l) / B ^ (k + 1)
    rw [val_drop k fun x hx => h x (.tail _ hx), Nat.pow_succ, Nat.mul_comm (B ^ k), ← Nat.div_div_eq_div_mul, Nat.add_mul_div_left _ _ (Nat.lt_of_lt_of_le Nat.zero_lt_two hB), Nat.div_eq_of_lt (h d (.head _)), Nat.zero_add]
theorem val_take : ∀ (k : Nat) {l : List Nat}, Lim B l → val B (l.take k) = val B l % B ^ k
  | 0, l, h => (Nat.mod_one _).symm
  | k + 1, [], h => (Nat.zero_mod _).symm
  | k + 1, d :: l, h => by
    have hd := h d (.head _)
    show d + B * val B (l.take k) = (d + B * val B l) % B ^ (k + 1)
    rw [val_take k fun x hx => h x (.tail _ hx), Nat.pow_succ, Nat.mul_comm _ B, Nat.mod_mul, Nat.add_mul_mod_self_left, Nat.mod_eq_of_lt hd, Nat.add_mul_div_left _ _ (Nat.lt_of_lt_of_le Nat.zero_lt_two hB), Nat.div_eq_of_lt hd, Nat.zero_add]
theorem drop_dg (k x : Nat) : (dg B x).drop k = dg B (x / B ^ k) := by
  have := dg_val hB (can_drop hB k (can_dg hB x))
  rwa [val_drop hB k (can_lim (can_dg hB x)), val_dg hB, eq_comm] at this
theorem lim_take {l : List Nat} {k : Nat} (h : Lim B l) : Lim B (l.take k) := fun d hd => h d (List.mem_of_mem_take hd)
theorem lim_dg (x : Nat) : Lim B (dg B x) := can_lim (can_dg hB x)
theorem vtake_dg (k x : Nat) : val B ((dg B x).take k) = x % B ^ k := by rw [val_take hB k (lim_dg hB x), val_dg hB]
omit hB in
theorem lim_snoc {l : List Nat} {d : Nat} (h : Lim B l) (hd : d < B) : Lim B (l ++ [d]) := fun e he => (List.mem_append.mp he).elim (h e) fun q => (List.mem_singleton.mp q) ▸ hd
omit hB in
theorem val_snoc (l : List Nat) (d : Nat) : val B (l ++ [d]) = val B l + B ^ l.length * d := by
  rw [val_append]; show _ + _ * (d + B * 0) = _; rw [Nat.mul_zero, Nat.add_zero]
omit hB in
theorem getD_lt {l : List Nat} (h : Lim B l) {k : Nat} (hk : k < l.length) : l.getD k 0 < B := by
  rw [List.getD_eq_getElem?_getD, List.getElem?_eq_getElem hk]; exact h _ (List.getElem_mem hk)
end
structure W (w : Nat) : Prop where
  lo : 2 ≤ w
  hi : w ≤ 9
  b4 : 4 ≤ 2 ^ w
  b9 : 2 ^ w ≤ 512
theorem W.of {w : Nat} (h1 : 2 ≤ w) (h2 : w ≤ 9) : W w := ⟨h1, h2, Nat.pow_le_pow_right (n := 2) (by decide) h1, Nat.pow_le_pow_right (n := 2) (by decide) h2⟩
theorem W.b2 {w : Nat} (h : W w) : 2 ≤ 2 ^ w := Nat.le_trans (by decide) h.b4
theorem W.b1 {w : Nat} (h : W w) : 1 ≤ 1 * 2 ^ w := by rw [Nat.one_mul]; exact Nat.le_trans (by decide) h.b4
theorem W.w4 {w : Nat} (h : W w) : w ≤ 4096 := Nat.le_trans h.hi (by decide)
theorem one_sm : 1 < 2 ^ 256 := Nat.one_lt_two_pow (by decide)
/-- numbers that are told in at most a thousand limbs -/
noncomputable def Bd (x : Nat) : Prop := x < 2 ^ 1000
theorem W.len {w : Nat} (h : W w) {x : Nat} (hx : Bd x) : (dg (2 ^ w) x).length ≤ 1000 := dg_bd h.b2 hx
theorem W.len4 {w : Nat} (h : W w) {x : Nat} (hx : Bd x) : (dg (2 ^ w) x).length ≤ 4096 := Nat.le_trans (h.len hx) (by decide)
end Mine.P

set_option autoImplicit false
set_option linter.all false
namespace Mine.P
open PySem
section
variable {C : Orc} {R : Prop} {ρ ρ1 ρ2 ρ3 : MEnv} {a b c e : ME} {p p1 p2 p3 p4 p5 p6 p7 i j k m n w : Nat} {r body : List MS} {Q K : Fl → MEnv → Prop} {l : List Nat}
/-- range(n - 1, -1, -1) -/
theorem down_rule {tg : TG} {B : MEnv → (Fl → MEnv → Prop) → Prop} (J : Nat → MEnv → Prop) (h : ∀ k, k < n → ∀ ρ, J (k + 1) ρ → ∀ K : Fl → MEnv → Prop, (∀ ρ', J k ρ' → K .next ρ') → (∀ d ρ', Q (.ret d) ρ' → K (.ret d) ρ') → stT tg (I k) ρ fun ρ => B ρ K) (fin : ∀ ρ, J 0 ρ → Q .next ρ) (hJ : J n ρ) : foP tg B Q (rangeL ((n : Int) - 1) (-1) (-1)) ρ := by
  have hn : rangeN ((n : Int) - 1) (-1) (-1) = n := by
    unfold rangeN
    rw [if_neg (by decide), show (-(-1) : Int) = 1 from rfl, Int.ediv_one]
    split <;> (first | grind | omega)
  have hl : (rangeL ((n : Int) - 1) (-1) (-1)).length = n := by unfold rangeL; rw [List.length_map, List.length_range, hn]
  refine fo_rule (fun i ρ => J (n - i) ρ) _ 0 (fun j d hj ρ q K h1 h2 => ?_) (fun ρ q => fin ρ (by rw [hl, Nat.zero_add, Nat.sub_self] at q; exact q)) ρ hJ
  have hj2 : j < n := hl ▸ (List.getElem?_eq_some_iff.mp hj).1
  have e : d = I (n - 1 - j) := by
    unfold rangeL at hj
    rw [List.getElem?_map, List.getElem?_range (hn.symm ▸ hj2)] at hj
    cases hj
    show D.int _ = D.int _
    congr 1; (first | grind | omega)
  rw [Nat.zero_add] at q h1
  rw [e]
  refine h (n - 1 - j) (by (first | grind | omega)) ρ ?_ K (fun ρ' q' => h1 ρ' ?_) h2
  · rwa [show n - 1 - j + 1 = n - j by (first | grind | omega)]
  · rwa [show n - (j + 1) = n - 1 - j by (first | grind | omega)]
theorem s_forD (J : Nat → MEnv → Prop) (he : Ev C False e ρ (.int ((n : Int) - 1)) ρ1) (hn : n ≤ 4096) (hJ : J n ρ1) (h : ∀ k, k < n → ∀ ρ, J (k + 1) ρ → Step C body Q (J k) (ρ.set i (.val (I k)))) (fin : ∀ ρ, J 0 ρ → wpB C r R ρ Q) : wpB C (.for_ (.one i p) (.range p1 [e, .neg (.cint 1 p2) p3, .neg (.cint 1 p4) p5] p6) body p7 :: r) R ρ Q :=
  he _ ⟨by show ((n : Int) - 1).natAbs ≤ 4096; (first | grind | omega), by show (-1 : Int).natAbs ≤ 4096; decide, by show (-1 : Int).natAbs ≤ 4096; decide, by decide, down_rule (tg := .one i p) (B := wpB C body False) (Q := SK C r R Q) J (fun k hk ρ q K h1 h2 => h k hk ρ q K h1 h2) (fun ρ q => fin ρ q) hJ⟩
theorem s_forR (J : Nat → MEnv → Prop) (he : Ev C False e ρ (I m) ρ1) (he2 : Ev C False c ρ1 (I n) ρ2) (hn : n ≤ 4096) (hm : m ≤ n) (hJ : J m ρ2) (h : ∀ k, m ≤ k → k < n → ∀ ρ, J k ρ → Step C body Q (J (k + 1)) (ρ.set i (.val (I k)))) (fin : ∀ ρ, J n ρ → wpB C r R ρ Q) : wpB C (.for_ (.one i p) (.range p1 [e, c] p2) body p3 :: r) R ρ Q :=
  he _ (he2 _ ⟨by show ((m : Int)).natAbs ≤ 4096; exact Nat.le_trans hm hn, by show ((n : Int)).natAbs ≤ 4096; exact hn, for_range (tg := .one i p) (B := wpB C body False) (Q := SK C r R Q) (a := m) J hm (fun k hk1 hk ρ q K h1 h2 => h k hk1 hk ρ q K h1 h2) (fun ρ q => fin ρ q) hJ⟩)
theorem e_mask (hw : W w) (h : ρ[i]? = some (.val (I w))) : Ev C R (.bin .Sub (.bin .LShift (.cint 1 p) (.var i p1) p2) (.cint 1 p3) p4) ρ (I (1 * 2 ^ w - 1)) ρ := e_sub (e_shl e_c1 (e_var h) one_sm hw.w4) e_c1 hw.b1
theorem e_base (hw : W w) (h : ρ[i]? = some (.val (I w))) : Ev C R (.bin .LShift (.cint 1 p) (.var i p1) p2) ρ (I (1 * 2 ^ w)) ρ := e_shl e_c1 (e_var h) one_sm hw.w4
end
section
variable {n w : Nat} {R : Prop} (hw : W w)
include hw
theorem div_lt2 {y : Nat} (hy : y ≠ 0) : y / 2 ^ w < y := div_lt' hw.b2 hy
theorem nat_of_ok {x : Nat} (hx : Bd x) : Fn (orc tbl f_within gl (n + 1)) R 1 [I x, I w] (N (2 ^ w) x) := by
  refine fn_of rfl rfl rfl fun Q q => ?_
  refine s_if (e_lt (e_var rfl) e_c0) (fun h => nomatch h) fun _ => s_end ?_
  refine s_asgL2 (sl_consN (e_list l_nil) rfl (sl_cons (e_mask hw rfl) rfl sl_nil)) ?_
  refine s_whl (m := x) (fun y ρ => ∃ l, l ++ dg (2 ^ w) y = dg (2 ^ w) x ∧ ρ = [.val (I y), .val (I w), .own (l.map I), .val (I (1 * 2 ^ w - 1))]) ?_ ⟨[], rfl, rfl⟩
  rintro y _ ⟨l, hl, rfl⟩ K h1 h2
  refine w_test (W := fun ρ => wpB _ _ R ρ Q) (e_gt (e_var rfl) e_c0) (fun h => ?_) fun h => ?_
  · have hy := Nat.ne_of_gt h
    rw [dg_pos hw.b2 hy] at hl
    refine s_app rfl (e_and (e_var rfl) (e_var rfl)) rfl ?_ (s_augShr rfl (e_var rfl) (s_nil (h1 _ (div_lt2 hw hy) _ ⟨_, ?_, rfl⟩)))
    · have := hw.len hx
      rw [← hl, List.length_append, List.length_cons] at this; (first | grind | omega)
    · rw [List.append_assoc]; exact hl
  · have hy : y = 0 := Nat.eq_zero_of_not_pos h
    subst hy
    rw [dg_zero, List.append_nil] at hl
    subst hl
    exact s_ret (e_own rfl) (q _)
theorem law_row_ok {x : Nat} (hx : x < 2 ^ 256) : Fn (orc tbl f_within gl (n + 1)) R 60 [I x, I w] (N (2 ^ w) x) := by
  refine fn_of rfl rfl rfl fun Q q => ?_
  have hb : 2 ^ w ≠ 0 := Nat.ne_of_gt (Nat.two_pow_pos w)
  refine s_asgN (e_list l_nil) rfl ?_
  refine s_whl (m := x) (fun y ρ => ∃ l, y ≤ x ∧ l ++ dg (2 ^ w) y = dg (2 ^ w) x ∧ ρ = [.val (I y), .val (I w), .own (l.map I)]) ?_ ⟨[], Nat.le_refl _, rfl, rfl⟩
  rintro y _ ⟨l, hyx, hl, rfl⟩ K h1 h2
  refine w_test (W := fun ρ => wpB _ _ R ρ Q) (e_gt (e_var rfl) e_c0) (fun h => ?_) fun h => ?_
  · have hy := Nat.ne_of_gt h
    rw [dg_pos hw.b2 hy] at hl
    refine s_app rfl (e_mod (e_var rfl) (e_pow e_c2 (e_var rfl) (by decide) hw.w4) hb) rfl ?_ (s_asg (e_div (e_var rfl) (e_pow e_c2 (e_var rfl) (by decide) hw.w4) (Nat.lt_of_le_of_lt hyx hx) hb) rfl (s_nil (h1 _ (div_lt2 hw hy) _ ⟨_, Nat.le_trans (Nat.div_le_self _ _) hyx, ?_, rfl⟩)))
    · have := hw.len (Nat.lt_trans hx (Nat.pow_lt_pow_right (by decide) (by decide) : 2 ^ 256 < 2 ^ 1000))
      rw [← hl, List.length_append, List.length_cons] at this; (first | grind | omega)
    · rw [List.append_assoc]; exact hl
  · have hy : y = 0 := Nat.eq_zero_of_not_pos h
    subst hy
    rw [dg_zero, List.append_nil] at hl
    subst hl
    exact s_ret (e_own rfl) (q _)
end
end Mine.P

set_option autoImplicit false
set_option linter.all false
set_option exponentiation.threshold 2000
namespace Mine.P
open PySem
section
variable {B : Nat} (hB : 2 ≤ B)
include hB
theorem dg_at (k x : Nat) : (dg B x).getD k 0 = x / B ^ k % B := by
  have e : (dg B x).getD k 0 = ((dg B x).drop k).getD 0 0 := by
    rw [List.getD_eq_getElem?_getD, List.getD_eq_getElem?_getD, List.getElem?_drop, Nat.add_zero]
  rw [e, drop_dg hB]
  by_cases h : x / B ^ k = 0
  · rw [h, Nat.zero_mod]; rfl
  · rw [dg_pos hB h]; rfl
omit hB in
theorem div_step (k x : Nat) : x / B ^ k = B * (x / B ^ (k + 1)) + x / B ^ k % B := by
  rw [Nat.pow_succ, ← Nat.div_div_eq_div_mul, Nat.div_add_mod]
omit hB in
theorem mod_step (k x : Nat) : x % B ^ (k + 1) = x % B ^ k + B ^ k * (x / B ^ k % B) := by
  rw [Nat.pow_succ, Nat.mod_mul]
theorem mod_len {x k : Nat} (h : (dg B x).length ≤ k) : x % B ^ k = x := Nat.mod_eq_of_lt (Nat.lt_of_lt_of_le (dg_lt hB x) (pow_le hB h))
theorem div_len {x k : Nat} (h : (dg B x).length ≤ k) : x / B ^ k = 0 := Nat.div_eq_of_lt (Nat.lt_of_lt_of_le (dg_lt hB x) (pow_le hB h))
theorem mod_lt' (x : Nat) : x % B < B := Nat.mod_lt _ (Nat.lt_of_lt_of_le Nat.zero_lt_two hB)
end
noncomputable def cmpN (x y : Nat) : Int := if x < y then -1 else if y < x then 1 else 0
theorem cmpN_lt {x y : Nat} (h : x < y) : cmpN x y = -1 := if_pos h
theorem cmpN_gt {x y : Nat} (h : y < x) : cmpN x y = 1 := (if_neg (Nat.lt_asymm h)).trans (if_pos h)
theorem cmpN_eq (x : Nat) : cmpN x x = 0 := (if_neg (Nat.lt_irrefl x)).trans (if_neg (Nat.lt_irrefl x))
theorem cmpN_if {x y a b : Nat} (hne : a ≠ b) (h1 : a < b → x < y) (h2 : b < a → y < x) : (if a < b then D.int (-1) else .int 1) = .int (cmpN x y) := by
  by_cases h : a < b
  · rw [if_pos h, cmpN_lt (h1 h)]
  · rw [if_neg h, cmpN_gt (h2 (Nat.lt_of_le_of_ne (Nat.le_of_not_lt h) (Ne.symm hne)))]
theorem lt_of_div {B x y k : Nat} (h : x / B ^ k < y / B ^ k) : x < y := Nat.lt_of_not_le fun q => Nat.not_lt_of_le (Nat.div_le_div_right q) h
section
variable {n w : Nat} {R : Prop} (hw : W w)
include hw
theorem compare_ok {x y : Nat} (hx : Bd x) (hy : Bd y) : Fn (orc tbl f_within gl (n + 1)) R 2 [N (2 ^ w) x, N (2 ^ w) y] (.int (cmpN x y)) := by
  refine fn_of rfl rfl rfl fun Q q => ?_
  have hB := hw.b2
  refine s_if (e_ne (e_len rfl (hw.len4 hx)) (e_len rfl (hw.len4 hy))) (fun h => ?_) fun h => s_end ?_
  · refine s_ret (e_ite (e_lt (e_len rfl (hw.len4 hx)) (e_len rfl (hw.len4 hy))) (fun _ => e_neg e_cint) fun _ => e_cint) ?_
    rw [cmpN_if h (len_lt hB) (len_lt hB)]
    exact q _
  · have h : (dg (2 ^ w) x).length = (dg (2 ^ w) y).length := Decidable.not_not.mp h
    refine s_forD (n := (dg (2 ^ w) x).length) (fun k ρ => x / (2 ^ w) ^ k = y / (2 ^ w) ^ k ∧ ∃ s, ρ = [.val (N (2 ^ w) x), .val (N (2 ^ w) y), s]) (e_subZ (e_len rfl (hw.len4 hx)) e_cint) (hw.len4 hx) ⟨?_, _, rfl⟩ ?_ ?_
    · rw [div_len hB (Nat.le_refl _), div_len hB (Nat.le_of_eq h.symm)]
    · rintro k hk _ ⟨he, s, rfl⟩ K h1 h2
      have hk2 := h ▸ hk
      have ex := div_step (B := 2 ^ w) k x
      have ey := div_step (B := 2 ^ w) k y
      rw [he] at ex
      refine s_if (e_ne (e_idx rfl (e_var rfl) (hw.len4 hx) hk) (e_idx rfl (e_var rfl) (hw.len4 hy) hk2)) (fun hne => ?_) fun heq => s_end (s_nil (h1 _ ⟨?_, _, rfl⟩))
      · refine s_ret (e_ite (e_lt (e_idx rfl (e_var rfl) (hw.len4 hx) hk) (e_idx rfl (e_var rfl) (hw.len4 hy) hk2)) (fun _ => e_neg e_cint) fun _ => e_cint) (h2 _ _ ?_)
        rw [cmpN_if hne (fun hl => lt_of_div (B := 2 ^ w) (k := k) ?_) fun hl => lt_of_div (B := 2 ^ w) (k := k) ?_]
        · exact q _
        · rw [dg_at hB, dg_at hB] at hl; rw [ex, ey]; exact Nat.add_lt_add_left hl _
        · rw [dg_at hB, dg_at hB] at hl; rw [ex, ey]; exact Nat.add_lt_add_left hl _
      · have heq := Decidable.not_not.mp heq
        rw [dg_at hB, dg_at hB] at heq
        rw [ex, ey, heq]
    · rintro _ ⟨he, s, rfl⟩
      rw [Nat.pow_zero, Nat.div_one, Nat.div_one] at he
      subst he
      rw [cmpN_eq] at q
      exact s_ret e_cint (q _)
omit hw in
theorem add_arith {B P f c a b xm ym xa ya : Nat} (h : f + P * c = xm + ym) : f + P * ((c + (xa + ya)) % B) + P * B * ((c + (xa + ya)) / B) = (xm + P * xa) + (ym + P * ya) := by
  have e := Nat.mod_add_div (c + (xa + ya)) B
  generalize (c + (xa + ya)) % B = u at e ⊢
  generalize (c + (xa + ya)) / B = v at e ⊢
  grind
omit hw in
theorem carry_le {B c a b : Nat} (hc : c ≤ 1) (ha : a < B) (hb : b < B) : (c + (a + b)) / B ≤ 1 :=
  Nat.le_of_lt_succ (Nat.div_lt_of_lt_mul (by rw [Nat.mul_comm]; (first | grind | omega)))
/-- what stands behind i limbs -/
noncomputable def AddJ (w x y i : Nat) (ρ : MEnv) : Prop := ∃ f c s, f.length = i ∧ Lim (2 ^ w) f ∧ c ≤ 1 ∧ val (2 ^ w) f + (2 ^ w) ^ i * c = x % (2 ^ w) ^ i + y % (2 ^ w) ^ i ∧ ρ = [.val (N (2 ^ w) x), .val (N (2 ^ w) y), .val (I w), .own (f.map I), .val (I c), .val (I (1 * 2 ^ w - 1)), s]
theorem add_core {x y : Nat} (hx : Bd x) (hy : Bd y) (hl : (dg (2 ^ w) y).length ≤ (dg (2 ^ w) x).length) {Q : Fl → MEnv → Prop} (q : ∀ ρ, Q (.ret (N (2 ^ w) (x + y))) ρ) : wpB (orc tbl f_within gl n) f_add.body.tail R [.val (N (2 ^ w) x), .val (N (2 ^ w) y), .val (I w), .unset, .unset, .unset, .unset] Q := by
  have hB := hw.b2
  have lx := hw.len hx
  have ly := hw.len hy
  have step : ∀ k, k < (dg (2 ^ w) x).length → ∀ f c, f.length = k → Lim (2 ^ w) f → c ≤ 1 → val (2 ^ w) f + (2 ^ w) ^ k * c = x % (2 ^ w) ^ k + y % (2 ^ w) ^ k → ∀ s, ∀ m, m = c + (x / (2 ^ w) ^ k % 2 ^ w + y / (2 ^ w) ^ k % 2 ^ w) → AddJ w x y (k + 1) [.val (N (2 ^ w) x), .val (N (2 ^ w) y), .val (I w), .own ((f ++ [m % 2 ^ w]).map I), .val (I (m / 2 ^ w)), .val (I (1 * 2 ^ w - 1)), s] := by
    intro k hk f c hf hm hc hv s m em
    subst em
    refine ⟨_, _, s, by rw [List.length_append, hf]; rfl, lim_snoc hm (mod_lt' hB _), carry_le hc (mod_lt' hB _) (mod_lt' hB _), ?_, rfl⟩
    rw [val_snoc, hf, mod_step, mod_step, Nat.pow_succ]
    exact add_arith (a := 0) (b := 0) hv
  refine s_asgL3 (sl_consN (e_list l_nil) rfl (sl_cons e_c0 rfl (sl_cons (e_mask hw rfl) rfl sl_nil))) ?_
  refine s_for (n := (dg (2 ^ w) y).length) (AddJ w x y) (e_len rfl (hw.len4 hy)) (hw.len4 hy) ⟨[], 0, _, rfl, (fun d h => nomatch h), Nat.zero_le 1, by rw [Nat.pow_zero, Nat.mod_one, Nat.mod_one]; rfl, rfl⟩ ?_ ?_ (e_len rfl (hw.len4 hy))
  · rintro k hk _ ⟨f, c, s, hf, hm, hc, hv, rfl⟩ K h1 h2
    have hk2 := Nat.lt_of_lt_of_le hk hl
    refine s_augAdd rfl (e_add (e_idx rfl (e_var rfl) (hw.len4 hx) hk2) (e_idx rfl (e_var rfl) (hw.len4 hy) hk)) (s_app rfl (e_and (e_var rfl) (e_var rfl)) rfl (by (first | grind | omega)) (s_augShr rfl (e_var rfl) (s_nil (h1 _ ?_))))
    exact step k hk2 f c hf hm hc hv _ _ (by rw [dg_at hB, dg_at hB])
  rintro _ ⟨f, c, s, hf, hm, hc, hv, rfl⟩
  refine s_forR (m := (dg (2 ^ w) y).length) (n := (dg (2 ^ w) x).length) (AddJ w x y) (e_len rfl (hw.len4 hy)) (e_len rfl (hw.len4 hx)) (hw.len4 hx) hl ⟨f, c, s, hf, hm, hc, hv, rfl⟩ ?_ ?_
  · rintro k hk0 hk _ ⟨f, c, s, hf, hm, hc, hv, rfl⟩ K h1 h2
    refine s_augAdd rfl (e_idx rfl (e_var rfl) (hw.len4 hx) hk) (s_app rfl (e_and (e_var rfl) (e_var rfl)) rfl (by (first | grind | omega)) (s_augShr rfl (e_var rfl) (s_nil (h1 _ ?_))))
    exact step k hk f c hf hm hc hv _ _ (by rw [dg_at hB, div_len (x := y) hB hk0, Nat.zero_mod, Nat.add_zero])
  rintro _ ⟨f, c, s, hf, hm, hc, hv, rfl⟩
  rw [mod_len hB (Nat.le_refl _), mod_len hB hl] at hv
  refine s_if (e_gt (e_var rfl) e_c0) (fun h => s_app rfl (e_var rfl) rfl (by (first | grind | omega)) (s_end ?_)) fun h => s_end ?_
  · have e := dg_of hB (l := f ++ [c]) (z := x + y) (lim_snoc hm (Nat.lt_of_le_of_lt hc hB)) (by rw [val_snoc, hf]; exact hv) fun _ => by
      rw [List.length_append, hf, ← hv]
      exact Nat.le_trans (Nat.le_mul_of_pos_right _ h) (Nat.le_add_left _ _)
    have q : ∀ ρ, Q (.ret (L (f ++ [c]))) ρ := by rw [e]; exact q
    exact s_ret (e_own rfl) (q _)
  · have hc0 : c = 0 := Nat.eq_zero_of_not_pos h
    subst hc0
    have e := dg_of hB (l := f) (z := x + y) hm hv fun hne => by
      rw [hf]
      exact Nat.le_trans (dg_ge hB fun hx0 => hne (by subst hx0; exact List.eq_nil_of_length_eq_zero hf)) (Nat.le_add_right _ _)
    have q : ∀ ρ, Q (.ret (L f)) ρ := by rw [e]; exact q
    exact s_ret (e_own rfl) (q _)
theorem add_ok {x y : Nat} (hx : Bd x) (hy : Bd y) : Fn (orc tbl f_within gl (n + 1)) R 3 [N (2 ^ w) x, N (2 ^ w) y, I w] (N (2 ^ w) (x + y)) := by
  refine fn_of rfl rfl rfl fun Q q => ?_
  refine s_if (e_lt (e_len rfl (hw.len4 hx)) (e_len rfl (hw.len4 hy))) (fun h => ?_) fun h => s_end ?_
  · exact s_asgL2 (sl_cons (e_var rfl) rfl (sl_cons (e_var rfl) rfl sl_nil)) (s_end (add_core hw hy hx (Nat.le_of_lt h) (by rw [Nat.add_comm]; exact q)))
  · exact add_core hw hx hy (Nat.le_of_not_lt h) q
end
end Mine.P

set_option autoImplicit false
set_option linter.all false
set_option exponentiation.threshold 2000
namespace Mine.P
open PySem
section
variable {C : Orc} {R : Prop} {ρ ρ1 ρ2 ρ3 : MEnv} {a b c e : ME} {d d' x y : D} {p p1 p2 p3 p4 p5 p6 p7 i j k m n w : Nat} {r body : List MS} {Q K : Fl → MEnv → Prop} {l : List Nat} {g : Prop}
theorem e_as (he : Ev C R e ρ d ρ1) (h : d = d') : Ev C R e ρ d' ρ1 := h ▸ he
theorem e_iteT [Decidable g] (ht : Ev C R c ρ (.bool (decide g)) ρ1) (h : g) (ha : Ev C R a ρ1 x ρ2) : Ev C R (.ite c a b p) ρ x ρ2 := fun Q q => ht _ (br (fun _ => ha _ q) fun h' => absurd h h')
theorem e_iteF [Decidable g] (ht : Ev C R c ρ (.bool (decide g)) ρ1) (h : ¬ g) (hb : Ev C R b ρ1 x ρ2) : Ev C R (.ite c a b p) ρ x ρ2 := fun Q q => ht _ (br (fun h' => absurd h' h) fun _ => hb _ q)
theorem s_ifF {s1 s2 : List MS} [Decidable g] (ht : Ev C R c ρ (.bool (decide g)) ρ1) (h : ¬ g) (k' : wpB C s2 R ρ1 (SK C r R Q)) : wpB C (.ite c s1 s2 p :: r) R ρ Q := s_if ht (fun h' => absurd h' h) fun _ => k'
theorem s_ifT {s1 s2 : List MS} [Decidable g] (ht : Ev C R c ρ (.bool (decide g)) ρ1) (h : g) (k' : wpB C s1 R ρ1 (SK C r R Q)) : wpB C (.ite c s1 s2 p :: r) R ρ Q := s_if ht (fun _ => k') fun h' => absurd h h'
/-- over the limbs of a list -/
theorem s_forS (J : Nat → MEnv → Prop) (he : Ev C False e ρ (L l) ρ1) (hJ : J 0 ρ1) (h : ∀ k, k < l.length → ∀ ρ, J k ρ → Step C body Q (J (k + 1)) (ρ.set i (.val (I (l.getD k 0))))) (fin : ∀ ρ, J l.length ρ → wpB C r R ρ Q) : wpB C (.for_ (.one i p) (.seq e) body p3 :: r) R ρ Q :=
  he _ (fo_rule (tg := .one i p) (B := wpB C body False) (Q := SK C r R Q) J (l.map I) 0 (fun j d hj ρ q K h1 h2 => by
    rw [Nat.zero_add] at q h1
    have hj2 : j < l.length := by have := (List.getElem?_eq_some_iff.mp hj).1; rwa [List.length_map] at this
    rw [at_map hj2] at hj; cases hj
    exact h j hj2 ρ q K h1 h2) (fun ρ q => fin ρ (by rw [Nat.zero_add, List.length_map] at q; exact q)) _ hJ)
end
theorem cmpN_neg {x y : Nat} (h : y ≤ x) : ¬ cmpN x y < 0 := by
  rcases Nat.lt_or_eq_of_le h with h | h
  · rw [cmpN_gt h]; decide
  · rw [h, cmpN_eq]; decide
theorem cmpN_neg' {x y : Nat} (h : x < y) : cmpN x y < 0 := by rw [cmpN_lt h]; decide
theorem dg_nil {B x : Nat} (hB : 2 ≤ B) (h : (dg B x).length = 0) : x = 0 := by
  have := dg_lt hB x
  rw [h] at this; exact Nat.lt_one_iff.mp this
theorem sub1 {P B f a b o xm ym : Nat} (h : f + ym = xm + P * o) (hd : a < o + b) (hb : o + b ≤ a + B) : f + P * (a + B - (o + b)) + (ym + P * b) = xm + P * a + P * B * 1 := by
  have e : a + B - (o + b) + (o + b) = a + B := Nat.sub_add_cancel hb
  generalize a + B - (o + b) = u at e ⊢
  grind
theorem sub2 {P B f a b o xm ym : Nat} (h : f + ym = xm + P * o) (hd : o + b ≤ a) : f + P * (a - (o + b)) + (ym + P * b) = xm + P * a + P * B * 0 := by
  have e : a - (o + b) + (o + b) = a := Nat.sub_add_cancel hd
  generalize a - (o + b) = u at e ⊢
  grind
theorem lim_app {B : Nat} {a b : List Nat} (ha : Lim B a) (hb : Lim B b) : Lim B (a ++ b) := fun e he => (List.mem_append.mp he).elim (ha e) (hb e)
theorem lim_zeros {B n : Nat} (hB : 2 ≤ B) : Lim B (List.replicate n 0) := fun d hd => by rw [List.eq_of_mem_replicate hd]; exact Nat.lt_of_lt_of_le Nat.zero_lt_two hB
theorem val_zeros {B : Nat} : ∀ n, val B (List.replicate n 0) = 0
  | 0 => rfl
  | n + 1 => by show 0 + B * val B (List.replicate n 0) = 0; rw [val_zeros n, Nat.mul_zero]
theorem at_or {B k y : Nat} (hB : 2 ≤ B) : I (if k < (dg B y).length then (dg B y).getD k 0 else 0) = I (y / B ^ k % B) := by
  rw [dg_at hB]
  split
  · rfl
  · rename_i h
    rw [div_len hB (Nat.le_of_not_lt h), Nat.zero_mod]
/-- limbs before a number's own -/
theorem cat_dg {B s z z' : Nat} (hB : 2 ≤ B) {l : List Nat} (hm : Lim B l) (hl : l.length = s) (hz : z' ≠ 0) (hv : val B l + B ^ s * z' = z) : L (l ++ dg B z') = N B z := by
  refine congrArg L (dg_of hB (lim_app hm (lim_dg hB _)) (by rw [val_append, hl, val_dg hB]; exact hv) fun _ => ?_)
  have h := dg_ge hB hz
  have hp : 1 ≤ (dg B z').length := List.length_pos_iff.mpr (dg_ne hB hz)
  rw [List.length_append, hl, Nat.add_sub_assoc hp, Nat.pow_add, ← hv]
  exact Nat.le_trans (Nat.mul_le_mul_left _ h) (Nat.le_add_left _ _)
section
variable {n w : Nat} {R : Prop} (hw : W w)
include hw
theorem sub_ok {x y : Nat} (hx : Bd x) (hyx : y ≤ x) : Fn (orc tbl f_within gl (n + 2)) R 4 [N (2 ^ w) x, N (2 ^ w) y, I w] (N (2 ^ w) (x - y)) := by
  refine fn_of rfl rfl rfl fun Q q => ?_
  have hB := hw.b2
  have hy : Bd y := Nat.lt_of_le_of_lt hyx hx
  have lx := hw.len hx
  refine s_ifF (e_ltZ (e_call (l_cons (e_var rfl) (l_cons (e_var rfl) l_nil)) (compare_ok hw hx hy)) e_cint) (cmpN_neg hyx) (s_end ?_)
  refine s_asgL3 (sl_consN (e_list l_nil) rfl (sl_cons e_c0 rfl (sl_cons (e_base hw rfl) rfl sl_nil))) ?_
  refine s_for (n := (dg (2 ^ w) x).length) (fun i ρ => ∃ f o s t, f.length = i ∧ Lim (2 ^ w) f ∧ o ≤ 1 ∧ val (2 ^ w) f + y % (2 ^ w) ^ i = x % (2 ^ w) ^ i + (2 ^ w) ^ i * o ∧ ρ = [.val (N (2 ^ w) x), .val (N (2 ^ w) y), .val (I w), .own (f.map I), .val (I o), .val (I (1 * 2 ^ w)), s, t]) (e_len rfl (hw.len4 hx)) (hw.len4 hx) ⟨[], 0, _, _, rfl, (fun d h => nomatch h), Nat.zero_le 1, by rw [Nat.pow_zero, Nat.mod_one, Nat.mod_one]; rfl, rfl⟩ ?_ ?_ (e_len rfl (hw.len4 hx))
  · rintro k hk _ ⟨f, o, s, t, hf, hm, ho, hv, rfl⟩ K h1 h2
    refine s_asg (d := .int ((x / (2 ^ w) ^ k % 2 ^ w : Nat) - (o : Int) - (y / (2 ^ w) ^ k % 2 ^ w : Nat))) (e_as (e_subZ (e_subZ (e_idx rfl (e_var rfl) (hw.len4 hx) hk) (e_var rfl)) (e_as (e_iteI (e_lt (e_var rfl) (e_len rfl (hw.len4 hy))) (fun h => e_idx rfl (e_var rfl) (hw.len4 hy) h) fun _ => e_c0) (at_or hB))) (by rw [dg_at hB])) rfl ?_
    have ha := mod_lt' hB (x / (2 ^ w) ^ k)
    have hb := mod_lt' hB (y / (2 ^ w) ^ k)
    have hxm := mod_step (B := 2 ^ w) k x
    have hym := mod_step (B := 2 ^ w) k y
    generalize x / (2 ^ w) ^ k % 2 ^ w = a at ha hxm ⊢
    generalize y / (2 ^ w) ^ k % 2 ^ w = b at hb hym ⊢
    have hfl : f.length < 4096 := by (first | grind | omega)
    by_cases hlt : a < o + b
    · have hz : (a : Int) - o - b < 0 := by (first | grind | omega)
      refine s_asg (e_iteT (e_ltZ (e_var rfl) e_cint) hz e_c1) rfl (s_app rfl (e_iteT (e_ltZ (e_var rfl) e_cint) hz (e_as (d' := I (a + 2 ^ w - (o + b))) (e_addZ (e_var rfl) (e_var rfl)) (congrArg D.int (by rw [Nat.one_mul]; (first | grind | omega))))) rfl hfl (s_nil (h1 _ ⟨_, 1, _, _, by rw [List.length_append, hf]; rfl, lim_snoc hm (by (first | grind | omega)), Nat.le_refl 1, ?_, rfl⟩)))
      rw [val_snoc, hf, hxm, hym, Nat.pow_succ]
      exact sub1 hv hlt (by (first | grind | omega))
    · have hz : ¬ (a : Int) - o - b < 0 := by (first | grind | omega)
      refine s_asg (e_iteF (e_ltZ (e_var rfl) e_cint) hz e_c0) rfl (s_app rfl (e_iteF (e_ltZ (e_var rfl) e_cint) hz (e_as (d' := I (a - (o + b))) (e_var rfl) (congrArg D.int (by (first | grind | omega))))) rfl hfl (s_nil (h1 _ ⟨_, 0, _, _, by rw [List.length_append, hf]; rfl, lim_snoc hm (by (first | grind | omega)), Nat.zero_le 1, ?_, rfl⟩)))
      rw [val_snoc, hf, hxm, hym, Nat.pow_succ]
      exact sub2 hv (Nat.le_of_not_lt hlt)
  · rintro _ ⟨f, o, s, t, hf, hm, ho, hv, rfl⟩
    rw [mod_len hB (Nat.le_refl _), mod_len hB (len_le hB hyx)] at hv
    have hlf := lim_lt hB hm
    rw [hf] at hlf
    have hv : val (2 ^ w) f = x - y := by
      rcases Nat.le_one_iff_eq_zero_or_eq_one.mp ho with rfl | rfl
      · rw [Nat.mul_zero] at hv; (first | grind | omega)
      · rw [Nat.mul_one] at hv; (first | grind | omega)
    rw [← hv] at q
    exact s_ret (e_call (l_cons (e_own rfl) l_nil) (normal_ok hB (by (first | grind | omega)) hm)) (q _)
theorem add_at_ok {x y s : Nat} (hx : Bd x) (hy : Bd y) (hs : s ≤ 2000) : Fn (orc tbl f_within gl (n + 2)) R 5 [N (2 ^ w) x, N (2 ^ w) y, I s, I w] (N (2 ^ w) (x + (2 ^ w) ^ s * y)) := by
  refine fn_of rfl rfl rfl fun Q q => ?_
  have hB := hw.b2
  have lx := hw.len hx
  have ly := hw.len hy
  by_cases hy0 : y = 0
  · subst hy0
    rw [Nat.mul_zero, Nat.add_zero] at q
    exact s_ifT (e_eq (e_len rfl (hw.len4 hy)) e_c0) rfl (s_ret (e_cut0 rfl (hw.len4 hx)) (q _))
  refine s_ifF (e_eq (e_len rfl (hw.len4 hy)) e_c0) (fun h => hy0 (dg_nil hB h)) (s_end ?_)
  refine s_if (e_ge (e_var rfl) (e_len rfl (hw.len4 hx))) (fun h => ?_) fun h => s_end ?_
  · have e := cat_dg hB (s := s) (z := x + (2 ^ w) ^ s * y) (l := dg (2 ^ w) x ++ List.replicate (s - (dg (2 ^ w) x).length) 0) (lim_app (lim_dg hB x) (lim_zeros hB)) (by rw [List.length_append, List.length_replicate]; exact Nat.add_sub_cancel' h) hy0 (by rw [val_append, val_dg hB, val_zeros, Nat.mul_zero, Nat.add_zero])
    refine s_ret (e_as (e_cat (e_cat (e_var rfl) (e_zeros (e_sub (e_var rfl) (e_len rfl (hw.len4 hx)) h) (by (first | grind | omega))) ?_) (e_var rfl) ?_) e) (q _)
    · rw [List.length_replicate]; (first | grind | omega)
    · rw [List.length_append, List.length_replicate]; (first | grind | omega)
  · have hxs : Bd (x / (2 ^ w) ^ s) := Nat.lt_of_le_of_lt (Nat.div_le_self _ _) hx
    have h := Nat.le_of_not_le h
    have e := cat_dg hB (s := s) (z := x + (2 ^ w) ^ s * y) (z' := x / (2 ^ w) ^ s + y) (lim_take hB (k := s) (lim_dg hB x)) (by rw [List.length_take]; exact Nat.min_eq_left h) (fun q => hy0 (Nat.eq_zero_of_add_eq_zero_left q)) (by rw [vtake_dg hB, Nat.mul_add, ← Nat.add_assoc, Nat.mod_add_div])
    refine s_ret (e_as (e_cat (e_cutH rfl (e_var rfl) (hw.len4 hx)) (e_call (l_cons (e_as (e_cutL rfl (e_var rfl) (hw.len4 hx)) (congrArg L (drop_dg hB s x))) (l_cons (e_var rfl) (l_cons (e_var rfl) l_nil))) (add_ok hw hxs hy)) ?_) e) (q _)
    have := dg_len hB (x := x / (2 ^ w) ^ s + y) (k := 1001) (Nat.lt_of_lt_of_le (Nat.add_lt_add hxs hy) (Nat.le_trans (by rw [← Nat.two_mul, ← Nat.pow_succ']; exact Nat.le_refl _) (Nat.pow_le_pow_left hB 1001)))
    rw [List.length_take]; (first | grind | omega)
end
end Mine.P

set_option autoImplicit false
set_option linter.all false
set_option exponentiation.threshold 2000
namespace Mine.P
open PySem
theorem sm {x w : Nat} (h : x < 2 ^ 100) : x < 2 ^ 256 := Nat.lt_trans h (Nat.pow_lt_pow_right (by decide) (by decide))
theorem W.sm {w x : Nat} (hw : W w) (h : x < 2 ^ w) : x < 2 ^ 256 := Nat.lt_of_lt_of_le h (Nat.pow_le_pow_right (by decide) (Nat.le_trans hw.hi (by decide)))
theorem W.sm2 {w x y : Nat} (hw : W w) (h : x ≤ 2 ^ w) (h2 : y ≤ 2 ^ w) : x * y < 2 ^ 256 := Nat.lt_of_le_of_lt (Nat.mul_le_mul (Nat.le_trans h hw.b9) (Nat.le_trans h2 hw.b9)) (Nat.lt_trans (by decide : 512 * 512 < 2 ^ 20) (Nat.pow_lt_pow_right (by decide) (by decide)))
theorem set_drop {l : List Nat} {k v : Nat} (h : k < l.length) : (l.set k v).drop k = v :: l.drop (k + 1) := by
  rw [List.drop_set, if_neg (Nat.lt_irrefl k), Nat.sub_self, List.drop_eq_getElem_cons h]; rfl
section
variable {n w : Nat} {R : Prop} (hw : W w)
include hw
theorem divrem_limb_ok {x d : Nat} (hx : Bd x) (hd : d ≠ 0) (hdB : d < 2 ^ w) : Fn (orc tbl f_within gl (n + 2)) R 6 [N (2 ^ w) x, I d, I w] (.tup [N (2 ^ w) (x / d), I (x % d)]) := by
  refine fn_of rfl rfl rfl fun Q q => ?_
  have hB := hw.b2
  have lx := hw.len4 hx
  have hd0 : 0 < d := Nat.pos_of_ne_zero hd
  refine s_ifF (e_eq (e_var rfl) e_c0) hd (s_end ?_)
  refine s_asgL2 (sl_consN (e_zeros (e_len rfl lx) lx) rfl (sl_cons e_c0 rfl sl_nil)) ?_
  refine s_forD (n := (dg (2 ^ w) x).length) (fun k ρ => ∃ f s, f.length = (dg (2 ^ w) x).length ∧ Lim (2 ^ w) (f.drop k) ∧ val (2 ^ w) (f.drop k) = x / (2 ^ w) ^ k / d ∧ ρ = [.val (N (2 ^ w) x), .val (I d), .val (I w), .own (f.map I), .val (I (x / (2 ^ w) ^ k % d)), s]) (e_subZ (e_len rfl lx) e_cint) lx ⟨List.replicate (dg (2 ^ w) x).length 0, .unset, List.length_replicate, ?_, ?_, ?_⟩ ?_ ?_
  · rw [List.drop_eq_nil_of_le (Nat.le_of_eq List.length_replicate)]; exact fun d h => nomatch h
  · rw [List.drop_eq_nil_of_le (Nat.le_of_eq List.length_replicate), div_len hB (Nat.le_refl _), Nat.zero_div]; rfl
  · rw [div_len hB (Nat.le_refl _), Nat.zero_mod]; rfl
  · rintro k hk _ ⟨f, s, hf, hm, hv, rfl⟩ K h1 h2
    have ex := div_step (B := 2 ^ w) k x
    have hr := Nat.mod_lt (x / (2 ^ w) ^ (k + 1)) hd0
    have hq := Nat.mod_add_div (x / (2 ^ w) ^ (k + 1)) d
    have ha := mod_lt' hB (x / (2 ^ w) ^ k)
    rw [← hv] at hq
    generalize x / (2 ^ w) ^ (k + 1) % d = r at hr hq ⊢
    have e1 : x / (2 ^ w) ^ k = d * (2 ^ w * val (2 ^ w) (f.drop (k + 1))) + (r * 2 ^ w + x / (2 ^ w) ^ k % 2 ^ w) := by
      rw [← hq] at ex
      refine ex.trans ?_
      generalize x / (2 ^ w) ^ k % 2 ^ w = u
      grind
    have e2 : x / (2 ^ w) ^ k % d = (r * 2 ^ w + x / (2 ^ w) ^ k % 2 ^ w) % d := by
      conv => lhs; rw [e1]
      rw [Nat.mul_add_mod]
    have e3 : x / (2 ^ w) ^ k / d = 2 ^ w * val (2 ^ w) (f.drop (k + 1)) + (r * 2 ^ w + x / (2 ^ w) ^ k % 2 ^ w) / d := by
      conv => lhs; rw [e1]
      rw [Nat.mul_add_div hd0]
    have hlt : r * 2 ^ w + x / (2 ^ w) ^ k % 2 ^ w < d * 2 ^ w := Nat.lt_of_lt_of_le (Nat.add_lt_add_left ha _) (by rw [← Nat.succ_mul]; exact Nat.mul_le_mul_right _ hr)
    have hrB : r < 2 ^ w := Nat.lt_trans hr hdB
    refine s_asg (e_as (d' := I (r * 2 ^ w + x / (2 ^ w) ^ k % 2 ^ w)) (e_or1 (e_shl (e_var rfl) (e_var rfl) (hw.sm hrB) hw.w4) (e_idx rfl (e_var rfl) lx hk) (by rw [dg_at hB]; exact ha)) (by rw [dg_at hB])) rfl ?_
    refine s_setI (.inl rfl) (e_div (e_var rfl) (e_var rfl) (Nat.lt_trans hlt (hw.sm2 (Nat.le_of_lt hdB) (Nat.le_refl _))) hd) rfl (e_var rfl) (by rw [hf]; exact lx) (by rw [hf]; exact hk) ?_
    refine s_augMod rfl (e_var rfl) hd (s_nil (h1 _ ⟨_, .val (I k), (List.length_set).trans hf, ?_, ?_, by rw [e2]; rfl⟩))
    · rw [set_drop (hf ▸ hk)]
      exact fun y hy => (List.mem_cons.mp hy).elim (fun h => h ▸ Nat.div_lt_of_lt_mul hlt) (hm y)
    · rw [set_drop (hf ▸ hk), e3]; exact Nat.add_comm _ _
  · rintro _ ⟨f, s, hf, hm, hv, rfl⟩
    rw [Nat.pow_zero, Nat.div_one] at *
    refine s_ret (e_tup (l_cons (e_call (l_cons (e_own rfl) l_nil) (normal_ok hB (by rw [hf]; exact lx) hm)) (l_cons (e_var rfl) l_nil))) ?_
    have hv : val (2 ^ w) f = x / d := hv
    rw [hv]; exact q _
theorem split_ok {x s : Nat} (hx : Bd x) : Fn (orc tbl f_within gl (n + 2)) R 10 [N (2 ^ w) x, I s] (.tup [N (2 ^ w) (x % (2 ^ w) ^ s), N (2 ^ w) (x / (2 ^ w) ^ s)]) := by
  refine fn_of rfl rfl rfl fun Q q => ?_
  have hB := hw.b2
  have lx := hw.len4 hx
  refine s_ret (e_tup (l_cons (e_as (e_call (l_cons (e_cutH rfl (e_var rfl) lx) l_nil) (normal_ok hB (Nat.le_trans (List.length_take_le' _ _) lx) (lim_take hB (lim_dg hB x)))) (by rw [vtake_dg hB])) (l_cons (e_as (e_cutL rfl (e_var rfl) lx) (congrArg L (drop_dg hB s x))) l_nil))) (q _)
theorem piece_ok {x b e : Nat} (hx : Bd x) : Fn (orc tbl f_within gl (n + 2)) R 11 [N (2 ^ w) x, I b, I e] (N (2 ^ w) (x / (2 ^ w) ^ b % (2 ^ w) ^ (e - b))) := by
  refine fn_of rfl rfl rfl fun Q q => ?_
  have hB := hw.b2
  have lx := hw.len4 hx
  refine s_ret (e_as (e_call (l_cons (e_cutB rfl (e_var rfl) (e_var rfl) lx) l_nil) (normal_ok hB (Nat.le_trans (List.length_take_le' _ _) (Nat.le_trans (by rw [List.length_drop]; exact Nat.sub_le _ _) lx)) (lim_take hB (by rw [drop_dg hB]; exact lim_dg hB _)))) (by rw [drop_dg hB, vtake_dg hB])) (q _)
end
end Mine.P

set_option autoImplicit false
set_option linter.all false
set_option exponentiation.threshold 2000
namespace Mine.P
open PySem
section
variable {C : Orc} {R : Prop} {ρ ρ1 ρ2 ρ3 : MEnv} {a b c e : ME} {p p1 p2 p3 p4 p5 p6 p7 i j k m n w t : Nat} {l : List Nat}
theorem e_bitlen (ha : Ev C R a ρ (I t) ρ1) (ht : t ≠ 0) : Ev C R (.bitlen a p p1) ρ (I (t.log2 + 1)) ρ1 := fun Q q => ha _ (by
  show Q (.int (bitLength (t : Int))) ρ1
  unfold bitLength
  rw [if_neg (fun h => ht (Int.ofNat_eq_zero.mp h))]; exact q)
theorem e_last (h : ρ[i]? = some (.val (L l))) (hl : l.length ≤ 4096) (hn : l ≠ []) : Ev C R (.idx (.var i p1) (.neg (.cint 1 p2) p3) p) ρ (I (l.getD (l.length - 1) 0)) ρ := fun Q q => by
  show pkVar ρ i fun p => wpE C (.neg (.cint 1 p2) p3) R ρ fun j ρ => pkGet ρ p fun x => idxP x j fun d => Q d ρ
  unfold pkVar; rw [h]
  have hp := List.length_pos_iff.mpr hn
  have e : (-1 + (((l.map I).length : Nat) : Int)).toNat = l.length - 1 := by rw [List.length_map]; (first | grind | omega)
  show placeP (l.map I).length (-1) fun k => ∃ y, (l.map I)[k]? = some y ∧ Q y ρ
  refine ⟨by rw [List.length_map]; exact hl, .inr ⟨by decide, by rw [List.length_map]; (first | grind | omega), ?_⟩⟩
  rw [e]
  exact ⟨_, at_map (Nat.sub_lt hp Nat.one_pos), q⟩
end
theorem shl_arith {S T vf c a F xm B : Nat} (h : vf + S * T * c = S * (xm * F)) : vf + S * T * ((c + a * F) % B) + S * T * B * ((c + a * F) / B) = S * ((xm + T * a) * F) := by
  have e := Nat.mod_add_div (c + a * F) B
  generalize (c + a * F) % B = u at e ⊢
  generalize (c + a * F) / B = v at e ⊢
  grind
theorem pow_split (w m : Nat) : (2 ^ w) ^ (m / w) * 2 ^ (m % w) = 2 ^ m := by rw [← Nat.pow_mul, ← Nat.pow_add, Nat.div_add_mod]
theorem shr_digit {x m w k : Nat} (hm : m ≤ w) : x / 2 ^ m / (2 ^ w) ^ k % 2 ^ w = (x / (2 ^ w) ^ k % 2 ^ w / 2 ^ m + x / (2 ^ w) ^ (k + 1) % 2 ^ w * 2 ^ (w - m)) % 2 ^ w := by
  have hF : 0 < 2 ^ m := Nat.two_pow_pos m
  have e0 : x / 2 ^ m / (2 ^ w) ^ k = x / (2 ^ w) ^ k / 2 ^ m := by rw [Nat.div_div_eq_div_mul, Nat.div_div_eq_div_mul, Nat.mul_comm]
  have e1 : x / (2 ^ w) ^ (k + 1) = x / (2 ^ w) ^ k / 2 ^ w := by rw [Nat.pow_succ, Nat.div_div_eq_div_mul]
  rw [e0, e1]
  generalize x / (2 ^ w) ^ k = X
  have eB : 2 ^ w = 2 ^ m * 2 ^ (w - m) := by rw [← Nat.pow_add, Nat.add_sub_cancel' hm]
  have h1 : X / 2 ^ m = X % 2 ^ w / 2 ^ m + 2 ^ (w - m) * (X / 2 ^ w) := by
    conv => lhs; rw [← Nat.mod_add_div X (2 ^ w)]
    rw [show 2 ^ w * (X / 2 ^ w) = 2 ^ m * (2 ^ (w - m) * (X / 2 ^ w)) by rw [← Nat.mul_assoc, ← eB], Nat.add_mul_div_left _ _ hF]
  rw [h1, ← Nat.mod_add_div (X / 2 ^ w) (2 ^ w), Nat.mul_add, Nat.mod_add_div (X / 2 ^ w), ← Nat.mul_assoc, Nat.mul_comm (2 ^ (w - m)) (2 ^ w), Nat.mul_assoc, ← Nat.add_assoc, Nat.add_mul_mod_self_left, Nat.mul_comm (2 ^ (w - m))]
section
variable {n w : Nat} {R : Prop} (hw : W w)
include hw
theorem shift_left_ok {x m : Nat} (hx : Bd x) (hm : m ≤ 2000) : Fn (orc tbl f_within gl (n + 1)) R 7 [N (2 ^ w) x, I m, I w] (N (2 ^ w) (x * 2 ^ m)) := by
  refine fn_of rfl rfl rfl fun Q q => ?_
  have hB := hw.b2
  have lx := hw.len4 hx
  have lx2 := hw.len hx
  have hw0 : w ≠ 0 := Nat.ne_of_gt (Nat.lt_of_lt_of_le Nat.zero_lt_two hw.lo)
  by_cases hx0 : x = 0
  · subst hx0
    rw [Nat.zero_mul] at q
    exact s_ifT (e_eq (e_len rfl lx) e_c0) rfl (s_ret (e_list l_nil) (q _))
  refine s_ifF (e_eq (e_len rfl lx) e_c0) (fun h => hx0 (dg_nil hB h)) (s_end ?_)
  have hsp : m / w ≤ 2000 := Nat.le_trans (Nat.div_le_self _ _) hm
  have hfw : m % w < w := Nat.mod_lt _ (Nat.pos_of_ne_zero hw0)
  have hFB : 2 ^ (m % w) ≤ 2 ^ w := Nat.pow_le_pow_right (by decide) (Nat.le_of_lt hfw)
  refine s_asgL2 (sl_cons (e_div (e_var rfl) (e_var rfl) (Nat.lt_of_le_of_lt hm (Nat.lt_trans (by decide : 2000 < 2 ^ 20) (Nat.pow_lt_pow_right (by decide) (by decide)))) hw0) rfl (sl_cons (e_mod (e_var rfl) (e_var rfl) hw0) rfl sl_nil)) ?_
  refine s_asgL3 (sl_consN (e_zeros (e_var rfl) (Nat.le_trans hsp (by decide))) rfl (sl_cons e_c0 rfl (sl_cons (e_mask hw rfl) rfl sl_nil))) ?_
  have hS := pow_split w m
  refine s_forS (l := dg (2 ^ w) x) (fun i ρ => ∃ f c s, f.length = m / w + i ∧ Lim (2 ^ w) f ∧ c < 2 ^ (m % w) ∧ val (2 ^ w) f + (2 ^ w) ^ (m / w) * (2 ^ w) ^ i * c = (2 ^ w) ^ (m / w) * (x % (2 ^ w) ^ i * 2 ^ (m % w)) ∧ ρ = [.val (N (2 ^ w) x), .val (I m), .val (I w), .val (I (m / w)), .val (I (m % w)), .own (f.map I), .val (I c), .val (I (1 * 2 ^ w - 1)), s]) (e_var rfl) ⟨_, 0, _, List.length_replicate, lim_zeros hB, Nat.two_pow_pos _, by rw [val_zeros, Nat.pow_zero, Nat.mod_one]; simp only [Nat.mul_zero, Nat.zero_mul], rfl⟩ ?_ ?_
  · rintro k hk _ ⟨f, c, s, hf, hm, hc, hv, rfl⟩ K h1 h2
    have ha := getD_lt (lim_dg hB x) hk
    refine s_augOr rfl (e_shl (e_var rfl) (e_var rfl) (hw.sm ha) (Nat.le_trans (Nat.le_of_lt hfw) hw.w4)) hc (s_app rfl (e_and (e_var rfl) (e_var rfl)) rfl (by (first | grind | omega)) (s_augShr rfl (e_var rfl) (s_nil (h1 _ ⟨_, _, _, by rw [List.length_append, hf]; rfl, lim_snoc hm (mod_lt' hB _), ?_, ?_, rfl⟩))))
    · refine Nat.div_lt_of_lt_mul (Nat.lt_of_lt_of_le (Nat.add_lt_add_right hc _) ?_)
      rw [Nat.add_comm, ← Nat.succ_mul]; exact Nat.mul_le_mul_right _ ha
    · rw [val_snoc, hf, Nat.pow_add, mod_step, Nat.pow_succ, ← dg_at hB k x, ← Nat.mul_assoc]
      exact shl_arith hv
  · rintro _ ⟨f, c, s, hf, hm, hc, hv, rfl⟩
    rw [mod_len hB (Nat.le_refl _), Nat.mul_left_comm, hS, ← Nat.pow_add] at hv
    have hz : (2 ^ w) ^ (m / w) * x ≤ x * 2 ^ m := by
      rw [← hS, Nat.mul_comm x]
      exact Nat.mul_le_mul_right x (Nat.le_mul_of_pos_right _ (Nat.two_pow_pos _))
    refine s_if (e_gt (e_var rfl) e_c0) (fun h => s_app rfl (e_var rfl) rfl (by (first | grind | omega)) (s_end ?_)) fun h => s_end ?_
    · have e := dg_of hB (l := f ++ [c]) (z := x * 2 ^ m) (lim_snoc hm (Nat.lt_of_lt_of_le hc hFB)) (by rw [val_snoc, hf]; exact hv) fun _ => by
        rw [List.length_append, hf, ← hv]
        exact Nat.le_trans (Nat.le_mul_of_pos_right _ h) (Nat.le_add_left _ _)
      have q : ∀ ρ, Q (.ret (L (f ++ [c]))) ρ := by rw [e]; exact q
      exact s_ret (e_own rfl) (q _)
    · have hc0 : c = 0 := Nat.eq_zero_of_not_pos h
      subst hc0
      have hp : 1 ≤ (dg (2 ^ w) x).length := List.length_pos_iff.mpr (dg_ne hB hx0)
      have e := dg_of hB (l := f) (z := x * 2 ^ m) hm hv fun _ => by
        rw [hf, Nat.add_sub_assoc hp, Nat.pow_add]
        exact Nat.le_trans (Nat.mul_le_mul_left _ (dg_ge hB hx0)) hz
      have q : ∀ ρ, Q (.ret (L f)) ρ := by rw [e]; exact q
      exact s_ret (e_own rfl) (q _)
theorem shift_right_ok {x m : Nat} (hx : Bd x) (hm : m < w) : Fn (orc tbl f_within gl (n + 2)) R 8 [N (2 ^ w) x, I m, I w] (N (2 ^ w) (x / 2 ^ m)) := by
  refine fn_of rfl rfl rfl fun Q q => ?_
  have hB := hw.b2
  have lx := hw.len4 hx
  have lx2 := hw.len hx
  have hw0 : w ≠ 0 := Nat.ne_of_gt (Nat.lt_of_lt_of_le Nat.zero_lt_two hw.lo)
  have h1w : w - m + m = w := Nat.sub_add_cancel (Nat.le_of_lt hm)
  refine s_asgL2 (sl_cons (e_as (d' := I 0) (e_div (e_var rfl) (e_var rfl) (hw.sm (Nat.lt_trans hm Nat.lt_two_pow_self)) hw0) (by rw [Nat.div_eq_of_lt hm])) rfl (sl_cons (e_as (d' := I m) (e_mod (e_var rfl) (e_var rfl) hw0) (by rw [Nat.mod_eq_of_lt hm])) rfl sl_nil)) ?_
  refine s_asgL2 (sl_consN (e_list l_nil) rfl (sl_cons (e_mask hw rfl) rfl sl_nil)) ?_
  refine s_forR (m := 0) (n := (dg (2 ^ w) x).length) (fun i ρ => ∃ f s t, f.length = i ∧ Lim (2 ^ w) f ∧ val (2 ^ w) f = x / 2 ^ m % (2 ^ w) ^ i ∧ ρ = [.val (N (2 ^ w) x), .val (I m), .val (I w), .val (I 0), .val (I m), .own (f.map I), .val (I (1 * 2 ^ w - 1)), s, t]) (e_var rfl) (e_len rfl lx) lx (Nat.zero_le _) ⟨[], _, _, rfl, (fun d h => nomatch h), by rw [Nat.pow_zero, Nat.mod_one]; rfl, rfl⟩ ?_ ?_
  · rintro k _ hk _ ⟨f, s, t, hf, hm', hv, rfl⟩ K h1 h2
    have ha := mod_lt' hB (x / (2 ^ w) ^ k)
    have hb := mod_lt' hB (x / (2 ^ w) ^ (k + 1))
    refine s_asg (e_as (e_iteI (e_lt (e_add (e_var rfl) e_c1) (e_len rfl lx)) (fun h => e_idx rfl (e_add (e_var rfl) e_c1) lx h) fun _ => e_c0) (at_or hB)) rfl ?_
    refine s_app rfl (e_as (d' := I (x / 2 ^ m / (2 ^ w) ^ k % 2 ^ w)) (e_and (e_or2 (e_shr (e_as (d' := I (x / (2 ^ w) ^ k % 2 ^ w)) (e_idx rfl (e_var rfl) lx hk) (by rw [dg_at hB])) (e_var rfl)) (e_shl (e_var rfl) (e_sub (e_var rfl) (e_var rfl) (Nat.le_of_lt hm)) (hw.sm hb) (Nat.le_trans (Nat.sub_le _ _) hw.w4)) ?_) (e_var rfl)) (by rw [shr_digit (Nat.le_of_lt hm)])) rfl (by (first | grind | omega)) (s_nil (h1 _ ⟨_, _, _, by rw [List.length_append, hf]; rfl, lim_snoc hm' (mod_lt' hB _), ?_, rfl⟩))
    · exact Nat.div_lt_of_lt_mul (by rw [← Nat.pow_add, Nat.add_comm, h1w]; exact ha)
    · rw [val_snoc, hf, hv, mod_step]
  · rintro _ ⟨f, s, t, hf, hm', hv, rfl⟩
    rw [Nat.mod_eq_of_lt (Nat.lt_of_le_of_lt (Nat.div_le_self _ _) (dg_lt hB x))] at hv
    rw [← hv] at q
    exact s_ret (e_call (l_cons (e_own rfl) l_nil) (normal_ok hB (by rw [hf]; exact lx) hm')) (q _)
theorem bits_ok {t : Nat} (ht : t ≠ 0) : Fn (orc tbl f_within gl (n + 1)) R 9 [L [t], I w] (I (t.log2 + 1)) := by
  refine fn_of rfl rfl rfl fun Q q => ?_
  have h1 : [t].length ≤ 4096 := (by decide : 1 ≤ 4096)
  refine s_ret (e_iteT (e_gt (e_len (l := [t]) rfl h1) e_c0) Nat.one_pos (e_as (e_add (e_mul (e_sub (e_len (l := [t]) rfl h1) e_c1 (Nat.le_refl 1)) (e_as (d' := I w) (e_var rfl) rfl) (Nat.two_pow_pos _) (hw.sm Nat.lt_two_pow_self)) (e_bitlen (e_last (l := [t]) rfl h1 (List.cons_ne_nil _ _)) ht)) ?_)) (q _)
  show I ((1 - 1) * w + _) = _
  rw [Nat.sub_self, Nat.zero_mul, Nat.zero_add]; rfl
end
end Mine.P

set_option autoImplicit false
set_option linter.all false
set_option exponentiation.threshold 2000
namespace Mine.P
open PySem
theorem enum_at {ds : List D} {k : Nat} {d : D} (h : (enumL ds)[k]? = some d) : ∃ x, ds[k]? = some x ∧ d = .tup [I k, x] := by
  unfold enumL at h
  rw [List.getElem?_zipWith] at h
  split at h
  · rename_i a b h1 h2
    have hk := (List.getElem?_eq_some_iff.mp h1).1
    rw [List.length_range] at hk
    rw [List.getElem?_range hk] at h1
    cases h1; cases h
    exact ⟨b, h2, rfl⟩
  · cases h
theorem enum_len (ds : List D) : (enumL ds).length = ds.length := by
  unfold enumL
  rw [List.length_zipWith, List.length_range, Nat.min_self]
section
variable {C : Orc} {R : Prop} {ρ ρ1 ρ2 ρ3 : MEnv} {a b c e : ME} {p p1 p2 p3 p4 p5 p6 p7 i j k m n w t : Nat} {l : List Nat} {ds : List D} {r body : List MS} {Q K : Fl → MEnv → Prop}
theorem s_forE (J : Nat → MEnv → Prop) (he : ∀ Z : List D → MEnv → Prop, Z (enumL ds) ρ1 → wpIt C (.enum p1 e p2) False ρ Z) (hJ : J 0 ρ1) (h : ∀ k d, ds[k]? = some d → ∀ ρ, J k ρ → Step C body Q (J (k + 1)) ((ρ.set i (.val (I k))).set j (.val d))) (fin : ∀ ρ, J ds.length ρ → wpB C r R ρ Q) : wpB C (.for_ (.many [(i, m), (j, n)] p) (.enum p1 e p2) body p3 :: r) R ρ Q :=
  he _ (fo_rule (tg := .many [(i, m), (j, n)] p) (B := wpB C body False) (Q := SK C r R Q) J (enumL ds) 0 (fun k d hj ρ q K h1 h2 => by
    rw [Nat.zero_add] at q h1
    obtain ⟨x, hx, rfl⟩ := enum_at hj
    exact h k x hx ρ q K h1 h2) (fun ρ q => fin ρ (by rw [Nat.zero_add, enum_len] at q; exact q)) _ hJ)
theorem s_forEL (J : Nat → MEnv → Prop) (he : Ev C False e ρ (L l) ρ1) (hJ : J 0 ρ1) (h : ∀ k, k < l.length → ∀ ρ, J k ρ → Step C body Q (J (k + 1)) ((ρ.set i (.val (I k))).set j (.val (I (l.getD k 0))))) (fin : ∀ ρ, J l.length ρ → wpB C r R ρ Q) : wpB C (.for_ (.many [(i, m), (j, n)] p) (.enum p1 e p2) body p3 :: r) R ρ Q :=
  s_forE (ds := l.map I) J (fun Z z => he (fun d ρ => enumP d fun l => Z l ρ) z) hJ (fun k d hd ρ q => by
    have hj2 : k < l.length := by have := (List.getElem?_eq_some_iff.mp hd).1; rwa [List.length_map] at this
    rw [at_map hj2] at hd; cases hd
    exact h k hj2 ρ q) (fun ρ q => fin ρ (by rw [List.length_map] at q; exact q))
end
theorem val_set {B : Nat} : ∀ {l : List Nat} {k v : Nat}, k < l.length → val B (l.set k v) + B ^ k * l.getD k 0 = val B l + B ^ k * v
  | d :: l, 0, v, _ => by
    show v + B * val B l + 1 * d = d + B * val B l + 1 * v
    (first | grind | omega)
  | d :: l, k + 1, v, h => by
    have e := val_set (B := B) (l := l) (k := k) (v := v) (Nat.lt_of_succ_lt_succ h)
    show d + B * val B (l.set k v) + B ^ (k + 1) * l.getD k 0 = d + B * val B l + B ^ (k + 1) * v
    rw [Nat.pow_succ]
    generalize val B (l.set k v) = u at e ⊢
    generalize l.getD k 0 = z at e ⊢
    grind
theorem lim_set {B : Nat} {l : List Nat} {k v : Nat} (h : Lim B l) (hv : v < B) : Lim B (l.set k v) := fun d hd => by
  rcases List.mem_or_eq_of_mem_set hd with q | q
  · exact h d q
  · exact q ▸ hv
theorem at_val {B : Nat} (hB : 2 ≤ B) : ∀ {k : Nat} {l : List Nat}, Lim B l → l.getD k 0 = val B l / B ^ k % B
  | k, l, hm => by
    have e : l.getD k 0 = (l.drop k).getD 0 0 := by
      rw [List.getD_eq_getElem?_getD, List.getD_eq_getElem?_getD, List.getElem?_drop, Nat.add_zero]
    rw [e, ← val_drop hB k hm]
    have hm : Lim B (l.drop k) := fun d hd => hm d (List.mem_of_mem_drop hd)
    cases hl : l.drop k with
    | nil => exact (Nat.zero_mod B).symm
    | cons d r =>
      rw [hl] at hm
      show d = (d + B * val B r) % B
      rw [Nat.add_mul_mod_self_left, Nat.mod_eq_of_lt (hm d (.head _))]
theorem mul_step {S T B vf vs c u a b V ym v1 : Nat} (h : vf + S * T * c = V + S * (a * ym)) (hs : vs + S * T * u = vf + S * T * v1) (e : v1 + B * ((c + (u + a * b)) / B) = c + (u + a * b)) : vs + S * (T * B) * ((c + (u + a * b)) / B) = V + S * (a * (ym + T * b)) := by
  generalize (c + (u + a * b)) / B = z at e ⊢
  grind
section
variable {n w : Nat} {R : Prop} (hw : W w)
include hw
theorem mul_school_ok {x y : Nat} (hx : Bd x) (hy : Bd y) : Fn (orc tbl f_within gl (n + 2)) R 25 [N (2 ^ w) x, N (2 ^ w) y, I w] (N (2 ^ w) (x * y)) := by
  refine fn_of rfl rfl rfl fun Q q => ?_
  have hB := hw.b2
  have lx := hw.len4 hx
  have ly := hw.len4 hy
  have l2 : (dg (2 ^ w) x).length + (dg (2 ^ w) y).length ≤ 4096 := Nat.le_trans (Nat.add_le_add (hw.len hx) (hw.len hy)) (by decide)
  refine s_asgL2 (sl_consN (e_zeros (e_add (e_len rfl lx) (e_len rfl ly)) l2) rfl (sl_cons (e_mask hw rfl) rfl sl_nil)) ?_
  refine s_forEL (l := dg (2 ^ w) x) (fun i ρ => ∃ f s1 s2 s3 s4 s5, f.length = (dg (2 ^ w) x).length + (dg (2 ^ w) y).length ∧ Lim (2 ^ w) f ∧ val (2 ^ w) f = x % (2 ^ w) ^ i * y ∧ ρ = [.val (N (2 ^ w) x), .val (N (2 ^ w) y), .val (I w), .own (f.map I), .val (I (1 * 2 ^ w - 1)), s1, s2, s3, s4, s5]) (e_var rfl) ⟨_, _, _, _, _, _, List.length_replicate, lim_zeros hB, by rw [val_zeros, Nat.pow_zero, Nat.mod_one, Nat.zero_mul], rfl⟩ ?_ ?_
  · rintro k hk _ ⟨f0, s1, s2, s3, s4, s5, hf0, hm0, hv0, rfl⟩ K h1 h2
    have ha := getD_lt (lim_dg hB x) hk
    have hka : (dg (2 ^ w) x).getD k 0 = x / (2 ^ w) ^ k % 2 ^ w := dg_at hB k x
    generalize (dg (2 ^ w) x).getD k 0 = a at ha hka ⊢
    refine s_asg e_c0 rfl ?_
    refine s_forEL (l := dg (2 ^ w) y) (fun j ρ => ∃ f c s1 s2, f.length = f0.length ∧ Lim (2 ^ w) f ∧ f.drop (k + j) = f0.drop (k + j) ∧ c < 2 ^ w ∧ val (2 ^ w) f + (2 ^ w) ^ k * (2 ^ w) ^ j * c = val (2 ^ w) f0 + (2 ^ w) ^ k * (a * (y % (2 ^ w) ^ j)) ∧ ρ = [.val (N (2 ^ w) x), .val (N (2 ^ w) y), .val (I w), .own (f.map I), .val (I (1 * 2 ^ w - 1)), .val (I k), .val (I a), .val (I c), s1, s2]) (e_var rfl) ⟨f0, 0, _, _, rfl, hm0, rfl, Nat.two_pow_pos w, by rw [Nat.pow_zero, Nat.mod_one]; simp only [Nat.mul_zero], rfl⟩ ?_ ?_
    · rintro j hj _ ⟨f, c, s1, s2, hf, hm, hd, hc, hv, rfl⟩ K h1 h2
      have hb := getD_lt (lim_dg hB y) hj
      have hjb : (dg (2 ^ w) y).getD j 0 = y / (2 ^ w) ^ j % 2 ^ w := dg_at hB j y
      generalize (dg (2 ^ w) y).getD j 0 = b at hb hjb ⊢
      have hkj : k + j < f.length := by rw [hf, hf0]; exact Nat.add_lt_add hk hj
      have lf : f.length ≤ 4096 := by rw [hf, hf0]; exact l2
      have hu := getD_lt hm hkj
      refine s_augAdd rfl (e_add (e_idxO rfl (e_add (e_var rfl) (e_var rfl)) lf hkj) (e_mul (e_var rfl) (e_var rfl) (hw.sm ha) (hw.sm hb))) ?_
      refine s_setI (.inl rfl) (e_and (e_var rfl) (e_var rfl)) rfl (e_add (e_var rfl) (e_var rfl)) lf hkj (s_augShr rfl (e_var rfl) (s_nil (h1 _ ⟨_, _, _, _, (List.length_set).trans hf, lim_set hm (mod_lt' hB _), ?_, ?_, ?_, rfl⟩)))
      · show (f.set (k + j) _).drop (k + j + 1) = f0.drop (k + j + 1)
        rw [List.drop_set, if_pos (Nat.lt_succ_self _), ← List.drop_drop (i := 1) (j := k + j), hd, List.drop_drop]
      · refine Nat.div_lt_of_lt_mul ?_
        have := Nat.mul_le_mul (Nat.le_sub_one_of_lt ha) (Nat.le_sub_one_of_lt hb)
        have h5 : (2 ^ w - 1) * (2 ^ w - 1) + 2 * (2 ^ w - 1) + 1 = 2 ^ w * 2 ^ w := by
          obtain ⟨z, hz⟩ := Nat.exists_eq_succ_of_ne_zero (Nat.ne_of_gt (Nat.two_pow_pos w))
          rw [hz, Nat.succ_sub_one]; grind
        (first | grind | omega)
      · rw [Nat.pow_succ, ← Nat.pow_succ, mod_step, ← hjb]
        have hs := val_set (B := 2 ^ w) (v := (c + (f.getD (k + j) 0 + a * b)) % 2 ^ w) hkj
        rw [Nat.pow_add] at hs
        rw [Nat.pow_succ (2 ^ w) j]
        exact mul_step hv hs (Nat.mod_add_div _ _)
    · rintro _ ⟨f, c, s1, s2, hf, hm, hd, hc, hv, rfl⟩
      have hkj : k + (dg (2 ^ w) y).length < f.length := by rw [hf, hf0]; exact Nat.add_lt_add_right hk _
      have lf : f.length ≤ 4096 := by rw [hf, hf0]; exact l2
      have hz : f.getD (k + (dg (2 ^ w) y).length) 0 = 0 := by
        have e : f.getD (k + (dg (2 ^ w) y).length) 0 = f0.getD (k + (dg (2 ^ w) y).length) 0 := by
          have h := congrArg (fun l => l.getD 0 0) hd
          simp only [List.getD_eq_getElem?_getD, List.getElem?_drop, Nat.add_zero] at h ⊢
          exact h
        rw [e, at_val hB hm0, hv0, Nat.div_eq_of_lt, Nat.zero_mod]
        rw [Nat.pow_add]
        exact Nat.mul_lt_mul_of_lt_of_lt (Nat.mod_lt _ (pow_pos' hB _)) (dg_lt hB y)
      refine s_setI (.inl rfl) (e_var rfl) rfl (e_add (e_var rfl) (e_len rfl ly)) lf hkj (s_nil (h1 _ ⟨_, _, _, _, _, _, (List.length_set).trans (hf.trans hf0), lim_set hm hc, ?_, rfl⟩))
      have hs := val_set (B := 2 ^ w) (v := c) hkj
      rw [hz, Nat.mul_zero, Nat.add_zero, Nat.pow_add, hv, hv0, mod_len hB (Nat.le_refl _), hka] at hs
      rw [hs, mod_step, Nat.add_mul, Nat.mul_assoc]
  · rintro _ ⟨f, s1, s2, s3, s4, s5, hf, hm, hv, rfl⟩
    rw [mod_len hB (Nat.le_refl _)] at hv
    rw [← hv] at q
    exact s_ret (e_call (l_cons (e_own rfl) l_nil) (normal_ok hB (by rw [hf]; exact l2) hm)) (q _)
end
end Mine.P

set_option autoImplicit false
set_option linter.all false
set_option exponentiation.threshold 2000
namespace Mine.P
open PySem
section
variable {C : Orc} {R : Prop} {ρ ρ1 ρ2 ρ3 : MEnv} {a b c e : ME} {es : List ME} {d : D} {ds xs ys : List D} {p p1 p2 p3 p4 p5 p6 p7 i j k m n w t : Nat} {l : List Nat} {r body : List MS} {Q K : Fl → MEnv → Prop}
theorem min_nat (m n : Nat) : min2 (m : Int) (n : Int) = ((min m n : Nat) : Int) := by
  unfold min2; split <;> (first | grind | omega)
theorem max_nat (m n : Nat) : max2 (m : Int) (n : Int) = ((max m n : Nat) : Int) := by
  unfold max2; split <;> (first | grind | omega)
theorem e_min (h : EvL C R es ρ [I m, I n] ρ1) : Ev C R (.bn .min p es p1) ρ (I (min m n)) ρ1 := fun Q q => h _ (by
  show Q (.int (min2 m n)) ρ1
  rw [min_nat]; exact q)
theorem e_lenI (h : ρ[i]? = some (.io (l.map I))) (hl : l.length ≤ 4096) : Ev C R (.b1 .len p (.var i p1) p2) ρ (I l.length) ρ := fun Q q => by
  show pkVar ρ i fun p => pkGet ρ p fun x => b1P .len x fun d => Q d ρ
  unfold pkVar; rw [h]
  show ownP ρ i fun _ xs => lenP xs.length fun d => Q d ρ
  unfold ownP; rw [h]
  exact len_ok (Q := fun d => Q d ρ) hl q
theorem e_cutBI (h : ρ[i]? = some (.io (l.map I))) (ha : Ev C R a ρ (I j) ρ) (hi : Ev C R e ρ (I k) ρ) (hl : l.length ≤ 4096) : Ev C R (.cut i p (some a) (some e) p1 p2) ρ (L ((l.drop j).take (k - j))) ρ := fun Q q => by
  show pkVar ρ i fun p => wpE C a R ρ fun l ρ => wpE C e R ρ fun d ρ => pkGet ρ p fun x => cutP x (some l) (some d) fun d => Q d ρ
  unfold pkVar; rw [h]
  refine ha _ (hi _ ?_)
  show ownP ρ i fun _ xs => cutP (.list xs) (some (I j)) (some (I k)) fun d => Q d ρ
  unfold ownP; rw [h]
  exact cut_both (Q := fun d => Q d ρ) hl q
theorem e_callio (h : ρ[i]? = some (.io xs)) (ha : EvL C R es ρ ds ρ) (hf : Io C k xs ds d ys) : Ev C R (.callio k p i p1 es p2) ρ d (ρ.set i (.io ys)) := fun Q q => by
  show ownP ρ i fun _ _ => wpEs C es R ρ fun ds ρ => ownP ρ i fun sl xs => C.io k xs ds fun d ys => Q d (ρ.set i (sl.repl ys))
  unfold ownP; rw [h]
  refine ha _ ?_
  rw [h]
  exact hf _ q
theorem e_callioO (h : ρ[i]? = some (.own xs)) (ha : EvL C R es ρ ds ρ) (hf : Io C k xs ds d ys) : Ev C R (.callio k p i p1 es p2) ρ d (ρ.set i (.own ys)) := fun Q q => by
  show ownP ρ i fun _ _ => wpEs C es R ρ fun ds ρ => ownP ρ i fun sl xs => C.io k xs ds fun d ys => Q d (ρ.set i (sl.repl ys))
  unfold ownP; rw [h]
  refine ha _ ?_
  rw [h]
  exact hf _ q
theorem io_of {f : FnDef} {d : D} (h : tbl k = some f) (hio : f.io = true) (hl : ds.length + 1 = f.np) (hb : ∀ Q : Fl → MEnv → Prop, (∀ fl ρ, retOf fl = d → ρ[0]? = some (.io ys) → Q fl ρ) → wpB (orc tbl f_within gl n) f.body False (.io xs :: ds.map .val ++ List.replicate (f.ns - f.np) .unset) Q) : Io (orc tbl f_within gl (n + 1)) k xs ds d ys := fun Q q => ⟨f, h, hio, hl, hb _ fun fl ρ h1 h2 => by
  show ioP ρ fun ys => Q (retOf fl) ys
  unfold ioP
  rw [h2, h1]; exact q⟩
end
/-- m limbs of a number -/
noncomputable def fix (B : Nat) : Nat → Nat → List Nat
  | 0, _ => []
  | m + 1, x => x % B :: fix B m (x / B)
theorem fix_len {B : Nat} : ∀ m x, (fix B m x).length = m
  | 0, _ => rfl
  | m + 1, x => congrArg (· + 1) (fix_len m (x / B))
theorem fix_lim {B : Nat} (hB : 2 ≤ B) : ∀ m x, Lim B (fix B m x)
  | 0, _ => fun d h => nomatch h
  | m + 1, x => fun d h => (List.mem_cons.mp h).elim (fun q => q ▸ mod_lt' hB x) (fix_lim hB m (x / B) d)
theorem fix_val {B : Nat} : ∀ m x, val B (fix B m x) = x % B ^ m
  | 0, x => (Nat.mod_one x).symm
  | m + 1, x => by
    show x % B + B * val B (fix B m (x / B)) = _
    rw [fix_val m, Nat.pow_succ, Nat.mul_comm (B ^ m), Nat.mod_mul]
theorem fix_of {B : Nat} (hB : 2 ≤ B) : ∀ {l : List Nat} {m x : Nat}, Lim B l → l.length = m → val B l = x → l = fix B m x
  | [], 0, _, _, _, _ => rfl
  | d :: l, m + 1, x, hm, hl, hv => by
    have hd := hm d (.head _)
    subst hv
    show d :: l = (d + B * val B l) % B :: fix B m ((d + B * val B l) / B)
    rw [Nat.add_mul_mod_self_left, Nat.mod_eq_of_lt hd, Nat.add_mul_div_left _ _ (Nat.lt_of_lt_of_le Nat.zero_lt_two hB), Nat.div_eq_of_lt hd, Nat.zero_add, ← fix_of hB (fun e he => hm e (.tail _ he)) (Nat.succ.inj hl) rfl]
theorem knuth {Y D P B : Nat} (hY : Y < B * D) (hP : P * B ≤ D) (hP0 : 0 < P) (hB : 2 ≤ B) : Y / D ≤ min (B - 1) (Y / P / (D / P)) ∧ min (B - 1) (Y / P / (D / P)) ≤ Y / D + 1 := by
  have hD0 : 0 < D := Nat.lt_of_lt_of_le (Nat.mul_pos hP0 (Nat.lt_of_lt_of_le Nat.zero_lt_two hB)) hP
  have hV : 0 < D / P := Nat.div_pos (Nat.le_trans (Nat.le_mul_of_pos_right P (Nat.lt_of_lt_of_le Nat.zero_lt_two hB)) hP) hP0
  have hq : Y / D < B := Nat.div_lt_of_lt_mul (by rw [Nat.mul_comm]; exact hY)
  refine ⟨Nat.le_min.mpr ⟨Nat.le_sub_one_of_lt hq, (Nat.le_div_iff_mul_le hV).mpr ((Nat.le_div_iff_mul_le hP0).mpr ?_)⟩, ?_⟩
  · rw [Nat.mul_assoc]
    exact Nat.le_trans (Nat.mul_le_mul_left _ (Nat.div_mul_le_self D P)) (Nat.div_mul_le_self Y D)
  · have h1 := Nat.min_le_left (B - 1) (Y / P / (D / P))
    have h2 := Nat.min_le_right (B - 1) (Y / P / (D / P))
    generalize min (B - 1) (Y / P / (D / P)) = g at h1 h2 ⊢
    have h3 := (Nat.le_div_iff_mul_le hV).mp h2
    have h4 := (Nat.le_div_iff_mul_le hP0).mp h3
    have h5 := Nat.div_add_mod D P
    have h6 := Nat.mod_lt D hP0
    have h7 := Nat.div_add_mod Y D
    have h8 := Nat.mod_lt Y hD0
    refine Nat.le_of_not_lt fun hg => ?_
    have h9 : (Y / D + 2) * D ≤ g * D := Nat.mul_le_mul_right D hg
    have ha : g * D = g * (D / P) * P + g * (D % P) := by
      conv => lhs; rw [← h5]
      rw [Nat.mul_add, Nat.mul_comm P, Nat.mul_assoc]
    have hb : g * (D % P) ≤ (B - 1) * P := Nat.mul_le_mul h1 (Nat.le_of_lt h6)
    have hc : (B - 1) * P + P = P * B := by rw [← Nat.succ_mul, Nat.mul_comm, Nat.succ_eq_add_one, Nat.sub_add_cancel (Nat.le_trans (by decide) hB)]
    rw [Nat.add_mul, Nat.two_mul, Nat.mul_comm (Y / D)] at h9
    (first | grind | omega)
section
variable {n w : Nat} {R : Prop} (hw : W w)
include hw
theorem guess_arith {G m r v1 v2 hi B t0 : Nat} (hr : r + m * v1 = hi) : m * (v1 * B + v2) + r * B = hi * B + m * v2 := by
  subst hr; grind
theorem guessed_ok {l : List Nat} {v1 v2 : Nat} (hl : l.length = 3) (hm : Lim (2 ^ w) l) (h1 : v1 < 2 ^ w) (h1z : v1 ≠ 0) (h2 : v2 < 2 ^ w) : Fn (orc tbl f_within gl (n + 1)) R 27 [L l, I v1, I v2, I w] (I (min (2 ^ w - 1) (val (2 ^ w) l / (v1 * 2 ^ w + v2)))) := by
  refine fn_of rfl rfl rfl fun Q q => ?_
  have hB := hw.b2
  match l, hl, hm, q with
  | [t0, t1, t2], _, hm, q =>
  have ht0 := hm t0 (.head _)
  have ht1 := hm t1 (.tail _ (.head _))
  have ht2 := hm t2 (.tail _ (.tail _ (.head _)))
  have l3 : [t0, t1, t2].length ≤ 4096 := (by decide : 3 ≤ 4096)
  have hV : 0 < v1 * 2 ^ w + v2 := Nat.lt_of_lt_of_le (Nat.mul_pos (Nat.pos_of_ne_zero h1z) (Nat.two_pow_pos w)) (Nat.le_add_right _ _)
  have hH : val (2 ^ w) [t0, t1, t2] = (t2 * 2 ^ w + t1) * 2 ^ w + t0 := by
    show t0 + 2 ^ w * (t1 + 2 ^ w * (t2 + 2 ^ w * 0)) = _
    grind
  have hhi : t2 * 2 ^ w + t1 < 2 ^ 256 := Nat.lt_of_lt_of_le (Nat.add_lt_add_left ht1 _) (by rw [← Nat.succ_mul]; exact Nat.le_of_lt (hw.sm2 ht2 (Nat.le_refl _)))
  rw [hH] at q
  refine s_asgL2 (sl_cons (e_as (d' := I (t2 * 2 ^ w + t1)) (e_or1 (e_shl (e_idx (l := [t0, t1, t2]) rfl e_c2 l3 (by decide : 2 < 3)) (e_var rfl) (hw.sm ht2) hw.w4) (e_idx (l := [t0, t1, t2]) rfl e_c1 l3 (by decide : 1 < 3)) ht1) rfl) rfl (sl_cons (e_base hw rfl) rfl sl_nil)) ?_
  have h1g : ((t2 * 2 ^ w + t1) * 2 ^ w + t0) / (v1 * 2 ^ w + v2) ≤ (t2 * 2 ^ w + t1) / v1 := by
    refine (Nat.le_div_iff_mul_le (Nat.pos_of_ne_zero h1z)).mpr ?_
    have h3 := Nat.div_mul_le_self ((t2 * 2 ^ w + t1) * 2 ^ w + t0) (v1 * 2 ^ w + v2)
    generalize ((t2 * 2 ^ w + t1) * 2 ^ w + t0) / (v1 * 2 ^ w + v2) = u at h3 ⊢
    rw [Nat.mul_add, ← Nat.mul_assoc] at h3
    refine Nat.le_of_lt_succ (Nat.lt_of_mul_lt_mul_right (a := 2 ^ w) ?_)
    rw [Nat.succ_mul]
    (first | grind | omega)
  refine s_asg (e_min (l_cons (e_div (e_var rfl) (e_var rfl) hhi h1z) (l_cons (e_sub (e_var rfl) e_c1 hw.b1) l_nil))) rfl ?_
  have hle : min ((t2 * 2 ^ w + t1) / v1) (1 * 2 ^ w - 1) * v1 ≤ t2 * 2 ^ w + t1 := Nat.le_trans (Nat.mul_le_mul_right _ (Nat.min_le_left _ _)) (Nat.div_mul_le_self _ _)
  have hmB : min ((t2 * 2 ^ w + t1) / v1) (1 * 2 ^ w - 1) ≤ 2 ^ w - 1 := Nat.le_trans (Nat.min_le_right _ _) (by rw [Nat.one_mul]; exact Nat.le_refl _)
  have hmG : min (2 ^ w - 1) (((t2 * 2 ^ w + t1) * 2 ^ w + t0) / (v1 * 2 ^ w + v2)) ≤ min ((t2 * 2 ^ w + t1) / v1) (1 * 2 ^ w - 1) := by
    rw [Nat.one_mul, Nat.min_comm (_ / v1)]
    exact Nat.le_min.mpr ⟨Nat.min_le_left _ _, Nat.le_trans (Nat.min_le_right _ _) h1g⟩
  generalize min ((t2 * 2 ^ w + t1) / v1) (1 * 2 ^ w - 1) = g0 at hle hmB hmG ⊢
  refine s_asg (e_sub (e_var rfl) (e_mul (e_var rfl) (e_var rfl) (hw.sm (Nat.lt_of_le_sub_one (Nat.two_pow_pos w) hmB)) (hw.sm h1)) hle) rfl ?_
  refine s_whl (m := g0) (fun m ρ => ∃ r, min (2 ^ w - 1) (((t2 * 2 ^ w + t1) * 2 ^ w + t0) / (v1 * 2 ^ w + v2)) ≤ m ∧ m ≤ 2 ^ w - 1 ∧ r + m * v1 = t2 * 2 ^ w + t1 ∧ ρ = [.val (L [t0, t1, t2]), .val (I v1), .val (I v2), .val (I w), .val (I (t2 * 2 ^ w + t1)), .val (I (1 * 2 ^ w)), .val (I m), .val (I r)]) ?_ ⟨_, hmG, hmB, Nat.sub_add_cancel hle, rfl⟩
  rintro m _ ⟨r, hg, hb, hr, rfl⟩ K k1 k2
  have hmw : m < 2 ^ w := Nat.lt_of_le_sub_one (Nat.two_pow_pos w) hb
  have ar := guess_arith (G := 0) (t0 := 0) (v2 := v2) (B := 2 ^ w) hw hr
  refine w_testb (W := fun ρ => wpB _ _ R ρ Q) (e_and2 (e_lt (e_var rfl) (e_var rfl)) fun h => e_gt (e_mul (e_var rfl) (e_var rfl) (hw.sm hmw) (hw.sm h2)) (e_or1 (e_shl (e_var rfl) (e_var rfl) (hw.sm (by rw [← Nat.one_mul (2 ^ w)]; exact of_decide_eq_true h)) hw.w4) (e_idx (l := [t0, t1, t2]) rfl e_c0 l3 (by decide : 0 < 3)) ht0)) (fun h => ?_) fun h => ?_
  · have h := of_decide_eq_true (band h).2
    have h : r * 2 ^ w + t0 < m * v2 := h
    have hm0 : 1 ≤ m := Nat.pos_of_ne_zero fun q => by rw [q, Nat.zero_mul] at h; exact nomatch h
    refine s_augSub rfl e_c1 hm0 (s_augAdd rfl (e_var rfl) (s_nil (k1 (m - 1) (Nat.sub_lt hm0 Nat.one_pos) _ ⟨_, Nat.le_trans (Nat.min_le_right _ _) (Nat.le_sub_one_of_lt (Nat.div_lt_of_lt_mul ?_)), Nat.le_trans (Nat.sub_le _ _) hb, ?_, rfl⟩)))
    · rw [Nat.mul_comm (v1 * 2 ^ w + v2) m]; (first | grind | omega)
    · obtain ⟨z, rfl⟩ := Nat.exists_eq_succ_of_ne_zero (Nat.ne_of_gt hm0)
      rw [Nat.succ_sub_one, ← hr, Nat.succ_mul]; (first | grind | omega)
  · have hle : m * (v1 * 2 ^ w + v2) ≤ (t2 * 2 ^ w + t1) * 2 ^ w + t0 := by
      refine Nat.le_of_not_lt fun hlt => ?_
      by_cases hrB : r < 1 * 2 ^ w
      · have h3 : r * 2 ^ w + t0 < m * v2 := by (first | grind | omega)
        rw [decide_eq_true hrB, Bool.true_and] at h
        exact absurd h3 (of_decide_eq_false h)
      · rw [Nat.one_mul] at hrB
        have := Nat.mul_le_mul_right (2 ^ w) (Nat.le_of_not_lt hrB)
        have := Nat.mul_lt_mul_of_lt_of_lt hmw h2
        (first | grind | omega)
    have e : m = min (2 ^ w - 1) (((t2 * 2 ^ w + t1) * 2 ^ w + t0) / (v1 * 2 ^ w + v2)) := Nat.le_antisymm (Nat.le_min.mpr ⟨hb, (Nat.le_div_iff_mul_le hV).mpr hle⟩) hg
    rw [← e] at q
    exact s_ret (e_var rfl) (q _)
end
end Mine.P

set_option autoImplicit false
set_option linter.all false
set_option exponentiation.threshold 2000
namespace Mine.P
open PySem
theorem drop_set_succ {l l0 : List Nat} {k v : Nat} (h : l.drop k = l0.drop k) : (l.set k v).drop (k + 1) = l0.drop (k + 1) := by
  rw [List.drop_set, if_pos (Nat.lt_succ_self _), ← List.drop_drop (i := 1) (j := k), h, List.drop_drop]
theorem high_zero {B k : Nat} (hB : 2 ≤ B) {l l0 : List Nat} (hm : Lim B l) (hm0 : Lim B l0) (h : l.drop k = l0.drop k) (h0 : val B l0 < B ^ k) : val B l < B ^ k := by
  have e := val_drop hB k hm
  rw [h, val_drop hB k hm0, Nat.div_eq_of_lt h0] at e
  exact (Nat.div_eq_zero_iff_lt (pow_pos' hB k)).mp e.symm
theorem fix_val_lt {B m x : Nat} (h : x < B ^ m) : val B (fix B m x) = x := by rw [fix_val, Nat.mod_eq_of_lt h]
theorem ta_step {A T B vf vs c g b X ym u u1 o : Nat} (h : vf + A * (g * ym) = X + A * T * c) (hs : vs + A * T * u = vf + A * T * u1) (e : u1 + (g * b + c) % B = u + B * o) : vs + A * (g * (ym + T * b)) = X + A * (T * B) * ((g * b + c) / B + o) := by
  have e2 := Nat.mod_add_div (g * b + c) B
  generalize (g * b + c) % B = r at e e2 ⊢
  generalize (g * b + c) / B = z at e2 ⊢
  grind
theorem ta_end {A T B vf vs c z X u u1 o : Nat} (h : vf + A * z = X + A * T * c) (hs : vs + A * T * u = vf + A * T * u1) (e : u1 + c = u + B * o) : vs + A * z = X + A * (T * B) * o := by
  grind
theorem carry_ta {B g b c o : Nat} (hB : 2 ≤ B) (hg : g < B) (hb : b < B) (hc : c ≤ B) (ho : o ≤ 1) : (g * b + c) / B + o ≤ B := by
  have h1 := Nat.mul_le_mul (Nat.le_sub_one_of_lt hg) (Nat.le_sub_one_of_lt hb)
  obtain ⟨z, rfl⟩ := Nat.exists_eq_succ_of_ne_zero (Nat.ne_of_gt (Nat.lt_of_lt_of_le Nat.zero_lt_two hB))
  rw [Nat.succ_sub_one] at h1
  have h2 : (z + 1) * (z + 1) = z * z + 2 * z + 1 := by grind
  have h3 : (g * b + c) / (z + 1) < z + 1 := Nat.div_lt_of_lt_mul (by rw [h2]; (first | grind | omega))
  show (g * b + c) / (z + 1) + o ≤ z + 1
  (first | grind | omega)
section
variable {C : Orc} {R : Prop} {ρ ρ1 : MEnv} {a b e : ME} {p p1 p2 p3 p4 p5 p6 p7 i j k m n w u v B o : Nat}
/-- a limb from which something is taken: what stays, and the borrow -/
theorem e_below (ha : Ev C R a ρ (.int ((u : Int) - v)) ρ) : Ev C R (.ite (.cmp a .lt (.cint 0 p) p1) (.cint 1 p2) (.cint 0 p3) p4) ρ (I (if u < v then 1 else 0)) ρ := by
  refine e_as (e_iteI (e_ltZ ha e_cint) (fun _ => e_c1) fun _ => e_c0) ?_
  by_cases hlt : u < v
  · rw [if_pos hlt, if_pos (show (u : Int) - v < 0 by (first | grind | omega))]
  · rw [if_neg hlt, if_neg (show ¬ (u : Int) - v < 0 by (first | grind | omega))]
theorem e_fill {a2 a3 : ME} (ha : Ev C R a ρ (.int ((u : Int) - v)) ρ) (ha2 : Ev C R a2 ρ (.int ((u : Int) - v)) ρ) (ha3 : Ev C R a3 ρ (.int ((u : Int) - v)) ρ) (hb : Ev C R b ρ (I B) ρ) (h : v ≤ u + B) : Ev C R (.ite (.cmp a .lt (.cint 0 p) p1) (.bin .Add a2 b p2) a3 p4) ρ (I (u + B * (if u < v then 1 else 0) - v)) ρ := by
  by_cases hlt : u < v
  · rw [if_pos hlt]
    exact e_iteT (e_ltZ ha e_cint) (by (first | grind | omega)) (e_as (e_addZ ha2 hb) (congrArg D.int (by rw [Nat.mul_one]; (first | grind | omega))))
  · rw [if_neg hlt]
    exact e_iteF (e_ltZ ha e_cint) (by (first | grind | omega)) (e_as ha3 (congrArg D.int (by rw [Nat.mul_zero]; (first | grind | omega))))
end
section
variable {n w : Nat} {R : Prop} (hw : W w)
include hw
theorem take_away_ok {m at_ X v g : Nat} (hv : Bd v) (hm : m ≤ 4096) (hat : at_ + (dg (2 ^ w) v).length < m) (hX : X < (2 ^ w) ^ (at_ + ((dg (2 ^ w) v).length + 1))) (hg : g < 2 ^ w) :
    Io (orc tbl f_within gl (n + 1)) 28 ((fix (2 ^ w) m X).map I) [N (2 ^ w) v, I g, I at_, I w] (I (if X < (2 ^ w) ^ at_ * (g * v) then 1 else 0)) ((fix (2 ^ w) m (X + (2 ^ w) ^ (at_ + ((dg (2 ^ w) v).length + 1)) * (if X < (2 ^ w) ^ at_ * (g * v) then 1 else 0) - (2 ^ w) ^ at_ * (g * v))).map I) := by
  refine io_of rfl rfl rfl fun Q q => ?_
  have hB := hw.b2
  have lv := hw.len4 hv
  have hXm : X < (2 ^ w) ^ m := Nat.lt_of_lt_of_le hX (pow_le hB hat)
  have hsm : ∀ {z}, z ≤ 2 ^ w → z < 2 ^ 256 := fun h => Nat.lt_of_le_of_lt (Nat.le_trans h hw.b9) (Nat.lt_trans (by decide : 512 < 2 ^ 20) (Nat.pow_lt_pow_right (by decide) (by decide)))
  have hbn : 1 * 2 ^ w ≠ 0 := by rw [Nat.one_mul]; exact Nat.ne_of_gt (Nat.two_pow_pos w)
  refine s_asgL2 (sl_cons e_c0 rfl (sl_cons (e_base hw rfl) rfl sl_nil)) ?_
  refine s_forEL (l := dg (2 ^ w) v) (fun j ρ => ∃ f c s1 s2 s3, f.length = m ∧ Lim (2 ^ w) f ∧ f.drop (at_ + j) = (fix (2 ^ w) m X).drop (at_ + j) ∧ c ≤ 2 ^ w ∧ val (2 ^ w) f + (2 ^ w) ^ at_ * (g * (v % (2 ^ w) ^ j)) = X + (2 ^ w) ^ at_ * (2 ^ w) ^ j * c ∧ ρ = [.io (f.map I), .val (N (2 ^ w) v), .val (I g), .val (I at_), .val (I w), .val (I c), .val (I (1 * 2 ^ w)), s1, s2, s3]) (e_var rfl) ⟨_, 0, _, _, _, fix_len m X, fix_lim hB m X, rfl, Nat.zero_le _, by rw [fix_val_lt hXm, Nat.pow_zero, Nat.mod_one]; simp only [Nat.mul_zero], rfl⟩ ?_ ?_
  · rintro j hj _ ⟨f, c, s1, s2, s3, hf, hm', hd, hc, hv', rfl⟩ K h1 h2
    have hb := getD_lt (lim_dg hB v) hj
    have hjb : (dg (2 ^ w) v).getD j 0 = v / (2 ^ w) ^ j % 2 ^ w := dg_at hB j v
    generalize (dg (2 ^ w) v).getD j 0 = b at hb hjb ⊢
    have hkj : at_ + j < f.length := by rw [hf]; exact Nat.lt_trans (Nat.add_lt_add_left hj _) hat
    have lf : f.length ≤ 4096 := by rw [hf]; exact hm
    have hu := getD_lt hm' hkj
    have hr := mod_lt' hB (g * b + c)
    have hgb : g * b + c < 2 ^ 256 := by
      have := Nat.mul_le_mul (Nat.le_trans (Nat.le_of_lt hg) hw.b9) (Nat.le_trans (Nat.le_of_lt hb) hw.b9)
      have h3 : 512 * 512 + 512 < 2 ^ 256 := Nat.lt_trans (by decide : 512 * 512 + 512 < 2 ^ 20) (Nat.pow_lt_pow_right (by decide) (by decide))
      exact Nat.lt_of_le_of_lt (Nat.add_le_add this (Nat.le_trans hc hw.b9)) h3
    have ho : (if f.getD (at_ + j) 0 < (g * b + c) % 2 ^ w then 1 else 0) ≤ 1 := by split <;> decide
    refine s_asg (d := .int ((f.getD (at_ + j) 0 : Nat) - ((g * b + c) % 2 ^ w : Nat))) (e_as (e_subZ (e_idxI rfl (e_add (e_var rfl) (e_var rfl)) lf hkj) (e_mod (e_add (e_mul (e_var rfl) (e_var rfl) (hw.sm hg) (hw.sm hb)) (e_var rfl)) (e_var rfl) hbn)) (by rw [Nat.one_mul])) rfl ?_
    refine s_asg (e_add (e_as (d' := I ((g * b + c) / 2 ^ w)) (e_div (e_add (e_mul (e_var rfl) (e_var rfl) (hw.sm hg) (hw.sm hb)) (e_var rfl)) (e_var rfl) hgb hbn) (by rw [Nat.one_mul])) (e_below (e_var rfl))) rfl ?_
    refine s_setI (.inr rfl) (e_fill (e_var rfl) (e_var rfl) (e_var rfl) (e_as (d' := I (2 ^ w)) (e_var rfl) (by rw [Nat.one_mul])) (Nat.le_trans (Nat.le_of_lt hr) (Nat.le_add_left _ _))) rfl (e_add (e_var rfl) (e_var rfl)) lf hkj (s_nil (h1 _ ⟨_, _, _, _, _, (List.length_set).trans hf, lim_set hm' ?_, drop_set_succ hd, carry_ta hB hg hb hc ho, ?_, rfl⟩))
    · split <;> (first | grind | omega)
    · have hs := val_set (B := 2 ^ w) (v := f.getD (at_ + j) 0 + 2 ^ w * (if f.getD (at_ + j) 0 < (g * b + c) % 2 ^ w then 1 else 0) - (g * b + c) % 2 ^ w) hkj
      rw [Nat.pow_add] at hs
      rw [mod_step, ← hjb, Nat.pow_succ (2 ^ w) j]
      refine ta_step hv' hs (Nat.sub_add_cancel ?_)
      split <;> (first | grind | omega)
  · rintro _ ⟨f, c, s1, s2, s3, hf, hm', hd, hc, hv', rfl⟩
    have hkj : at_ + (dg (2 ^ w) v).length < f.length := by rw [hf]; exact hat
    have lf : f.length ≤ 4096 := by rw [hf]; exact hm
    have hu := getD_lt hm' hkj
    refine s_asg (e_subZ (e_idxI rfl (e_add (e_var rfl) (e_len rfl lv)) lf hkj) (e_var rfl)) rfl ?_
    refine s_setI (.inr rfl) (e_fill (e_var rfl) (e_var rfl) (e_var rfl) (e_as (d' := I (2 ^ w)) (e_var rfl) (by rw [Nat.one_mul])) (Nat.le_trans hc (Nat.le_add_left _ _))) rfl (e_add (e_var rfl) (e_len rfl lv)) lf hkj ?_
    have hs := val_set (B := 2 ^ w) (v := f.getD (at_ + (dg (2 ^ w) v).length) 0 + 2 ^ w * (if f.getD (at_ + (dg (2 ^ w) v).length) 0 < c then 1 else 0) - c) hkj
    have hl2 : Lim (2 ^ w) (f.set (at_ + (dg (2 ^ w) v).length) (f.getD (at_ + (dg (2 ^ w) v).length) 0 + 2 ^ w * (if f.getD (at_ + (dg (2 ^ w) v).length) 0 < c then 1 else 0) - c)) := lim_set hm' (by split <;> (first | grind | omega))
    have hhi := high_zero hB hl2 (fix_lim hB m X) (drop_set_succ (v := f.getD (at_ + (dg (2 ^ w) v).length) 0 + 2 ^ w * (if f.getD (at_ + (dg (2 ^ w) v).length) 0 < c then 1 else 0) - c) hd) (by rw [fix_val_lt hXm]; exact hX)
    have hlen : (f.set (at_ + (dg (2 ^ w) v).length) (f.getD (at_ + (dg (2 ^ w) v).length) 0 + 2 ^ w * (if f.getD (at_ + (dg (2 ^ w) v).length) 0 < c then 1 else 0) - c)).length = m := (List.length_set).trans hf
    rw [Nat.pow_add] at hs
    rw [mod_len hB (Nat.le_refl _)] at hv'
    have he := ta_end (B := 2 ^ w) (o := if f.getD (at_ + (dg (2 ^ w) v).length) 0 < c then 1 else 0) hv' hs (Nat.sub_add_cancel (by split <;> (first | grind | omega)))
    have hpp : (2 ^ w) ^ at_ * ((2 ^ w) ^ (dg (2 ^ w) v).length * 2 ^ w) = (2 ^ w) ^ (at_ + ((dg (2 ^ w) v).length + 1)) := by rw [Nat.pow_add, Nat.pow_succ (2 ^ w) (dg (2 ^ w) v).length]
    rw [hpp] at he
    have hoo : (if f.getD (at_ + (dg (2 ^ w) v).length) 0 < c then 1 else 0) = (if X < (2 ^ w) ^ at_ * (g * v) then 1 else 0) := by
      rw [show at_ + (dg (2 ^ w) v).length + 1 = at_ + ((dg (2 ^ w) v).length + 1) from rfl] at hhi
      generalize val (2 ^ w) (f.set _ _) = F at he hhi
      generalize (2 ^ w) ^ at_ * (g * v) = Z at he ⊢
      generalize (2 ^ w) ^ (at_ + ((dg (2 ^ w) v).length + 1)) = P at he hhi ⊢
      by_cases hlt : f.getD (at_ + (dg (2 ^ w) v).length) 0 < c
      · rw [if_pos hlt, Nat.mul_one] at he
        rw [if_pos hlt, if_pos (by (first | grind | omega))]
      · rw [if_neg hlt, Nat.mul_zero] at he
        rw [if_neg hlt, if_neg (by (first | grind | omega))]
    refine s_ret (e_below (e_var rfl)) (q _ _ (by rw [hoo]; rfl) ?_)
    rw [← hoo]
    exact congrArg (fun l => some (Slot.io (l.map I))) (fix_of hB hl2 hlen (Nat.eq_sub_of_add_eq he))
end
end Mine.P

set_option autoImplicit false
set_option linter.all false
set_option exponentiation.threshold 2000
namespace Mine.P
open PySem
theorem pb_step {A T B vf vs c b X ym u : Nat} (h : vf + A * T * c = X + A * ym) (hs : vs + A * T * u = vf + A * T * ((c + (u + b)) % B)) : vs + A * (T * B) * ((c + (u + b)) / B) = X + A * (ym + T * b) := by
  have e := Nat.mod_add_div (c + (u + b)) B
  generalize (c + (u + b)) % B = r at e hs
  generalize (c + (u + b)) / B = z at e ⊢
  grind
theorem pb_end {A T B vf vs c X z u : Nat} (h : vf + A * T * c = X + z) (hs : vs + A * T * u = vf + A * T * ((u + c) % B)) : vs + A * (T * B) * ((u + c) / B) = X + z := by
  have e := Nat.mod_add_div (u + c) B
  generalize (u + c) % B = r at e hs
  generalize (u + c) / B = z at e ⊢
  grind
theorem fix_drop {B : Nat} : ∀ (k m x : Nat), (fix B (k + m) x).drop k = fix B m (x / B ^ k)
  | 0, m, x => by rw [Nat.zero_add, Nat.pow_zero, Nat.div_one]; rfl
  | k + 1, m, x => by
    rw [Nat.add_right_comm]
    show (fix B (k + m) (x / B)).drop k = _
    rw [fix_drop k m, Nat.pow_succ, Nat.mul_comm (B ^ k), Nat.div_div_eq_div_mul]
theorem fix_take {B : Nat} : ∀ (k m x : Nat), (fix B (k + m) x).take k = fix B k x
  | 0, m, x => by rw [List.take_zero]; rfl
  | k + 1, m, x => by
    rw [Nat.add_right_comm]
    show x % B :: (fix B (k + m) (x / B)).take k = _
    rw [fix_take k m]; rfl
theorem fix3 {B M k len Y : Nat} (hk : k < M) : ((fix B (M + (len + 2)) Y).drop (k + (len + 2) - 2)).take (k + (len + 2) + 1 - (k + (len + 2) - 2)) = fix B 3 (Y / B ^ (k + len)) := by
  have e1 : M + (len + 2) = (k + len) + (3 + (M - 1 - k)) := by (first | grind | omega)
  have e2 : k + (len + 2) - 2 = k + len := by (first | grind | omega)
  have e3 : k + (len + 2) + 1 - (k + (len + 2) - 2) = 3 := by (first | grind | omega)
  rw [e3, e2, e1, fix_drop, fix_take]
theorem dr_sub {Y D g q P : Nat} (hD : D < P) (hq : q = Y / D) (hlt : Y < g * D) (h2 : g ≤ q + 1) (hD0 : 0 < D) : g = q + 1 ∧ Y + P - g * D < P ∧ (Y + P - g * D + D) % P = Y % D := by
  have e := Nat.div_add_mod Y D
  have hr := Nat.mod_lt Y hD0
  rw [← hq] at e
  have hg : g = q + 1 := Nat.le_antisymm h2 (Nat.succ_le_of_lt (Nat.lt_of_mul_lt_mul_right (a := D) (by rw [Nat.mul_comm q]; (first | grind | omega))))
  subst hg
  have e2 : (q + 1) * D = D * q + D := by rw [Nat.add_mul, Nat.one_mul, Nat.mul_comm]
  rw [e2] at hlt ⊢
  refine ⟨rfl, by (first | grind | omega), ?_⟩
  rw [show Y + P - (D * q + D) + D = Y % D + P by (first | grind | omega), Nat.add_mod_right, Nat.mod_eq_of_lt (Nat.lt_trans hr hD)]
section
variable {n w : Nat} {R : Prop} (hw : W w)
include hw
theorem put_back_ok {m at_ X v : Nat} (hv : Bd v) (hm : m ≤ 4096) (hat : at_ + (dg (2 ^ w) v).length < m) (hX : X < (2 ^ w) ^ (at_ + ((dg (2 ^ w) v).length + 1))) :
    Io (orc tbl f_within gl (n + 1)) 29 ((fix (2 ^ w) m X).map I) [N (2 ^ w) v, I at_, I w] .none ((fix (2 ^ w) m ((X + (2 ^ w) ^ at_ * v) % (2 ^ w) ^ (at_ + ((dg (2 ^ w) v).length + 1)))).map I) := by
  refine io_of rfl rfl rfl fun Q q => ?_
  have hB := hw.b2
  have lv := hw.len4 hv
  have hXm : X < (2 ^ w) ^ m := Nat.lt_of_lt_of_le hX (pow_le hB hat)
  refine s_asgL2 (sl_cons e_c0 rfl (sl_cons (e_mask hw rfl) rfl sl_nil)) ?_
  refine s_forEL (l := dg (2 ^ w) v) (fun j ρ => ∃ f c s1 s2, f.length = m ∧ Lim (2 ^ w) f ∧ f.drop (at_ + j) = (fix (2 ^ w) m X).drop (at_ + j) ∧ val (2 ^ w) f + (2 ^ w) ^ at_ * (2 ^ w) ^ j * c = X + (2 ^ w) ^ at_ * (v % (2 ^ w) ^ j) ∧ ρ = [.io (f.map I), .val (N (2 ^ w) v), .val (I at_), .val (I w), .val (I c), .val (I (1 * 2 ^ w - 1)), s1, s2]) (e_var rfl) ⟨_, 0, _, _, fix_len m X, fix_lim hB m X, rfl, by rw [fix_val_lt hXm, Nat.pow_zero, Nat.mod_one]; simp only [Nat.mul_zero], rfl⟩ ?_ ?_
  · rintro j hj _ ⟨f, c, s1, s2, hf, hm', hd, hv', rfl⟩ K h1 h2
    have hkj : at_ + j < f.length := by rw [hf]; exact Nat.lt_trans (Nat.add_lt_add_left hj _) hat
    have lf : f.length ≤ 4096 := by rw [hf]; exact hm
    refine s_augAdd rfl (e_add (e_idxI rfl (e_add (e_var rfl) (e_var rfl)) lf hkj) (e_var rfl)) ?_
    refine s_setI (.inr rfl) (e_and (e_var rfl) (e_var rfl)) rfl (e_add (e_var rfl) (e_var rfl)) lf hkj (s_augShr rfl (e_var rfl) (s_nil (h1 _ ⟨_, _, _, _, (List.length_set).trans hf, lim_set hm' (mod_lt' hB _), drop_set_succ hd, ?_, rfl⟩)))
    have hs := val_set (B := 2 ^ w) (v := (c + (f.getD (at_ + j) 0 + (dg (2 ^ w) v).getD j 0)) % 2 ^ w) hkj
    rw [Nat.pow_add] at hs
    rw [mod_step, ← dg_at hB j v, Nat.pow_succ (2 ^ w) j]
    exact pb_step hv' hs
  · rintro _ ⟨f, c, s1, s2, hf, hm', hd, hv', rfl⟩
    have hkj : at_ + (dg (2 ^ w) v).length < f.length := by rw [hf]; exact hat
    have lf : f.length ≤ 4096 := by rw [hf]; exact hm
    refine s_setI (.inr rfl) (e_and (e_add (e_idxI rfl (e_add (e_var rfl) (e_len rfl lv)) lf hkj) (e_var rfl)) (e_var rfl)) rfl (e_add (e_var rfl) (e_len rfl lv)) lf hkj (s_nil (q _ _ rfl ?_))
    have hs := val_set (B := 2 ^ w) (v := (f.getD (at_ + (dg (2 ^ w) v).length) 0 + c) % 2 ^ w) hkj
    have hl2 : Lim (2 ^ w) (f.set (at_ + (dg (2 ^ w) v).length) ((f.getD (at_ + (dg (2 ^ w) v).length) 0 + c) % 2 ^ w)) := lim_set hm' (mod_lt' hB _)
    have hhi := high_zero hB hl2 (fix_lim hB m X) (drop_set_succ hd) (by rw [fix_val_lt hXm]; exact hX)
    rw [Nat.pow_add] at hs
    rw [mod_len hB (Nat.le_refl _)] at hv'
    have he := pb_end (B := 2 ^ w) hv' hs
    have hpp : (2 ^ w) ^ at_ * ((2 ^ w) ^ (dg (2 ^ w) v).length * 2 ^ w) = (2 ^ w) ^ (at_ + ((dg (2 ^ w) v).length + 1)) := by rw [Nat.pow_add, Nat.pow_succ (2 ^ w) (dg (2 ^ w) v).length]
    rw [hpp] at he
    refine congrArg (fun l => some (Slot.io (l.map I))) (fix_of hB hl2 ((List.length_set).trans hf) ?_)
    rw [← he, Nat.add_mul_mod_self_left]
    exact (Nat.mod_eq_of_lt hhi).symm
theorem divide_rows_ok {m X v : Nat} (hv : Bd v) (hm : m ≤ 4000) (h2n : 2 ≤ (dg (2 ^ w) v).length) (hnm : (dg (2 ^ w) v).length < m) (hX : X < (2 ^ w) ^ (m - (dg (2 ^ w) v).length) * v) :
    Io (orc tbl f_within gl (n + 2)) 30 ((fix (2 ^ w) m X).map I) [N (2 ^ w) v, I w] (L (fix (2 ^ w) (m - (dg (2 ^ w) v).length) (X / v))) ((fix (2 ^ w) m (X % v)).map I) := by
  refine io_of rfl rfl rfl fun Q q => ?_
  have hB := hw.b2
  have hv0 : v ≠ 0 := fun h => by subst h; exact nomatch h2n
  have hvlt := dg_lt hB v
  have hvge := dg_ge hB hv0
  generalize hN : (dg (2 ^ w) v).length = len at *
  obtain ⟨len, rfl⟩ : ∃ z, len = z + 2 := ⟨len - 2, (Nat.sub_add_cancel h2n).symm⟩
  have lv := hw.len4 hv
  obtain ⟨M, rfl⟩ : ∃ z, m = z + (len + 2) := ⟨m - (len + 2), (Nat.sub_add_cancel (Nat.le_of_lt hnm)).symm⟩
  rw [Nat.add_sub_cancel] at hX
  rw [Nat.add_sub_cancel] at q
  have hm4 : M + (len + 2) ≤ 4096 := Nat.le_trans hm (by decide)
  have lenI : ∀ {Y}, (fix (2 ^ w) (M + (len + 2)) Y).length ≤ 4096 := by intro Y; rw [fix_len]; exact hm4
  have hB0 := Nat.two_pow_pos w
  refine s_asg (e_as (e_len rfl lv) (congrArg I hN)) rfl ?_
  refine s_asgN (e_as (d' := L (List.replicate M 0)) (e_zeros (e_sub (e_lenI rfl lenI) (e_var rfl) (by rw [fix_len]; exact Nat.le_add_left _ _)) (Nat.le_trans (Nat.sub_le _ _) lenI)) (by rw [fix_len, Nat.add_sub_cancel])) rfl ?_
  refine s_forD (n := M) (fun k ρ => ∃ Y ql s t, Y < (2 ^ w) ^ k * v ∧ ql.length = M ∧ Lim (2 ^ w) (ql.drop k) ∧ X = Y + (2 ^ w) ^ k * (val (2 ^ w) (ql.drop k) * v) ∧ ρ = [.io ((fix (2 ^ w) (M + (len + 2)) Y).map I), .val (N (2 ^ w) v), .val (I w), .val (I (len + 2)), .own (ql.map I), s, t]) (e_subZ (e_as (d' := I M) (e_sub (e_lenI rfl lenI) (e_var rfl) (by rw [fix_len]; exact Nat.le_add_left _ _)) (by rw [fix_len, Nat.add_sub_cancel])) e_cint) (Nat.le_trans (Nat.le_add_right _ _) hm4) ⟨X, List.replicate M 0, .unset, .unset, hX, List.length_replicate, ?_, ?_, rfl⟩ ?_ ?_
  · rw [List.drop_eq_nil_of_le (Nat.le_of_eq List.length_replicate)]; exact fun d h => nomatch h
  · rw [List.drop_eq_nil_of_le (Nat.le_of_eq List.length_replicate)]
    show X = X + (2 ^ w) ^ M * (0 * v)
    rw [Nat.zero_mul, Nat.mul_zero]; rfl
  · rintro k hk _ ⟨Y, ql, s, t, hY, hql, hqm, hXY, rfl⟩ K h1 h2
    have hD0 : 0 < (2 ^ w) ^ k * v := Nat.mul_pos (pow_pos' hB k) (Nat.pos_of_ne_zero hv0)
    have hYB : Y < 2 ^ w * ((2 ^ w) ^ k * v) := by rw [← Nat.mul_assoc, Nat.mul_comm (2 ^ w), ← Nat.pow_succ]; exact hY
    have hPD : (2 ^ w) ^ (k + len) * 2 ^ w ≤ (2 ^ w) ^ k * v := by rw [← Nat.pow_succ, Nat.succ_eq_add_one, Nat.add_assoc, Nat.pow_add]; exact Nat.mul_le_mul_left _ hvge
    obtain ⟨kn1, kn2⟩ := knuth hYB hPD (pow_pos' hB _) hB
    have hDP : (2 ^ w) ^ k * v < (2 ^ w) ^ (k + (len + 2 + 1)) := by
      rw [Nat.pow_add]
      exact Nat.mul_lt_mul_of_pos_left (Nat.lt_of_lt_of_le hvlt (pow_le hB (Nat.le_succ _))) (pow_pos' hB k)
    have hYP : Y < (2 ^ w) ^ (k + (len + 2 + 1)) := by
      refine Nat.lt_of_lt_of_le hY (Nat.le_trans (Nat.mul_le_mul_left _ (Nat.le_of_lt hvlt)) (Nat.le_of_eq ?_))
      rw [← Nat.pow_add]; congr 1; (first | grind | omega)
    have hv1 : v / (2 ^ w) ^ (len + 1) % 2 ^ w = v / (2 ^ w) ^ (len + 1) := Nat.mod_eq_of_lt (Nat.div_lt_of_lt_mul (by rw [← Nat.pow_succ]; exact hvlt))
    have hV2 : v / (2 ^ w) ^ (len + 1) % 2 ^ w * 2 ^ w + v / (2 ^ w) ^ len % 2 ^ w = (2 ^ w) ^ k * v / (2 ^ w) ^ (k + len) := by
      rw [hv1, Nat.mul_comm, ← div_step, Nat.pow_add, Nat.mul_div_mul_left _ _ (pow_pos' hB k)]
    have hH3 : val (2 ^ w) (fix (2 ^ w) 3 (Y / (2 ^ w) ^ (k + len))) = Y / (2 ^ w) ^ (k + len) := fix_val_lt (Nat.div_lt_of_lt_mul (by rw [← Nat.pow_add]; exact hYP))
    have gu := guessed_ok (n := n) (R := False) hw (fix_len 3 (Y / (2 ^ w) ^ (k + len))) (fix_lim hB 3 _) (mod_lt' hB (v / (2 ^ w) ^ (len + 1))) (by rw [hv1]; exact Nat.ne_of_gt (Nat.div_pos hvge (pow_pos' hB _))) (mod_lt' hB (v / (2 ^ w) ^ len))
    rw [hH3, hV2] at gu
    have hgB : min (2 ^ w - 1) (Y / (2 ^ w) ^ (k + len) / ((2 ^ w) ^ k * v / (2 ^ w) ^ (k + len))) < 2 ^ w := Nat.lt_of_le_sub_one hB0 (Nat.min_le_left _ _)
    generalize min (2 ^ w - 1) (Y / (2 ^ w) ^ (k + len) / ((2 ^ w) ^ k * v / (2 ^ w) ^ (k + len))) = g at gu kn1 kn2 hgB
    have hkm : k + (len + 2) < M + (len + 2) := Nat.add_lt_add_right hk _
    have ta := take_away_ok (n := n) (m := M + (len + 2)) (at_ := k) (X := Y) (v := v) (g := g) hw hv hm4 (by rw [hN]; exact hkm) (by rw [hN]; exact hYP) hgB
    rw [hN, Nat.mul_left_comm] at ta
    refine s_asg (e_call (l_cons (e_as (e_cutBI rfl (e_sub (e_add (e_var rfl) (e_var rfl)) e_c2 (by (first | grind | omega))) (e_add (e_add (e_var rfl) (e_var rfl)) e_c1) lenI) (congrArg L (fix3 hk))) (l_cons (e_as (e_idx rfl (e_sub (e_var rfl) e_c1 (by (first | grind | omega))) lv (by rw [hN]; (first | grind | omega))) (congrArg I (dg_at hB (len + 1) v))) (l_cons (e_as (e_idx rfl (e_sub (e_var rfl) e_c2 (by (first | grind | omega))) lv (by rw [hN]; (first | grind | omega))) (congrArg I (dg_at hB len v))) (l_cons (e_var rfl) l_nil)))) gu) rfl ?_
    have fin : ∀ p1 p2 p3 p4 p5, wpB (orc tbl f_within gl (n + 1)) [.setI 4 p1 (.var 5 p2) (.var 6 p3) p4 p5] False [.io ((fix (2 ^ w) (M + (len + 2)) (Y % ((2 ^ w) ^ k * v))).map I), .val (N (2 ^ w) v), .val (I w), .val (I (len + 2)), .own (ql.map I), .val (I k), .val (I (Y / ((2 ^ w) ^ k * v)))] K := by
      intro p1 p2 p3 p4 p5
      have hkq : k < ql.length := hql ▸ hk
      refine s_setI (.inl rfl) (e_var rfl) rfl (e_var rfl) (by rw [hql]; exact Nat.le_trans (Nat.le_add_right _ _) hm4) hkq (s_nil (h1 _ ⟨_, _, .val (I k), .val (I (Y / ((2 ^ w) ^ k * v))), Nat.mod_lt _ hD0, (List.length_set).trans hql, ?_, ?_, rfl⟩))
      · rw [set_drop hkq]
        exact fun d hd => (List.mem_cons.mp hd).elim (fun h => h ▸ Nat.lt_of_le_of_lt kn1 hgB) (hqm d)
      · rw [set_drop hkq]
        show X = Y % ((2 ^ w) ^ k * v) + (2 ^ w) ^ k * ((Y / ((2 ^ w) ^ k * v) + 2 ^ w * val (2 ^ w) (ql.drop (k + 1))) * v)
        have e := Nat.div_add_mod Y ((2 ^ w) ^ k * v)
        generalize Y / ((2 ^ w) ^ k * v) = q at e ⊢
        generalize Y % ((2 ^ w) ^ k * v) = r at e ⊢
        rw [hXY, Nat.pow_succ, ← e]
        generalize val (2 ^ w) (ql.drop (k + 1)) = V
        generalize (2 ^ w) ^ k = T
        generalize 2 ^ w = B
        grind
    by_cases hlt : Y < g * ((2 ^ w) ^ k * v)
    · obtain ⟨hg, hlP, hmod⟩ := dr_sub hDP rfl hlt kn2 hD0
      rw [if_pos hlt, Nat.mul_one] at ta
      have pb := put_back_ok (n := n) (m := M + (len + 2)) (at_ := k) (X := Y + (2 ^ w) ^ (k + (len + 2 + 1)) - g * ((2 ^ w) ^ k * v)) (v := v) hw hv hm4 (by rw [hN]; exact hkm) (by rw [hN]; exact hlP)
      rw [hN, hmod] at pb
      refine s_ifT (e_eq (e_callio rfl (l_cons (e_var rfl) (l_cons (e_var rfl) (l_cons (e_var rfl) (l_cons (e_var rfl) l_nil)))) ta) e_c1) rfl ?_
      refine s_augSub rfl e_c1 (by rw [hg]; exact Nat.le_add_left _ _) (s_expr (e_callio rfl (l_cons (e_var rfl) (l_cons (e_var rfl) (l_cons (e_var rfl) l_nil))) pb) (s_end ?_))
      rw [show Y / ((2 ^ w) ^ k * v) = g - 1 by rw [hg]; rfl] at fin
      exact fin _ _ _ _ _
    · have hg : g = Y / ((2 ^ w) ^ k * v) := Nat.le_antisymm ((Nat.le_div_iff_mul_le hD0).mpr (Nat.le_of_not_lt hlt)) kn1
      rw [if_neg hlt, Nat.mul_zero, Nat.add_zero] at ta
      refine s_ifF (e_eq (e_callio rfl (l_cons (e_var rfl) (l_cons (e_var rfl) (l_cons (e_var rfl) (l_cons (e_var rfl) l_nil)))) ta) e_c1) (by decide) (s_end ?_)
      rw [← hg, show Y % ((2 ^ w) ^ k * v) = Y - g * ((2 ^ w) ^ k * v) from Nat.eq_sub_of_add_eq (by rw [hg, Nat.mul_comm (Y / _)]; exact Nat.mod_add_div Y _)] at fin
      exact fin _ _ _ _ _
  · rintro _ ⟨Y, ql, s, t, hY, hql, hqm, hXY, rfl⟩
    rw [Nat.pow_zero, Nat.one_mul] at hY hXY
    have hqm : Lim (2 ^ w) ql := hqm
    have hXY : X = Y + val (2 ^ w) ql * v := hXY
    have e1 : X / v = val (2 ^ w) ql := by rw [hXY, Nat.add_mul_div_right _ _ (Nat.pos_of_ne_zero hv0), Nat.div_eq_of_lt hY, Nat.zero_add]
    have e2 : X % v = Y := by rw [hXY, Nat.add_mul_mod_self_right, Nat.mod_eq_of_lt hY]
    have e3 := fix_of hB hqm hql e1.symm
    refine s_ret (e_own rfl) (q _ _ (congrArg L e3) ?_)
    rw [e2]; rfl
end
end Mine.P

set_option autoImplicit false
set_option linter.all false
set_option exponentiation.threshold 2000
namespace Mine.P
open PySem
noncomputable def Bs (x : Nat) : Prop := x < 2 ^ 900
theorem Bs.bd {x : Nat} (h : Bs x) : Bd x := Nat.lt_trans h (Nat.pow_lt_pow_right (by decide) (by decide))
theorem Bs.le {x y : Nat} (h : Bs x) (hy : y ≤ x) : Bs y := Nat.lt_of_le_of_lt hy h
theorem Bd.le {x y : Nat} (h : Bd x) (hy : y ≤ x) : Bd y := Nat.lt_of_le_of_lt hy h
theorem Bs.shl {x s : Nat} (h : Bs x) (hs : s ≤ 100) : Bd (x * 2 ^ s) := by
  have := Nat.mul_lt_mul_of_lt_of_le h (Nat.pow_le_pow_right (n := 2) (by decide) hs) (Nat.two_pow_pos _)
  rwa [← Nat.pow_add] at this
theorem one_limb {B r : Nat} (hB : 2 ≤ B) (hr : r < B) : (if 0 < r then D.list [I r] else .list []) = N B r := by
  split
  · rename_i h
    exact congrArg L (show [r] = dg B r by rw [dg_pos hB (Nat.ne_of_gt h), Nat.mod_eq_of_lt hr, Nat.div_eq_of_lt hr]; rfl)
  · rename_i h
    rw [Nat.eq_zero_of_not_pos h]; rfl
section
variable {n w : Nat} {R : Prop} (hw : W w)
include hw
theorem divrem_small_ok {x y : Nat} (hx : Bd x) (hy : y ≠ 0) (hyB : (dg (2 ^ w) y).length = 1) : Fn (orc tbl f_within gl (n + 3)) R 26 [N (2 ^ w) x, N (2 ^ w) y, I w] (.tup [N (2 ^ w) (x / y), N (2 ^ w) (x % y)]) := by
  refine fn_of rfl rfl rfl fun Q q => ?_
  have hB := hw.b2
  have hyl : y < 2 ^ w := by have := dg_lt hB y; rwa [hyB, Nat.pow_one] at this
  refine s_many2 (e_call (l_cons (e_var rfl) (l_cons (e_as (d' := I y) (e_idx rfl e_c0 (by rw [hyB]; decide) (by rw [hyB]; decide)) (by rw [dg_at hB, Nat.pow_zero, Nat.div_one, Nat.mod_eq_of_lt hyl])) (l_cons (e_var rfl) l_nil))) (divrem_limb_ok hw hx hy hyl)) rfl ?_
  refine s_ret (e_tup (l_cons (e_var rfl) (l_cons (e_as (e_ite (e_gt (e_var rfl) e_c0) (fun _ => e_list (l_cons (e_var rfl) l_nil)) fun _ => e_list l_nil) (one_limb hB (Nat.lt_trans (Nat.mod_lt _ (Nat.pos_of_ne_zero hy)) hyl))) l_nil))) (q _)
theorem divrem_school_ok {x y : Nat} (hx : Bs x) (hyb : Bs y) (hy : y ≠ 0) : Fn (orc tbl f_within gl (n + 4)) R 31 [N (2 ^ w) x, N (2 ^ w) y, I w] (.tup [N (2 ^ w) (x / y), N (2 ^ w) (x % y)]) := by
  refine fn_of rfl rfl rfl fun Q q => ?_
  have hB := hw.b2
  have lx := hw.len hx.bd
  have lx4 := hw.len4 hx.bd
  have ly4 := hw.len4 hyb.bd
  have hne := dg_ne hB hy
  refine s_ifF (e_eq (e_len rfl ly4) e_c0) (fun h => hy (dg_nil hB h)) (s_end ?_)
  by_cases hlt : x < y
  · refine s_ifT (e_ltZ (e_call (l_cons (e_var rfl) (l_cons (e_var rfl) l_nil)) (compare_ok hw hx.bd hyb.bd)) e_cint) (cmpN_neg' hlt) ?_
    rw [Nat.div_eq_of_lt hlt, Nat.mod_eq_of_lt hlt] at q
    exact s_ret (e_tup (l_cons (e_list l_nil) (l_cons (e_cut0 rfl lx4) l_nil))) (q _)
  have hle := Nat.le_of_not_lt hlt
  refine s_ifF (e_ltZ (e_call (l_cons (e_var rfl) (l_cons (e_var rfl) l_nil)) (compare_ok hw hx.bd hyb.bd)) e_cint) (cmpN_neg hle) (s_end ?_)
  refine s_if (e_eq (e_len rfl ly4) e_c1) (fun h => s_ret (e_call (l_cons (e_var rfl) (l_cons (e_var rfl) (l_cons (e_var rfl) l_nil))) (divrem_small_ok hw hx.bd hy h)) (q _)) fun h => s_end ?_
  have hlen2 : 2 ≤ (dg (2 ^ w) y).length := Nat.lt_of_le_of_ne (List.length_pos_iff.mpr hne) (Ne.symm h)
  have hlxy := len_le hB hle
  have hyge := dg_ge hB hy
  have hylt := dg_lt hB y
  generalize hN : (dg (2 ^ w) y).length = k at hlen2 hlxy hyge hylt
  obtain ⟨k, rfl⟩ : ∃ z, k = z + 1 := ⟨k - 1, (Nat.sub_add_cancel (Nat.le_trans (by decide) hlen2)).symm⟩
  rw [Nat.add_sub_cancel] at hyge
  -- the topmost limb
  have htop : (dg (2 ^ w) y).getD ((dg (2 ^ w) y).length - 1) 0 = y / (2 ^ w) ^ k := by
    rw [hN, Nat.add_sub_cancel, dg_at hB, Nat.mod_eq_of_lt (Nat.div_lt_of_lt_mul (by rw [← Nat.pow_succ]; exact hylt))]
  have ht0 : y / (2 ^ w) ^ k ≠ 0 := Nat.ne_of_gt (Nat.div_pos hyge (pow_pos' hB k))
  have htB : y / (2 ^ w) ^ k < 2 ^ w := Nat.div_lt_of_lt_mul (by rw [← Nat.pow_succ]; exact hylt)
  have hlog : (y / (2 ^ w) ^ k).log2 + 1 ≤ w := (Nat.log2_lt ht0).mpr htB
  have htl : y / (2 ^ w) ^ k < 2 ^ ((y / (2 ^ w) ^ k).log2 + 1) := Nat.lt_log2_self
  have hsub : w - ((y / (2 ^ w) ^ k).log2 + 1) < w := Nat.sub_lt (Nat.lt_of_lt_of_le (Nat.zero_lt_succ _) hlog) (Nat.zero_lt_succ _)
  refine s_asg (e_sub (e_var rfl) (e_call (l_cons (e_list (l_cons (e_as (e_last rfl ly4 hne) (congrArg I htop)) l_nil)) (l_cons (e_var rfl) l_nil)) (bits_ok hw ht0)) hlog) rfl ?_
  have hpw : 2 ^ ((y / (2 ^ w) ^ k).log2 + 1) * 2 ^ (w - ((y / (2 ^ w) ^ k).log2 + 1)) = 2 ^ w := by rw [← Nat.pow_add, Nat.add_sub_cancel' hlog]
  have hyv : y < 2 ^ ((y / (2 ^ w) ^ k).log2 + 1) * (2 ^ w) ^ k := (Nat.div_lt_iff_lt_mul (pow_pos' hB k)).mp htl
  generalize (y / (2 ^ w) ^ k).log2 + 1 = b at hlog hsub hpw hyv ⊢
  have hS0 := Nat.two_pow_pos (w - b)
  have hs9 : w - b ≤ 9 := Nat.le_trans (Nat.sub_le _ _) hw.hi
  have hXb : Bd (x * 2 ^ (w - b)) := hx.shl (Nat.le_trans hs9 (by decide))
  have hVb : Bd (y * 2 ^ (w - b)) := hyb.shl (Nat.le_trans hs9 (by decide))
  refine s_asg (e_call (l_cons (e_var rfl) (l_cons (e_var rfl) (l_cons (e_var rfl) l_nil))) (shift_left_ok hw hyb.bd (Nat.le_trans hs9 (by decide)))) rfl ?_
  refine s_asg (e_call (l_cons (e_var rfl) (l_cons (e_var rfl) (l_cons (e_var rfl) l_nil))) (shift_left_ok hw hx.bd (Nat.le_trans hs9 (by decide)))) rfl ?_
  have hSB : 2 ^ (w - b) ≤ 2 ^ w := Nat.pow_le_pow_right (by decide) (Nat.le_of_lt hsub)
  -- the divisor has as many limbs
  have hvge : (2 ^ w) ^ k * 2 ^ (w - b) ≤ y * 2 ^ (w - b) := Nat.mul_le_mul_right _ hyge
  have hvlt : y * 2 ^ (w - b) < (2 ^ w) ^ (k + 1) := by
    have := Nat.mul_lt_mul_of_pos_right hyv hS0
    rwa [Nat.mul_right_comm, hpw, Nat.mul_comm (2 ^ w) ((2 ^ w) ^ k), ← Nat.pow_succ] at this
  have hnv : (dg (2 ^ w) (y * 2 ^ (w - b))).length = k + 1 := Nat.le_antisymm (dg_len hB hvlt) (by rw [← hN]; exact len_le hB (Nat.le_mul_of_pos_right _ hS0))
  have hXlt : x * 2 ^ (w - b) < (2 ^ w) ^ ((dg (2 ^ w) x).length + 1) := by
    rw [Nat.pow_succ]
    exact Nat.mul_lt_mul_of_lt_of_le (dg_lt hB x) hSB (Nat.two_pow_pos _)
  have hlX := dg_len hB hXlt
  have hfix : L (dg (2 ^ w) (x * 2 ^ (w - b)) ++ List.replicate ((dg (2 ^ w) x).length + 1 - (dg (2 ^ w) (x * 2 ^ (w - b))).length) 0) = L (fix (2 ^ w) ((dg (2 ^ w) x).length + 1) (x * 2 ^ (w - b))) := congrArg L (fix_of hB (lim_app (lim_dg hB _) (lim_zeros hB)) (by rw [List.length_append, List.length_replicate]; exact Nat.add_sub_cancel' hlX) (by rw [val_append, val_dg hB, val_zeros, Nat.mul_zero, Nat.add_zero]))
  refine s_asgN (e_as (e_cat (e_var rfl) (e_zeros (e_sub (e_add (e_len rfl lx4) e_c1) (e_len rfl (hw.len4 hXb)) hlX) (Nat.le_trans (Nat.sub_le _ _) (Nat.le_trans (Nat.add_le_add_right lx 1) (by decide)))) (by rw [List.length_replicate, Nat.add_sub_cancel' hlX]; exact Nat.le_trans (Nat.add_le_add_right lx 1) (by decide))) hfix) rfl ?_
  have hdr := divide_rows_ok (n := n + 1) (m := (dg (2 ^ w) x).length + 1) (X := x * 2 ^ (w - b)) hw hVb (Nat.le_trans (Nat.add_le_add_right lx 1) (by decide)) (by rw [hnv]; exact hlen2) (by rw [hnv]; exact Nat.lt_succ_of_le hlxy) (by
    rw [hnv, Nat.add_sub_add_right]
    refine Nat.lt_of_lt_of_le (Nat.mul_lt_mul_of_pos_right (dg_lt hB x) hS0) (Nat.le_trans ?_ (Nat.mul_le_mul_left _ hvge))
    rw [← Nat.mul_assoc, ← Nat.pow_add, Nat.sub_add_cancel (Nat.le_trans (Nat.le_succ k) hlxy)]; exact Nat.le_refl _)
  rw [hnv, Nat.add_sub_add_right, Nat.mul_div_mul_right _ _ hS0, Nat.mul_mod_mul_right] at hdr
  refine s_asg (e_callioO rfl (l_cons (e_var rfl) (l_cons (e_var rfl) l_nil)) hdr) rfl ?_
  have hq : x / y < (2 ^ w) ^ ((dg (2 ^ w) x).length - k) := Nat.div_lt_of_lt_mul (by
    refine Nat.lt_of_lt_of_le (dg_lt hB x) (Nat.le_trans ?_ (Nat.mul_le_mul_right _ hyge))
    rw [← Nat.pow_add, Nat.add_sub_cancel' (Nat.le_trans (Nat.le_succ k) hlxy)]; exact Nat.le_refl _)
  have hrlt : x % y * 2 ^ (w - b) < (2 ^ w) ^ ((dg (2 ^ w) x).length + 1) := Nat.lt_of_le_of_lt (Nat.mul_le_mul_right _ (Nat.mod_le x y)) hXlt
  have n1 := normal_ok (n := n + 2) (R := R) hB (l := fix (2 ^ w) ((dg (2 ^ w) x).length - k) (x / y)) (by rw [fix_len]; exact Nat.le_trans (Nat.sub_le _ _) lx4) (fix_lim hB _ _)
  rw [fix_val_lt hq] at n1
  have n2 := normal_ok (n := n + 2) (R := R) hB (l := fix (2 ^ w) ((dg (2 ^ w) x).length + 1) (x % y * 2 ^ (w - b))) (by rw [fix_len]; exact Nat.le_trans (Nat.add_le_add_right lx 1) (by decide)) (fix_lim hB _ _)
  rw [fix_val_lt hrlt] at n2
  have sr := shift_right_ok (n := n + 1) (R := R) hw (x := x % y * 2 ^ (w - b)) (hXb.le (Nat.mul_le_mul_right _ (Nat.mod_le x y))) hsub
  rw [Nat.mul_div_cancel _ hS0] at sr
  exact s_ret (e_tup (l_cons (e_call (l_cons (e_var rfl) l_nil) n1) (l_cons (e_call (l_cons (e_call (l_cons (e_own rfl) l_nil) n2) (l_cons (e_var rfl) (l_cons (e_var rfl) l_nil))) sr) l_nil))) (q _)
end
end Mine.P

set_option autoImplicit false
set_option linter.all false
set_option exponentiation.threshold 2000
namespace Mine.P
open PySem
/-- calls of a value -/
noncomputable def Cv (C : Orc) (R : Prop) (f : D) (ds : List D) (d : D) : Prop := ∀ Q : D → Prop, Q d → clP f (fun k => C.fn R k ds Q) fun t n => C.clo t n ds Q
section
variable {C : Orc} {R : Prop} {ρ ρ1 ρ2 ρ3 : MEnv} {a b c e : ME} {es : List ME} {d x y f : D} {ds xs ys : List D} {p p1 p2 p3 p4 p5 p6 p7 i j k m n w t : Nat} {l : List Nat} {r body : List MS} {Q K : Fl → MEnv → Prop} {sl : Slot} {s u : Bool}
theorem e_callvG (hv : ρ[i]? = some (.val f)) (h : EvL C R es ρ ds ρ1) (hf : Cv C R f ds d) : Ev C R (.callv i p es p1) ρ d ρ1 := fun Q q => by
  show valP ρ i fun f => clP f (fun k => wpEs C es R ρ fun ds ρ => C.fn R k ds fun d => Q d ρ) fun t n => wpEs C es R ρ fun ds ρ => C.clo t n ds fun d => Q d ρ
  unfold valP; rw [hv]
  have hf := hf (fun d => Q d ρ1) q
  cases f with
  | fn k => exact h _ hf
  | clo t n => exact h _ hf
  | _ => exact hf.elim
theorem Cv.fn (h : Fn C R k ds d) : Cv C R (.fn k) ds d := fun Q q => h Q q
/-- a list that is the frame's own, or no longer -/
theorem e_nsl (h : ρ[i]? = some sl) (hs : sl = .own (l.map I) ∨ sl = .val (L l)) : Ev C R (.var i p) ρ (L l) (ρ.set i (.val (L l))) := fun Q q => by
  show varP ρ i Q
  unfold varP; rw [h]
  rcases hs with rfl | rfl
  · exact q
  · have e : ρ.set i (.val (L l)) = ρ := by
      refine List.ext_getElem? fun j => ?_
      rw [List.getElem?_set]
      split
      · rename_i hij
        subst hij
        rw [h, if_pos (List.getElem?_eq_some_iff.mp h).1]
      · rfl
    rw [e] at q; exact q
theorem e_eqB (ha : Ev C R a ρ (.bool s) ρ1) (hb : Ev C R b ρ1 (.bool u) ρ2) : Ev C R (.cmp a .eq b p) ρ (.bool (s == u)) ρ2 := e_cmp ha hb fun Q q => ⟨.bool s, .bool u, rfl, rfl, (by show (0 : Nat) ≤ 64; decide), q⟩
theorem e_neB (ha : Ev C R a ρ (.bool s) ρ1) (hb : Ev C R b ρ1 (.bool u) ρ2) : Ev C R (.cmp a .ne b p) ρ (.bool !(s == u)) ρ2 := e_cmp ha hb fun Q q => ⟨.bool s, .bool u, rfl, rfl, (by show (0 : Nat) ≤ 64; decide), q⟩
theorem e_max (h : EvL C R es ρ [I m, I n] ρ1) : Ev C R (.bn .max p es p1) ρ (I (max m n)) ρ1 := fun Q q => h _ (by
  show Q (.int (max2 m n)) ρ1
  rw [max_nat]; exact q)
theorem e_max3 (h : EvL C R es ρ [I m, I n, I k] ρ1) : Ev C R (.bn .max p es p1) ρ (I (max (max m n) k)) ρ1 := fun Q q => h _ (by
  show Q (.int (max2 (max2 m n) k)) ρ1
  rw [max_nat, max_nat]; exact q)
theorem e_glob (h : C.glob k = d) : Ev C R (.glob k p) ρ d ρ := fun Q q => by
  show Q (C.glob k) ρ
  rw [h]; exact q
end
/-- a whole number: its sign, and its size as limbs -/
noncomputable def S (w : Nat) (z : Int) : D := .tup [.bool (decide (z < 0)), N (2 ^ w) z.natAbs]
noncomputable def Zd (k : Nat) (z : Int) : Prop := z.natAbs < 2 ^ k
theorem Zd.add {k : Nat} {a b : Int} (ha : Zd k a) (hb : Zd k b) : Zd (k + 1) (a + b) := Nat.lt_of_le_of_lt (Int.natAbs_add_le a b) (by rw [Nat.pow_succ, Nat.mul_two]; exact Nat.add_lt_add ha hb)
theorem Zd.sub {k : Nat} {a b : Int} (ha : Zd k a) (hb : Zd k b) : Zd (k + 1) (a - b) := by
  rw [Int.sub_eq_add_neg]
  exact ha.add (by show (-b).natAbs < _; rw [Int.natAbs_neg]; exact hb)
theorem Zd.up {k j : Nat} {a : Int} (ha : Zd k a) (h : k ≤ j) : Zd j a := Nat.lt_of_lt_of_le ha (Nat.pow_le_pow_right (by decide) h)
theorem Zd.bd {k : Nat} {a : Int} (ha : Zd k a) (h : k ≤ 1000) : Bd a.natAbs := ha.up h
section
variable {n w : Nat} {R : Prop} (hw : W w)
include hw
theorem signed_eq {t : Bool} {x : Nat} {z : Int} (h : z = if t then -(x : Int) else x) : D.tup [.bool (t && decide (0 < (dg (2 ^ w) x).length)), N (2 ^ w) x] = S w z := by
  subst h
  unfold S
  have h0 : 0 < (dg (2 ^ w) x).length ↔ 0 < x := ⟨(fun h => Nat.pos_of_ne_zero fun q => by subst q; cases h), fun h => List.length_pos_iff.mpr (dg_ne hw.b2 (Nat.ne_of_gt h))⟩
  rw [decide_eq_decide.mpr h0]
  cases t with
  | true =>
    show D.tup [.bool (true && decide (0 < x)), _] = .tup [.bool (decide (-(x : Int) < 0)), N _ (-(x : Int)).natAbs]
    rw [Int.natAbs_neg, Int.natAbs_natCast, Bool.true_and, decide_eq_decide.mpr (show 0 < x ↔ -(x : Int) < 0 by (first | grind | omega))]
  | false =>
    show D.tup [.bool (false && _), _] = .tup [.bool (decide ((x : Int) < 0)), N _ ((x : Int)).natAbs]
    rw [Int.natAbs_natCast, decide_eq_false (show ¬ (x : Int) < 0 by (first | grind | omega))]; rfl
theorem signed_ok {t : Bool} {x : Nat} {z : Int} (hx : Bd x) (h : z = if t then -(x : Int) else x) : Fn (orc tbl f_within gl (n + 1)) R 32 [.bool t, N (2 ^ w) x] (S w z) := by
  refine fn_of rfl rfl rfl fun Q q => ?_
  exact s_ret (e_as (e_tup (l_cons (e_and2 (e_var rfl) fun _ => e_gt (e_len rfl (hw.len4 hx)) e_c0) (l_cons (e_var rfl) l_nil))) (signed_eq hw h)) (q _)
omit hw in
theorem abs_if (z : Int) : z = if decide (z < 0) = true then -(z.natAbs : Int) else z.natAbs := by
  by_cases h : z < 0
  · rw [if_pos (decide_eq_true h)]; (first | grind | omega)
  · rw [if_neg (fun q => h (of_decide_eq_true q))]; (first | grind | omega)
section
variable {C : Orc} {ρ : MEnv} {z : Int} {i p p1 p2 : Nat}
omit hw
theorem e_sg (h : ρ[i]? = some (.val (S w z))) : Ev C R (.idx (.var i p) (.cint 0 p1) p2) ρ (.bool (decide (z < 0))) ρ := e_idxT h e_c0 (by show 2 ≤ 4096; decide) rfl
theorem e_ab (h : ρ[i]? = some (.val (S w z))) : Ev C R (.idx (.var i p) (.cint 1 p1) p2) ρ (N (2 ^ w) z.natAbs) ρ := e_idxT h e_c1 (by show 2 ≤ 4096; decide) rfl
end
theorem s_neg_ok {z : Int} (hz : Bd z.natAbs) : Fn (orc tbl f_within gl (n + 2)) R 33 [S w z] (S w (-z)) := by
  refine fn_of rfl rfl rfl fun Q q => ?_
  refine s_ret (e_call (l_cons (e_not (e_sg rfl)) (l_cons (e_ab rfl) l_nil)) (signed_ok hw hz ?_)) (q _)
  by_cases h : z < 0
  · rw [decide_eq_true h]; show -z = (z.natAbs : Int); (first | grind | omega)
  · rw [decide_eq_false h]; show -z = -(z.natAbs : Int); (first | grind | omega)
theorem s_add_ok {a b : Int} (ha : Zd 900 a) (hb : Zd 900 b) : Fn (orc tbl f_within gl (n + 3)) R 34 [S w a, S w b, I w] (S w (a + b)) := by
  refine fn_of rfl rfl rfl fun Q q => ?_
  have ha' := ha.bd (by decide)
  have hb' := hb.bd (by decide)
  have hadd : Bd (a.natAbs + b.natAbs) := Nat.lt_of_lt_of_le (Nat.add_lt_add ha hb) (by rw [← Nat.two_mul, ← Nat.pow_succ']; exact Nat.pow_le_pow_right (by decide) (by decide))
  refine s_ifb (e_eqB (e_sg rfl) (e_sg rfl)) (fun h => ?_) fun h => s_end ?_
  · refine s_ret (e_call (l_cons (e_sg rfl) (l_cons (e_call (l_cons (e_ab rfl) (l_cons (e_ab rfl) (l_cons (e_var rfl) l_nil))) (add_ok hw ha' hb')) l_nil)) (signed_ok hw hadd ?_)) (q _)
    have h := decide_eq_decide.mp (eq_of_beq h)
    by_cases ha0 : a < 0
    · rw [if_pos (decide_eq_true ha0)]; have := h.mp ha0; (first | grind | omega)
    · rw [if_neg (fun q => ha0 (of_decide_eq_true q))]; have := mt h.mpr ha0; (first | grind | omega)
  · have hne : ¬ ((a < 0) ↔ (b < 0)) := fun q => by rw [decide_eq_decide.mpr q, beq_self_eq_true] at h; cases h
    refine s_if (e_ltZ (e_call (l_cons (e_ab rfl) (l_cons (e_ab rfl) l_nil)) (compare_ok hw ha' hb')) e_cint) (fun hc => ?_) fun hc => s_end ?_
    · have hlt : a.natAbs < b.natAbs := Nat.lt_of_not_le fun q => cmpN_neg q hc
      refine s_ret (e_call (l_cons (e_sg rfl) (l_cons (e_call (l_cons (e_ab rfl) (l_cons (e_ab rfl) (l_cons (e_var rfl) l_nil))) (sub_ok hw hb' (Nat.le_of_lt hlt))) l_nil)) (signed_ok hw (hb'.le (Nat.sub_le _ _)) ?_)) (q _)
      by_cases hb0 : b < 0
      · rw [if_pos (decide_eq_true hb0)]; (first | grind | omega)
      · rw [if_neg (fun q => hb0 (of_decide_eq_true q))]; (first | grind | omega)
    · have hle : b.natAbs ≤ a.natAbs := Nat.le_of_not_lt fun q => hc (cmpN_neg' q)
      refine s_ret (e_call (l_cons (e_sg rfl) (l_cons (e_call (l_cons (e_ab rfl) (l_cons (e_ab rfl) (l_cons (e_var rfl) l_nil))) (sub_ok hw ha' hle)) l_nil)) (signed_ok hw (ha'.le (Nat.sub_le _ _)) ?_)) (q _)
      by_cases ha0 : a < 0
      · rw [if_pos (decide_eq_true ha0)]; (first | grind | omega)
      · rw [if_neg (fun q => ha0 (of_decide_eq_true q))]; (first | grind | omega)
theorem s_sub_ok {a b : Int} (ha : Zd 900 a) (hb : Zd 900 b) : Fn (orc tbl f_within gl (n + 4)) R 35 [S w a, S w b, I w] (S w (a - b)) := by
  refine fn_of rfl rfl rfl fun Q q => ?_
  rw [Int.sub_eq_add_neg] at q
  exact s_ret (e_call (l_cons (e_var rfl) (l_cons (e_call (l_cons (e_var rfl) l_nil) (s_neg_ok hw (hb.bd (by decide)))) (l_cons (e_var rfl) l_nil))) (s_add_ok hw ha (by show (-b).natAbs < _; rw [Int.natAbs_neg]; exact hb))) (q _)
omit hw in
theorem mul_sg {a b : Int} : a * b = if (!(decide (a < 0) == decide (b < 0))) = true then -((a.natAbs * b.natAbs : Nat) : Int) else ((a.natAbs * b.natAbs : Nat) : Int) := by
  have e : ((a.natAbs * b.natAbs : Nat) : Int) = (a.natAbs : Int) * (b.natAbs : Int) := rfl
  rw [e]
  by_cases ha : a < 0 <;> by_cases hb : b < 0
  · rw [decide_eq_true ha, decide_eq_true hb, show (a.natAbs : Int) = -a by (first | grind | omega), show (b.natAbs : Int) = -b by (first | grind | omega)]; show _ = -a * -b; rw [Int.neg_mul_neg]
  · rw [decide_eq_true ha, decide_eq_false hb, show (a.natAbs : Int) = -a by (first | grind | omega), show (b.natAbs : Int) = b by (first | grind | omega)]; show _ = -(-a * b); rw [Int.neg_mul, Int.neg_neg]
  · rw [decide_eq_false ha, decide_eq_true hb, show (a.natAbs : Int) = a by (first | grind | omega), show (b.natAbs : Int) = -b by (first | grind | omega)]; show _ = -(a * -b); rw [Int.mul_neg, Int.neg_neg]
  · rw [decide_eq_false ha, decide_eq_false hb, show (a.natAbs : Int) = a by (first | grind | omega), show (b.natAbs : Int) = b by (first | grind | omega)]; rfl
theorem s_mul_ok {a b : Int} {f : D} (hm : Cv (orc tbl f_within gl (n + 1)) R f [N (2 ^ w) a.natAbs, N (2 ^ w) b.natAbs, I w] (N (2 ^ w) (a.natAbs * b.natAbs))) (hab : Bd (a.natAbs * b.natAbs)) : Fn (orc tbl f_within gl (n + 2)) R 36 [S w a, S w b, I w, f] (S w (a * b)) := by
  refine fn_of rfl rfl rfl fun Q q => ?_
  exact s_ret (e_call (l_cons (e_neB (e_sg rfl) (e_sg rfl)) (l_cons (e_callvG rfl (l_cons (e_ab rfl) (l_cons (e_ab rfl) (l_cons (e_var rfl) l_nil))) hm) l_nil)) (signed_ok hw hab mul_sg)) (q _)
theorem scaled_ok {z : Int} {m : Nat} (hz : Bd z.natAbs) (hm : m ≤ 2000) : Fn (orc tbl f_within gl (n + 2)) R 39 [S w z, I m, I w] (S w (z * 2 ^ m)) := by
  refine fn_of rfl rfl rfl fun Q q => ?_
  refine s_ret (e_as (e_tup (l_cons (e_sg rfl) (l_cons (e_call (l_cons (e_ab rfl) (l_cons (e_var rfl) (l_cons (e_var rfl) l_nil))) (shift_left_ok hw hz hm)) l_nil))) ?_) (q _)
  unfold S
  have hp : (0 : Int) < 2 ^ m := Int.pow_pos (by decide)
  rw [Int.natAbs_mul, Int.natAbs_pow]
  congr 3
  refine decide_eq_decide.mpr ⟨fun h => Int.mul_neg_of_neg_of_pos h hp, fun h => ?_⟩
  exact Int.lt_of_not_ge fun q => Int.not_le.mpr h (Int.mul_nonneg q (Int.le_of_lt hp))
theorem natural_ok {x : Nat} : Fn (orc tbl f_within gl (n + 1)) R 43 [S w x] (N (2 ^ w) x) := by
  refine fn_of rfl rfl rfl fun Q q => ?_
  refine s_ifb (e_sg rfl) (fun h => absurd (of_decide_eq_true h) (by (first | grind | omega))) fun _ => s_end (s_ret (e_ab rfl) (q _))
end
end Mine.P

set_option autoImplicit false
set_option linter.all false
set_option exponentiation.threshold 2000
namespace Mine.P
open PySem
section
variable {C : Orc} {R : Prop} {ρ ρ1 ρ2 ρ3 : MEnv} {a b c e : ME} {es : List ME} {d x y f : D} {ds xs ys : List D} {p p1 p2 p3 p4 p5 p6 p7 i j k m n w t : Nat} {l : List Nat} {r body : List MS} {Q K : Fl → MEnv → Prop} {sl : Slot} {fs : List Slot} {fr : List Nat} {it : It} {sc : Scope} {nm : List PySem.Str}
theorem s_forRev (J : Nat → MEnv → Prop) (he : Ev C False e ρ (.list ds) ρ1) (hJ : J ds.length ρ1) (h : ∀ k d, ds[k]? = some d → ∀ ρ, J (k + 1) ρ → Step C body Q (J k) (ρ.set i (.val d))) (fin : ∀ ρ, J 0 ρ → wpB C r R ρ Q) : wpB C (.for_ (.one i p) (.rever p1 e p2) body p3 :: r) R ρ Q :=
  he _ (fo_rule (tg := .one i p) (B := wpB C body False) (Q := SK C r R Q) (fun j ρ => J (ds.length - j) ρ) ds.reverse 0 (fun j d hj ρ q K h1 h2 => by
    have hj2 : j < ds.length := by have := (List.getElem?_eq_some_iff.mp hj).1; rwa [List.length_reverse] at this
    rw [List.getElem?_reverse hj2] at hj
    rw [Nat.zero_add] at q h1
    refine h (ds.length - 1 - j) d hj ρ ?_ K (fun ρ' q' => h1 ρ' ?_) h2
    · rwa [show ds.length - 1 - j + 1 = ds.length - j by (first | grind | omega)]
    · rwa [show ds.length - (j + 1) = ds.length - 1 - j by (first | grind | omega)]) (fun ρ q => fin ρ (by rw [Nat.zero_add, List.length_reverse, Nat.sub_self] at q; exact q)) _ hJ)
theorem s_forRevL (J : Nat → MEnv → Prop) (he : Ev C False e ρ (L l) ρ1) (hJ : J l.length ρ1) (h : ∀ k, k < l.length → ∀ ρ, J (k + 1) ρ → Step C body Q (J k) (ρ.set i (.val (I (l.getD k 0))))) (fin : ∀ ρ, J 0 ρ → wpB C r R ρ Q) : wpB C (.for_ (.one i p) (.rever p1 e p2) body p3 :: r) R ρ Q :=
  s_forRev J he (by rw [List.length_map]; exact hJ) (fun k d hd ρ q => by
    have hj2 : k < l.length := by have := (List.getElem?_eq_some_iff.mp hd).1; rwa [List.length_map] at this
    rw [at_map hj2] at hd; cases hd
    exact h k hj2 ρ q) fin
theorem e_revO (h : ρ[i]? = some (.own (l.map I))) (hl : l.length ≤ 4096) : Ev C R (.rev i p p1 p2 p3 p4) ρ (L l.reverse) ρ := fun Q q => by
  show pkVar ρ i fun p => pkGet ρ p fun x => listP x fun xs => xs.length ≤ 4096 ∧ Q (.list xs.reverse) ρ
  unfold pkVar; rw [h]
  show ownP ρ i fun _ xs => xs.length ≤ 4096 ∧ Q (.list xs.reverse) ρ
  unfold ownP; rw [h]
  refine ⟨by rw [List.length_map]; exact hl, ?_⟩
  rw [← List.map_reverse]; exact q
theorem e_lenD (h : ρ[i]? = some (.val (.list ds))) (hl : ds.length ≤ 4096) : Ev C R (.b1 .len p (.var i p1) p2) ρ (I ds.length) ρ := fun Q q => by
  show pkVar ρ i fun p => pkGet ρ p fun x => b1P .len x fun d => Q d ρ
  unfold pkVar; rw [h]
  exact ⟨hl, q⟩
theorem e_catD (ha : Ev C R a ρ (.list xs) ρ1) (hb : Ev C R b ρ1 (.list ys) ρ2) (h : xs.length + ys.length ≤ 4096) : Ev C R (.bin .Add a b p) ρ (.list (xs ++ ys)) ρ2 := e_bin ha hb fun Q q => ⟨rfl, h, q⟩
theorem e_tolist (hv : varOf e = none) (h : Ev C R e ρ (.tup xs) ρ1) (hl : xs.length ≤ 4096) : Ev C R (.b1 .tolist p e p1) ρ (.list xs) ρ1 := fun Q q => by
  show pkP (varOf e) (wpE C e R ρ) ρ fun p ρ => pkGet ρ p fun x => b1P .tolist x fun d => Q d ρ
  rw [hv]
  exact h _ ⟨hl, q⟩
theorem mapP_map {α : Type} {F : D → (D → Prop) → Prop} {f : α → D} : ∀ {as : List α} {Q : List D → Prop}, mapP (fun a => F (f a)) as Q → mapP F (as.map f) Q
  | [], _, q => q
  | a :: as, Q, q => by
    have : ∀ (as : List α), (fun (Q : List D → Prop) => mapP F (as.map f) Q) = fun Q => mapP (fun a => F (f a)) as Q := by
      intro as
      induction as with
      | nil => rfl
      | cons a as ih =>
        funext Q
        show F (f a) (fun y => mapP F (as.map f) fun ys => Q (y :: ys)) = F (f a) fun y => mapP (fun a => F (f a)) as fun ys => Q (y :: ys)
        congr 1
        funext y
        exact congrFun ih _
    rw [show mapP F ((a :: as).map f) Q = _ from congrFun (this (a :: as)) Q]; exact q
theorem e_comp {α : Type} {as : List α} {f g : α → D} {tg : TG} (hit : ∀ Z : List D → MEnv → Prop, Z (as.map f) ρ1 → wpIt C it False ρ Z) (fs : List Slot) (hfr : ∀ Z : List Slot → Prop, Z fs → freesP ρ1 fr Z) (hl : as.length ≤ 4096)
    (h : ∀ a ∈ as, ∀ K : D → Prop, K (g a) → stT tg (f a) (List.replicate nm.length .unset ++ fs) fun ρ' => wpE C e False ρ' fun y _ => K y) : Ev C R (.comp sc nm fr e tg it p) ρ (.list (as.map g)) ρ1 := fun Q q =>
  hit _ (hfr _ ⟨by rw [List.length_map]; exact hl, mapP_map (map_rule (f := fun a Q => stT tg (f a) (List.replicate nm.length .unset ++ fs) fun ρ' => wpE C e False ρ' fun y _ => Q y) g (Q := fun ys => Q (.list ys) ρ1) h q)⟩)
end
noncomputable abbrev Ns (w : Nat) (ps : List Nat) : D := .list (ps.map (N (2 ^ w)))
theorem S_nat {w x : Nat} : D.tup [.bool false, N (2 ^ w) x] = S w (x : Int) := by
  unfold S
  rw [decide_eq_false (show ¬ (x : Int) < 0 by (first | grind | omega))]; rfl
section
variable {n w : Nat} {R : Prop} (hw : W w)
include hw
theorem exact_small_ok {z : Int} {d : Nat} (hz : Zd 900 ((d : Int) * z)) (hd : 0 < d) (hdB : d < 2 ^ w) : Fn (orc tbl f_within gl (n + 2)) R 40 [S w ((d : Int) * z), I d, I w] (S w z) := by
  refine fn_of rfl rfl rfl fun Q q => ?_
  have hB := hw.b2
  have hX : ((d : Int) * z).natAbs = d * z.natAbs := by rw [Int.natAbs_mul]; rfl
  have hbd := hz.bd (by decide)
  have hsg : decide ((d : Int) * z < 0) = decide (z < 0) := decide_eq_decide.mpr ⟨fun h => Int.lt_of_not_ge fun q => Int.not_le.mpr h (Int.mul_nonneg (Int.natCast_nonneg d) q), fun h => Int.mul_neg_of_pos_of_neg (Int.ofNat_lt.mpr hd) h⟩
  have e0 : ∀ {p1 p2 p3 : Nat} {ρ : MEnv}, ρ[0]? = some (.val (S w ((d : Int) * z))) → Ev (orc tbl f_within gl (n + 1)) False (.idx (.var 0 p1) (.cint 1 p2) p3) ρ (N (2 ^ w) (d * z.natAbs)) ρ := fun h => by rw [← hX]; exact e_ab h
  rw [hX] at hbd
  have lx := hw.len hbd
  refine s_ifF (e_eq (e_var rfl) e_c0) (Nat.ne_of_gt hd) (s_end (s_ifF (e_lt (e_var rfl) e_c0) (Nat.not_lt_zero d) (s_end ?_)))
  refine s_asgL2 (sl_consN (e_list l_nil) rfl (sl_cons e_c0 rfl sl_nil)) ?_
  refine s_forRevL (l := dg (2 ^ w) (d * z.natAbs)) (fun k ρ => ∃ f s t, f.length + k = (dg (2 ^ w) (d * z.natAbs)).length ∧ Lim (2 ^ w) f.reverse ∧ val (2 ^ w) f.reverse = d * z.natAbs / (2 ^ w) ^ k / d ∧ ρ = [.val (S w ((d : Int) * z)), .val (I d), .val (I w), .own (f.map I), .val (I (d * z.natAbs / (2 ^ w) ^ k % d)), s, t]) (e0 rfl) ⟨[], .unset, .unset, Nat.zero_add _, (fun d h => nomatch h), by rw [div_len hB (Nat.le_refl _), Nat.zero_div]; rfl, by rw [div_len hB (Nat.le_refl _), Nat.zero_mod]; rfl⟩ ?_ ?_
  · generalize d * z.natAbs = x at lx hbd
    rintro k hk _ ⟨f, s, t, hf, hm, hv, rfl⟩ K h1 h2
    have ex := div_step (B := 2 ^ w) k x
    have hr := Nat.mod_lt (x / (2 ^ w) ^ (k + 1)) hd
    have hq := Nat.mod_add_div (x / (2 ^ w) ^ (k + 1)) d
    have ha := mod_lt' hB (x / (2 ^ w) ^ k)
    rw [← hv] at hq
    generalize x / (2 ^ w) ^ (k + 1) % d = r at hr hq ⊢
    have e1 : x / (2 ^ w) ^ k = d * (2 ^ w * val (2 ^ w) f.reverse) + (r * 2 ^ w + x / (2 ^ w) ^ k % 2 ^ w) := by
      rw [← hq] at ex
      refine ex.trans ?_
      generalize x / (2 ^ w) ^ k % 2 ^ w = u
      grind
    have e2 : x / (2 ^ w) ^ k % d = (r * 2 ^ w + x / (2 ^ w) ^ k % 2 ^ w) % d := by
      conv => lhs; rw [e1]
      rw [Nat.mul_add_mod]
    have e3 : x / (2 ^ w) ^ k / d = 2 ^ w * val (2 ^ w) f.reverse + (r * 2 ^ w + x / (2 ^ w) ^ k % 2 ^ w) / d := by
      conv => lhs; rw [e1]
      rw [Nat.mul_add_div hd]
    have hlt : r * 2 ^ w + x / (2 ^ w) ^ k % 2 ^ w < d * 2 ^ w := Nat.lt_of_lt_of_le (Nat.add_lt_add_left ha _) (by rw [← Nat.succ_mul]; exact Nat.mul_le_mul_right _ hr)
    have hl' : ∀ v : Nat, (f ++ [v]).length + k = (dg (2 ^ w) x).length := fun v => by rw [List.length_append, List.length_singleton, Nat.add_assoc, Nat.add_comm 1]; exact hf
    refine s_asg (e_as (d' := I (r * 2 ^ w + x / (2 ^ w) ^ k % 2 ^ w)) (e_add (e_shl (e_var rfl) (e_var rfl) (hw.sm (Nat.lt_trans hr hdB)) hw.w4) (e_var rfl)) (by rw [dg_at hB])) rfl ?_
    refine s_app rfl (e_div (e_var rfl) (e_var rfl) (Nat.lt_trans hlt (hw.sm2 (Nat.le_of_lt hdB) (Nat.le_refl _))) (Nat.ne_of_gt hd)) rfl (by (first | grind | omega)) (s_asg (e_mod (e_var rfl) (e_var rfl) (Nat.ne_of_gt hd)) rfl (s_nil (h1 _ ⟨_, .val (I (x / (2 ^ w) ^ k % 2 ^ w)), .val (I (r * 2 ^ w + x / (2 ^ w) ^ k % 2 ^ w)), hl' _, ?_, ?_, by rw [e2, dg_at hB]; rfl⟩)))
    · rw [List.reverse_append]
      exact fun y hy => (List.mem_cons.mp hy).elim (fun h => h ▸ Nat.div_lt_of_lt_mul hlt) (hm y)
    · rw [List.reverse_append, e3]; exact Nat.add_comm _ _
  · rintro _ ⟨f, s, t, hf, hm, hv, rfl⟩
    rw [Nat.pow_zero, Nat.div_one, Nat.mul_div_cancel_left _ hd] at hv
    rw [Nat.pow_zero, Nat.div_one, Nat.mul_mod_right]
    refine s_ifF (e_ne (e_var rfl) e_c0) (fun h => h rfl) (s_end ?_)
    have no := normal_ok (n := n) (R := R) hB (l := f.reverse) (by rw [List.length_reverse]; (first | grind | omega)) hm
    rw [hv] at no
    refine s_ret (e_as (e_tup (l_cons (e_sg rfl) (l_cons (e_call (l_cons (e_revO rfl (by (first | grind | omega))) l_nil) no) l_nil))) ?_) (q _)
    rw [hsg]; rfl
end
end Mine.P

set_option autoImplicit false
set_option linter.all false
set_option exponentiation.threshold 2000
namespace Mine.P
open PySem
theorem it_range {C : Orc} {e : ME} {ρ ρ1 : MEnv} {n p q : Nat} (he : Ev C False e ρ (I n) ρ1) (hn : n ≤ 4096) (Z : List D → MEnv → Prop) (z : Z ((List.range n).map I) ρ1) : wpIt C (.range q [e] p) False ρ Z := he _ ⟨hn, by
  have e : rangeL 0 (n : Int) 1 = (List.range n).map I := by
    unfold rangeL
    have : rangeN 0 (n : Int) 1 = n := by
      unfold rangeN
      rw [if_pos (by decide)]
      split <;> (first | grind | omega)
    rw [this]
    refine List.map_congr_left fun i _ => ?_
    show D.int _ = D.int _
    rw [Int.mul_one, Int.zero_add]
  show Z (rangeL 0 (n : Int) 1) _
  rw [e]; exact z⟩
theorem it_seq {C : Orc} {e : ME} {ρ ρ1 : MEnv} {ds : List D} (he : Ev C False e ρ (.list ds) ρ1) (Z : List D → MEnv → Prop) (z : Z ds ρ1) : wpIt C (.seq e) False ρ Z := he _ z
theorem it_seqT {C : Orc} {e : ME} {ρ ρ1 : MEnv} {ds : List D} (he : Ev C False e ρ (.tup ds) ρ1) (Z : List D → MEnv → Prop) (z : Z ds ρ1) : wpIt C (.seq e) False ρ Z := he _ z
theorem it_zip {C : Orc} {a b : ME} {ρ ρ1 ρ2 : MEnv} {xs ys : List D} {p q : Nat} (ha : Ev C False a ρ (.list xs) ρ1) (hb : Ev C False b ρ1 (.list ys) ρ2) (Z : List D → MEnv → Prop) (z : Z (zipL xs ys) ρ2) : wpIt C (.zip q a b p) False ρ Z := ha _ (hb _ z)
theorem e_comp1 {C : Orc} {R : Prop} {e : ME} {ρ ρ1 : MEnv} {p p1 i : Nat} {fr : List Nat} {it : It} {sc : Scope} {nm : List PySem.Str} {α : Type} {as : List α} {f g : α → D} (hit : ∀ Z : List D → MEnv → Prop, Z (as.map f) ρ1 → wpIt C it False ρ Z) (fs : List Slot) (hfr : ∀ Z : List Slot → Prop, Z fs → freesP ρ1 fr Z) (hl : as.length ≤ 4096)
    (h : ∀ a ∈ as, ∃ ρ', Ev C False e ((List.replicate nm.length Slot.unset ++ fs).set i (.val (f a))) (g a) ρ') : Ev C R (.comp sc nm fr e (.one i p) it p1) ρ (.list (as.map g)) ρ1 := e_comp hit fs hfr hl fun a ha K hk => let ⟨_, h⟩ := h a ha; h (fun y _ => K y) hk
theorem e_comp2 {C : Orc} {R : Prop} {e : ME} {ρ ρ1 : MEnv} {p p1 i j m n : Nat} {fr : List Nat} {it : It} {sc : Scope} {nm : List PySem.Str} {α : Type} {as : List α} {f1 f2 g : α → D} (hit : ∀ Z : List D → MEnv → Prop, Z (as.map fun a => .tup [f1 a, f2 a]) ρ1 → wpIt C it False ρ Z) (fs : List Slot) (hfr : ∀ Z : List Slot → Prop, Z fs → freesP ρ1 fr Z) (hl : as.length ≤ 4096)
    (h : ∀ a ∈ as, ∃ ρ', Ev C False e (((List.replicate nm.length Slot.unset ++ fs).set i (.val (f1 a))).set j (.val (f2 a))) (g a) ρ') : Ev C R (.comp sc nm fr e (.many [(i, m), (j, n)] p) it p1) ρ (.list (as.map g)) ρ1 := e_comp hit fs hfr hl fun a ha K hk => let ⟨_, h⟩ := h a ha; h (fun y _ => K y) hk
/-- the pieces of a number -/
noncomputable def pcs (B m x : Nat) : List Nat := (List.range m).map (fun i => x / B ^ i % B) ++ [x / B ^ m]
mutual
noncomputable def ev : List Nat → Nat
  | [] => 0
  | a :: l => a + od l
noncomputable def od : List Nat → Nat
  | [] => 0
  | _ :: l => ev l
end
noncomputable def sm_ : List Nat → Nat
  | [] => 0
  | a :: l => a + sm_ l
theorem ev_od : ∀ l, ev l + od l = sm_ l
  | [] => rfl
  | a :: l => by
    show a + od l + ev l = a + sm_ l
    rw [← ev_od l]; (first | grind | omega)
theorem val_pcs {B x : Nat} : ∀ m, val B (pcs B m x) = x
  | 0 => by
    show x / B ^ 0 + B * 0 = x
    rw [Nat.pow_zero, Nat.div_one, Nat.mul_zero]; rfl
  | m + 1 => by
    have ih := val_pcs (B := B) (x := x) m
    unfold pcs at ih ⊢
    rw [val_snoc, List.length_map, List.length_range] at ih ⊢
    rw [List.range_succ, List.map_append, List.map_singleton, val_snoc, List.length_map, List.length_range, Nat.pow_succ, Nat.add_assoc, Nat.mul_assoc, ← Nat.mul_add, ← Nat.pow_succ, Nat.add_comm (x / B ^ m % B), ← div_step]
    exact ih
theorem val_take_le {B : Nat} : ∀ {l : List Nat} {k : Nat}, val B (l.take k) ≤ val B l
  | l, 0 => Nat.zero_le _
  | [], k + 1 => Nat.le_refl _
  | a :: l, k + 1 => Nat.add_le_add_left (Nat.mul_le_mul_left B (val_take_le (l := l) (k := k))) a
theorem val_drop_le {l : List Nat} : ∀ {k : Nat}, val 2 (l.drop k) ≤ val 2 l
  | 0 => Nat.le_refl _
  | k + 1 => by
    cases l with
    | nil => exact Nat.le_refl _
    | cons a l => exact Nat.le_trans (val_drop_le (l := l) (k := k)) (by show val 2 l ≤ a + 2 * val 2 l; (first | grind | omega))
theorem ns_at {w k : Nat} {ps : List Nat} {d : D} (h : (ps.map (N (2 ^ w)))[k]? = some d) : k < ps.length ∧ d = N (2 ^ w) (ps.getD k 0) := by
  rw [List.getElem?_map] at h
  obtain ⟨x, hx, rfl⟩ := Option.map_eq_some_iff.mp h
  refine ⟨(List.getElem?_eq_some_iff.mp hx).1, ?_⟩
  rw [List.getD_eq_getElem?_getD, hx]; rfl
theorem drop_at {l : List Nat} {k : Nat} (h : k < l.length) : l.drop k = l.getD k 0 :: l.drop (k + 1) := by
  rw [List.drop_eq_getElem_cons h, List.getD_eq_getElem?_getD, List.getElem?_eq_getElem h]; rfl
section
variable {n w : Nat} {R : Prop} (hw : W w)
include hw
theorem pieces_ok {x m s : Nat} (hx : Bd x) (hm : m ≤ 1000) (hs : s ≤ 1100) : Fn (orc tbl f_within gl (n + 2)) R 37 [N (2 ^ w) x, I (m + 1), I s] (Ns w (pcs ((2 ^ w) ^ s) m x)) := by
  refine fn_of rfl rfl rfl fun Q q => ?_
  have hB := hw.b2
  have lx := hw.len4 hx
  have k2 : ∀ {z}, z ≤ 2000 → z < 2 ^ 256 := fun h => Nat.lt_of_le_of_lt h (Nat.lt_trans (by decide : 2000 < 2 ^ 20) (Nat.pow_lt_pow_right (by decide) (by decide)))
  have pw : ∀ i, (2 ^ w) ^ (i * s) = ((2 ^ w) ^ s) ^ i := fun i => by rw [Nat.mul_comm, Nat.pow_mul]
  refine s_asg (e_comp1 (as := List.range m) (f := I) (g := fun i => N (2 ^ w) (x / ((2 ^ w) ^ s) ^ i % (2 ^ w) ^ s)) (it_range (e_as (d' := I m) (e_sub (e_var rfl) e_c1 (Nat.le_add_left _ _)) (by rw [Nat.add_sub_cancel])) (Nat.le_trans hm (by decide))) [.val (N (2 ^ w) x), .val (I s)] (fun Z z => z) (by rw [List.length_range]; exact Nat.le_trans hm (by decide)) fun i hi => have him := List.mem_range.mp hi; ⟨_, e_as (e_call (l_cons (e_cutB rfl (e_mul (e_var rfl) (e_var rfl) (k2 (by (first | grind | omega))) (k2 (by (first | grind | omega)))) (e_mul (e_add (e_var rfl) e_c1) (e_var rfl) (k2 (by (first | grind | omega))) (k2 (by (first | grind | omega)))) lx) l_nil) (normal_ok hB (Nat.le_trans (List.length_take_le' _ _) (Nat.le_trans (by rw [List.length_drop]; exact Nat.sub_le _ _) lx)) (lim_take hB (by rw [drop_dg hB]; exact lim_dg hB _)))) (by rw [drop_dg hB, vtake_dg hB, pw, Nat.add_mul, Nat.one_mul, Nat.add_sub_cancel_left])⟩) rfl ?_
  · have n1 := normal_ok (n := n) (R := R) hB (l := (dg (2 ^ w) x).drop (m * s)) (Nat.le_trans (by rw [List.length_drop]; exact Nat.sub_le _ _) lx) (by rw [drop_dg hB]; exact lim_dg hB _)
    rw [drop_dg hB, val_dg hB, pw] at n1
    refine s_ret (e_as (e_catD (e_var rfl) (e_list (l_cons (e_call (l_cons (e_as (e_cutL rfl (e_mul (e_as (d' := I m) (e_sub (e_var rfl) e_c1 (Nat.le_add_left _ _)) (by rw [Nat.add_sub_cancel])) (e_var rfl) (k2 (by (first | grind | omega))) (k2 (by (first | grind | omega)))) lx) (congrArg L (by rw [drop_dg hB, pw]))) l_nil) n1) l_nil)) ?_) ?_) (q _)
    · rw [List.length_map, List.length_range]; show m + 1 ≤ 4096; (first | grind | omega)
    · unfold pcs Ns
      rw [List.map_append, List.map_map]; rfl
theorem piece_size_ok {l m : Nat} (hl : l ≤ 1000) (hm : m ≤ 1000) (hm0 : m ≠ 0) : Fn (orc tbl f_within gl (n + 1)) R 38 [I l, I m] (I ((l + m - 1) / m)) := by
  refine fn_of rfl rfl rfl fun Q q => ?_
  refine s_ret (e_div (e_sub (e_add (e_var rfl) (e_var rfl)) e_c1 (by (first | grind | omega))) (e_var rfl) (Nat.lt_of_le_of_lt (show l + m - 1 ≤ 2000 by (first | grind | omega)) (Nat.lt_trans (by decide : 2000 < 2 ^ 20) (Nat.pow_lt_pow_right (by decide) (by decide)))) hm0) (q _)
theorem recomposed_ok {cs : List Nat} {s : Nat} (hb : Bd (val ((2 ^ w) ^ s) cs)) (hcs : ∀ c ∈ cs, Bd c) (hl : cs.length * s ≤ 2000) (hl2 : cs.length ≤ 1000) (hs : s ≤ 1100) : Fn (orc tbl f_within gl (n + 3)) R 45 [Ns w cs, I s, I w] (N (2 ^ w) (val ((2 ^ w) ^ s) cs)) := by
  refine fn_of rfl rfl rfl fun Q q => ?_
  have k2 : ∀ {z}, z ≤ 2000 → z < 2 ^ 256 := fun h => Nat.lt_of_le_of_lt h (Nat.lt_trans (by decide : 2000 < 2 ^ 20) (Nat.pow_lt_pow_right (by decide) (by decide)))
  refine s_asgN (e_list l_nil) rfl ?_
  refine s_forE (ds := cs.map (N (2 ^ w))) (fun k ρ => ∃ sl s1 s2, (sl = .own ((dg (2 ^ w) (val ((2 ^ w) ^ s) (cs.take k))).map I) ∨ sl = .val (N (2 ^ w) (val ((2 ^ w) ^ s) (cs.take k)))) ∧ ρ = [.val (Ns w cs), .val (I s), .val (I w), sl, s1, s2]) (fun Z z => z) ⟨_, _, _, .inl rfl, rfl⟩ ?_ ?_
  · rintro k d hd _ ⟨sl, s1, s2, hsl, rfl⟩ K h1 h2
    obtain ⟨hk, rfl⟩ := ns_at hd
    have hks : k * s ≤ 2000 := Nat.le_trans (Nat.mul_le_mul_right s (Nat.le_of_lt hk)) hl
    have hc : Bd (cs.getD k 0) := hcs _ (by rw [List.getD_eq_getElem?_getD, List.getElem?_eq_getElem hk]; exact List.getElem_mem hk)
    have aa := add_at_ok (n := n) (R := False) hw (x := val ((2 ^ w) ^ s) (cs.take k)) (y := cs.getD k 0) (s := k * s) (hb.le val_take_le) hc hks
    rw [Nat.mul_comm k s, Nat.pow_mul, ← take_snoc hk, Nat.mul_comm s k] at aa
    refine s_asg (e_call (l_cons (e_nsl rfl hsl) (l_cons (e_var rfl) (l_cons (e_mul (e_var rfl) (e_var rfl) (k2 (by (first | grind | omega))) (k2 (by (first | grind | omega)))) (l_cons (e_var rfl) l_nil)))) aa) rfl (s_nil (h1 _ ⟨_, _, _, .inr rfl, rfl⟩))
  · rintro _ ⟨sl, s1, s2, hsl, rfl⟩
    rw [List.length_map, List.take_length] at hsl
    exact s_ret (e_nsl rfl hsl) (q _)
theorem value_two_ok {ps : List Nat} (hb : val 2 ps < 2 ^ 900) : Fn (orc tbl f_within gl (n + 2)) R 42 [Ns w ps, I w] (S w (val 2 ps : Nat)) := by
  refine fn_of rfl rfl rfl fun Q q => ?_
  refine s_asgN (e_list l_nil) rfl ?_
  refine s_forRev (ds := ps.map (N (2 ^ w))) (fun k ρ => ∃ sl s1, (sl = .own ((dg (2 ^ w) (val 2 (ps.drop k))).map I) ∨ sl = .val (N (2 ^ w) (val 2 (ps.drop k)))) ∧ ρ = [.val (Ns w ps), .val (I w), sl, s1]) (e_var rfl) ⟨.own [], .unset, .inl (by rw [List.length_map, List.drop_length]; rfl), rfl⟩ ?_ ?_
  · rintro k d hd _ ⟨sl, s1, hsl, rfl⟩ K h1 h2
    obtain ⟨hk, rfl⟩ := ns_at hd
    have hv : val 2 (ps.drop k) < 2 ^ 900 := Nat.lt_of_le_of_lt val_drop_le hb
    have e : val 2 (ps.drop k) = val 2 (ps.drop (k + 1)) * 2 ^ 1 + ps.getD k 0 := by
      rw [drop_at hk]
      show ps.getD k 0 + 2 * val 2 (ps.drop (k + 1)) = _
      (first | grind | omega)
    have h9 : ∀ {z}, z ≤ val 2 (ps.drop k) → Bd z := fun h => (Bs.bd (hv : Bs _)).le h
    refine s_asg (e_call (l_cons (e_call (l_cons (e_nsl rfl hsl) (l_cons e_c1 (l_cons (e_var rfl) l_nil))) (shift_left_ok hw (h9 (by (first | grind | omega))) (by decide))) (l_cons (e_var rfl) (l_cons (e_var rfl) l_nil))) (add_ok hw (h9 (by (first | grind | omega))) (h9 (by (first | grind | omega))))) rfl (s_nil (h1 _ ⟨_, _, .inr ?_, rfl⟩))
    rw [e]
  · rintro _ ⟨sl, s1, hsl, rfl⟩
    exact s_ret (e_as (e_tup (l_cons e_bool (l_cons (e_nsl rfl hsl) l_nil))) S_nat) (q _)
end
end Mine.P

set_option autoImplicit false
set_option linter.all false
set_option exponentiation.threshold 2000
namespace Mine.P
open PySem
theorem ns_get {w k : Nat} {ps : List Nat} (h : k < ps.length) : (ps.map (N (2 ^ w)))[k]? = some (N (2 ^ w) (ps.getD k 0)) := by
  rw [List.getElem?_map, List.getD_eq_getElem?_getD, List.getElem?_eq_getElem h]; rfl
noncomputable def V5 (ps : List Nat) : List Int := [((ps.getD 0 0 : Nat) : Int), ((ps.getD (ps.length - 1) 0 : Nat) : Int), ((ev ps + od ps : Nat) : Int), (ev ps : Int) - (od ps : Int), ((val 2 ps : Nat) : Int)]
theorem le_sm {l : List Nat} : ∀ {k : Nat}, l.getD k 0 ≤ sm_ l := by
  induction l with
  | nil => exact Nat.le_refl _
  | cons a l ih =>
    intro k
    cases k with
    | zero => exact Nat.le_add_right _ _
    | succ k => exact Nat.le_trans (ih (k := k)) (Nat.le_add_left _ _)
theorem zdn {k x : Nat} (h : x < 2 ^ k) : Zd k (x : Int) := h
section
variable {n w : Nat} {R : Prop} (hw : W w)
include hw
theorem both_values_ok {ps : List Nat} (hb : sm_ ps < 2 ^ 800) (hl : ps.length ≤ 1000) : Fn (orc tbl f_within gl (n + 5)) R 41 [Ns w ps, I 0, I w] (.tup [S w (ev ps + od ps : Nat), S w ((ev ps : Int) - (od ps : Int))]) := by
  refine fn_of rfl rfl rfl fun Q q => ?_
  have eo := ev_od ps
  have b9 : ∀ {z}, z ≤ sm_ ps → Bd z := fun h => (Nat.lt_trans (Nat.lt_of_le_of_lt h hb) (Nat.pow_lt_pow_right (by decide) (by decide)) : _ < 2 ^ 1000)
  refine s_asgL2 (sl_consN (e_list l_nil) rfl (sl_consN (e_list l_nil) rfl sl_nil)) ?_
  refine s_forE (ds := ps.map (N (2 ^ w))) (fun k ρ => ∃ e o t3 t4 s5 s6 s7, (k % 2 = 0 → e + ev (ps.drop k) = ev ps ∧ o + od (ps.drop k) = od ps) ∧ (¬ k % 2 = 0 → e + od (ps.drop k) = ev ps ∧ o + ev (ps.drop k) = od ps) ∧ (t3 = .own ((dg (2 ^ w) e).map I) ∨ t3 = .val (N (2 ^ w) e)) ∧ (t4 = .own ((dg (2 ^ w) o).map I) ∨ t4 = .val (N (2 ^ w) o)) ∧ ρ = [.val (Ns w ps), .val (I 0), .val (I w), t3, t4, s5, s6, s7]) (fun Z z => z) ⟨0, 0, _, _, _, _, _, fun _ => ⟨Nat.zero_add _, Nat.zero_add _⟩, fun h => absurd rfl h, .inl rfl, .inl rfl, rfl⟩ ?_ ?_
  · rintro k d hd _ ⟨e, o, t3, t4, s5, s6, s7, h0, h1', h3, h4, rfl⟩ K h1 h2
    obtain ⟨hk, rfl⟩ := ns_at hd
    have hdr := drop_at hk
    have hk1 := Nat.le_trans (Nat.le_of_lt hk) hl
    have hpk : Bd (ps.getD k 0) := b9 le_sm
    refine s_asg (e_as (d' := N (2 ^ w) (ps.getD k 0)) (e_call (l_cons (e_var rfl) (l_cons (e_mul (e_var rfl) (e_var rfl) (Nat.two_pow_pos _) (Nat.lt_of_le_of_lt hk1 (Nat.lt_trans (by decide : 1000 < 2 ^ 20) (Nat.pow_lt_pow_right (by decide) (by decide))))) (l_cons (e_var rfl) l_nil))) (shift_left_ok hw hpk (by rw [Nat.zero_mul]; decide))) (by rw [Nat.zero_mul, Nat.pow_zero, Nat.mul_one])) rfl ?_
    refine s_if (e_eq (e_mod (e_var rfl) e_c2 (by decide)) e_c0) (fun hp => ?_) fun hp => ?_
    · obtain ⟨g1, g2⟩ := h0 hp
      have g1 : e + ev (ps.drop k) = ev ps := g1
      rw [hdr] at g1 g2
      have g1 : e + (ps.getD k 0 + od (ps.drop (k + 1))) = ev ps := g1
      refine s_asg (e_call (l_cons (e_nsl rfl h3) (l_cons (e_var rfl) (l_cons (e_var rfl) l_nil))) (add_ok hw (b9 (by (first | grind | omega))) hpk)) rfl (s_end (s_nil (h1 _ ⟨_, _, _, _, _, _, _, fun h => absurd h (by (first | grind | omega)), fun _ => ⟨by rw [Nat.add_assoc]; exact g1, g2⟩, .inr rfl, h4, rfl⟩)))
    · obtain ⟨g1, g2⟩ := h1' hp
      rw [hdr] at g1 g2
      have g2 : o + (ps.getD k 0 + od (ps.drop (k + 1))) = od ps := g2
      refine s_asg (e_call (l_cons (e_nsl rfl h4) (l_cons (e_var rfl) (l_cons (e_var rfl) l_nil))) (add_ok hw (b9 (by (first | grind | omega))) hpk)) rfl (s_end (s_nil (h1 _ ⟨_, _, _, _, _, _, _, fun _ => ⟨g1, by rw [Nat.add_assoc]; exact g2⟩, fun h => absurd h (by (first | grind | omega)), h3, .inr rfl, rfl⟩)))
  · rintro _ ⟨e, o, t3, t4, s5, s6, s7, h0, h1', h3, h4, rfl⟩
    rw [List.length_map, List.drop_length] at h0 h1'
    have he : e = ev ps := by
      by_cases hp : ps.length % 2 = 0
      · exact (h0 hp).1
      · exact (h1' hp).1
    have ho : o = od ps := by
      by_cases hp : ps.length % 2 = 0
      · exact (h0 hp).2
      · exact (h1' hp).2
    subst he ho
    have z8 : ∀ {z}, z ≤ sm_ ps → Zd 900 (z : Int) := fun h => Nat.lt_trans (Nat.lt_of_le_of_lt h hb) (Nat.pow_lt_pow_right (by decide) (by decide))
    refine s_ret (e_tup (l_cons (e_as (e_tup (l_cons e_bool (l_cons (e_call (l_cons (e_nsl rfl h3) (l_cons (e_nsl rfl h4) (l_cons (e_var rfl) l_nil))) (add_ok hw (b9 (by (first | grind | omega))) (b9 (by (first | grind | omega))))) l_nil))) S_nat) (l_cons (e_call (l_cons (e_as (e_tup (l_cons e_bool (l_cons (e_var rfl) l_nil))) S_nat) (l_cons (e_as (e_tup (l_cons e_bool (l_cons (e_var rfl) l_nil))) S_nat) (l_cons (e_var rfl) l_nil))) (s_sub_ok hw (z8 (by (first | grind | omega))) (z8 (by (first | grind | omega))))) l_nil))) (q _)
omit hw in
theorem ends_of_ok {ps : List Nat} (hl : ps.length ≤ 1000) (h0 : 0 < ps.length) : Fn (orc tbl f_within gl (n + 1)) R 47 [Ns w ps] (.list [S w (ps.getD 0 0 : Nat), S w (ps.getD (ps.length - 1) 0 : Nat)]) := by
  refine fn_of rfl rfl rfl fun Q q => ?_
  have l4 : (ps.map (N (2 ^ w))).length ≤ 4096 := by rw [List.length_map]; exact Nat.le_trans hl (by decide)
  refine s_ret (e_list (l_cons (e_as (e_tup (l_cons e_bool (l_cons (e_idxL rfl e_c0 l4 (ns_get h0)) l_nil))) S_nat) (l_cons (e_as (e_tup (l_cons e_bool (l_cons (e_idxL rfl (e_as (d' := I (ps.length - 1)) (e_sub (e_lenD rfl l4) e_c1 (by rw [List.length_map]; exact h0)) (by rw [List.length_map])) l4 (ns_get (Nat.sub_lt h0 Nat.one_pos))) l_nil))) S_nat) l_nil))) (q _)
theorem values_five_ok {ps : List Nat} (hb : sm_ ps < 2 ^ 800) (hb2 : val 2 ps < 2 ^ 900) (hl : ps.length ≤ 1000) (h0 : 0 < ps.length) : Fn (orc tbl f_within gl (n + 7)) R 49 [Ns w ps, I w] (.list ((V5 ps).map (S w))) := by
  have h4 : Fn (orc tbl f_within gl (n + 6)) R 48 [Ns w ps, I w] (.list ([S w (ps.getD 0 0 : Nat), S w (ps.getD (ps.length - 1) 0 : Nat)] ++ [S w (ev ps + od ps : Nat), S w ((ev ps : Int) - (od ps : Int))])) := by
    refine fn_of rfl rfl rfl fun Q q => ?_
    exact s_ret (e_catD (e_call (l_cons (e_var rfl) l_nil) (ends_of_ok hl h0)) (e_tolist rfl (e_call (l_cons (e_var rfl) (l_cons e_c0 (l_cons (e_var rfl) l_nil))) (both_values_ok hw hb hl)) (by show 2 ≤ 4096; decide)) (by show 4 ≤ 4096; decide)) (q _)
  refine fn_of rfl rfl rfl fun Q q => ?_
  exact s_ret (e_catD (e_call (l_cons (e_var rfl) (l_cons (e_var rfl) l_nil)) h4) (e_list (l_cons (e_call (l_cons (e_var rfl) (l_cons (e_var rfl) l_nil)) (value_two_ok hw hb2)) l_nil)) (by show 5 ≤ 4096; decide)) (q _)
omit hw in
theorem zip_map {as bs : List Int} : zipL (as.map (S w)) (bs.map (S w)) = (as.zip bs).map fun p => .tup [S w p.1, S w p.2] := by
  unfold zipL
  induction as generalizing bs with
  | nil => rfl
  | cons a as ih =>
    cases bs with
    | nil => rfl
    | cons b bs => exact congrArg (_ :: ·) ih
theorem products_ok {as bs : List Int} {f : D} (hl : as.length ≤ 1000) (hm : ∀ a b, (a, b) ∈ as.zip bs → Cv (orc tbl f_within gl (n + 1)) False f [N (2 ^ w) a.natAbs, N (2 ^ w) b.natAbs, I w] (N (2 ^ w) (a.natAbs * b.natAbs)) ∧ Bd (a.natAbs * b.natAbs)) :
    Fn (orc tbl f_within gl (n + 3)) R 46 [.list (as.map (S w)), .list (bs.map (S w)), I w, f] (.list ((as.zip bs).map fun p => S w (p.1 * p.2))) := by
  refine fn_of rfl rfl rfl fun Q q => ?_
  refine s_ret (e_comp2 (as := as.zip bs) (f1 := fun p => S w p.1) (f2 := fun p => S w p.2) (g := fun p => S w (p.1 * p.2)) (ρ1 := [.val (.list (as.map (S w))), .val (.list (bs.map (S w))), .val (I w), .val f]) (fun Z z => it_zip (e_var rfl) (e_var rfl) Z (by rw [zip_map]; exact z)) [.val f, .val (I w)] (fun Z z => z) (Nat.le_trans (by rw [List.length_zip]; exact Nat.min_le_left _ _) (Nat.le_trans hl (by decide))) fun p hp => ⟨_, e_call (l_cons (e_var rfl) (l_cons (e_var rfl) (l_cons (e_var rfl) (l_cons (e_var rfl) l_nil)))) (s_mul_ok hw (hm p.1 p.2 hp).1 (hm p.1 p.2 hp).2)⟩) (q _)
end
end Mine.P

set_option autoImplicit false
set_option linter.all false
set_option exponentiation.threshold 2000
namespace Mine.P
open PySem
/-- what a value must do to count as a multiplication -/
noncomputable def MulC (C : Orc) (w : Nat) (f : D) : Prop := ∀ x y, x < 2 ^ 320 → y < 2 ^ 320 → Cv C False f [N (2 ^ w) x, N (2 ^ w) y, I w] (N (2 ^ w) (x * y))
theorem mul_bd {x y : Nat} (hx : x < 2 ^ 320) (hy : y < 2 ^ 320) : Bd (x * y) := by
  have := Nat.mul_lt_mul_of_lt_of_lt hx hy
  rw [← Nat.pow_add] at this
  exact Nat.lt_trans this (Nat.pow_lt_pow_right (by decide) (by decide))
theorem mem_sm {c : Nat} : ∀ {l : List Nat}, c ∈ l → c ≤ sm_ l
  | [], h => nomatch h
  | a :: l, h => (List.mem_cons.mp h).elim (fun q => q ▸ Nat.le_add_right _ _) fun q => Nat.le_trans (mem_sm q) (Nat.le_add_left _ _)
section
variable {n w : Nat} {R : Prop} (hw : W w)
include hw
set_option maxHeartbeats 1000000 in
theorem from_five_ok {c0 c1 c2 c3 c4 : Nat} (hc : c0 + c1 + c2 + c3 + c4 < 2 ^ 800) {pl mi tw : Int} (hp : pl = c0 + c1 + c2 + c3 + c4) (hm : mi = c0 - c1 + c2 - c3 + c4) (ht : tw = c0 + 2 * c1 + 4 * c2 + 8 * c3 + 16 * c4) :
    Fn (orc tbl f_within gl (n + 5)) R 44 [S w c0, S w pl, S w mi, S w tw, S w c4, I w] (Ns w [c0, c1, c2, c3, c4]) := by
  refine fn_of rfl rfl rfl fun Q q => ?_
  subst hp hm ht
  have h3 : 3 < 2 ^ w := Nat.lt_of_lt_of_le (by decide) hw.b4
  have h2 : 2 < 2 ^ w := Nat.lt_of_lt_of_le (by decide) hw.b4
  have zd : ∀ z : Int, z.natAbs ≤ 100 * (c0 + c1 + c2 + c3 + c4) → Zd 900 z := fun z h => Nat.lt_of_le_of_lt h (Nat.lt_trans (Nat.mul_lt_mul_of_pos_left hc (by decide)) (by
    rw [show 2 ^ 900 = 2 ^ 100 * 2 ^ 800 by rw [← Nat.pow_add]]
    exact Nat.mul_lt_mul_of_pos_right (by decide) (Nat.two_pow_pos _)))
  have ss : ∀ (a b z : Int), a - b = z → a.natAbs ≤ 100 * (c0 + c1 + c2 + c3 + c4) → b.natAbs ≤ 100 * (c0 + c1 + c2 + c3 + c4) → Fn (orc tbl f_within gl (n + 4)) R 35 [S w a, S w b, I w] (S w z) := fun a b z e ha hb => e ▸ s_sub_ok hw (zd a ha) (zd b hb)
  refine s_asg (e_call (l_cons (e_call (l_cons (e_var rfl) (l_cons (e_var rfl) (l_cons (e_var rfl) l_nil))) (ss _ _ (((3 : Nat) : Int) * (c1 + c2 + 3 * c3 + 5 * c4)) (by (first | grind | omega)) (by (first | grind | omega)) (by (first | grind | omega)))) (l_cons e_c3 (l_cons (e_var rfl) l_nil))) (exact_small_ok hw (zd _ (by (first | grind | omega))) (by decide) h3)) rfl ?_
  refine s_asg (e_call (l_cons (e_call (l_cons (e_var rfl) (l_cons (e_var rfl) (l_cons (e_var rfl) l_nil))) (ss _ _ (((2 : Nat) : Int) * (c1 + c3)) (by (first | grind | omega)) (by (first | grind | omega)) (by (first | grind | omega)))) (l_cons e_c2 (l_cons (e_var rfl) l_nil))) (exact_small_ok hw (zd _ (by (first | grind | omega))) (by decide) h2)) rfl ?_
  refine s_asg (e_call (l_cons (e_var rfl) (l_cons (e_var rfl) (l_cons (e_var rfl) l_nil))) (ss _ _ (c1 + c2 + c3 + c4) (by (first | grind | omega)) (by (first | grind | omega)) (by (first | grind | omega)))) rfl ?_
  refine s_asg (e_call (l_cons (e_call (l_cons (e_var rfl) (l_cons (e_var rfl) (l_cons (e_var rfl) l_nil))) (ss _ _ (((2 : Nat) : Int) * (c3 + 2 * c4)) (by (first | grind | omega)) (by (first | grind | omega)) (by (first | grind | omega)))) (l_cons e_c2 (l_cons (e_var rfl) l_nil))) (exact_small_ok hw (zd _ (by (first | grind | omega))) (by decide) h2)) rfl ?_
  refine s_asg (e_call (l_cons (e_call (l_cons (e_var rfl) (l_cons (e_var rfl) (l_cons (e_var rfl) l_nil))) (ss _ _ (c2 + c4) (by (first | grind | omega)) (by (first | grind | omega)) (by (first | grind | omega)))) (l_cons (e_var rfl) (l_cons (e_var rfl) l_nil))) (ss _ _ (c2 : Int) (by (first | grind | omega)) (by (first | grind | omega)) (by (first | grind | omega)))) rfl ?_
  refine s_asg (e_call (l_cons (e_var rfl) (l_cons (e_call (l_cons (e_var rfl) (l_cons e_c1 (l_cons (e_var rfl) l_nil))) (scaled_ok hw ((zd (c4 : Int) (by (first | grind | omega))).bd (by decide)) (by decide))) (l_cons (e_var rfl) l_nil))) (ss _ _ (c3 : Int) (by (first | grind | omega)) (by (first | grind | omega)) (by (first | grind | omega)))) rfl ?_
  refine s_asg (e_call (l_cons (e_var rfl) (l_cons (e_var rfl) (l_cons (e_var rfl) l_nil))) (ss _ _ (c1 : Int) (by (first | grind | omega)) (by (first | grind | omega)) (by (first | grind | omega)))) rfl ?_
  refine s_ret (e_comp1 (as := [c0, c1, c2, c3, c4]) (f := fun c : Nat => S w c) (g := N (2 ^ w)) (it_seqT (e_tup (l_cons (e_var rfl) (l_cons (e_var rfl) (l_cons (e_var rfl) (l_cons (e_var rfl) (l_cons (e_var rfl) l_nil)))))))  [] (fun Z z => z) (by show 5 ≤ 4096; decide) fun c _ => ⟨_, e_call (l_cons (e_var rfl) l_nil) (natural_ok hw)⟩) (q _)
theorem joined_five_ok {c0 c1 c2 c3 c4 s : Nat} (hc : c0 + c1 + c2 + c3 + c4 < 2 ^ 800) {pl mi tw : Int} (hp : pl = c0 + c1 + c2 + c3 + c4) (hm : mi = c0 - c1 + c2 - c3 + c4) (ht : tw = c0 + 2 * c1 + 4 * c2 + 8 * c3 + 16 * c4) (hb : Bd (val ((2 ^ w) ^ s) [c0, c1, c2, c3, c4])) (hs : s ≤ 400) :
    Fn (orc tbl f_within gl (n + 6)) R 50 [.list [S w c0, S w c4, S w pl, S w mi, S w tw], I s, I w] (N (2 ^ w) (val ((2 ^ w) ^ s) [c0, c1, c2, c3, c4])) := by
  refine fn_of rfl rfl rfl fun Q q => ?_
  have h5 : 5 ≤ 4096 := by decide
  have b8 : ∀ {z}, z ≤ c0 + c1 + c2 + c3 + c4 → Bd z := fun h => (Nat.lt_trans (Nat.lt_of_le_of_lt h hc) (Nat.pow_lt_pow_right (by decide) (by decide)) : _ < 2 ^ 1000)
  have hs5 : sm_ [c0, c1, c2, c3, c4] = c0 + c1 + c2 + c3 + c4 := by
    show c0 + (c1 + (c2 + (c3 + (c4 + 0)))) = _
    rw [Nat.add_zero, Nat.add_assoc, Nat.add_assoc, Nat.add_assoc]
  refine s_ret (e_call (l_cons (e_call (l_cons (e_idxL rfl e_c0 h5 rfl) (l_cons (e_idxL rfl e_c2 h5 rfl) (l_cons (e_idxL rfl e_c3 h5 rfl) (l_cons (e_idxL rfl e_c4 h5 rfl) (l_cons (e_idxL rfl e_c1 h5 rfl) (l_cons (e_var rfl) l_nil)))))) (from_five_ok hw hc hp hm ht)) (l_cons (e_var rfl) (l_cons (e_var rfl) l_nil))) (recomposed_ok hw hb (fun c h => b8 (hs5 ▸ mem_sm h)) (by show 5 * s ≤ 2000; (first | grind | omega)) (by show 5 ≤ 1000; decide) (Nat.le_trans hs (by decide)))) (q _)
theorem common_size_ok {x y m k : Nat} (hx : (dg (2 ^ w) x).length ≤ 300) (hy : (dg (2 ^ w) y).length ≤ 300) (hm : m ≤ 4) (hm0 : m ≠ 0) (hk : k ≤ 4) (hk0 : k ≠ 0) : ∃ s, s ≤ 400 ∧ Fn (orc tbl f_within gl (n + 2)) R 51 [N (2 ^ w) x, N (2 ^ w) y, I m, I k] (I s) := by
  have lx := Nat.le_trans hx (by decide : 300 ≤ 4096)
  have ly := Nat.le_trans hy (by decide : 300 ≤ 4096)
  have hd : ∀ {l m : Nat}, l ≤ 300 → m ≤ 4 → (l + m - 1) / m ≤ 400 := fun h1 h2 => Nat.le_trans (Nat.div_le_self _ _) (by (first | grind | omega))
  refine ⟨_, Nat.max_le.mpr ⟨Nat.max_le.mpr ⟨hd hx hm, hd hy hk⟩, (by decide : 1 ≤ 400)⟩, fn_of rfl rfl rfl fun Q q => ?_⟩
  exact s_ret (e_max3 (l_cons (e_call (l_cons (e_len rfl lx) (l_cons (e_var rfl) l_nil)) (piece_size_ok hw (Nat.le_trans hx (by decide)) (Nat.le_trans hm (by decide)) hm0)) (l_cons (e_call (l_cons (e_len rfl ly) (l_cons (e_var rfl) l_nil)) (piece_size_ok hw (Nat.le_trans hy (by decide)) (Nat.le_trans hk (by decide)) hk0)) (l_cons e_c1 l_nil)))) (q _)
end
end Mine.P

set_option autoImplicit false
set_option linter.all false
set_option exponentiation.threshold 2000
namespace Mine.P
open PySem
theorem v5_bd {ps : List Nat} (h1 : sm_ ps < 2 ^ 310) (h2 : val 2 ps < 2 ^ 320) : ∀ a ∈ V5 ps, a.natAbs < 2 ^ 320 := by
  have h1 : sm_ ps < 2 ^ 320 := Nat.lt_trans h1 (Nat.pow_lt_pow_right (by decide) (by decide))
  have eo := ev_od ps
  have b1 : ∀ {k}, ps.getD k 0 < 2 ^ 320 := Nat.lt_of_le_of_lt le_sm h1
  intro a ha
  rcases List.mem_cons.mp ha with rfl | ha
  · exact b1
  rcases List.mem_cons.mp ha with rfl | ha
  · exact b1
  rcases List.mem_cons.mp ha with rfl | ha
  · rw [eo]; exact h1
  rcases List.mem_cons.mp ha with rfl | ha
  · exact Nat.lt_of_le_of_lt (show ((ev ps : Int) - od ps).natAbs ≤ sm_ ps by (first | grind | omega)) h1
  · rw [List.mem_singleton.mp ha]; exact h2
theorem part_le {B i x : Nat} : x / B ^ i % B ≤ x := Nat.le_trans (Nat.mod_le _ _) (Nat.div_le_self _ _)
theorem of_le3 {x : Nat} (h : x < 2 ^ 300) {k : Nat} (hk : 300 < k) : x < 2 ^ k := Nat.lt_trans h (Nat.pow_lt_pow_right (by decide) hk)
theorem sm15 {x z : Nat} (h : x < 2 ^ 300) (hz : z ≤ 16 * x) : z < 2 ^ 310 := Nat.lt_of_le_of_lt hz (Nat.lt_of_lt_of_le (Nat.mul_lt_mul_of_pos_left h (by decide)) (by rw [show 2 ^ 310 = 2 ^ 10 * 2 ^ 300 by rw [← Nat.pow_add]]; exact Nat.mul_le_mul_right _ (by decide)))
theorem pcs_bd {B x m : Nat} (hx : x < 2 ^ 300) (hm : m ≤ 3) : sm_ (pcs B m x) < 2 ^ 310 ∧ val 2 (pcs B m x) < 2 ^ 310 := by
  have h0 := part_le (B := B) (i := 0) (x := x)
  have h1 := part_le (B := B) (i := 1) (x := x)
  have h2 := part_le (B := B) (i := 2) (x := x)
  have ht : x / B ^ m ≤ x := Nat.div_le_self _ _
  match m, hm, ht with
  | 0, _, ht => exact ⟨sm15 hx (show x / B ^ 0 + 0 ≤ _ by (first | grind | omega)), sm15 hx (show x / B ^ 0 + 2 * 0 ≤ _ by (first | grind | omega))⟩
  | 1, _, ht => exact ⟨sm15 hx (show x / B ^ 0 % B + (x / B ^ 1 + 0) ≤ _ by (first | grind | omega)), sm15 hx (show x / B ^ 0 % B + 2 * (x / B ^ 1 + 2 * 0) ≤ _ by (first | grind | omega))⟩
  | 2, _, ht => exact ⟨sm15 hx (show x / B ^ 0 % B + (x / B ^ 1 % B + (x / B ^ 2 + 0)) ≤ _ by (first | grind | omega)), sm15 hx (show x / B ^ 0 % B + 2 * (x / B ^ 1 % B + 2 * (x / B ^ 2 + 2 * 0)) ≤ _ by (first | grind | omega))⟩
  | 3, _, ht => exact ⟨sm15 hx (show x / B ^ 0 % B + (x / B ^ 1 % B + (x / B ^ 2 % B + (x / B ^ 3 + 0))) ≤ _ by (first | grind | omega)), sm15 hx (show x / B ^ 0 % B + 2 * (x / B ^ 1 % B + 2 * (x / B ^ 2 % B + 2 * (x / B ^ 3 + 2 * 0))) ≤ _ by (first | grind | omega))⟩
section
variable {n w : Nat} {R : Prop} (hw : W w)
include hw
theorem len300 {x : Nat} (hx : x < 2 ^ 300) : (dg (2 ^ w) x).length ≤ 300 := dg_len hw.b2 (Nat.lt_of_lt_of_le hx (Nat.pow_le_pow_left hw.b2 300))
/-- both sides in pieces, the products of the values, and the parts of the product found again -/
theorem toom_ready {f : D} {m k s x y c0 c1 c2 c3 c4 : Nat} {pl mi tw : Int} (hm : m ≤ 3) (hk : k ≤ 3) (hs : s ≤ 400) (hx : x < 2 ^ 300) (hy : y < 2 ^ 300) (hf : MulC (orc tbl f_within gl (n + 5)) w f)
    (hV : ((V5 (pcs ((2 ^ w) ^ s) m x)).zip (V5 (pcs ((2 ^ w) ^ s) k y))).map (fun p => S w (p.1 * p.2)) = [S w c0, S w c4, S w pl, S w mi, S w tw])
    (hp : pl = c0 + c1 + c2 + c3 + c4) (hmi : mi = c0 - c1 + c2 - c3 + c4) (ht : tw = c0 + 2 * c1 + 4 * c2 + 8 * c3 + 16 * c4) (hv : val ((2 ^ w) ^ s) [c0, c1, c2, c3, c4] = x * y) (hc : c0 + c1 + c2 + c3 + c4 = sm_ (pcs ((2 ^ w) ^ s) m x) * sm_ (pcs ((2 ^ w) ^ s) k y)) :
    Fn (orc tbl f_within gl (n + 7)) R 37 [N (2 ^ w) x, I (m + 1), I s] (Ns w (pcs ((2 ^ w) ^ s) m x)) ∧ Fn (orc tbl f_within gl (n + 7)) R 49 [Ns w (pcs ((2 ^ w) ^ s) m x), I w] (.list ((V5 (pcs ((2 ^ w) ^ s) m x)).map (S w))) ∧
    Fn (orc tbl f_within gl (n + 7)) R 37 [N (2 ^ w) y, I (k + 1), I s] (Ns w (pcs ((2 ^ w) ^ s) k y)) ∧ Fn (orc tbl f_within gl (n + 7)) R 49 [Ns w (pcs ((2 ^ w) ^ s) k y), I w] (.list ((V5 (pcs ((2 ^ w) ^ s) k y)).map (S w))) ∧
    Fn (orc tbl f_within gl (n + 7)) R 46 [.list ((V5 (pcs ((2 ^ w) ^ s) m x)).map (S w)), .list ((V5 (pcs ((2 ^ w) ^ s) k y)).map (S w)), I w, f] (.list [S w c0, S w c4, S w pl, S w mi, S w tw]) ∧ Fn (orc tbl f_within gl (n + 7)) R 50 [.list [S w c0, S w c4, S w pl, S w mi, S w tw], I s, I w] (N (2 ^ w) (x * y)) := by
  obtain ⟨a1, a2⟩ := pcs_bd (B := (2 ^ w) ^ s) hx hm
  obtain ⟨b1, b2⟩ := pcs_bd (B := (2 ^ w) ^ s) hy hk
  have up : ∀ {z k}, 310 < k → z < 2 ^ 310 → z < 2 ^ k := fun h h2 => Nat.lt_trans h2 (Nat.pow_lt_pow_right (by decide) h)
  have hl : ∀ {B m x}, m ≤ 3 → (pcs B m x).length ≤ 1000 ∧ 0 < (pcs B m x).length := fun h => by
    unfold pcs
    rw [List.length_append, List.length_map, List.length_range, List.length_singleton]
    exact ⟨by (first | grind | omega), Nat.zero_lt_succ _⟩
  refine ⟨pieces_ok (n := n + 5) hw (of_le3 hx (by decide)) (Nat.le_trans hm (by decide)) (Nat.le_trans hs (by decide)), values_five_ok (n := n) hw (up (by decide) a1) (up (by decide) a2) (hl hm).1 (hl hm).2, pieces_ok (n := n + 5) hw (of_le3 hy (by decide)) (Nat.le_trans hk (by decide)) (Nat.le_trans hs (by decide)), values_five_ok (n := n) hw (up (by decide) b1) (up (by decide) b2) (hl hk).1 (hl hk).2, ?_, ?_⟩
  · rw [← hV]
    refine products_ok (n := n + 4) hw (by show 5 ≤ 1000; decide) fun a b h => ?_
    obtain ⟨h1, h2⟩ := List.of_mem_zip h
    have ha := v5_bd a1 (up (by decide) a2) a h1
    have hb := v5_bd b1 (up (by decide) b2) b h2
    exact ⟨hf _ _ ha hb, mul_bd ha hb⟩
  · rw [← hv]
    refine joined_five_ok (n := n + 1) hw ?_ hp hmi ht ?_ hs
    · rw [hc]
      have := Nat.mul_lt_mul_of_lt_of_lt a1 b1
      rw [← Nat.pow_add] at this
      exact Nat.lt_trans this (Nat.pow_lt_pow_right (by decide) (by decide))
    · rw [hv]; exact mul_bd (of_le3 hx (by decide)) (of_le3 hy (by decide))
omit hw in
theorem t3p (a b c d e f : Nat) : ((a + (c + 0) + (b + 0) : Nat) : Int) * ((d + (f + 0) + (e + 0) : Nat) : Int) = (a * d : Nat) + (a * e + b * d : Nat) + (a * f + b * e + c * d : Nat) + (b * f + c * e : Nat) + (c * f : Nat) := by simp only [Int.natCast_add, Int.natCast_mul]; grind
omit hw in
theorem t3m (a b c d e f : Nat) : (((a + (c + 0) : Nat) : Int) - ((b + 0 : Nat) : Int)) * (((d + (f + 0) : Nat) : Int) - ((e + 0 : Nat) : Int)) = (a * d : Nat) - (a * e + b * d : Nat) + (a * f + b * e + c * d : Nat) - (b * f + c * e : Nat) + (c * f : Nat) := by simp only [Int.natCast_add, Int.natCast_mul]; grind
omit hw in
theorem t3t (a b c d e f : Nat) : ((a + 2 * (b + 2 * (c + 2 * 0)) : Nat) : Int) * ((d + 2 * (e + 2 * (f + 2 * 0)) : Nat) : Int) = (a * d : Nat) + 2 * (a * e + b * d : Nat) + 4 * (a * f + b * e + c * d : Nat) + 8 * (b * f + c * e : Nat) + 16 * (c * f : Nat) := by simp only [Int.natCast_add, Int.natCast_mul]; grind
omit hw in
theorem t3v (B a b c d e f : Nat) : a * d + B * (a * e + b * d + B * (a * f + b * e + c * d + B * (b * f + c * e + B * (c * f + B * 0)))) = (a + B * (b + B * (c + B * 0))) * (d + B * (e + B * (f + B * 0))) := by grind
omit hw in
theorem t3c (a b c d e f : Nat) : a * d + (a * e + b * d) + (a * f + b * e + c * d) + (b * f + c * e) + c * f = (a + (b + (c + 0))) * (d + (e + (f + 0))) := by grind
omit hw in
theorem t4p (a b c d e f : Nat) : ((a + (c + 0) + (b + (d + 0)) : Nat) : Int) * ((e + 0 + (f + 0) : Nat) : Int) = (a * e : Nat) + (a * f + b * e : Nat) + (b * f + c * e : Nat) + (c * f + d * e : Nat) + (d * f : Nat) := by simp only [Int.natCast_add, Int.natCast_mul]; grind
omit hw in
theorem t4m (a b c d e f : Nat) : (((a + (c + 0) : Nat) : Int) - ((b + (d + 0) : Nat) : Int)) * (((e + 0 : Nat) : Int) - ((f + 0 : Nat) : Int)) = (a * e : Nat) - (a * f + b * e : Nat) + (b * f + c * e : Nat) - (c * f + d * e : Nat) + (d * f : Nat) := by simp only [Int.natCast_add, Int.natCast_mul]; grind
omit hw in
theorem t4t (a b c d e f : Nat) : ((a + 2 * (b + 2 * (c + 2 * (d + 2 * 0))) : Nat) : Int) * ((e + 2 * (f + 2 * 0) : Nat) : Int) = (a * e : Nat) + 2 * (a * f + b * e : Nat) + 4 * (b * f + c * e : Nat) + 8 * (c * f + d * e : Nat) + 16 * (d * f : Nat) := by simp only [Int.natCast_add, Int.natCast_mul]; grind
omit hw in
theorem t4v (B a b c d e f : Nat) : a * e + B * (a * f + b * e + B * (b * f + c * e + B * (c * f + d * e + B * (d * f + B * 0)))) = (a + B * (b + B * (c + B * (d + B * 0)))) * (e + B * (f + B * 0)) := by grind
omit hw in
theorem t4c (a b c d e f : Nat) : a * e + (a * f + b * e) + (b * f + c * e) + (c * f + d * e) + d * f = (a + (b + (c + (d + 0)))) * (e + (f + 0)) := by grind
theorem toom3_ok {f : D} {x y : Nat} (hx : x < 2 ^ 300) (hy : y < 2 ^ 300) (hf : MulC (orc tbl f_within gl (n + 5)) w f) : Fn (orc tbl f_within gl (n + 8)) R 52 [N (2 ^ w) x, N (2 ^ w) y, I w, f] (N (2 ^ w) (x * y)) := by
  refine fn_of rfl rfl rfl fun Q q => ?_
  obtain ⟨s, hs, hcs⟩ := common_size_ok (n := n + 5) (R := R) (m := 3) (k := 3) hw (len300 hw hx) (len300 hw hy) (by decide) (by decide) (by decide) (by decide)
  have hx3 := val_pcs (B := (2 ^ w) ^ s) (x := x) 2
  have hy3 := val_pcs (B := (2 ^ w) ^ s) (x := y) 2
  obtain ⟨pa, va, pb, vb, pr, jo⟩ := toom_ready (n := n) (R := R) (f := f) (m := 2) (k := 2) (s := s) (x := x) (y := y) hw (by decide) (by decide) hs hx hy hf rfl (t3p _ _ _ _ _ _) (t3m _ _ _ _ _ _) (t3t _ _ _ _ _ _) ((t3v _ _ _ _ _ _ _).trans (congr (congrArg HMul.hMul hx3) hy3)) (t3c _ _ _ _ _ _)
  refine s_asg (e_call (l_cons (e_var rfl) (l_cons (e_var rfl) (l_cons e_c3 (l_cons e_c3 l_nil)))) hcs) rfl ?_
  refine s_asgL2 (sl_cons (e_call (l_cons (e_call (l_cons (e_var rfl) (l_cons e_c3 (l_cons (e_var rfl) l_nil))) pa) (l_cons (e_var rfl) l_nil)) va) rfl (sl_cons (e_call (l_cons (e_call (l_cons (e_var rfl) (l_cons e_c3 (l_cons (e_var rfl) l_nil))) pb) (l_cons (e_var rfl) l_nil)) vb) rfl sl_nil)) ?_
  exact s_ret (e_call (l_cons (e_call (l_cons (e_var rfl) (l_cons (e_var rfl) (l_cons (e_var rfl) (l_cons (e_var rfl) l_nil)))) pr) (l_cons (e_var rfl) (l_cons (e_var rfl) l_nil))) jo) (q _)
theorem toom42_core {f : D} {x y : Nat} (hx : x < 2 ^ 300) (hy : y < 2 ^ 300) (hf : MulC (orc tbl f_within gl (n + 5)) w f) {Q : Fl → MEnv → Prop} (q : ∀ ρ, Q (.ret (N (2 ^ w) (x * y))) ρ) : wpB (orc tbl f_within gl (n + 7)) f_toom42.body.tail R [.val (N (2 ^ w) x), .val (N (2 ^ w) y), .val (I w), .val f, .unset, .unset, .unset] Q := by
  obtain ⟨s, hs, hcs⟩ := common_size_ok (n := n + 5) (R := R) (m := 4) (k := 2) hw (len300 hw hx) (len300 hw hy) (by decide) (by decide) (by decide) (by decide)
  have hx3 := val_pcs (B := (2 ^ w) ^ s) (x := x) 3
  have hy3 := val_pcs (B := (2 ^ w) ^ s) (x := y) 1
  obtain ⟨pa, va, pb, vb, pr, jo⟩ := toom_ready (n := n) (R := R) (f := f) (m := 3) (k := 1) (s := s) (x := x) (y := y) hw (by decide) (by decide) hs hx hy hf rfl (t4p _ _ _ _ _ _) (t4m _ _ _ _ _ _) (t4t _ _ _ _ _ _) ((t4v _ _ _ _ _ _ _).trans (congr (congrArg HMul.hMul hx3) hy3)) (t4c _ _ _ _ _ _)
  refine s_asg (e_call (l_cons (e_var rfl) (l_cons (e_var rfl) (l_cons e_c4 (l_cons e_c2 l_nil)))) hcs) rfl ?_
  refine s_asgL2 (sl_cons (e_call (l_cons (e_call (l_cons (e_var rfl) (l_cons e_c4 (l_cons (e_var rfl) l_nil))) pa) (l_cons (e_var rfl) l_nil)) va) rfl (sl_cons (e_call (l_cons (e_call (l_cons (e_var rfl) (l_cons e_c2 (l_cons (e_var rfl) l_nil))) pb) (l_cons (e_var rfl) l_nil)) vb) rfl sl_nil)) ?_
  exact s_ret (e_call (l_cons (e_call (l_cons (e_var rfl) (l_cons (e_var rfl) (l_cons (e_var rfl) (l_cons (e_var rfl) l_nil)))) pr) (l_cons (e_var rfl) (l_cons (e_var rfl) l_nil))) jo) (q _)
theorem toom42_ok {f : D} {x y : Nat} (hx : x < 2 ^ 300) (hy : y < 2 ^ 300) (hf : MulC (orc tbl f_within gl (n + 5)) w f) (hf2 : MulC (orc tbl f_within gl (n + 6)) w f) : Fn (orc tbl f_within gl (n + 9)) R 53 [N (2 ^ w) x, N (2 ^ w) y, I w, f] (N (2 ^ w) (x * y)) := by
  have lx := Nat.le_trans (len300 hw hx) (by decide : 300 ≤ 4096)
  have ly := Nat.le_trans (len300 hw hy) (by decide : 300 ≤ 4096)
  refine fn_of rfl rfl rfl fun Q q => ?_
  refine s_if (e_lt (e_len rfl lx) (e_len rfl ly)) (fun h => ?_) fun h => s_end (toom42_core (n := n + 1) hw hx hy hf2 q)
  have h2 : Fn (orc tbl f_within gl (n + 8)) R 53 [N (2 ^ w) y, N (2 ^ w) x, I w, f] (N (2 ^ w) (x * y)) := by
    refine fn_of rfl rfl rfl fun Q q => ?_
    rw [Nat.mul_comm] at q
    exact s_ifF (e_lt (e_len rfl ly) (e_len rfl lx)) (Nat.lt_asymm h) (s_end (toom42_core (n := n) hw hy hx hf q))
  exact s_ret (e_call (l_cons (e_var rfl) (l_cons (e_var rfl) (l_cons (e_var rfl) (l_cons (e_var rfl) l_nil)))) h2) (q _)
end
end Mine.P

set_option autoImplicit false
set_option linter.all false
set_option exponentiation.threshold 2000
namespace Mine.P
open PySem
theorem glob_ok : ∀ n k, (orc tbl f_within gl n).glob k = gl k
  | 0, _ => rfl
  | n + 1, _ => rfl
theorem val_map_mul {B y : Nat} : ∀ l : List Nat, val B (l.map (· * y)) = val B l * y
  | [] => (Nat.zero_mul y).symm
  | a :: l => by
    show a * y + B * val B (l.map (· * y)) = (a + B * val B l) * y
    rw [val_map_mul l, Nat.add_mul, Nat.mul_assoc]
theorem mem_pcs {B m x p : Nat} (h : p ∈ pcs B m x) : p ≤ x := by
  unfold pcs at h
  rcases List.mem_append.mp h with h | h
  · obtain ⟨i, _, rfl⟩ := List.mem_map.mp h
    exact part_le
  · rw [List.mem_singleton.mp h]; exact Nat.div_le_self _ _
section
variable {C : Orc} {R : Prop} {ρ ρ1 ρ2 ρ3 : MEnv} {a b c e : ME} {p p1 p2 p3 i j k m n w t : Nat} {r body : List MS} {Q K : Fl → MEnv → Prop}
theorem it_none (he : Ev C False e ρ (.int (-1)) ρ1) (Z : List D → MEnv → Prop) (z : Z [] ρ1) : wpIt C (.range p [e] p1) False ρ Z := he _ ⟨by show (-1 : Int).natAbs ≤ 4096; decide, z⟩
theorem e_cutNil {v : Int} (h : ρ[i]? = some (.val (L []))) (hi : Ev C R e ρ (.int v) ρ1) : Ev C R (.cut i p (some e) none p1 p2) ρ (L []) ρ1 := fun Q q => by
  show pkVar ρ i fun p => wpE C e R ρ fun d ρ => pkGet ρ p fun x => cutP x (some d) none fun d => Q d ρ
  unfold pkVar; rw [h]
  refine hi _ ⟨Nat.zero_le _, ?_⟩
  show Q (.list (((([] : List Nat).map I).drop _).take _)) ρ1
  rw [List.map_nil, List.drop_nil, List.take_nil]; exact q
theorem e_mulZ {u v : Int} (ha : Ev C R a ρ (.int u) ρ1) (hb : Ev C R b ρ1 (.int v) ρ2) (h1 : small u) (h2 : small v) : Ev C R (.bin .Mult a b p) ρ (.int (u * v)) ρ2 := e_bin ha hb fun Q q => ⟨h1, h2, q⟩
theorem step_len {a b : Nat} (ha : a ≠ 0) (hb : b ≠ 0) : rangeN 0 (a : Int) (b : Int) = (a + b - 1) / b := by
  unfold rangeN
  rw [if_pos (by (first | grind | omega)), if_pos (by (first | grind | omega))]
  have e : ((a : Int) - 0 - 1) / (b : Int) + 1 = (((a - 1) / b + 1 : Nat) : Int) := by
    rw [show ((a : Int) - 0 - 1) = ((a - 1 : Nat) : Int) by (first | grind | omega)]; rfl
  rw [e, Int.toNat_natCast, show a + b - 1 = a - 1 + b by (first | grind | omega), Nat.add_div_right _ (Nat.pos_of_ne_zero hb)]
/-- range(0, m, n) -/
theorem s_forStep (J : Nat → MEnv → Prop) (h0 : Ev C False a ρ (I 0) ρ1) (h1 : Ev C False b ρ1 (I m) ρ2) (h2 : Ev C False c ρ2 (I n) ρ3) (hm : m ≤ 4096) (hn : n ≤ 4096) (hm0 : m ≠ 0) (hn0 : n ≠ 0) (hJ : J 0 ρ3) (h : ∀ k, k * n < m → ∀ ρ, J k ρ → Step C body Q (J (k + 1)) (ρ.set i (.val (I (k * n))))) (fin : ∀ ρ, J ((m + n - 1) / n) ρ → wpB C r R ρ Q) : wpB C (.for_ (.one i p) (.range p1 [a, b, c] p2) body p3 :: r) R ρ Q :=
  h0 _ (h1 _ (h2 _ ⟨by show (0 : Nat) ≤ 4096; decide, hm, hn, fun q => hn0 (Int.ofNat_eq_zero.mp q), fo_rule (tg := .one i p) (B := wpB C body False) (Q := SK C r R Q) J _ 0 (fun j d hj ρ q K k1 k2 => by
    rw [Nat.zero_add] at q k1
    have hl : (rangeL ((0 : Nat) : Int) (m : Int) (n : Int)).length = (m + n - 1) / n := by unfold rangeL; rw [List.length_map, List.length_range]; exact step_len hm0 hn0
    have hj2 : j < (m + n - 1) / n := hl ▸ (List.getElem?_eq_some_iff.mp hj).1
    have hlt : j * n < m := by
      have := (Nat.le_div_iff_mul_le (Nat.pos_of_ne_zero hn0)).mp hj2
      rw [Nat.succ_mul] at this; (first | grind | omega)
    have e : d = I (j * n) := by
      unfold rangeL at hj
      rw [List.getElem?_map, List.getElem?_range (by rw [show rangeN ((0 : Nat) : Int) (m : Int) (n : Int) = _ from step_len hm0 hn0]; exact hj2)] at hj
      cases hj
      show D.int (((0 : Nat) : Int) + (j : Int) * (n : Int)) = D.int _
      rw [show ((0 : Nat) : Int) = 0 from rfl, Int.zero_add]; rfl
    rw [e]
    exact h j hlt ρ q K k1 k2) (fun ρ q => fin ρ (by
    have hl : (rangeL ((0 : Nat) : Int) (m : Int) (n : Int)).length = (m + n - 1) / n := by unfold rangeL; rw [List.length_map, List.length_range]; exact step_len hm0 hn0
    rw [Nat.zero_add, hl] at q; exact q)) _ hJ⟩))
end
theorem ceil_ge {m n : Nat} (hn : n ≠ 0) : m ≤ (m + n - 1) / n * n := by
  have h1 := Nat.div_add_mod (m + n - 1) n
  have h2 := Nat.mod_lt (m + n - 1) (Nat.pos_of_ne_zero hn)
  rw [Nat.mul_comm] at h1; (first | grind | omega)
section
variable {n w : Nat} {R : Prop} (hw : W w)
include hw
theorem pieces_none {s : Nat} (hs0 : s ≠ 0) (hs : s ≤ 1000) : Fn (orc tbl f_within gl (n + 2)) R 37 [N (2 ^ w) 0, I 0, I s] (Ns w [0]) := by
  refine fn_of rfl rfl rfl fun Q q => ?_
  have hB := hw.b2
  have n1 := normal_ok (n := n) (R := R) hB (l := []) (Nat.zero_le _) (fun d h => nomatch h)
  refine s_asg (e_comp1 (as := ([] : List Nat)) (f := I) (g := I) (it_none (e_as (d' := .int (-1)) (e_subZ (e_var rfl) e_cint) rfl)) [.val (N (2 ^ w) 0), .val (I s)] (fun Z z => z) (Nat.zero_le _) fun i hi => nomatch hi) rfl ?_
  exact s_ret (e_catD (xs := []) (e_var rfl) (e_list (l_cons (e_call (l_cons (e_cutNil rfl (e_mulZ (u := -1) (e_as (e_subZ (e_var rfl) e_cint) rfl) (e_var rfl) (by show 1 < 2 ^ 256; exact one_sm) (Nat.lt_of_le_of_lt hs (Nat.lt_trans (by decide : 1000 < 2 ^ 20) (Nat.pow_lt_pow_right (by decide) (by decide)))))) l_nil) n1) l_nil)) (by show 1 ≤ 4096; decide)) (q _)
theorem by_slices_ok {f : D} {x y : Nat} (hx : x < 2 ^ 300) (hy : y < 2 ^ 300) (hf : MulC (orc tbl f_within gl (n + 5)) w f) (hf2 : MulC (orc tbl f_within gl (n + 6)) w f) : Fn (orc tbl f_within gl (n + 10)) R 54 [N (2 ^ w) x, N (2 ^ w) y, I w, f] (N (2 ^ w) (x * y)) := by
  have lx := len300 hw hx
  have ly := len300 hw hy
  have lx4 := Nat.le_trans lx (by decide : 300 ≤ 4096)
  have ly4 := Nat.le_trans ly (by decide : 300 ≤ 4096)
  refine fn_of rfl rfl rfl fun Q q => ?_
  by_cases hy0 : y = 0
  · subst hy0
    rw [Nat.mul_zero] at q
    exact s_ifT (e_eq (e_len rfl ly4) e_c0) rfl (s_ret (e_list l_nil) (q _))
  have hlp : 0 < (dg (2 ^ w) y).length := List.length_pos_iff.mpr (dg_ne hw.b2 hy0)
  refine s_ifF (e_eq (e_len rfl ly4) e_c0) (Nat.ne_of_gt hlp) (s_end ?_)
  have k2 : ∀ {z}, z ≤ 2000 → z < 2 ^ 256 := fun h => Nat.lt_of_le_of_lt h (Nat.lt_trans (by decide : 2000 < 2 ^ 20) (Nat.pow_lt_pow_right (by decide) (by decide)))
  have hs6 : 2 * (dg (2 ^ w) y).length ≤ 600 := Nat.mul_le_mul_left 2 ly
  have hs0 : 2 * (dg (2 ^ w) y).length ≠ 0 := Nat.ne_of_gt (Nat.mul_pos (by decide) hlp)
  refine s_asg (e_mul e_c2 (e_len rfl ly4) (k2 (by decide)) (k2 (Nat.le_trans ly (by decide)))) rfl ?_
  refine s_asg (e_call (l_cons (e_len rfl lx4) (l_cons (e_var rfl) l_nil)) (piece_size_ok hw (Nat.le_trans lx (by decide)) (Nat.le_trans hs6 (by decide)) hs0)) rfl ?_
  have hxy := mul_bd (of_le3 hx (by decide : 300 < 320)) (of_le3 hy (by decide : 300 < 320))
  generalize hS : 2 * (dg (2 ^ w) y).length = S at hs6 hs0 ⊢
  have fin : ∀ (ps : List Nat) {R : Prop}, val ((2 ^ w) ^ S) ps = x → (∀ p ∈ ps, p < 2 ^ 300) → ps.length ≤ 300 → ps.length * S ≤ 2000 → Fn (orc tbl f_within gl (n + 9)) R 45 [.list (ps.map fun p => N (2 ^ w) (p * y)), I S, I w] (N (2 ^ w) (x * y)) := by
    intro ps R hv hp hl hls
    have rc := recomposed_ok (n := n + 6) (R := R) (cs := ps.map (· * y)) (s := S) hw (by rw [val_map_mul, hv]; exact hxy) (fun c hc => by
      obtain ⟨p, hp', rfl⟩ := List.mem_map.mp hc
      exact mul_bd (of_le3 (hp p hp') (by decide)) (of_le3 hy (by decide))) (by rw [List.length_map]; exact hls) (by rw [List.length_map]; exact Nat.le_trans hl (by decide)) (Nat.le_trans hs6 (by decide))
    rw [val_map_mul, hv] at rc
    unfold Ns at rc
    rw [List.map_map] at rc
    exact rc
  have elt : ∀ p, p < 2 ^ 300 → Fn (orc tbl f_within gl (n + 9)) False 53 [N (2 ^ w) p, N (2 ^ w) y, I w, f] (N (2 ^ w) (p * y)) := fun p hp => toom42_ok hw hp hy hf hf2
  by_cases hx0 : x = 0
  · subst hx0
    have e : ((dg (2 ^ w) 0).length + S - 1) / S = 0 := Nat.div_eq_of_lt (by show 0 + S - 1 < S; (first | grind | omega))
    rw [e]
    refine s_ret (e_call (l_cons (e_comp1 (as := [0]) (f := N (2 ^ w)) (g := fun p => N (2 ^ w) (p * y)) (it_seq (e_call (l_cons (e_var rfl) (l_cons (e_var rfl) (l_cons (e_var rfl) l_nil))) (pieces_none hw hs0 (Nat.le_trans hs6 (by decide))))) [.val f, .val (N (2 ^ w) y), .val (I w)] (fun Z z => z) (by show 1 ≤ 4096; decide) fun p hp => ⟨_, e_call (l_cons (e_var rfl) (l_cons (e_var rfl) (l_cons (e_var rfl) (l_cons (e_var rfl) l_nil)))) (elt p (by rw [List.mem_singleton.mp hp]; exact hx))⟩) (l_cons (e_var rfl) (l_cons (e_var rfl) l_nil))) (fin [0] rfl (fun p hp => by rw [List.mem_singleton.mp hp]; exact hx) (by decide) (by show 1 * S ≤ 2000; (first | grind | omega)))) (q _)
  · have hlx : 0 < (dg (2 ^ w) x).length := List.length_pos_iff.mpr (dg_ne hw.b2 hx0)
    obtain ⟨m, hm⟩ : ∃ m, ((dg (2 ^ w) x).length + S - 1) / S = m + 1 := ⟨_, (Nat.sub_add_cancel (Nat.div_pos (show S ≤ _ by (first | grind | omega)) (Nat.pos_of_ne_zero hs0))).symm⟩
    have hmS : (m + 1) * S ≤ 900 := by rw [← hm]; exact Nat.le_trans (Nat.div_mul_le_self _ _) (by (first | grind | omega))
    have hm3 : m + 1 ≤ 300 := by rw [← hm]; exact Nat.div_le_of_le_mul (by
      have := Nat.mul_le_mul_left S lx
      have h1 : 1 * 300 ≤ S * 300 := Nat.mul_le_mul_right 300 (Nat.pos_of_ne_zero hs0)
      have h2 := Nat.mul_le_mul_right S lx
      have : S * (dg (2 ^ w) x).length ≥ (dg (2 ^ w) x).length := Nat.le_mul_of_pos_left _ (Nat.pos_of_ne_zero hs0)
      (first | grind | omega))
    have hpl : (pcs ((2 ^ w) ^ S) m x).length = m + 1 := by unfold pcs; rw [List.length_append, List.length_map, List.length_range]; rfl
    rw [hm]
    refine s_ret (e_call (l_cons (e_comp1 (as := pcs ((2 ^ w) ^ S) m x) (f := N (2 ^ w)) (g := fun p => N (2 ^ w) (p * y)) (it_seq (e_call (l_cons (e_var rfl) (l_cons (e_var rfl) (l_cons (e_var rfl) l_nil))) (pieces_ok hw (of_le3 hx (by decide)) (by (first | grind | omega)) (Nat.le_trans hs6 (by decide))))) [.val f, .val (N (2 ^ w) y), .val (I w)] (fun Z z => z) (by rw [hpl]; exact Nat.le_trans hm3 (by decide)) fun p hp => ⟨_, e_call (l_cons (e_var rfl) (l_cons (e_var rfl) (l_cons (e_var rfl) (l_cons (e_var rfl) l_nil)))) (elt p (Nat.lt_of_le_of_lt (mem_pcs hp) hx))⟩) (l_cons (e_var rfl) (l_cons (e_var rfl) l_nil))) (fin (pcs ((2 ^ w) ^ S) m x) (val_pcs m) (fun p hp => Nat.lt_of_le_of_lt (mem_pcs hp) hx) (by rw [hpl]; exact hm3) (by rw [hpl]; exact Nat.le_trans hmS (by decide)))) (q _)
end
end Mine.P

set_option autoImplicit false
set_option linter.all false
set_option exponentiation.threshold 2000
namespace Mine.P
open PySem
theorem of_le4 {x : Nat} (h : x < 2 ^ 320) {k : Nat} (hk : 320 < k) : x < 2 ^ k := Nat.lt_trans h (Nat.pow_lt_pow_right (by decide) hk)
theorem len320 {w x : Nat} (hw : W w) (hx : x < 2 ^ 320) : (dg (2 ^ w) x).length ≤ 320 := dg_len hw.b2 (Nat.lt_of_lt_of_le hx (Nat.pow_le_pow_left hw.b2 320))
noncomputable def ad (x y : Nat) : Nat := if x < y then y - x else x - y
theorem ad_le {x y : Nat} : ad x y ≤ x ∨ ad x y ≤ y := by
  unfold ad; split
  · exact .inr (Nat.sub_le _ _)
  · exact .inl (Nat.sub_le _ _)
theorem kar_id {P a b c d : Nat} : a * c + P * (if (!(decide (a < b) == decide (c < d))) = true then a * c + b * d + ad a b * ad c d else a * c + b * d - ad a b * ad c d) + P ^ 2 * (b * d) = (a + P * b) * (c + P * d) := by
  have key : (if (!(decide (a < b) == decide (c < d))) = true then a * c + b * d + ad a b * ad c d else a * c + b * d - ad a b * ad c d) = a * d + b * c := by
    unfold ad
    by_cases h1 : a < b <;> by_cases h2 : c < d
    · obtain ⟨u, rfl⟩ := Nat.exists_eq_add_of_lt h1
      obtain ⟨v, rfl⟩ := Nat.exists_eq_add_of_lt h2
      rw [decide_eq_true h1, decide_eq_true h2, if_pos h1, if_pos h2, show a + u + 1 - a = u + 1 by (first | grind | omega), show c + v + 1 - c = v + 1 by (first | grind | omega)]
      exact Nat.sub_eq_of_eq_add (by grind)
    · obtain ⟨u, rfl⟩ := Nat.exists_eq_add_of_lt h1
      obtain ⟨v, rfl⟩ := Nat.exists_eq_add_of_le (Nat.le_of_not_lt h2)
      rw [decide_eq_true h1, decide_eq_false h2, if_pos h1, if_neg h2, show a + u + 1 - a = u + 1 by (first | grind | omega), show d + v - d = v by (first | grind | omega)]
      exact (if_pos rfl).trans (by grind)
    · obtain ⟨u, rfl⟩ := Nat.exists_eq_add_of_le (Nat.le_of_not_lt h1)
      obtain ⟨v, rfl⟩ := Nat.exists_eq_add_of_lt h2
      rw [decide_eq_false h1, decide_eq_true h2, if_neg h1, if_pos h2, show b + u - b = u by (first | grind | omega), show c + v + 1 - c = v + 1 by (first | grind | omega)]
      exact (if_pos rfl).trans (by grind)
    · obtain ⟨u, rfl⟩ := Nat.exists_eq_add_of_le (Nat.le_of_not_lt h1)
      obtain ⟨v, rfl⟩ := Nat.exists_eq_add_of_le (Nat.le_of_not_lt h2)
      rw [decide_eq_false h1, decide_eq_false h2, if_neg h1, if_neg h2, show b + u - b = u by (first | grind | omega), show d + v - d = v by (first | grind | omega)]
      exact Nat.sub_eq_of_eq_add (by grind)
  rw [key]; grind
theorem kar_le {a b c d : Nat} (h : (!(decide (a < b) == decide (c < d))) = false) : ad a b * ad c d ≤ a * c + b * d := by
  unfold ad
  by_cases h1 : a < b <;> by_cases h2 : c < d
  · rw [if_pos h1, if_pos h2]
    exact Nat.le_trans (Nat.mul_le_mul (Nat.sub_le _ _) (Nat.sub_le _ _)) (Nat.le_add_left _ _)
  · rw [decide_eq_true h1, decide_eq_false h2] at h; cases h
  · rw [decide_eq_false h1, decide_eq_true h2] at h; cases h
  · rw [if_neg h1, if_neg h2]
    exact Nat.le_trans (Nat.mul_le_mul (Nat.sub_le _ _) (Nat.sub_le _ _)) (Nat.le_add_right _ _)
section
variable {n w : Nat} {R : Prop} (hw : W w)
include hw
theorem difference_ok {x y : Nat} (hx : Bd x) (hy : Bd y) : Fn (orc tbl f_within gl (n + 3)) R 21 [N (2 ^ w) x, N (2 ^ w) y, I w] (.tup [.bool (decide (x < y)), N (2 ^ w) (ad x y)]) := by
  refine fn_of rfl rfl rfl fun Q q => ?_
  unfold ad at q
  refine s_if (e_ltZ (e_call (l_cons (e_var rfl) (l_cons (e_var rfl) l_nil)) (compare_ok hw hx hy)) e_cint) (fun hc => ?_) fun hc => s_end ?_
  · have hlt : x < y := Nat.lt_of_not_le fun h => cmpN_neg h hc
    rw [decide_eq_true hlt, if_pos hlt] at q
    exact s_ret (e_tup (l_cons e_bool (l_cons (e_call (l_cons (e_var rfl) (l_cons (e_var rfl) (l_cons (e_var rfl) l_nil))) (sub_ok hw hy (Nat.le_of_lt hlt))) l_nil))) (q _)
  · have hle : ¬ x < y := fun h => hc (cmpN_neg' h)
    rw [decide_eq_false hle, if_neg hle] at q
    exact s_ret (e_tup (l_cons e_bool (l_cons (e_call (l_cons (e_var rfl) (l_cons (e_var rfl) (l_cons (e_var rfl) l_nil))) (sub_ok hw hx (Nat.le_of_not_lt hle))) l_nil))) (q _)
theorem put_together_ok {l m h s z : Nat} (hl : Bd l) (hm : Bd m) (hh : Bd h) (hlm : Bd (l + (2 ^ w) ^ s * m)) (hs : s ≤ 1000) (hz : l + (2 ^ w) ^ s * m + ((2 ^ w) ^ s) ^ 2 * h = z) : Fn (orc tbl f_within gl (n + 3)) R 22 [N (2 ^ w) l, N (2 ^ w) m, N (2 ^ w) h, I s, I w] (N (2 ^ w) z) := by
  refine fn_of rfl rfl rfl fun Q q => ?_
  have h2 := add_at_ok (n := n) (R := R) hw hlm hh (s := 2 * s) (Nat.mul_le_mul_left 2 hs)
  rw [Nat.mul_comm 2 s, Nat.pow_mul, hz, Nat.mul_comm s 2] at h2
  exact s_ret (e_call (l_cons (e_call (l_cons (e_var rfl) (l_cons (e_var rfl) (l_cons (e_var rfl) (l_cons (e_var rfl) l_nil)))) (add_at_ok hw hl hm (Nat.le_trans hs (by decide)))) (l_cons (e_var rfl) (l_cons (e_mul e_c2 (e_var rfl) (by decide) (Nat.lt_of_le_of_lt hs (Nat.lt_trans (by decide : 1000 < 2 ^ 20) (Nat.pow_lt_pow_right (by decide) (by decide))))) (l_cons (e_var rfl) l_nil)))) h2) (q _)
theorem middle_ok {l h a : Nat} {t : Bool} (hl : Bd l) (hh : Bd h) (hlh : Bd (l + h)) (ha : Bd a) (hle : t = false → a ≤ l + h) : Fn (orc tbl f_within gl (n + 3)) R 23 [N (2 ^ w) l, N (2 ^ w) h, .bool t, N (2 ^ w) a, I w] (N (2 ^ w) (if t = true then l + h + a else l + h - a)) := by
  refine fn_of rfl rfl rfl fun Q q => ?_
  refine s_asg (e_call (l_cons (e_var rfl) (l_cons (e_var rfl) (l_cons (e_var rfl) l_nil))) (add_ok hw hl hh)) rfl ?_
  have hd : ∀ {t : Bool}, (D.bool t) = .bool (decide (t = true)) := by intro t; cases t <;> rfl
  cases t with
  | true => exact s_ret (e_iteT (g := true = true) (e_as (e_var rfl) hd) rfl (e_call (l_cons (e_var rfl) (l_cons (e_var rfl) (l_cons (e_var rfl) l_nil))) (add_ok hw hlh ha))) (q _)
  | false => exact s_ret (e_iteF (g := false = true) (e_as (e_var rfl) hd) (by decide) (e_call (l_cons (e_var rfl) (l_cons (e_var rfl) (l_cons (e_var rfl) l_nil))) (sub_ok hw hlh (hle rfl)))) (q _)
theorem sum_bd {x y : Nat} (hx : x < 2 ^ 700) (hy : y < 2 ^ 700) : Bd (x + y) := Nat.lt_of_lt_of_le (Nat.add_lt_add hx hy) (by rw [← Nat.two_mul, ← Nat.pow_succ']; exact Nat.pow_le_pow_right (by decide) (by decide))
theorem mul_700 {x y : Nat} (hx : x < 2 ^ 320) (hy : y < 2 ^ 320) : x * y < 2 ^ 700 := by
  have := Nat.mul_lt_mul_of_lt_of_lt hx hy
  rw [← Nat.pow_add] at this
  exact Nat.lt_trans this (Nat.pow_lt_pow_right (by decide) (by decide))
/-- the sum so far of a product taken by slices -/
theorem slice_step {x y l k : Nat} : x % (2 ^ w) ^ (k * l) * y + (2 ^ w) ^ (k * l) * (x / (2 ^ w) ^ (k * l) % (2 ^ w) ^ (k * l + l - k * l) * y) = x % (2 ^ w) ^ ((k + 1) * l) * y := by
  rw [Nat.add_sub_cancel_left, Nat.add_mul k 1 l, Nat.one_mul, Nat.pow_add, Nat.mod_mul, Nat.add_mul, Nat.mul_assoc]
set_option maxHeartbeats 1000000 in
theorem kar_core {m : Nat} {R : Prop} {x y least : Nat} (ih : ∀ {R : Prop} {a b : Nat}, (dg (2 ^ w) a).length + (dg (2 ^ w) b).length + 1 ≤ (dg (2 ^ w) x).length + (dg (2 ^ w) y).length → a < 2 ^ 320 → b < 2 ^ 320 → Fn (orc tbl f_within gl (m + 5)) R 24 [N (2 ^ w) a, N (2 ^ w) b, I w, I least, .fn 25] (N (2 ^ w) (a * b)))
    (hle : (dg (2 ^ w) y).length ≤ (dg (2 ^ w) x).length) (hx : x < 2 ^ 320) (hy : y < 2 ^ 320) {Q : Fl → MEnv → Prop} (q : ∀ ρ, Q (.ret (N (2 ^ w) (x * y))) ρ) :
    wpB (orc tbl f_within gl (m + 5)) f_mul_karatsuba.body.tail R ([.val (N (2 ^ w) x), .val (N (2 ^ w) y), .val (I w), .val (I least), .val (.fn 25)] ++ List.replicate 14 .unset) Q := by
  have hB := hw.b2
  have lx := len320 hw hx
  have ly := len320 hw hy
  have lx4 := Nat.le_trans lx (by decide : 320 ≤ 4096)
  have ly4 := Nat.le_trans ly (by decide : 320 ≤ 4096)
  have bx : Bd x := of_le4 hx (by decide)
  have by' : Bd y := of_le4 hy (by decide)
  have up : ∀ {z}, z < 2 ^ 320 → Bd z := fun h => of_le4 h (by decide)
  have k2 : ∀ {z}, z ≤ 2000 → z < 2 ^ 256 := fun h => Nat.lt_of_le_of_lt h (Nat.lt_trans (by decide : 2000 < 2 ^ 20) (Nat.pow_lt_pow_right (by decide) (by decide)))
  have bxy : ∀ {z}, z ≤ x * y → Bd z := fun h => (Nat.lt_trans (Nat.lt_of_le_of_lt h (mul_700 hw hx hy)) (Nat.pow_lt_pow_right (by decide) (by decide)) : _ < 2 ^ 1000)
  refine s_if (e_lt (e_len rfl ly4) (e_max (l_cons (e_var rfl) (l_cons (e_glob (glob_ok _ 1)) l_nil)))) (fun _ => s_ret (e_callv rfl (l_cons (e_var rfl) (l_cons (e_var rfl) (l_cons (e_var rfl) l_nil))) (mul_school_ok hw bx by')) (q _)) fun h2 => s_end ?_
  have hl2 : 2 ≤ (dg (2 ^ w) y).length := Nat.le_trans (Nat.le_max_right least 2) (Nat.le_of_not_lt h2)
  refine s_if (e_le (e_mul e_c2 (e_len rfl ly4) (by decide) (k2 (Nat.le_trans ly (by decide)))) (e_len rfl lx4)) (fun h => ?_) fun h => s_end ?_
  · refine s_asgN (e_list l_nil) rfl ?_
    refine s_forStep (fun k ρ => ∃ sl s6, (sl = .own ((dg (2 ^ w) (x % (2 ^ w) ^ (k * (dg (2 ^ w) y).length) * y)).map I) ∨ sl = .val (N (2 ^ w) (x % (2 ^ w) ^ (k * (dg (2 ^ w) y).length) * y))) ∧ ρ = [.val (N (2 ^ w) x), .val (N (2 ^ w) y), .val (I w), .val (I least), .val (.fn 25), sl, s6] ++ List.replicate 12 .unset) e_c0 (e_len rfl lx4) (e_len rfl ly4) lx4 ly4 (by (first | grind | omega)) (by (first | grind | omega)) ⟨_, _, .inl (by rw [Nat.zero_mul, Nat.pow_zero, Nat.mod_one, Nat.zero_mul]; rfl), rfl⟩ ?_ ?_
    · rintro k hk _ ⟨sl, s6, hsl, rfl⟩ K h1 h2
      have hp : x / (2 ^ w) ^ (k * (dg (2 ^ w) y).length) % (2 ^ w) ^ (k * (dg (2 ^ w) y).length + (dg (2 ^ w) y).length - k * (dg (2 ^ w) y).length) ≤ x := Nat.le_trans (Nat.mod_le _ _) (Nat.div_le_self _ _)
      have hpl : (dg (2 ^ w) (x / (2 ^ w) ^ (k * (dg (2 ^ w) y).length) % (2 ^ w) ^ (k * (dg (2 ^ w) y).length + (dg (2 ^ w) y).length - k * (dg (2 ^ w) y).length))).length ≤ (dg (2 ^ w) y).length := dg_len hB (Nat.lt_of_lt_of_le (Nat.mod_lt _ (pow_pos' hB _)) (pow_le hB (by (first | grind | omega))))
      have aa := add_at_ok (n := m + 3) (R := False) hw (x := x % (2 ^ w) ^ (k * (dg (2 ^ w) y).length) * y) (y := x / (2 ^ w) ^ (k * (dg (2 ^ w) y).length) % (2 ^ w) ^ (k * (dg (2 ^ w) y).length + (dg (2 ^ w) y).length - k * (dg (2 ^ w) y).length) * y) (s := k * (dg (2 ^ w) y).length) (bxy (Nat.mul_le_mul_right y (Nat.mod_le _ _))) (bxy (Nat.mul_le_mul_right y hp)) (by (first | grind | omega))
      rw [slice_step hw] at aa
      exact s_asg (e_call (l_cons (e_nsl rfl hsl) (l_cons (e_call (l_cons (e_call (l_cons (e_var rfl) (l_cons (e_var rfl) (l_cons (e_add (e_var rfl) (e_len rfl ly4)) l_nil))) (piece_ok hw bx)) (l_cons (e_var rfl) (l_cons (e_var rfl) (l_cons (e_var rfl) (l_cons (e_var rfl) l_nil))))) (ih (by (first | grind | omega)) (Nat.lt_of_le_of_lt hp hx) hy)) (l_cons (e_var rfl) (l_cons (e_var rfl) l_nil)))) aa) rfl (s_nil (h1 _ ⟨_, _, .inr rfl, rfl⟩))
    · rintro _ ⟨sl, s6, hsl, rfl⟩
      rw [mod_len hB (ceil_ge (by (first | grind | omega)))] at hsl
      exact s_ret (e_nsl rfl hsl) (q _)
  · refine s_asg (e_div (e_add (e_len rfl lx4) e_c1) e_c2 (k2 (by (first | grind | omega))) (by decide)) rfl ?_
    have hsp1 : (dg (2 ^ w) x).length ≤ 2 * (((dg (2 ^ w) x).length + 1) / 2) := by (first | grind | omega)
    have hsp2 : 2 * (((dg (2 ^ w) x).length + 1) / 2) ≤ (dg (2 ^ w) x).length + 1 := by (first | grind | omega)
    generalize ((dg (2 ^ w) x).length + 1) / 2 = s at hsp1 hsp2 ⊢
    have hxl := Nat.mod_le x ((2 ^ w) ^ s)
    have hxh := Nat.div_le_self x ((2 ^ w) ^ s)
    have hyl := Nat.mod_le y ((2 ^ w) ^ s)
    have hyh := Nat.div_le_self y ((2 ^ w) ^ s)
    have l1 : (dg (2 ^ w) (x % (2 ^ w) ^ s)).length ≤ s := dg_len hB (Nat.mod_lt _ (pow_pos' hB _))
    have l2 : (dg (2 ^ w) (y % (2 ^ w) ^ s)).length ≤ s := dg_len hB (Nat.mod_lt _ (pow_pos' hB _))
    have l3 : (dg (2 ^ w) (x / (2 ^ w) ^ s)).length ≤ s := by rw [← drop_dg hB, List.length_drop]; (first | grind | omega)
    have l4 : (dg (2 ^ w) (y / (2 ^ w) ^ s)).length ≤ s := by rw [← drop_dg hB, List.length_drop]; (first | grind | omega)
    have ex := Nat.mod_add_div x ((2 ^ w) ^ s)
    have ey := Nat.mod_add_div y ((2 ^ w) ^ s)
    refine s_many2 (e_call (l_cons (e_var rfl) (l_cons (e_var rfl) l_nil)) (split_ok hw bx)) rfl (s_many2 (e_call (l_cons (e_var rfl) (l_cons (e_var rfl) l_nil)) (split_ok hw by')) rfl ?_)
    generalize x % (2 ^ w) ^ s = a at hxl l1 ex ⊢
    generalize x / (2 ^ w) ^ s = b at hxh l3 ex ⊢
    generalize y % (2 ^ w) ^ s = c at hyl l2 ey ⊢
    generalize y / (2 ^ w) ^ s = d at hyh l4 ey ⊢
    have a3 := Nat.lt_of_le_of_lt hxl hx
    have b3 := Nat.lt_of_le_of_lt hxh hx
    have c3 := Nat.lt_of_le_of_lt hyl hy
    have d3 := Nat.lt_of_le_of_lt hyh hy
    have e3 : ad a b < 2 ^ 320 := ad_le.elim (fun h => Nat.lt_of_le_of_lt h a3) fun h => Nat.lt_of_le_of_lt h b3
    have f3 : ad c d < 2 ^ 320 := ad_le.elim (fun h => Nat.lt_of_le_of_lt h c3) fun h => Nat.lt_of_le_of_lt h d3
    have l5 : (dg (2 ^ w) (ad a b)).length ≤ s := ad_le.elim (fun h => Nat.le_trans (len_le hB h) l1) fun h => Nat.le_trans (len_le hB h) l3
    have l6 : (dg (2 ^ w) (ad c d)).length ≤ s := ad_le.elim (fun h => Nat.le_trans (len_le hB h) l2) fun h => Nat.le_trans (len_le hB h) l4
    have hz := kar_id (P := (2 ^ w) ^ s) (a := a) (b := b) (c := c) (d := d)
    rw [ex, ey] at hz
    refine s_asg (e_call (l_cons (e_var rfl) (l_cons (e_var rfl) (l_cons (e_var rfl) (l_cons (e_var rfl) (l_cons (e_var rfl) l_nil))))) (ih (by (first | grind | omega)) a3 c3)) rfl ?_
    refine s_asg (e_call (l_cons (e_var rfl) (l_cons (e_var rfl) (l_cons (e_var rfl) (l_cons (e_var rfl) (l_cons (e_var rfl) l_nil))))) (ih (by (first | grind | omega)) b3 d3)) rfl ?_
    refine s_many2 (e_call (l_cons (e_var rfl) (l_cons (e_var rfl) (l_cons (e_var rfl) l_nil))) (difference_ok hw (up a3) (up b3))) rfl (s_many2 (e_call (l_cons (e_var rfl) (l_cons (e_var rfl) (l_cons (e_var rfl) l_nil))) (difference_ok hw (up c3) (up d3))) rfl ?_)
    refine s_asg (e_call (l_cons (e_var rfl) (l_cons (e_var rfl) (l_cons (e_var rfl) (l_cons (e_var rfl) (l_cons (e_var rfl) l_nil))))) (ih (by (first | grind | omega)) e3 f3)) rfl ?_
    have b7 : ∀ {z}, z < 2 ^ 700 → Bd z := fun h => (Nat.lt_trans h (Nat.pow_lt_pow_right (by decide) (by decide)) : _ < 2 ^ 1000)
    have mi := middle_ok (n := m + 2) (R := R) (l := a * c) (h := b * d) (a := ad a b * ad c d) (t := !(decide (a < b) == decide (c < d))) hw (b7 (mul_700 hw a3 c3)) (b7 (mul_700 hw b3 d3)) (sum_bd hw (mul_700 hw a3 c3) (mul_700 hw b3 d3)) (b7 (mul_700 hw e3 f3)) kar_le
    have hP : 0 < (2 ^ w) ^ s := pow_pos' hB s
    show wpB _ _ R [.val (N (2 ^ w) x), .val (N (2 ^ w) y), .val (I w), .val (I least), .val (.fn 25), .unset, .unset, .val (I s), .val (N (2 ^ w) a), .val (N (2 ^ w) b), .val (N (2 ^ w) c), .val (N (2 ^ w) d), .val (N (2 ^ w) (a * c)), .val (N (2 ^ w) (b * d)), .val (.bool (decide (a < b))), .val (N (2 ^ w) (ad a b)), .val (.bool (decide (c < d))), .val (N (2 ^ w) (ad c d)), .val (N (2 ^ w) (ad a b * ad c d))] Q
    refine s_ret (e_call (l_cons (e_var rfl) (l_cons (e_call (l_cons (e_var rfl) (l_cons (e_var rfl) (l_cons (e_neB (e_var rfl) (e_var rfl)) (l_cons (e_var rfl) (l_cons (e_var rfl) l_nil))))) mi) (l_cons (e_var rfl) (l_cons (e_var rfl) (l_cons (e_var rfl) l_nil))))) (put_together_ok hw (b7 (mul_700 hw a3 c3)) (bxy ?_) (b7 (mul_700 hw b3 d3)) (bxy (by rw [← hz]; exact Nat.le_add_right _ _)) (by (first | grind | omega)) hz)) (q _)
    rw [← hz]
    exact Nat.le_trans (Nat.le_mul_of_pos_left _ hP) (Nat.le_trans (Nat.le_add_left _ _) (Nat.le_add_right _ _))
theorem kar_ok : ∀ (t : Nat) {n : Nat} {R : Prop} {x y least : Nat}, (dg (2 ^ w) x).length + (dg (2 ^ w) y).length ≤ t → x < 2 ^ 320 → y < 2 ^ 320 → Fn (orc tbl f_within gl (n + t + 6)) R 24 [N (2 ^ w) x, N (2 ^ w) y, I w, I least, .fn 25] (N (2 ^ w) (x * y)) := by
  intro t
  induction t with
  | zero =>
    intro n R x y least ht hx hy
    refine fn_of rfl rfl rfl fun Q q => ?_
    have ly := Nat.le_trans (len320 hw hy) (by decide : 320 ≤ 4096)
    have lx := Nat.le_trans (len320 hw hx) (by decide : 320 ≤ 4096)
    refine s_ifF (e_lt (e_len rfl lx) (e_len rfl ly)) (by (first | grind | omega)) (s_end (kar_core (m := n) hw (fun h => absurd h (by (first | grind | omega))) (by (first | grind | omega)) hx hy q))
  | succ t ih =>
    intro n R x y least ht hx hy
    refine fn_of rfl rfl rfl fun Q q => ?_
    have ly := Nat.le_trans (len320 hw hy) (by decide : 320 ≤ 4096)
    have lx := Nat.le_trans (len320 hw hx) (by decide : 320 ≤ 4096)
    refine s_if (e_lt (e_len rfl lx) (e_len rfl ly)) (fun h => ?_) fun h => s_end (kar_core (m := n + t + 1) hw (fun h => ih (n := n) (by (first | grind | omega))) (Nat.le_of_not_lt h) hx hy q)
    rw [Nat.mul_comm] at q
    exact s_asgL2 (sl_cons (e_var rfl) rfl (sl_cons (e_var rfl) rfl sl_nil)) (s_end (kar_core (m := n + t + 1) hw (fun h => ih (n := n) (by (first | grind | omega))) (Nat.le_of_lt h) hy hx q))
end
end Mine.P

set_option autoImplicit false
set_option linter.all false
set_option exponentiation.threshold 2000
namespace Mine.P
open PySem
/-- what a call may give back -/
noncomputable def FnP (C : Orc) (R : Prop) (k : Nat) (ds : List D) (P : D → Prop) : Prop := ∀ Q : D → Prop, (∀ d, P d → Q d) → C.fn R k ds Q
theorem fn_ofP {n k : Nat} {f : FnDef} {ds : List D} {R : Prop} {P : D → Prop} (h : tbl k = some f) (hio : f.io = false) (hl : ds.length = f.np) (hb : ∀ Q : Fl → MEnv → Prop, (∀ d ρ, P d → Q (.ret d) ρ) → wpB (orc tbl f_within gl n) f.body R (ds.map .val ++ List.replicate (f.ns - f.np) .unset) Q) : FnP (orc tbl f_within gl (n + 1)) R k ds P := fun Q q => ⟨f, h, hio, hl, hb _ fun d _ hp => q d hp⟩
section
variable {C : Orc} {R : Prop} {ρ ρ1 ρ2 ρ3 : MEnv} {a b c e : ME} {es : List ME} {d x y : D} {ds xs : List D} {p p1 p2 p3 i j k m n w t : Nat} {r body : List MS} {Q K : Fl → MEnv → Prop} {s u : List Nat} {P : D → Prop}
theorem s_forT {tg : TG} (J : Nat → MEnv → Prop) (he : Ev C False e ρ (.tup ds) ρ1) (hJ : J 0 ρ1) (h : ∀ k d, ds[k]? = some d → ∀ ρ, J k ρ → ∀ K : Fl → MEnv → Prop, (∀ ρ', J (k + 1) ρ' → K .next ρ') → (∀ d ρ', Q (.ret d) ρ' → K (.ret d) ρ') → stT tg d ρ fun ρ => wpB C body False ρ K) (fin : ∀ ρ, J ds.length ρ → wpB C r R ρ Q) : wpB C (.for_ tg (.seq e) body p :: r) R ρ Q :=
  he _ (fo_rule (tg := tg) (B := wpB C body False) (Q := SK C r R Q) J ds 0 (fun k d hj ρ q K h1 h2 => by
    rw [Nat.zero_add] at q h1
    exact h k d hj ρ q K h1 h2) (fun ρ q => fin ρ (by rw [Nat.zero_add] at q; exact q)) _ hJ)
theorem s_forNone (h0 : Ev C False a ρ (I 0) ρ1) (h1 : Ev C False b ρ1 (I 0) ρ2) (h2 : Ev C False c ρ2 (I n) ρ3) (hn : n ≤ 4096) (hn0 : n ≠ 0) (k' : wpB C r R ρ3 Q) : wpB C (.for_ (.one i p) (.range p1 [a, b, c] p2) body p3 :: r) R ρ Q :=
  h0 _ (h1 _ (h2 _ ⟨by show (0 : Nat) ≤ 4096; decide, by show (0 : Nat) ≤ 4096; decide, hn, fun q => hn0 (Int.ofNat_eq_zero.mp q), by
    have e : rangeL ((0 : Nat) : Int) ((0 : Nat) : Int) (n : Int) = [] := by
      unfold rangeL rangeN
      rw [if_pos (show (n : Int) > 0 from Int.ofNat_lt.mpr (Nat.pos_of_ne_zero hn0)), if_neg (by decide)]; rfl
    rw [e]; exact k'⟩))
theorem s_asgP (h : EvL C R es ρ ds ρ1) (hf : FnP C R k ds P) (k' : ∀ d, P d → wpB C r R (ρ1.set i (.val d)) Q) : wpB C (.asg (.one i p) (.call k p1 es p2) p3 :: r) R ρ Q := h _ (hf _ fun d hd => k' d hd)
theorem e_eqS (ha : Ev C R a ρ (.str s) ρ1) (hb : Ev C R b ρ1 (.str u) ρ2) : Ev C R (.cmp a .eq b p) ρ (.bool (s == u)) ρ2 := e_cmp ha hb fun Q q => q
theorem e_ge2 (ha : Ev C R a ρ (I m) ρ1) (hb : Ev C R b ρ1 (I n) ρ2) (hc : Ev C R c ρ2 (I k) ρ2) : Ev C R (.cmp2 a .ge b .ge c p) ρ (.bool (decide (n ≤ m) && decide (k ≤ n))) ρ2 := fun Q q => ha _ (hb _ (by
  show brP (decide ((m : Int) ≥ (n : Int))) _ _
  rw [show decide ((m : Int) ≥ (n : Int)) = decide (n ≤ m) from decide_eq_decide.mpr Int.ofNat_le]
  cases hd : decide (n ≤ m) with
  | true =>
    rw [hd] at q
    refine br_t (hc _ ?_)
    show Q (.bool (decide ((n : Int) ≥ (k : Int)))) ρ2
    rw [show decide ((n : Int) ≥ (k : Int)) = decide (k ≤ n) from decide_eq_decide.mpr Int.ofNat_le]; exact q
  | false => rw [hd] at q; exact br_f q))
theorem e_attr (h : ρ[i]? = some (.val x)) (ha : ∀ Q : D → Prop, Q d → attrP x k Q) : Ev C R (.attr i p k p1) ρ d ρ := fun Q q => by
  show varP ρ i fun x ρ => attrP x k fun d => Q d ρ
  unfold varP; rw [h]
  exact ha _ q
theorem e_clo {v : Int} (h : EvL C R es ρ [d, .int v] ρ1) : Ev C R (.clo p es p1) ρ (.clo d v) ρ1 := fun Q q => h _ q
theorem e_and4 {b1 b2 b3 : ME} {t0 t1 t2 t3 : Bool} (h0 : Ev C R a ρ (.bool t0) ρ) (h1 : Ev C R b1 ρ (.bool t1) ρ) (h2 : Ev C R b2 ρ (.bool t2) ρ) (h3 : Ev C R b3 ρ (.bool t3) ρ) : ∃ t, Ev C R (.and a [b1, b2, b3] p) ρ (.bool t) ρ := by
  cases t0 with
  | false => exact ⟨false, fun Q q => h0 _ (br_f q)⟩
  | true =>
  cases t1 with
  | false => exact ⟨false, fun Q q => h0 _ (br_t (h1 _ (br_f q)))⟩
  | true =>
  cases t2 with
  | false => exact ⟨false, fun Q q => h0 _ (br_t (h1 _ (br_t (h2 _ (br_f q)))))⟩
  | true => exact ⟨t3, fun Q q => h0 _ (br_t (h1 _ (br_t (h2 _ (br_t (h3 _ q))))))⟩
end
noncomputable def forBody : List MS → List MS
  | [_, .for_ _ _ b _, _] => b
  | _ => []
noncomputable def sKar : List Nat := [107, 97, 114, 97, 116, 115, 117, 98, 97]
noncomputable def sToom3 : List Nat := [116, 111, 111, 109, 51]
noncomputable def sSchool : List Nat := [115, 99, 104, 111, 111, 108]
noncomputable abbrev T4 (a b c d : Nat) : D := .thr (a : Int) (b : Int) (c : Int) (d : Int)
section
variable {n w : Nat} {R : Prop} (hw : W w)
theorem way_for_ok {m a b c d : Nat} (hm : m ≤ 3) (hb : 3 ≤ b) (hc : 4 ≤ c) (hd : 4 ≤ d) : FnP (orc tbl f_within gl (n + 1)) R 55 [I m, T4 a b c d] fun x => x = .str sKar ∨ x = .str sSchool ∨ x = .str sToom3 ∧ m = 3 := by
  refine fn_ofP rfl rfl rfl fun Q q => ?_
  refine s_asgL2 (sl_cons e_str rfl (sl_cons e_c0 rfl sl_nil)) ?_
  have at4 : ∀ {p p1 : Nat} {ρ : MEnv}, ρ[1]? = some (.val (T4 a b c d)) → Ev (orc tbl f_within gl n) False (.attr 1 p 0 p1) ρ (I a) ρ ∧ Ev (orc tbl f_within gl n) False (.attr 1 p 1 p1) ρ (I b) ρ ∧ Ev (orc tbl f_within gl n) False (.attr 1 p 2 p1) ρ (I c) ρ ∧ Ev (orc tbl f_within gl n) False (.attr 1 p 3 p1) ρ (I d) ρ := fun h => ⟨e_attr h fun _ q => q, e_attr h fun _ q => q, e_attr h fun _ q => q, e_attr h fun _ q => q⟩
  refine s_forT (fun k ρ => ∃ s r t4 t5, (s = sKar ∨ s = sSchool ∨ s = sToom3 ∧ m = 3) ∧ ρ = [.val (I m), .val (T4 a b c d), .val (.str s), .val (I r), t4, t5]) (e_tup (l_cons (e_tup (l_cons e_str (l_cons (at4 rfl).1 l_nil))) (l_cons (e_tup (l_cons e_str (l_cons (at4 rfl).2.1 l_nil))) (l_cons (e_tup (l_cons e_str (l_cons (at4 rfl).2.2.1 l_nil))) (l_cons (e_tup (l_cons e_str (l_cons (at4 rfl).2.2.2 l_nil))) l_nil))))) ⟨_, 0, _, _, .inr (.inl rfl), rfl⟩ ?_ ?_
  · rintro k x hx _ ⟨s, r, t4, t5, hs, rfl⟩ K h1 h2
    have go : ∀ (u : List Nat) (v : Nat), (v ≤ m → u = sKar ∨ u = sSchool ∨ u = sToom3 ∧ m = 3) → wpB (orc tbl f_within gl n) (forBody f_way_for.body) False [.val (I m), .val (T4 a b c d), .val (.str s), .val (I r), .val (.str u), .val (I v)] K := fun u v hu => by
      refine s_ifb (e_ge2 (e_var rfl) (e_var rfl) (e_var rfl)) (fun h => ?_) fun _ => s_end (s_nil (h1 _ ⟨s, r, _, _, hs, rfl⟩))
      exact s_asgL2 (sl_cons (e_var rfl) rfl (sl_cons (e_var rfl) rfl sl_nil)) (s_end (s_nil (h1 _ ⟨u, v, _, _, hu (of_decide_eq_true (band h).1), rfl⟩)))
    match k, hx with
    | 0, hx => cases hx; exact go _ _ fun _ => .inl rfl
    | 1, hx => cases hx; exact go _ _ fun h => .inr (.inr ⟨rfl, Nat.le_antisymm hm (Nat.le_trans hb h)⟩)
    | 2, hx => cases hx; exact go _ _ fun h => absurd (Nat.le_trans hc h) (by (first | grind | omega))
    | 3, hx => cases hx; exact go _ _ fun h => absurd (Nat.le_trans hd h) (by (first | grind | omega))
    | k + 4, hx => cases hx
  · rintro _ ⟨s, r, t4, t5, hs, rfl⟩
    refine s_ret (e_var rfl) (q _ _ ?_)
    rcases hs with rfl | rfl | ⟨rfl, h⟩
    · exact .inl rfl
    · exact .inr (.inl rfl)
    · exact .inr (.inr ⟨rfl, h⟩)
include hw
theorem within_ok {x y m : Nat} {t : D} (hx : Bd x) (hy : Bd y) (h : min (dg (2 ^ w) x).length (dg (2 ^ w) y).length < m → Fn (orc tbl f_within gl (n + 2)) False 56 [N (2 ^ w) x, N (2 ^ w) y, I w, t] (N (2 ^ w) (x * y))) : Cv (orc tbl f_within gl (n + 3)) False (.clo t m) [N (2 ^ w) x, N (2 ^ w) y, I w] (N (2 ^ w) (x * y)) := fun Q q => by
  refine ⟨rfl, ?_⟩
  show wpB (orc tbl f_within gl (n + 2)) f_within.body False [.val (N (2 ^ w) x), .val (N (2 ^ w) y), .val (I w), .val (I m), .val t] _
  refine s_if (e_ge (e_min (l_cons (e_len rfl (hw.len4 hx)) (l_cons (e_len rfl (hw.len4 hy)) l_nil))) (e_var rfl)) (fun _ => s_ret (e_call (l_cons (e_var rfl) (l_cons (e_var rfl) (l_cons (e_var rfl) l_nil))) (mul_school_ok hw hx hy)) q) fun hlt => s_end ?_
  exact s_ret (e_call (l_cons (e_var rfl) (l_cons (e_var rfl) (l_cons (e_var rfl) (l_cons (e_var rfl) l_nil)))) (h (Nat.lt_of_not_le hlt))) q
/-- the way with thresholds, the three-part way given -/
theorem balanced_ok {x y a b c d : Nat} (hx : x < 2 ^ 320) (hy : y < 2 ^ 320) (hl : (dg (2 ^ w) y).length ≤ 3) (hla : (dg (2 ^ w) x).length ≤ 5) (hb : 3 ≤ b) (hc : 4 ≤ c) (hd : 4 ≤ d) (h3 : (dg (2 ^ w) y).length = 3 → Fn (orc tbl f_within gl (n + 42)) R 52 [N (2 ^ w) x, N (2 ^ w) y, I w, .clo (T4 a b c d) 3] (N (2 ^ w) (x * y))) :
    Fn (orc tbl f_within gl (n + 43)) R 57 [N (2 ^ w) x, N (2 ^ w) y, I w, T4 a b c d] (N (2 ^ w) (x * y)) := by
  refine fn_of rfl rfl rfl fun Q q => ?_
  have ly := Nat.le_trans hl (by decide : 3 ≤ 4096)
  have bx : Bd x := of_le4 hx (by decide)
  have by' : Bd y := of_le4 hy (by decide)
  refine s_asgP (l_cons (e_len rfl ly) (l_cons (e_var rfl) l_nil)) (way_for_ok hl hb hc hd) fun s hs => ?_
  have ms := mul_school_ok (n := n + 40) (R := R) hw bx by'
  have kk := kar_ok hw 8 (n := n + 28) (R := R) (x := x) (y := y) (least := a) (by (first | grind | omega)) hx hy
  rcases hs with rfl | rfl | ⟨rfl, hm⟩
  · refine s_ifb (e_eqS (e_var rfl) e_str) (fun h => nomatch h) fun _ => s_end (s_ifb (e_eqS (e_var rfl) e_str) (fun h => nomatch h) fun _ => s_end (s_ifb (e_eqS (e_var rfl) e_str) (fun h => nomatch h) fun _ => s_end (s_ifb (e_eqS (e_var rfl) e_str) (fun _ => ?_) fun h => nomatch h)))
    exact s_ret (e_call (l_cons (e_var rfl) (l_cons (e_var rfl) (l_cons (e_var rfl) (l_cons (e_attr rfl fun _ q => q) (l_cons e_fn l_nil))))) kk) (q _)
  · refine s_ifb (e_eqS (e_var rfl) e_str) (fun h => nomatch h) fun _ => s_end (s_ifb (e_eqS (e_var rfl) e_str) (fun h => nomatch h) fun _ => s_end (s_ifb (e_eqS (e_var rfl) e_str) (fun h => nomatch h) fun _ => s_end (s_ifb (e_eqS (e_var rfl) e_str) (fun h => nomatch h) fun _ => s_end ?_)))
    exact s_ret (e_call (l_cons (e_var rfl) (l_cons (e_var rfl) (l_cons (e_var rfl) l_nil))) ms) (q _)
  · refine s_ifb (e_eqS (e_var rfl) e_str) (fun h => nomatch h) fun _ => s_end (s_ifb (e_eqS (e_var rfl) e_str) (fun h => nomatch h) fun _ => s_end (s_ifb (e_eqS (e_var rfl) e_str) (fun _ => ?_) fun h => nomatch h))
    have h3 := h3 hm
    rw [show (3 : Int) = (((dg (2 ^ w) y).length : Nat) : Int) by rw [hm]; rfl] at h3
    exact s_ret (e_call (l_cons (e_var rfl) (l_cons (e_var rfl) (l_cons (e_var rfl) (l_cons (e_clo (l_cons (e_var rfl) (l_cons (e_len rfl ly) l_nil))) l_nil)))) h3) (q _)
theorem slices_ok {x y : Nat} {f : D} (hx : x < 2 ^ 320) (hy : y < 2 ^ 320) (h : ∀ p, p ≤ x → (dg (2 ^ w) p).length ≤ (dg (2 ^ w) y).length → Fn (orc tbl f_within gl (n + 2)) False 56 [N (2 ^ w) p, N (2 ^ w) y, I w, f] (N (2 ^ w) (p * y))) : Fn (orc tbl f_within gl (n + 3)) R 58 [N (2 ^ w) x, N (2 ^ w) y, I w, f] (N (2 ^ w) (x * y)) := by
  refine fn_of rfl rfl rfl fun Q q => ?_
  have hB := hw.b2
  have lx := len320 hw hx
  have ly := len320 hw hy
  have lx4 := Nat.le_trans lx (by decide : 320 ≤ 4096)
  have ly4 := Nat.le_trans ly (by decide : 320 ≤ 4096)
  have bxy : ∀ {z}, z ≤ x * y → Bd z := fun h => (Nat.lt_trans (Nat.lt_of_le_of_lt h (mul_700 hw hx hy)) (Nat.pow_lt_pow_right (by decide) (by decide)) : _ < 2 ^ 1000)
  by_cases hy0 : y = 0
  · subst hy0
    rw [Nat.mul_zero] at q
    exact s_ifT (e_eq (e_len rfl ly4) e_c0) rfl (s_ret (e_list l_nil) (q _))
  have hl : (dg (2 ^ w) y).length ≠ 0 := fun h => hy0 (dg_nil hB h)
  refine s_ifF (e_eq (e_len rfl ly4) e_c0) hl (s_end ?_)
  refine s_asgL2 (sl_consN (e_list l_nil) rfl (sl_cons (e_len rfl ly4) rfl sl_nil)) ?_
  by_cases hx0 : x = 0
  · subst hx0
    rw [Nat.zero_mul] at q
    exact s_forNone e_c0 (e_len (l := []) rfl (Nat.zero_le _)) (e_var rfl) ly4 hl (s_ret (e_own rfl) (q _))
  refine s_forStep (fun k ρ => ∃ sl s6, (sl = .own ((dg (2 ^ w) (x % (2 ^ w) ^ (k * (dg (2 ^ w) y).length) * y)).map I) ∨ sl = .val (N (2 ^ w) (x % (2 ^ w) ^ (k * (dg (2 ^ w) y).length) * y))) ∧ ρ = [.val (N (2 ^ w) x), .val (N (2 ^ w) y), .val (I w), .val f, sl, .val (I (dg (2 ^ w) y).length), s6]) e_c0 (e_len rfl lx4) (e_var rfl) lx4 ly4 (fun h => hx0 (dg_nil hB h)) hl ⟨_, _, .inl (by rw [Nat.zero_mul, Nat.pow_zero, Nat.mod_one, Nat.zero_mul]; rfl), rfl⟩ ?_ ?_
  · rintro k hk _ ⟨sl, s6, hsl, rfl⟩ K h1 h2
    have hp : x / (2 ^ w) ^ (k * (dg (2 ^ w) y).length) % (2 ^ w) ^ (k * (dg (2 ^ w) y).length + (dg (2 ^ w) y).length - k * (dg (2 ^ w) y).length) ≤ x := Nat.le_trans (Nat.mod_le _ _) (Nat.div_le_self _ _)
    have hpl : (dg (2 ^ w) (x / (2 ^ w) ^ (k * (dg (2 ^ w) y).length) % (2 ^ w) ^ (k * (dg (2 ^ w) y).length + (dg (2 ^ w) y).length - k * (dg (2 ^ w) y).length))).length ≤ (dg (2 ^ w) y).length := dg_len hB (Nat.lt_of_lt_of_le (Nat.mod_lt _ (pow_pos' hB _)) (pow_le hB (by (first | grind | omega))))
    have aa := add_at_ok (n := n) (R := False) hw (x := x % (2 ^ w) ^ (k * (dg (2 ^ w) y).length) * y) (y := x / (2 ^ w) ^ (k * (dg (2 ^ w) y).length) % (2 ^ w) ^ (k * (dg (2 ^ w) y).length + (dg (2 ^ w) y).length - k * (dg (2 ^ w) y).length) * y) (s := k * (dg (2 ^ w) y).length) (bxy (Nat.mul_le_mul_right y (Nat.mod_le _ _))) (bxy (Nat.mul_le_mul_right y hp)) (by (first | grind | omega))
    rw [slice_step hw] at aa
    exact s_asg (e_call (l_cons (e_nsl rfl hsl) (l_cons (e_call (l_cons (e_call (l_cons (e_var rfl) (l_cons (e_var rfl) (l_cons (e_add (e_var rfl) (e_var rfl)) l_nil))) (piece_ok hw (of_le4 hx (by decide)))) (l_cons (e_var rfl) (l_cons (e_var rfl) (l_cons (e_var rfl) l_nil)))) (h _ hp hpl)) (l_cons (e_var rfl) (l_cons (e_var rfl) l_nil)))) aa) rfl (s_nil (h1 _ ⟨_, _, .inr rfl, rfl⟩))
  · rintro _ ⟨sl, s6, hsl, rfl⟩
    rw [mod_len hB (ceil_ge hl)] at hsl
    exact s_ret (e_nsl rfl hsl) (q _)
end
end Mine.P

set_option autoImplicit false
set_option linter.all false
set_option exponentiation.threshold 2000
namespace Mine.P
open PySem
theorem lvl {k m : Nat} (h : k ≤ m) : ∃ n, m = n + k := ⟨m - k, (Nat.sub_add_cancel h).symm⟩
theorem s_ifAny {C : Orc} {R : Prop} {ρ : MEnv} {a b1 b2 b3 : ME} {p p1 : Nat} {t0 t1 t2 t3 : Bool} {s1 s2 r : List MS} {Q : Fl → MEnv → Prop} (h0 : Ev C R a ρ (.bool t0) ρ) (h1 : Ev C R b1 ρ (.bool t1) ρ) (h2 : Ev C R b2 ρ (.bool t2) ρ) (h3 : Ev C R b3 ρ (.bool t3) ρ) (k1 : wpB C s1 R ρ (SK C r R Q)) (k2 : wpB C s2 R ρ (SK C r R Q)) : wpB C (.ite (.and a [b1, b2, b3] p) s1 s2 p1 :: r) R ρ Q :=
  let ⟨_, ht⟩ := e_and4 h0 h1 h2 h3
  s_ifb ht (fun _ => k1) fun _ => k2
section
variable {n w : Nat} {R : Prop} (hw : W w)
include hw
theorem mult_core {x y : Nat} {a b c d : Nat} (hx : x < 2 ^ 320) (hy : y < 2 ^ 320) (hs : y ≠ 0 → 2 * (dg (2 ^ w) y).length ≤ (dg (2 ^ w) x).length → Fn (orc tbl f_within gl (n + 2)) R 58 [N (2 ^ w) x, N (2 ^ w) y, I w, T4 a b c d] (N (2 ^ w) (x * y))) (hb : (dg (2 ^ w) x).length < 2 * (dg (2 ^ w) y).length → Fn (orc tbl f_within gl (n + 2)) R 57 [N (2 ^ w) x, N (2 ^ w) y, I w, T4 a b c d] (N (2 ^ w) (x * y)))
    {Q : Fl → MEnv → Prop} (q : ∀ ρ, Q (.ret (N (2 ^ w) (x * y))) ρ) : wpB (orc tbl f_within gl (n + 2)) f_multiplied.body.tail R [.val (N (2 ^ w) x), .val (N (2 ^ w) y), .val (I w), .val (T4 a b c d)] Q := by
  have lx := Nat.le_trans (len320 hw hx) (by decide : 320 ≤ 4096)
  have ly := Nat.le_trans (len320 hw hy) (by decide : 320 ≤ 4096)
  have bx : Bd x := of_le4 hx (by decide)
  have by' : Bd y := of_le4 hy (by decide)
  by_cases hy0 : y = 0
  · subst hy0
    rw [Nat.mul_zero] at q
    exact s_ifT (e_eq (e_len rfl ly) e_c0) rfl (s_ret (e_list l_nil) (q _))
  refine s_ifF (e_eq (e_len rfl ly) e_c0) (fun h => hy0 (dg_nil hw.b2 h)) (s_end ?_)
  refine s_ifAny (e_lt (e_len rfl ly) (e_attr (d := I a) rfl fun _ q => q)) (e_lt (e_len rfl ly) (e_attr (d := I b) rfl fun _ q => q)) (e_lt (e_len rfl ly) (e_attr (d := I c) rfl fun _ q => q)) (e_lt (e_len rfl ly) (e_attr (d := I d) rfl fun _ q => q)) (s_ret (e_call (l_cons (e_var rfl) (l_cons (e_var rfl) (l_cons (e_var rfl) l_nil))) (mul_school_ok hw bx by')) (q _)) (s_end ?_)
  refine s_if (e_ge (e_len rfl lx) (e_mul (m := 2) (e_glob (glob_ok _ 2)) (e_len rfl ly) (by decide) (Nat.lt_of_le_of_lt (len320 hw hy) (Nat.lt_trans (by decide : 320 < 2 ^ 20) (Nat.pow_lt_pow_right (by decide) (by decide)))))) (fun h => ?_) fun h => s_end ?_
  · exact s_ret (e_call (l_cons (e_var rfl) (l_cons (e_var rfl) (l_cons (e_var rfl) (l_cons (e_var rfl) l_nil)))) (hs hy0 h)) (q _)
  · exact s_ret (e_call (l_cons (e_var rfl) (l_cons (e_var rfl) (l_cons (e_var rfl) (l_cons (e_var rfl) l_nil)))) (hb (Nat.lt_of_not_le h))) (q _)
section
variable {K M c0 a b c d : Nat} (hK : K ≤ 320) (hM : M ≤ 3) (hb : 3 ≤ b) (hc : 4 ≤ c) (hd : 4 ≤ d) (H3 : ∀ {L : Nat} {R : Prop} {x y : Nat}, c0 + 42 ≤ L → x < 2 ^ K → y < 2 ^ K → (dg (2 ^ w) y).length = 3 → M = 3 → Fn (orc tbl f_within gl L) R 52 [N (2 ^ w) x, N (2 ^ w) y, I w, .clo (T4 a b c d) 3] (N (2 ^ w) (x * y)))
include hK hM hb hc hd H3
theorem mult_all : ∀ (e : Nat) {L : Nat} {R : Prop} {x y : Nat}, c0 + 2 * e + 44 ≤ L → x < 2 ^ K → y < 2 ^ K → (dg (2 ^ w) x).length ≤ 2 ^ e → (dg (2 ^ w) y).length ≤ 2 ^ e → min (dg (2 ^ w) x).length (dg (2 ^ w) y).length ≤ M → Fn (orc tbl f_within gl L) R 56 [N (2 ^ w) x, N (2 ^ w) y, I w, T4 a b c d] (N (2 ^ w) (x * y)) := by
  have K320 : ∀ {x}, x < 2 ^ K → x < 2 ^ 320 := fun h => Nat.lt_of_lt_of_le h (Nat.pow_le_pow_right (by decide) hK)
  intro e
  induction e with
  | zero =>
    intro L R x y hL hx hy hlx hly hm
    obtain ⟨n, rfl⟩ := lvl hL
    refine fn_of (n := n + (c0 + 2 * 0 + 43)) rfl rfl rfl fun Q q => ?_
    obtain ⟨n', hn'⟩ : ∃ n', n + (c0 + 2 * 0 + 43) = n' + c0 + 43 := ⟨n, by (first | grind | omega)⟩
    rw [hn']
    have lx4 := Nat.le_trans (len320 hw (K320 hx)) (by decide : 320 ≤ 4096)
    have ly4 := Nat.le_trans (len320 hw (K320 hy)) (by decide : 320 ≤ 4096)
    have bal : ∀ {x y}, x < 2 ^ K → y < 2 ^ K → (dg (2 ^ w) x).length ≤ 1 → (dg (2 ^ w) y).length ≤ 1 → Fn (orc tbl f_within gl (n' + c0 + 43)) R 57 [N (2 ^ w) x, N (2 ^ w) y, I w, T4 a b c d] (N (2 ^ w) (x * y)) := fun hx hy h1 h2 => balanced_ok hw (K320 hx) (K320 hy) (by (first | grind | omega)) (by (first | grind | omega)) hb hc hd fun h => absurd h (by (first | grind | omega))
    refine s_if (e_lt (e_len rfl lx4) (e_len rfl ly4)) (fun h => ?_) fun h => s_end (mult_core (n := n' + c0 + 41) hw (K320 hx) (K320 hy) (fun h0 h => absurd (List.length_pos_iff.mpr (dg_ne hw.b2 h0)) (by (first | grind | omega))) (fun _ => bal hx hy hlx hly) q)
    rw [Nat.mul_comm] at q
    exact s_asgL2 (sl_cons (e_var rfl) rfl (sl_cons (e_var rfl) rfl sl_nil)) (s_end (mult_core (n := n' + c0 + 41) hw (K320 hy) (K320 hx) (fun h0 h => absurd (List.length_pos_iff.mpr (dg_ne hw.b2 h0)) (by (first | grind | omega))) (fun _ => bal hy hx hly hlx) q))
  | succ e ih =>
    intro L R x y hL hx hy hlx hly hm
    obtain ⟨n', hn'⟩ : ∃ n', L = n' + c0 + 43 + 1 := ⟨L - (c0 + 44), by (first | grind | omega)⟩
    have hL2 : c0 + 2 * e + 44 ≤ n' + c0 + 42 := by (first | grind | omega)
    subst hn'
    have lx4 := Nat.le_trans (len320 hw (K320 hx)) (by decide : 320 ≤ 4096)
    have ly4 := Nat.le_trans (len320 hw (K320 hy)) (by decide : 320 ≤ 4096)
    have core : ∀ {x y}, x < 2 ^ K → y < 2 ^ K → (dg (2 ^ w) y).length ≤ (dg (2 ^ w) x).length → (dg (2 ^ w) x).length ≤ 2 ^ (e + 1) → (dg (2 ^ w) y).length ≤ M → ∀ {Q : Fl → MEnv → Prop}, (∀ ρ, Q (.ret (N (2 ^ w) (x * y))) ρ) → wpB (orc tbl f_within gl (n' + c0 + 43)) f_multiplied.body.tail R [.val (N (2 ^ w) x), .val (N (2 ^ w) y), .val (I w), .val (T4 a b c d)] Q := fun hx hy hyx h1 h2 Q q => by
      refine mult_core (n := n' + c0 + 41) hw (K320 hx) (K320 hy) (fun _ h => slices_ok (n := n' + c0 + 40) hw (K320 hx) (K320 hy) fun p hp hpl => ih hL2 (Nat.lt_of_le_of_lt hp hx) hy ?_ ?_ ?_) (fun h => balanced_ok (n := n' + c0) hw (K320 hx) (K320 hy) (Nat.le_trans h2 hM) (by (first | grind | omega)) hb hc hd fun h3 => H3 (by (first | grind | omega)) hx hy h3 (by (first | grind | omega))) q
      · rw [Nat.pow_succ] at h1; (first | grind | omega)
      · rw [Nat.pow_succ] at h1; (first | grind | omega)
      · exact Nat.le_trans (Nat.min_le_right _ _) h2
    refine fn_of (n := n' + c0 + 43) rfl rfl rfl fun Q q => ?_
    refine s_if (e_lt (e_len rfl lx4) (e_len rfl ly4)) (fun h => ?_) fun h => s_end (core hx hy (Nat.le_of_not_lt h) hlx (by (first | grind | omega)) q)
    rw [Nat.mul_comm] at q
    exact s_asgL2 (sl_cons (e_var rfl) rfl (sl_cons (e_var rfl) rfl sl_nil)) (s_end (core hy hx (Nat.le_of_lt h) hly (by (first | grind | omega)) q))
end
theorem mult2_ok {L a b c d x y : Nat} (hb : 3 ≤ b) (hc : 4 ≤ c) (hd : 4 ≤ d) (hL : 62 ≤ L) (hx : x < 2 ^ 320) (hy : y < 2 ^ 320) (hm : min (dg (2 ^ w) x).length (dg (2 ^ w) y).length ≤ 2) : Fn (orc tbl f_within gl L) R 56 [N (2 ^ w) x, N (2 ^ w) y, I w, T4 a b c d] (N (2 ^ w) (x * y)) :=
  mult_all (K := 320) (M := 2) (c0 := 0) hw (by decide) (by decide) hb hc hd (fun _ _ _ _ h => nomatch h) 9 hL hx hy (Nat.le_trans (len320 hw hx) (by decide)) (Nat.le_trans (len320 hw hy) (by decide)) hm
theorem clo_ok {L a b c d : Nat} (hb : 3 ≤ b) (hc : 4 ≤ c) (hd : 4 ≤ d) (hL : 65 ≤ L) : MulC (orc tbl f_within gl L) w (.clo (T4 a b c d) 3) := fun x y hx hy => by
  obtain ⟨n, rfl⟩ := lvl (Nat.le_trans (by decide : 3 ≤ 65) hL)
  exact within_ok (m := 3) hw (of_le4 hx (by decide)) (of_le4 hy (by decide)) fun h => mult2_ok hw hb hc hd (by (first | grind | omega)) hx hy (Nat.le_of_lt_succ h)
theorem mult3_ok {L a b c d x y : Nat} (hb : 3 ≤ b) (hc : 4 ≤ c) (hd : 4 ≤ d) (hL : 80 ≤ L) (hx : x < 2 ^ 300) (hy : y < 2 ^ 300) (hlx : (dg (2 ^ w) x).length ≤ 16) (hly : (dg (2 ^ w) y).length ≤ 16) (hm : min (dg (2 ^ w) x).length (dg (2 ^ w) y).length ≤ 3) : Fn (orc tbl f_within gl L) R 56 [N (2 ^ w) x, N (2 ^ w) y, I w, T4 a b c d] (N (2 ^ w) (x * y)) :=
  mult_all (K := 300) (M := 3) (c0 := 26) hw (by decide) (by decide) hb hc hd (fun {L R x y} h hx hy _ _ => by
    obtain ⟨n, rfl⟩ := lvl (Nat.le_trans (by decide : 8 ≤ 26 + 42) h)
    exact toom3_ok hw hx hy (clo_ok hw hb hc hd (by (first | grind | omega)))) 4 (by (first | grind | omega)) hx hy hlx hly hm
theorem mslices_ok {L a b c d x y : Nat} (hb : 3 ≤ b) (hc : 4 ≤ c) (hd : 4 ≤ d) (hL : 81 ≤ L) (hx : x < 2 ^ 300) (hy : y < 2 ^ 300) (hly : (dg (2 ^ w) y).length ≤ 16) (hm : (dg (2 ^ w) x).length ≤ 3 ∨ (dg (2 ^ w) y).length ≤ 3) : Fn (orc tbl f_within gl L) R 58 [N (2 ^ w) x, N (2 ^ w) y, I w, T4 a b c d] (N (2 ^ w) (x * y)) := by
  obtain ⟨n, rfl⟩ := lvl (Nat.le_trans (by decide : 3 ≤ 81) hL)
  refine slices_ok hw (of_le3 hx (by decide)) (of_le3 hy (by decide)) fun p hp hpl => mult3_ok hw hb hc hd (by (first | grind | omega)) (Nat.lt_of_le_of_lt hp hx) hy (Nat.le_trans hpl hly) hly ?_
  have := len_le hw.b2 hp
  rcases hm with h | h
  · exact Nat.le_trans (Nat.min_le_left _ _) (Nat.le_trans this h)
  · exact Nat.le_trans (Nat.min_le_right _ _) h
end
end Mine.P

set_option autoImplicit false
set_option linter.all false
set_option exponentiation.threshold 2000
namespace Mine.P
open PySem
noncomputable def SG : List Nat := [48, 49, 50, 51, 52, 53, 54, 55, 56, 57, 97, 98, 99, 100, 101, 102, 103, 104, 105, 106, 107, 108, 109, 110, 111, 112, 113, 114, 115, 116, 117, 118, 119, 120, 121, 122]
noncomputable def sg (d : Nat) : Nat := SG.getD d 0
theorem sg_ok : ∀ d, d < 36 → (decide ([sg d] < [97]) = true → 48 ≤ sg d ∧ sg d ≤ 57) ∧ findIn SG (sg d) = (d : Int) ∧ sg d ≠ 47 ∧ sg d ≠ 45 := by
  have : ∀ d : Fin 36, (decide ([sg d.val] < [97]) = true → 48 ≤ sg d.val ∧ sg d.val ≤ 57) ∧ findIn SG (sg d.val) = (d.val : Int) ∧ sg d.val ≠ 47 ∧ sg d.val ≠ 45 := by decide +kernel
  exact fun d h => this ⟨d, h⟩
section
variable {C : Orc} {R : Prop} {ρ ρ1 ρ2 ρ3 : MEnv} {a b c e : ME} {es : List ME} {d x y : D} {ds xs : List D} {p p1 p2 p3 p4 i j k m n w : Nat} {r body : List MS} {Q K : Fl → MEnv → Prop} {s u : List Nat} {t : Bool}
theorem e_iteB (ht : Ev C R c ρ (.bool t) ρ1) (ha : t = true → Ev C R a ρ1 x ρ2) (hb : t = false → Ev C R b ρ1 x ρ2) : Ev C R (.ite c a b p) ρ x ρ2 := fun Q q => ht _ ⟨fun h => ha h _ q, fun h => hb h _ q⟩
theorem e_catS (ha : Ev C R a ρ (.str s) ρ1) (hb : Ev C R b ρ1 (.str u) ρ2) (h : s.length + u.length ≤ 4096) : Ev C R (.bin .Add a b p) ρ (.str (s ++ u)) ρ2 := e_bin ha hb fun Q q => ⟨rfl, h, q⟩
theorem e_idxStr (hv : varOf a = none) (h : Ev C R a ρ (.str s) ρ1) (hi : Ev C R e ρ1 (I k) ρ2) (hl : s.length ≤ 4096) (hk : k < s.length) : Ev C R (.idx a e p) ρ (.str [s.getD k 0]) ρ2 := fun Q q => by
  show pkP (varOf a) (wpE C a R ρ) ρ fun p ρ => wpE C e R ρ fun j ρ => pkGet ρ p fun x => idxP x j fun d => Q d ρ
  rw [hv]
  refine h _ (hi _ ?_)
  show placeP s.length (k : Int) fun k => ∃ y, s[k]? = some y ∧ Q (.str [y]) ρ2
  exact place_ok hl hk ⟨_, List.getElem?_eq_getElem hk, by rw [List.getD_eq_getElem?_getD, List.getElem?_eq_getElem hk] at q; exact q⟩
theorem e_find (ha : Ev C R a ρ (.str s) ρ1) (hb : Ev C R b ρ1 (.str [k]) ρ2) : Ev C R (.find a b p p1) ρ (.int (findIn s k)) ρ2 := fun Q q => ha _ (hb _ ⟨k, rfl, q⟩)
theorem e_lower (ha : Ev C R a ρ (.str [k]) ρ1) (h : 48 ≤ k ∧ k ≤ 57) : Ev C R (.lower a p p1) ρ (.str [k]) ρ1 := fun Q q => ha _ ⟨k, rfl, h, q⟩
theorem e_geS (ha : Ev C R a ρ (.str s) ρ1) (hb : Ev C R b ρ1 (.str u) ρ2) : Ev C R (.cmp a .ge b p) ρ (.bool (!decide (s < u))) ρ2 := e_cmp ha hb fun Q q => q
theorem e_lenOD (h : ρ[i]? = some (.own xs)) (hl : xs.length ≤ 4096) : Ev C R (.b1 .len p (.var i p1) p2) ρ (I xs.length) ρ := fun Q q => by
  show pkVar ρ i fun p => pkGet ρ p fun x => b1P .len x fun d => Q d ρ
  unfold pkVar; rw [h]
  show ownP ρ i fun _ xs => lenP xs.length fun d => Q d ρ
  unfold ownP; rw [h]
  exact ⟨hl, q⟩
theorem e_lenS (h : ρ[i]? = some (.val (.str s))) (hl : s.length ≤ 4096) : Ev C R (.b1 .len p (.var i p1) p2) ρ (I s.length) ρ := fun Q q => by
  show pkVar ρ i fun p => pkGet ρ p fun x => b1P .len x fun d => Q d ρ
  unfold pkVar; rw [h]
  exact ⟨hl, q⟩
theorem s_appD (ho : ρ[i]? = some (.own xs)) (he : Ev C R e ρ d ρ1) (ho1 : ρ1[i]? = some (.own xs)) (hl : xs.length < 4096) (k' : wpB C r R (ρ1.set i (.own (xs ++ [d]))) Q) : wpB C (.app i p e p1 p2 p3 :: r) R ρ Q := by
  show ownP ρ i fun _ _ => wpE C e R ρ fun d ρ => appP ρ i d fun ρ => wpB C r R ρ Q
  unfold ownP; rw [ho]
  refine he _ ?_
  unfold appP; rw [ho1]
  exact ⟨hl, k'⟩
theorem joinP_ok : ∀ {l : List Nat} {Z : List Nat → Prop}, Z l → joinP (l.map fun c => .str [c]) Z
  | [], _, q => q
  | c :: l, Z, q => joinP_ok (l := l) (Z := fun t => Z ([c] ++ t)) q
theorem e_joinr {l : List Nat} (h : Ev C R a ρ (.list (l.map fun c => .str [c])) ρ1) (hl : l.length ≤ 4096) : Ev C R (.joinr p p1 p2 a p3 p4) ρ (.str l.reverse) ρ1 := fun Q q => h _ ⟨by rw [List.length_map]; exact hl, by
  rw [← List.map_reverse]
  exact joinP_ok ⟨by rw [List.length_reverse]; exact hl, q⟩⟩
theorem e_le2 (ha : Ev C R a ρ (I m) ρ1) (hb : Ev C R b ρ1 (I n) ρ2) (hc : Ev C R c ρ2 (I k) ρ2) (h1 : m ≤ n) (h2 : n ≤ k) : Ev C R (.cmp2 a .le b .le c p) ρ (.bool true) ρ2 := fun Q q => ha _ (hb _ (by
  show brP (decide ((m : Int) ≤ (n : Int))) _ _
  rw [decide_eq_true (Int.ofNat_le.mpr h1)]
  refine br_t (hc _ ?_)
  show Q (.bool (decide ((n : Int) ≤ (k : Int)))) ρ2
  rw [decide_eq_true (Int.ofNat_le.mpr h2)]; exact q))
theorem e_lelt (ha : Ev C R a ρ (I m) ρ1) (hb : Ev C R b ρ1 (I n) ρ2) (hc : Ev C R c ρ2 (I k) ρ2) (h1 : m ≤ n) (h2 : n < k) : Ev C R (.cmp2 a .le b .lt c p) ρ (.bool true) ρ2 := fun Q q => ha _ (hb _ (by
  show brP (decide ((m : Int) ≤ (n : Int))) _ _
  rw [decide_eq_true (Int.ofNat_le.mpr h1)]
  refine br_t (hc _ ?_)
  show Q (.bool (decide ((n : Int) < (k : Int)))) ρ2
  rw [decide_eq_true (Int.ofNat_lt.mpr h2)]; exact q))
theorem e_lenG (h : C.glob k = .str s) (hl : s.length ≤ 4096) : Ev C R (.b1 .len p (.glob k p1) p2) ρ (I s.length) ρ := fun Q q => by
  show (fun (x : D) => b1P .len x fun d => Q d ρ) (C.glob k)
  rw [h]
  exact ⟨hl, q⟩
end
section
variable {n w : Nat} {R : Prop} (hw : W w)
theorem need_base_ok {b : Nat} (h1 : 2 ≤ b) (h2 : b ≤ 36) : Fn (orc tbl f_within gl (n + 1)) R 16 [I b] .none := fun Q q => by
  refine ⟨_, rfl, rfl, rfl, ?_⟩
  show wpB _ f_need_base.body R [.val (I b)] _
  exact s_ifb (e_not (e_le2 e_c2 (e_var rfl) (e_lenG (s := SG) (glob_ok _ 0) (by decide)) h1 (by exact h2))) (fun h => nomatch h) fun _ => s_end (s_nil q)
include hw
theorem common_ok {x y : Nat} (hx : Bs x) (hy : Bs y) : Fn (orc tbl f_within gl (n + 5)) R 12 [N (2 ^ w) x, N (2 ^ w) y, I w, .fn 31] (N (2 ^ w) (Nat.gcd x y)) := by
  refine fn_of rfl rfl rfl fun Q q => ?_
  have hB := hw.b2
  refine s_whl (m := y) (fun v ρ => ∃ u, Bs u ∧ Bs v ∧ Nat.gcd u v = Nat.gcd x y ∧ ρ = [.val (N (2 ^ w) u), .val (N (2 ^ w) v), .val (I w), .val (.fn 31)]) ?_ ⟨x, hx, hy, rfl, rfl⟩
  rintro v _ ⟨u, hu, hv, hg, rfl⟩ K h1 h2
  refine w_test (W := fun ρ => wpB _ _ R ρ Q) (e_gt (e_len rfl (hw.len4 hv.bd)) e_c0) (fun h => ?_) fun h => ?_
  · have hv0 : v ≠ 0 := fun q => by subst q; exact nomatch h
    have hlt := Nat.mod_lt u (Nat.pos_of_ne_zero hv0)
    refine s_asgL2 (sl_cons (e_var rfl) rfl (sl_cons (e_idxTE rfl (e_callv rfl (l_cons (e_var rfl) (l_cons (e_var rfl) (l_cons (e_var rfl) l_nil))) (divrem_school_ok hw hu hv hv0)) e_c1 (by show 2 ≤ 4096; decide) rfl) rfl sl_nil)) (s_nil (h1 (u % v) hlt _ ⟨v, hv, hv.le (Nat.le_of_lt hlt), ?_, rfl⟩))
    rw [← hg, Nat.gcd_comm v, ← Nat.gcd_rec, Nat.gcd_comm]
  · have hv0 : v = 0 := dg_nil hB (Nat.eq_zero_of_not_pos h)
    subst hv0
    rw [Nat.gcd_zero_right] at hg
    have no := normal_ok (n := n + 3) (R := R) hB (l := dg (2 ^ w) u) (hw.len4 hu.bd) (lim_dg hB u)
    rw [val_dg hB] at no
    rw [← hg] at q
    exact s_ret (e_call (l_cons (e_var rfl) l_nil) no) (q _)
theorem plain_of_ok {x : Nat} (hx : x < 2 ^ 200) : Fn (orc tbl f_within gl (n + 1)) R 15 [N (2 ^ w) x, I w] (I x) := by
  refine fn_of rfl rfl rfl fun Q q => ?_
  have hB := hw.b2
  refine s_asg e_c0 rfl (s_forRevL (l := dg (2 ^ w) x) (fun k ρ => ∃ s, ρ = [.val (N (2 ^ w) x), .val (I w), .val (I (x / (2 ^ w) ^ k)), s]) (e_var rfl) ⟨.unset, by rw [div_len hB (Nat.le_refl _)]; rfl⟩ ?_ ?_)
  · rintro k hk _ ⟨s, rfl⟩ K h1 h2
    refine s_asg (e_as (d' := I (x / (2 ^ w) ^ k)) (e_add (e_shl (e_var rfl) (e_var rfl) (Nat.lt_of_le_of_lt (Nat.div_le_self _ _) (Nat.lt_trans hx (Nat.pow_lt_pow_right (by decide) (by decide)))) hw.w4) (e_var rfl)) ?_) rfl (s_nil (h1 _ ⟨_, rfl⟩))
    rw [dg_at hB, Nat.mul_comm, ← div_step]
  · rintro _ ⟨s, rfl⟩
    rw [Nat.pow_zero, Nat.div_one]
    exact s_ret (e_var rfl) (q _)
end
end Mine.P

set_option autoImplicit false
set_option linter.all false
set_option exponentiation.threshold 2000
namespace Mine.P
open PySem
noncomputable abbrev PyI (n : Nat) : PyData := .int (n : Int)
theorem s_forES {C : Orc} {R : Prop} {ρ ρ1 : MEnv} {e : ME} {p p1 p2 p3 i j m n : Nat} {s : List Nat} {r body : List MS} {Q : Fl → MEnv → Prop} (J : Nat → MEnv → Prop) (he : Ev C False e ρ (.str s) ρ1) (hJ : J 0 ρ1) (h : ∀ k d, (s.map fun c => D.str [c])[k]? = some d → ∀ ρ, J k ρ → Step C body Q (J (k + 1)) ((ρ.set i (.val (I k))).set j (.val d))) (fin : ∀ ρ, J (s.map fun c => D.str [c]).length ρ → wpB C r R ρ Q) : wpB C (.for_ (.many [(i, m), (j, n)] p) (.enum p1 e p2) body p3 :: r) R ρ Q :=
  s_forE (ds := s.map fun c => .str [c]) J (fun Z z => he (fun d ρ => enumP d fun l => Z l ρ) z) hJ h fin
theorem py_ints : ∀ l : List Nat, toPys (l.map I) = some (l.map PyI)
  | [] => rfl
  | n :: l => by
    show (some (PyData.int (n : Int))).bind (fun a => (toPys (l.map I)).map fun b => a :: b) = _
    rw [py_ints l]; rfl
theorem py_L (l : List Nat) : toPy (L l) = some (.list (l.map PyI)) := by
  show (toPys (l.map I)).map PyData.list = _
  rw [py_ints]; rfl
theorem eqv_ints : ∀ l l' : List Nat, PyData.eqvAll (l.map PyI) (l'.map PyI) = decide (l = l')
  | [], [] => rfl
  | [], _ :: _ => rfl
  | _ :: _, [] => rfl
  | a :: l, b :: l' => by
    show (((a : Int) == (b : Int)) && PyData.eqvAll _ _) = _
    rw [eqv_ints l l']
    by_cases h : a = b
    · subst h
      rw [beq_self_eq_true, Bool.true_and]
      exact decide_eq_decide.mpr ⟨fun h => by rw [h], fun h => (List.cons.inj h).2⟩
    · rw [show ((a : Int) == (b : Int)) = false from beq_eq_false_iff_ne.mpr fun q => h (Int.ofNat_inj.mp q), Bool.false_and]
      exact (decide_eq_false fun q => h (List.cons.inj q).1).symm
theorem depth_ints : ∀ l : List Nat, PyData.depthAll (l.map PyI) = 0
  | [] => rfl
  | n :: l => by
    show max 0 (PyData.depthAll _) = 0
    rw [depth_ints l]; rfl
theorem cmp_L {l l' : List Nat} {Q : Bool → Prop} (q : Q (decide (l = l'))) : cmpP .eq (L l) (L l') Q := ⟨_, _, py_L l, py_L l', by
  show PyData.depthAll _ + 1 ≤ 64
  rw [depth_ints]; decide, by
  show Q (PyData.eqvAll _ _)
  rw [eqv_ints]; exact q⟩
theorem cmp_thing {s : Bool} {a b : List Nat} {Q : Bool → Prop} (q : Q false) : cmpP .ne (.tup [.tup [.bool s, L a], L b]) (.tup [.tup [.bool s, L a], L b]) Q := by
  have e : toPy (.tup [.tup [.bool s, L a], L b]) = some (.tuple [.tuple [.bool s, .list (a.map PyI)], .list (b.map PyI)]) := by
    show Option.map PyData.tuple (Option.bind (Option.map PyData.tuple (Option.bind (some (PyData.bool s)) fun u => (Option.bind (toPy (L a)) fun x => (some []).map fun b => x :: b).map fun b => u :: b)) fun u => (Option.bind (toPy (L b)) fun y => (some []).map fun b => y :: b).map fun b => u :: b) = _
    rw [py_L, py_L]; rfl
  refine ⟨_, _, e, e, ?_, ?_⟩
  · show max (max 0 (max (PyData.depthAll _ + 1) 0) + 1) (max (PyData.depthAll _ + 1) 0) + 1 ≤ 64
    rw [depth_ints, depth_ints]; decide
  · show Q (!(((s == s) && (PyData.eqvAll _ _ && true)) && (PyData.eqvAll _ _ && true)))
    rw [eqv_ints, eqv_ints, decide_eq_true rfl, decide_eq_true rfl, beq_self_eq_true]; exact q
theorem cmp_due {a : List Nat} {Q : Bool → Prop} (q : Q true) : cmpP .eq (.list [L a, L a, L a]) (.list [L a, L a, L a]) Q := by
  have e : toPy (.list [L a, L a, L a]) = some (.list [.list (a.map PyI), .list (a.map PyI), .list (a.map PyI)]) := by
    show Option.map PyData.list (Option.bind (toPy (L a)) fun u => (Option.bind (toPy (L a)) fun y => (Option.bind (toPy (L a)) fun z => (some []).map fun b => z :: b).map fun b => y :: b).map fun b => u :: b) = _
    rw [py_L]; rfl
  refine ⟨_, _, e, e, ?_, ?_⟩
  · show max (PyData.depthAll _ + 1) (max (PyData.depthAll _ + 1) (max (PyData.depthAll _ + 1) 0)) + 1 ≤ 64
    rw [depth_ints]; decide
  · show Q (PyData.eqvAll _ _ && (PyData.eqvAll _ _ && (PyData.eqvAll _ _ && true)))
    rw [eqv_ints, decide_eq_true rfl]; exact q
/-- the digits of a number, the weightiest first -/
noncomputable def td (b x : Nat) : List Nat := if x = 0 then [0] else (dg b x).reverse
theorem td_val {b x : Nat} (hb : 2 ≤ b) : val b (td b x).reverse = x := by
  unfold td
  split
  · rename_i h; subst h; show 0 + b * 0 = 0; rw [Nat.mul_zero]
  · rw [List.reverse_reverse, val_dg hb]
theorem td_lt {b x : Nat} (hb : 2 ≤ b) : ∀ d ∈ td b x, d < b := by
  unfold td
  split
  · intro d hd; rw [List.mem_singleton.mp hd]; exact Nat.lt_of_lt_of_le Nat.zero_lt_two hb
  · intro d hd; exact lim_dg hb x d (List.mem_reverse.mp hd)
theorem td_len {b x : Nat} (hb : 2 ≤ b) (hx : x < 2 ^ 200) : 1 ≤ (td b x).length ∧ (td b x).length ≤ 200 := by
  unfold td
  split
  · exact ⟨Nat.le_refl 1, by show 1 ≤ 200; decide⟩
  · rename_i h
    rw [List.length_reverse]
    exact ⟨List.length_pos_iff.mpr (dg_ne hb h), dg_len hb (Nat.lt_of_lt_of_le hx (Nat.pow_le_pow_left hb 200))⟩
section
variable {n w : Nat} {R : Prop} (hw : W w)
include hw
theorem r_make_ok {s : Bool} {x y : Nat} (hx : Bs x) (hy : Bs y) (hy0 : y ≠ 0) (hg : x ≠ 0 → Nat.gcd x y = 1) (h1 : x = 0 → y = 1 ∧ s = false) : Fn (orc tbl f_within gl (n + 6)) R 14 [.tup [.bool s, N (2 ^ w) x], .tup [.bool false, N (2 ^ w) y], I w, .fn 31] (.tup [.tup [.bool s, N (2 ^ w) x], N (2 ^ w) y]) := by
  refine fn_of rfl rfl rfl fun Q q => ?_
  have hB := hw.b2
  have h2 : 2 ≤ 4096 := by decide
  refine s_ifF (e_eq (e_lenE rfl (e_idxT rfl e_c1 h2 rfl) (hw.len4 hy.bd)) e_c0) (fun h => hy0 (dg_nil hB h)) (s_end ?_)
  by_cases hx0 : x = 0
  · obtain ⟨rfl, rfl⟩ := h1 hx0
    subst hx0
    refine s_ifT (e_eq (e_lenE rfl (e_idxT rfl e_c1 h2 rfl) (hw.len4 hx.bd)) e_c0) rfl (s_ret (e_as (e_tup (l_cons (e_tup (l_cons e_bool (l_cons (e_list l_nil) l_nil))) (l_cons (e_list (l_cons e_c1 l_nil)) l_nil))) ?_) (q _))
    have e : dg (2 ^ w) 1 = [1] := by rw [dg_pos hB (by decide), Nat.mod_eq_of_lt hB, Nat.div_eq_of_lt hB]; rfl
    show _ = D.tup [_, L (dg (2 ^ w) 1)]
    rw [e]; rfl
  · have hg := hg hx0
    have co := common_ok (n := n) (R := R) hw hx hy
    rw [hg] at co
    have b1 : Bs 1 := hy.le (Nat.pos_of_ne_zero hy0)
    refine s_ifF (e_eq (e_lenE rfl (e_idxT rfl e_c1 h2 rfl) (hw.len4 hx.bd)) e_c0) (fun h => hx0 (dg_nil hB h)) (s_end ?_)
    refine s_asg (e_call (l_cons (e_idxT rfl e_c1 h2 rfl) (l_cons (e_idxT rfl e_c1 h2 rfl) (l_cons (e_var rfl) (l_cons (e_var rfl) l_nil)))) co) rfl ?_
    have d1 := divrem_school_ok (n := n + 1) (R := R) hw hx b1 (by decide)
    have d2 := divrem_school_ok (n := n + 1) (R := R) hw hy b1 (by decide)
    rw [Nat.div_one] at d1 d2
    refine s_ret (e_as (e_tup (l_cons (e_tup (l_cons (e_neB (e_idxT rfl e_c0 h2 rfl) (e_idxT rfl e_c0 h2 rfl)) (l_cons (e_idxTE rfl (e_callv rfl (l_cons (e_idxT rfl e_c1 h2 rfl) (l_cons (e_var rfl) (l_cons (e_var rfl) l_nil))) d1) e_c0 h2 rfl) l_nil))) (l_cons (e_idxTE rfl (e_callv rfl (l_cons (e_idxT rfl e_c1 h2 rfl) (l_cons (e_var rfl) (l_cons (e_var rfl) l_nil))) d2) e_c0 h2 rfl) l_nil))) ?_) (q _)
    cases s <;> rfl
theorem nat_text_ok {b x : Nat} (h1 : 2 ≤ b) (h2 : b ≤ 36) (hx : x < 2 ^ 200) : Fn (orc tbl f_within gl (n + 5)) R 17 [N (2 ^ w) x, I b, I w, .fn 31] (.str ((td b x).map sg)) := by
  refine fn_of rfl rfl rfl fun Q q => ?_
  have up : ∀ {z}, z < 2 ^ 200 → Bs z := fun h => (Nat.lt_trans h (Nat.pow_lt_pow_right (by decide) (by decide)) : _ < 2 ^ 900)
  have hbB : Bs b := up (Nat.lt_of_le_of_lt h2 (Nat.lt_trans (by decide : 36 < 2 ^ 20) (Nat.pow_lt_pow_right (by decide) (by decide))))
  have hb0 : b ≠ 0 := Nat.ne_of_gt (Nat.lt_of_lt_of_le Nat.zero_lt_two h1)
  have hlx : (dg b x).length ≤ 200 := dg_len h1 (Nat.lt_of_lt_of_le hx (Nat.pow_le_pow_left h1 200))
  refine s_expr (e_call (l_cons (e_var rfl) l_nil) (need_base_ok h1 h2)) ?_
  refine s_asgL2 (sl_consN (e_list l_nil) rfl (sl_cons (e_call (l_cons (e_var rfl) (l_cons (e_var rfl) l_nil)) (nat_of_ok hw hbB.bd)) rfl sl_nil)) ?_
  refine s_whl (m := x) (fun y ρ => ∃ l s6, y ≤ x ∧ l ++ dg b y = dg b x ∧ ρ = [.val (N (2 ^ w) y), .val (I b), .val (I w), .val (.fn 31), .own (l.map fun d => .str [sg d]), .val (N (2 ^ w) b), s6]) ?_ ⟨[], .unset, Nat.le_refl _, rfl, rfl⟩
  rintro y _ ⟨l, s6, hyx, hl, rfl⟩ K k1 k2
  have hy2 := Nat.lt_of_le_of_lt hyx hx
  refine w_test (W := fun ρ => wpB _ _ R ρ Q) (e_gt (e_len rfl (hw.len4 (up hy2).bd)) e_c0) (fun h => ?_) fun h => ?_
  · have hy0 : y ≠ 0 := fun q => by subst q; exact nomatch h
    have hr : y % b < b := Nat.mod_lt _ (Nat.pos_of_ne_zero hb0)
    have hr36 : y % b < SG.length := Nat.lt_of_lt_of_le hr h2
    rw [dg_pos h1 hy0] at hl
    refine s_many2 (e_callv rfl (l_cons (e_var rfl) (l_cons (e_var rfl) (l_cons (e_var rfl) l_nil))) (divrem_school_ok hw (up hy2) hbB hb0)) rfl ?_
    refine s_appD rfl (e_idxStr rfl (e_glob (glob_ok _ 0)) (e_call (l_cons (e_var rfl) (l_cons (e_var rfl) l_nil)) (plain_of_ok hw (Nat.lt_of_le_of_lt (Nat.mod_le _ _) hy2))) (by show 36 ≤ 4096; decide) hr36) rfl ?_ (s_nil (k1 (y / b) (div_lt' h1 hy0) _ ⟨l ++ [y % b], .val (N (2 ^ w) (y % b)), Nat.le_trans (Nat.div_le_self _ _) hyx, ?_, ?_⟩))
    · rw [List.length_map]
      have := hlx
      rw [← hl, List.length_append] at this
      (first | grind | omega)
    · rw [List.append_assoc]; exact hl
    · rw [List.map_append]; rfl
  · have hy0 : y = 0 := dg_nil hw.b2 (Nat.eq_zero_of_not_pos h)
    subst hy0
    rw [dg_zero, List.append_nil] at hl
    subst hl
    have hm : (dg b x).map (fun d => D.str [sg d]) = ((dg b x).map sg).map fun c => .str [c] := by rw [List.map_map]; rfl
    by_cases hx0 : x = 0
    · subst hx0
      exact s_ret (e_iteF (e_gt (e_lenOD rfl (Nat.zero_le _)) e_c0) (Nat.lt_irrefl 0) e_str) (q _)
    · refine s_ret (e_iteT (e_gt (e_lenOD rfl (by rw [List.length_map]; exact Nat.le_trans hlx (by decide))) e_c0) (by rw [List.length_map]; exact List.length_pos_iff.mpr (dg_ne h1 hx0)) (e_joinr (e_as (e_own rfl) (congrArg D.list hm)) (by rw [List.length_map]; exact Nat.le_trans hlx (by decide)))) ?_
      unfold td at q
      rw [if_neg hx0, List.map_reverse] at q
      exact q _
theorem nat_from_text_ok {b sp : Nat} {l : List Nat} (h1 : 2 ≤ b) (h2 : b ≤ 36) (hl : ∀ d ∈ l, d < b) (hne : 1 ≤ l.length) (hlen : l.length ≤ 200) (hv : val b l.reverse < 2 ^ 200) : Fn (orc tbl f_within gl (n + 3)) R 19 [.str (l.map sg), I sp, I b, I w, .fn 25] (N (2 ^ w) (val b l.reverse)) := by
  refine fn_of rfl rfl rfl fun Q q => ?_
  have up : ∀ {z}, z < 2 ^ 201 → Bd z := fun h => (Nat.lt_trans h (Nat.pow_lt_pow_right (by decide) (by decide)) : _ < 2 ^ 1000)
  have k36 : 36 < 2 ^ 201 := Nat.lt_trans (by decide : 36 < 2 ^ 20) (Nat.pow_lt_pow_right (by decide) (by decide))
  have hbB : Bd b := up (Nat.lt_of_le_of_lt h2 k36)
  have hl4 : (l.map sg).length ≤ 4096 := by rw [List.length_map]; exact Nat.le_trans hlen (by decide)
  refine s_expr (e_call (l_cons (e_var rfl) l_nil) (need_base_ok h1 h2)) ?_
  refine s_ifF (e_eq (e_lenS rfl hl4) e_c0) (by rw [List.length_map]; exact Nat.ne_of_gt hne) (s_end ?_)
  refine s_asgL2 (sl_consN (e_list l_nil) rfl (sl_cons (e_call (l_cons (e_var rfl) (l_cons (e_var rfl) l_nil)) (nat_of_ok hw hbB)) rfl sl_nil)) ?_
  refine s_forES (fun k ρ => ∃ sl s7 s8 s9, (sl = .own ((dg (2 ^ w) (val b (l.take k).reverse)).map I) ∨ sl = .val (N (2 ^ w) (val b (l.take k).reverse))) ∧ ρ = [.val (.str (l.map sg)), .val (I sp), .val (I b), .val (I w), .val (.fn 25), sl, .val (N (2 ^ w) b), s7, s8, s9]) (e_var rfl) ⟨_, _, _, _, .inl rfl, rfl⟩ ?_ ?_
  · rintro k d hd _ ⟨sl, s7, s8, s9, hsl, rfl⟩ K j1 j2
    rw [List.map_map, List.getElem?_map] at hd
    obtain ⟨v, hvk, rfl⟩ := Option.map_eq_some_iff.mp hd
    have hk := (List.getElem?_eq_some_iff.mp hvk).1
    have hvb := hl v (List.mem_of_getElem? hvk)
    obtain ⟨g1, g2, _⟩ := sg_ok v (Nat.lt_of_lt_of_le hvb h2)
    have et : (l.take (k + 1)).reverse = v :: (l.take k).reverse := by rw [List.take_succ, hvk, List.reverse_append]; rfl
    have ev : val b (l.take (k + 1)).reverse = val b (l.take k).reverse * b + v := by rw [et, Nat.mul_comm, Nat.add_comm]; rfl
    have hle : val b (l.take (k + 1)).reverse ≤ val b l.reverse := by
      have e : l.reverse = (l.drop (k + 1)).reverse ++ (l.take (k + 1)).reverse := by rw [← List.reverse_append, List.take_append_drop]
      rw [e, val_append]
      exact Nat.le_trans (Nat.le_mul_of_pos_left _ (pow_pos' h1 _)) (Nat.le_add_left _ _)
    have hbd : val b (l.take k).reverse * b + v < 2 ^ 200 := by rw [← ev]; exact Nat.lt_of_le_of_lt hle hv
    have hacc : val b (l.take k).reverse < 2 ^ 200 := Nat.lt_of_le_of_lt (Nat.le_trans (Nat.le_mul_of_pos_right _ (Nat.lt_of_lt_of_le Nat.zero_lt_two h1)) (Nat.le_add_right _ _)) hbd
    have u2 : ∀ {z}, z < 2 ^ 200 → Bd z := fun h => up (Nat.lt_trans h (Nat.pow_lt_pow_right (by decide) (by decide)))
    refine s_asg (e_as (d' := I v) (e_find (e_glob (glob_ok _ 0)) (e_iteB (x := .str [sg v]) (e_geS (e_var rfl) e_str) (fun _ => e_var rfl) fun h => e_lower (e_var rfl) (g1 (by cases hh : decide ([sg v] < [97]) with | true => rfl | false => rw [hh] at h; cases h)))) (congrArg D.int g2)) rfl ?_
    refine s_ifb (e_not (e_lelt e_c0 (e_var rfl) (e_var rfl) (Nat.zero_le _) hvb)) (fun h => nomatch h) fun _ => s_end ?_
    refine s_asg (e_call (l_cons (e_callv rfl (l_cons (e_nsl rfl hsl) (l_cons (e_var rfl) (l_cons (e_var rfl) l_nil))) (mul_school_ok hw (u2 hacc) hbB)) (l_cons (e_call (l_cons (e_var rfl) (l_cons (e_var rfl) l_nil)) (nat_of_ok hw (up (Nat.lt_trans (Nat.lt_of_lt_of_le hvb h2) k36)))) (l_cons (e_var rfl) l_nil))) (add_ok hw (u2 (Nat.lt_of_le_of_lt (Nat.le_add_right _ _) hbd)) (up (Nat.lt_trans (Nat.lt_of_lt_of_le hvb h2) k36)))) rfl (s_nil (j1 _ ⟨_, _, _, _, .inr (by rw [ev]), rfl⟩))
  · rintro _ ⟨sl, s7, s8, s9, hsl, rfl⟩
    rw [List.length_map, List.length_map, List.take_length] at hsl
    exact s_ret (e_nsl rfl hsl) (q _)
end
end Mine.P

set_option autoImplicit false
set_option linter.all false
set_option exponentiation.threshold 2000
namespace Mine.P
open PySem
noncomputable def rpre (s : Bool) : List Nat := if s = true then [45] else []
noncomputable def rpost (b y : Nat) : List Nat := if y = 1 then [] else 47 :: (td b y).map sg
noncomputable def rt (s : Bool) (b x y : Nat) : List Nat := rpre s ++ (td b x).map sg ++ rpost b y
theorem rpre_len (s : Bool) : (rpre s).length = if s = true then 1 else 0 := by cases s <;> rfl
theorem find_none {l : List Nat} (h : ∀ c ∈ l, c ≠ 47) : findIn l 47 = -1 := by
  unfold findIn
  rw [List.findIdx?_eq_none_iff.mpr fun c hc => beq_eq_false_iff_ne.mpr (h c hc)]
theorem find_at {l r : List Nat} (h : ∀ c ∈ l, c ≠ 47) : findIn (l ++ 47 :: r) 47 = (l.length : Int) := by
  unfold findIn
  have e : (l ++ 47 :: r).findIdx? (· == 47) = some l.length := by
    rw [List.findIdx?_append, List.findIdx?_eq_none_iff.mpr fun c hc => beq_eq_false_iff_ne.mpr (h c hc)]
    rw [List.findIdx?_cons, if_pos (by decide), Option.map_some, Nat.zero_add]; rfl
  rw [e]
section
variable {C : Orc} {R : Prop} {ρ ρ1 ρ2 ρ3 : MEnv} {a b c e : ME} {p p1 p2 p3 p4 i j k m n w : Nat} {s : List Nat}
theorem e_cutSH (h : ρ[i]? = some (.val (.str s))) (hi : Ev C R e ρ (I k) ρ1) (hl : s.length ≤ 4096) (hk : k ≤ s.length) : Ev C R (.cut i p none (some e) p1 p2) ρ (.str (s.take k)) ρ1 := fun Q q => by
  show pkVar ρ i fun p => wpE C e R ρ fun d ρ => pkGet ρ p fun x => cutP x none (some d) fun d => Q d ρ
  unfold pkVar; rw [h]
  exact hi _ ⟨hl, Int.natCast_nonneg k, .inl ⟨Int.ofNat_le.mpr hk, q⟩⟩
theorem e_cutSL (h : ρ[i]? = some (.val (.str s))) (hi : Ev C R e ρ (I k) ρ1) (hl : s.length ≤ 4096) (hk : k ≤ s.length) : Ev C R (.cut i p (some e) none p1 p2) ρ (.str (s.drop k)) ρ1 := fun Q q => by
  show pkVar ρ i fun p => wpE C e R ρ fun d ρ => pkGet ρ p fun x => cutP x (some d) none fun d => Q d ρ
  unfold pkVar; rw [h]
  exact hi _ ⟨hl, Int.natCast_nonneg k, Int.ofNat_le.mpr hk, q⟩
theorem e_cutSB (h : ρ[i]? = some (.val (.str s))) (ha : Ev C R a ρ (I j) ρ1) (hi : Ev C R e ρ1 (I k) ρ2) (hl : s.length ≤ 4096) (hj : j ≤ k) (hk : k ≤ s.length) : Ev C R (.cut i p (some a) (some e) p1 p2) ρ (.str ((s.drop j).take (k - j))) ρ2 := fun Q q => by
  show pkVar ρ i fun p => wpE C a R ρ fun l ρ => wpE C e R ρ fun d ρ => pkGet ρ p fun x => cutP x (some l) (some d) fun d => Q d ρ
  unfold pkVar; rw [h]
  refine ha _ (hi _ ⟨hl, Int.natCast_nonneg j, Int.ofNat_le.mpr hj, Int.ofNat_le.mpr hk, ?_⟩)
  show Q (.str ((s.drop j).take ((k : Int) - (j : Int)).toNat)) ρ2
  rw [← Int.ofNat_sub hj]; exact q
end
theorem sg_mem {b x : Nat} (h1 : 2 ≤ b) (h2 : b ≤ 36) : ∀ c ∈ (td b x).map sg, c ≠ 47 ∧ c ≠ 45 := fun c hc => by
  obtain ⟨d, hd, rfl⟩ := List.mem_map.mp hc
  exact (sg_ok d (Nat.lt_of_lt_of_le (td_lt h1 d hd) h2)).2.2
section
variable {n w : Nat} {R : Prop} (hw : W w)
include hw
theorem r_text_ok {s : Bool} {b x y : Nat} (h1 : 2 ≤ b) (h2 : b ≤ 36) (hx : x < 2 ^ 200) (hy : y < 2 ^ 200) : Fn (orc tbl f_within gl (n + 6)) R 18 [.tup [.tup [.bool s, N (2 ^ w) x], N (2 ^ w) y], I b, I w, .fn 31] (.str (rt s b x y)) := by
  refine fn_of rfl rfl rfl fun Q q => ?_
  have hB := hw.b2
  have h24 : 2 ≤ 4096 := by decide
  obtain ⟨lx1, lx⟩ := td_len h1 hx
  obtain ⟨ly1, ly⟩ := td_len h1 hy
  have lp : (rpre s).length ≤ 1 := by cases s <;> decide
  have l4 : (rpre s ++ (td b x).map sg).length ≤ 201 := by rw [List.length_append, List.length_map]; (first | grind | omega)
  refine s_asg (d := .str (rpre s ++ (td b x).map sg)) (e_catS (e_iteB (x := .str (rpre s)) (e_idxTE rfl (e_idxT rfl e_c0 h24 rfl) e_c0 h24 rfl) (fun h => e_as e_str (by rw [h]; rfl)) fun h => e_as e_str (by rw [h]; rfl)) (e_call (l_cons (e_idxTE rfl (e_idxT rfl e_c0 h24 rfl) e_c1 h24 rfl) (l_cons (e_var rfl) (l_cons (e_var rfl) (l_cons (e_var rfl) l_nil)))) (nat_text_ok hw h1 h2 hx)) (by rw [List.length_append] at l4; exact Nat.le_trans l4 (by decide))) rfl ?_
  have tst : ∀ {p1 p2 p3 p4 p5 p6 : Nat} {ρ : MEnv}, ρ[0]? = some (.val (.tup [.tup [.bool s, N (2 ^ w) x], N (2 ^ w) y])) → Ev (orc tbl f_within gl (n + 5)) R (.cmp (.idx (.var 0 p1) (.cint 1 p2) p3) .eq (.list [.cint 1 p4] p5) p6) ρ (.bool (decide (dg (2 ^ w) y = [1]))) ρ := fun h => e_cmp (e_idxT h e_c1 h24 rfl) (e_as (d' := L [1]) (e_list (l_cons e_c1 l_nil)) rfl) fun Q q => cmp_L q
  have d1 : dg (2 ^ w) 1 = [1] := by rw [dg_pos hB (by decide), Nat.mod_eq_of_lt hB, Nat.div_eq_of_lt hB]; rfl
  unfold rt rpost at q
  by_cases hy1 : y = 1
  · subst hy1
    rw [if_pos rfl, List.append_nil] at q
    exact s_ret (e_iteT (tst rfl) d1 (e_var rfl)) (q _)
  · rw [if_neg hy1, List.append_cons] at q
    refine s_ret (e_iteF (tst rfl) (fun h => hy1 (by rw [← val_dg hB y, h]; show 1 + 2 ^ w * 0 = 1; rw [Nat.mul_zero])) (e_catS (e_catS (e_var rfl) e_str (Nat.le_trans (Nat.add_le_add_right l4 1) (by decide))) (e_call (l_cons (e_idxT rfl e_c1 h24 rfl) (l_cons (e_var rfl) (l_cons (e_var rfl) (l_cons (e_var rfl) l_nil)))) (nat_text_ok hw h1 h2 hy)) ?_)) (q _)
    rw [List.length_append, List.length_map]
    exact Nat.le_trans (Nat.add_le_add (Nat.add_le_add_right l4 1) ly) (by decide)
omit hw in
theorem signed_of_ok {x : D} : Fn (orc tbl f_within gl (n + 1)) R 13 [x] (.tup [.bool false, x]) := fn_of rfl rfl rfl fun Q q => s_ret (e_tup (l_cons e_bool (l_cons (e_var rfl) l_nil))) (q _)
theorem r_from_text_ok {s : Bool} {b x y : Nat} (h1 : 2 ≤ b) (h2 : b ≤ 36) (hx : x < 2 ^ 200) (hy : y < 2 ^ 200) (hy0 : y ≠ 0) (hg : x ≠ 0 → Nat.gcd x y = 1) (hz : x = 0 → y = 1 ∧ s = false) : Fn (orc tbl f_within gl (n + 7)) R 20 [.str (rt s b x y), I b, I w, .fn 25, .fn 31] (.tup [.tup [.bool s, N (2 ^ w) x], N (2 ^ w) y]) := by
  refine fn_of rfl rfl rfl fun Q q => ?_
  have hB := hw.b2
  have up : ∀ {z}, z < 2 ^ 200 → Bs z := fun h => (Nat.lt_trans h (Nat.pow_lt_pow_right (by decide) (by decide)) : _ < 2 ^ 900)
  obtain ⟨lx1, lx⟩ := td_len h1 hx
  obtain ⟨ly1, ly⟩ := td_len h1 hy
  have lp : (rpre s).length ≤ 1 := by cases s <;> decide
  have lA : ((td b x).map sg).length = (td b x).length := List.length_map _
  have lpo : (rpost b y).length ≤ 201 := by
    unfold rpost
    split
    · exact Nat.zero_le _
    · rw [List.length_cons, List.length_map]; exact Nat.succ_le_succ ly
  have lT : (rt s b x y).length = (rpre s).length + (td b x).length + (rpost b y).length := by unfold rt; rw [List.length_append, List.length_append, lA]
  have lT4 : (rt s b x y).length ≤ 4096 := by rw [lT]; (first | grind | omega)
  have hpA : ∀ c ∈ rpre s ++ (td b x).map sg, c ≠ 47 := fun c hc => (List.mem_append.mp hc).elim (fun h => by
    cases s with
    | true => rw [List.mem_singleton.mp h]; decide
    | false => cases h) fun h => (sg_mem h1 h2 c h).1
  -- the sign
  have hsgn : ((rt s b x y).take 1 == [45]) = s := by
    unfold rt
    cases s with
    | true => rfl
    | false =>
      cases ht : (td b x).map sg with
      | nil => rw [ht] at lA; rw [← lA] at lx1; cases lx1
      | cons c l =>
        have := (sg_mem h1 h2 c (by rw [ht]; exact .head _)).2
        show ([c] == [45]) = false
        exact beq_eq_false_iff_ne.mpr fun q => this (List.cons.inj q).1
  refine s_asg (d := I (rpre s).length) (e_iteB (e_as (d' := .bool s) (e_eqS (e_cutSH rfl e_c1 lT4 (by rw [lT]; (first | grind | omega))) e_str) (by rw [hsgn])) (fun h => e_as e_c1 (by rw [h]; rfl)) fun h => e_as e_c0 (by rw [h]; rfl)) rfl ?_
  have e47 : ((rt s b x y).drop (rpre s).length).take ((rpre s).length + (td b x).length - (rpre s).length) = (td b x).map sg := by
    unfold rt
    rw [Nat.add_sub_cancel_left, List.append_assoc, List.drop_left, ← lA, List.take_left]
  have top := nat_from_text_ok (n := n + 3) (R := R) (sp := (rpre s).length) hw h1 h2 (td_lt h1 (x := x)) lx1 lx (by rw [td_val h1]; exact hx)
  rw [td_val h1] at top
  have bot := nat_from_text_ok (n := n + 3) (R := R) (sp := (rpre s).length + (td b x).length + 1) hw h1 h2 (td_lt h1 (x := y)) ly1 ly (by rw [td_val h1]; exact hy)
  rw [td_val h1] at bot
  have mk := r_make_ok (n := n) (R := R) hw (up hx) (up hy) hy0 hg hz
  have sgn : ∀ {ρ : MEnv} {p1 p2 p3 p4 p5 p6 p7 p8 p9 : Nat}, ρ[5]? = some (.val (I (rpre s).length)) → ρ[7]? = some (.val (N (2 ^ w) x)) → Ev (orc tbl f_within gl (n + 6)) R (.and (.cmp (.var 5 p1) .eq (.cint 1 p2) p3) [.cmp (.b1 .len p4 (.var 7 p5) p6) .gt (.cint 0 p7) p8] p9) ρ (.bool s) ρ := fun h5 h7 => e_as (e_and2 (e_eq (e_var h5) e_c1) fun _ => e_gt (e_len h7 (hw.len4 (up hx).bd)) e_c0) (congrArg D.bool (by
    cases s with
    | true =>
      have : x ≠ 0 := fun h => nomatch (hz h).2
      show (decide (1 = 1) && decide (0 < _)) = true
      rw [decide_eq_true (List.length_pos_iff.mpr (dg_ne hB this))]; rfl
    | false => rfl))
  -- where the bar stands
  by_cases hy1 : y = 1
  · have hpo : rpost b y = [] := by unfold rpost; rw [if_pos hy1]
    have hT : rt s b x y = rpre s ++ (td b x).map sg := by unfold rt; rw [hpo, List.append_nil]
    have hlT : (rt s b x y).length = (rpre s).length + (td b x).length := by rw [lT, hpo]; rfl
    refine s_asg (e_as (d' := .int (-1)) (e_find (e_var rfl) e_str) (congrArg D.int (by rw [hT]; exact find_none hpA))) rfl ?_
    refine s_ifT (e_ltZ (e_var rfl) e_cint) (by decide) (s_asg (e_as (d' := I ((rpre s).length + (td b x).length)) (e_lenS rfl lT4) (congrArg I hlT)) rfl (s_end ?_))
    refine s_asg (e_call (l_cons (e_as (e_cutSB rfl (e_var rfl) (e_var rfl) lT4 (Nat.le_add_right _ _) (Nat.le_of_eq hlT.symm)) (congrArg D.str e47)) (l_cons (e_var rfl) (l_cons (e_var rfl) (l_cons (e_var rfl) (l_cons (e_var rfl) l_nil))))) top) rfl ?_
    have d1 : dg (2 ^ w) y = [1] := by rw [hy1, dg_pos hB (by decide), Nat.mod_eq_of_lt hB, Nat.div_eq_of_lt hB]; rfl
    refine s_asg (d := N (2 ^ w) y) (e_iteT (e_eq (e_var rfl) (e_lenS rfl lT4)) hlT.symm (e_as (e_list (l_cons e_c1 l_nil)) (show D.list [I 1] = L (dg (2 ^ w) y) by rw [d1]; rfl))) rfl ?_
    exact s_ret (e_call (l_cons (e_tup (l_cons (sgn rfl rfl) (l_cons (e_var rfl) l_nil))) (l_cons (e_call (l_cons (e_var rfl) l_nil) signed_of_ok) (l_cons (e_var rfl) (l_cons (e_var rfl) l_nil)))) mk) (q _)
  · have hpo : rpost b y = 47 :: (td b y).map sg := by unfold rpost; rw [if_neg hy1]
    have hT : rt s b x y = (rpre s ++ (td b x).map sg) ++ 47 :: (td b y).map sg := by unfold rt; rw [hpo]
    have hlp : (rpre s ++ (td b x).map sg).length = (rpre s).length + (td b x).length := by rw [List.length_append, lA]
    have hlT : (rpre s).length + (td b x).length + 1 ≤ (rt s b x y).length := by rw [lT, hpo, List.length_cons]; (first | grind | omega)
    have hdr : (rt s b x y).drop ((rpre s).length + (td b x).length + 1) = (td b y).map sg := by rw [hT, ← hlp, List.append_cons]; exact List.drop_left' (by rw [List.length_append]; rfl)
    refine s_asg (e_as (d' := I ((rpre s).length + (td b x).length)) (e_find (e_var rfl) e_str) (congrArg D.int (by rw [hT, find_at hpA, hlp]))) rfl ?_
    refine s_ifF (e_lt (e_var rfl) e_c0) (Nat.not_lt_zero _) (s_end ?_)
    refine s_asg (e_call (l_cons (e_as (e_cutSB rfl (e_var rfl) (e_var rfl) lT4 (Nat.le_add_right _ _) (Nat.le_of_succ_le hlT)) (congrArg D.str e47)) (l_cons (e_var rfl) (l_cons (e_var rfl) (l_cons (e_var rfl) (l_cons (e_var rfl) l_nil))))) top) rfl ?_
    refine s_asg (e_iteF (e_eq (e_var rfl) (e_lenS rfl lT4)) (Nat.ne_of_lt hlT) (e_call (l_cons (e_as (e_cutSL rfl (e_add (e_var rfl) e_c1) lT4 hlT) (congrArg D.str hdr)) (l_cons (e_add (e_var rfl) e_c1) (l_cons (e_var rfl) (l_cons (e_var rfl) (l_cons (e_var rfl) l_nil))))) bot)) rfl ?_
    exact s_ret (e_call (l_cons (e_tup (l_cons (sgn rfl rfl) (l_cons (e_var rfl) l_nil))) (l_cons (e_call (l_cons (e_var rfl) l_nil) signed_of_ok) (l_cons (e_var rfl) (l_cons (e_var rfl) l_nil)))) mk) (q _)
end
end Mine.P

set_option autoImplicit false
set_option linter.all false
set_option exponentiation.threshold 2000
namespace Mine.P
open PySem
noncomputable abbrev Sc (sc : List Int) : D := .list (sc.map .int)
section
variable {C : Orc} {R : Prop} {ρ ρ1 ρ2 ρ3 : MEnv} {a b c e : ME} {es : List ME} {d x y : D} {ds xs : List D} {p p1 p2 p3 p4 i j k m n w : Nat} {r body : List MS} {Q K : Fl → MEnv → Prop} {Z : D → MEnv → Prop}
theorem s_setID (he : Ev C R e ρ d ρ1) (ho : ρ1[i]? = some (.io xs)) (hx : Ev C R a ρ1 (I j) ρ1) (hl : xs.length ≤ 4096) (hj : j < xs.length) (k : wpB C r R (ρ1.set i (.io (xs.set j d))) Q) : wpB C (.setI i p a e p1 p2 :: r) R ρ Q := by
  show wpE C e R ρ fun d ρ => ownP ρ i fun _ _ => wpE C a R ρ fun j ρ => intP j fun j => ownP ρ i fun sl xs => 0 ≤ j ∧ j < xs.length ∧ xs.length ≤ 4096 ∧ wpB C r R (ρ.set i (sl.repl (xs.set j.toNat d))) Q
  refine he _ ?_
  unfold ownP; rw [ho]
  refine hx _ ?_
  show (match ρ1[i]? with | some (Slot.own xs) => _ | some (Slot.io xs) => _ | _ => False)
  rw [ho]
  exact ⟨Int.natCast_nonneg j, Int.ofNat_lt.mpr hj, hl, k⟩
theorem e_idxID (h : ρ[i]? = some (.io xs)) (hi : Ev C R e ρ (I k) ρ) (hl : xs.length ≤ 4096) (hd : xs[k]? = some d) : Ev C R (.idx (.var i p1) e p) ρ d ρ := fun Q q => by
  show pkVar ρ i fun p => wpE C e R ρ fun j ρ => pkGet ρ p fun x => idxP x j fun d => Q d ρ
  unfold pkVar; rw [h]
  refine hi _ ?_
  show ownP ρ i fun _ xs => idxP (.list xs) (I k) fun d => Q d ρ
  unfold ownP; rw [h]
  exact tupAt (Q := fun d => Q d ρ) hl hd q
theorem e_lenED (hv : varOf e = none) (h : Ev C R e ρ (.list ds) ρ1) (hl : ds.length ≤ 4096) : Ev C R (.b1 .len p e p2) ρ (I ds.length) ρ1 := fun Q q => by
  show pkP (varOf e) (wpE C e R ρ) ρ fun p ρ => pkGet ρ p fun x => b1P .len x fun d => Q d ρ
  rw [hv]
  exact h _ ⟨hl, q⟩
theorem e_idxLE (hv : varOf a = none) (h : Ev C R a ρ (.list ds) ρ1) (hi : Ev C R e ρ1 (I k) ρ2) (hl : ds.length ≤ 4096) (hd : ds[k]? = some d) : Ev C R (.idx a e p) ρ d ρ2 := fun Q q => by
  show pkP (varOf a) (wpE C a R ρ) ρ fun p ρ => wpE C e R ρ fun j ρ => pkGet ρ p fun x => idxP x j fun d => Q d ρ
  rw [hv]
  exact h _ (hi _ (tupAt (Q := fun d => Q d ρ2) hl hd q))
theorem e_abs {u : Int} (hv : varOf e = none) (h : Ev C R e ρ (.int u) ρ1) : Ev C R (.b1 .abs p e p2) ρ (I u.natAbs) ρ1 := fun Q q => by
  show pkP (varOf e) (wpE C e R ρ) ρ fun p ρ => pkGet ρ p fun x => b1P .abs x fun d => Q d ρ
  rw [hv]
  exact h _ q
theorem e_absV {u : Int} (h : ρ[i]? = some (.val (.int u))) : Ev C R (.b1 .abs p (.var i p1) p2) ρ (I u.natAbs) ρ := fun Q q => by
  show pkVar ρ i fun p => pkGet ρ p fun x => b1P .abs x fun d => Q d ρ
  unfold pkVar; rw [h]; exact q
theorem e_cutHD (h : ρ[i]? = some (.val (.list ds))) (hi : Ev C R e ρ (I k) ρ1) (hl : ds.length ≤ 4096) : Ev C R (.cut i p none (some e) p1 p2) ρ (.list (ds.take k)) ρ1 := fun Q q => by
  show pkVar ρ i fun p => wpE C e R ρ fun d ρ => pkGet ρ p fun x => cutP x none (some d) fun d => Q d ρ
  unfold pkVar; rw [h]
  refine hi _ ⟨hl, ?_⟩
  show Q (.list ((ds.drop 0).take (clipAt ds.length (k : Int) - 0))) ρ1
  rw [clip_nat, List.drop_zero, Nat.sub_zero, ← List.take_take, List.take_length]; exact q
/-! with what comes behind -/
theorem we (he : Ev C R e ρ d ρ1) (k' : Z d ρ1) : wpE C e R ρ Z := he _ k'
theorem wb {op : Operator} (h : wpE C a R ρ fun x ρ => wpE C b R ρ fun y ρ => binP op x y fun z => Z z ρ) : wpE C (.bin op a b p) R ρ Z := h
theorem wl_cons {Z : List D → MEnv → Prop} (h : wpE C e R ρ fun d ρ => wpEs C es R ρ fun ds ρ => Z (d :: ds) ρ) : wpEs C (e :: es) R ρ Z := h
theorem wl_nil {Z : List D → MEnv → Prop} (h : Z [] ρ) : wpEs C [] R ρ Z := h
theorem ws_cons {Z : List Slot → MEnv → Prop} (hn : newL e = false) (h : wpE C e R ρ fun d ρ => wpSl C es R ρ fun sl ρ => Z (.val d :: sl) ρ) : wpSl C (e :: es) R ρ Z := by
  show wpE C e R ρ fun d ρ => wpSl C es R ρ fun ds ρ => Z (slotOf (newL e) d :: ds) ρ
  rw [hn]; exact h
theorem ws_nil {Z : List Slot → MEnv → Prop} (h : Z [] ρ) : wpSl C [] R ρ Z := h
theorem st_asg (hn : newL e = false) (h : wpE C e R ρ fun d ρ => wpB C r R (ρ.set i (.val d)) Q) : wpB C (.asg (.one i p) e p1 :: r) R ρ Q := by
  show wpE C e R ρ fun d ρ => stN (newL e) (.one i p) d ρ fun ρ => wpB C r R ρ Q
  rw [hn]; exact h
theorem st_asgL {is : List (Nat × Nat)} (h : wpSl C es R ρ fun sl ρ => bindS is sl ρ fun ρ => wpB C r R ρ Q) : wpB C (.asgL is p es p1 p2 :: r) R ρ Q := h
theorem st_asgTC {is : List (Nat × Nat)} (h : wpEs C es R ρ fun ds ρ => bindC is ds ρ fun ρ => wpB C r R ρ Q) : wpB C (.asgTC is p es p1 p2 :: r) R ρ Q := h
theorem st_asgC (h : wpE C e R ρ fun d ρ => ρ[i]? = some .cel ∧ wpB C r R (ρ.set i (.val d)) Q) : wpB C (.asgC i p e p1 :: r) R ρ Q := h
theorem st_for (h : wpE C e False ρ fun d ρ => rangeP [d] fun l => foP (.one i p) (wpB C body False) (SK C r R Q) l ρ) : wpB C (.for_ (.one i p) (.range p1 [e] p2) body p3 :: r) R ρ Q := h
end
section
variable {n w t m : Nat} {R : Prop} {sc : List Int}
/-- the next word of the rope -/
theorem next_ok (hm : m ≠ 0) (hsc : sc.length ≤ 30) (ht : t ≤ 1000) (Z : D → List D → Prop) (k : ∀ v, v < m → Z (I v) [Sc sc, I (t + 1)]) : (orc tbl f_within gl (n + 1)).io 59 [Sc sc, I t] [I m] Z := by
  refine ⟨_, rfl, rfl, rfl, ?_⟩
  show wpB _ f_law_next.body False [.io [Sc sc, I t], .val (I m), .unset] _
  have h2 : 2 ≤ 4096 := by decide
  have ls : (sc.map D.int).length ≤ 4096 := by rw [List.length_map]; exact Nat.le_trans hsc (by decide)
  have sm20 : ∀ {z}, z ≤ 2000 → z < 2 ^ 256 := fun h => Nat.lt_of_le_of_lt h (Nat.lt_trans (by decide : 2000 < 2 ^ 20) (Nat.pow_lt_pow_right (by decide) (by decide)))
  refine s_setID (e_add (e_idxID rfl e_c1 h2 rfl) e_c1) rfl e_c1 h2 (by decide : 1 < 2) (s_asg (e_idxID rfl e_c1 h2 rfl) rfl ?_)
  have el : ∀ {p1 p2 p3 p4 p5 : Nat} {ρ : MEnv}, ρ[0]? = some (.io [Sc sc, I (t + 1)]) → Ev (orc tbl f_within gl n) False (.b1 .len p1 (.idx (.var 0 p2) (.cint 0 p3) p4) p5) ρ (I sc.length) ρ := fun h => e_as (e_lenED rfl (e_idxID h e_c0 h2 rfl) ls) (by rw [List.length_map])
  by_cases h : t + 1 ≤ sc.length
  · have hg : (sc.map D.int)[t]? = some (.int (sc.getD t 0)) := by
      rw [List.getElem?_map, List.getD_eq_getElem?_getD, List.getElem?_eq_getElem h]; rfl
    refine s_ret (e_iteT (e_le (e_var rfl) (el rfl)) h (e_mod (e_abs rfl (e_idxLE rfl (e_idxID rfl e_c0 h2 rfl) (e_as (d' := I t) (e_sub (e_var rfl) e_c1 (Nat.le_add_left _ _)) (by rw [Nat.add_sub_cancel])) ls hg)) (e_var rfl) hm)) (k _ (Nat.mod_lt _ (Nat.pos_of_ne_zero hm)))
  · refine s_ret (e_iteF (e_le (e_var rfl) (el rfl)) h (e_mod (e_add (e_add (e_mul (e_as (d' := I 9) e_cint rfl) (e_var rfl) (by decide) (sm20 (by (first | grind | omega)))) (e_div (e_var rfl) e_c2 (sm20 (by (first | grind | omega))) (by decide))) e_c1) (e_var rfl) hm)) (k _ (Nat.mod_lt _ (Nat.pos_of_ne_zero hm)))
section
variable {C : Orc} {ρ : MEnv} {es : List ME} {i p p1 p2 : Nat} {Z : D → MEnv → Prop}
theorem nx_io (hm : m ≠ 0) (hsc : sc.length ≤ 30) (ht : t ≤ 1000) (h : ρ[i]? = some (.io [Sc sc, I t])) (ha : EvL (orc tbl f_within gl (n + 1)) R es ρ [I m] ρ) (k : ∀ v, v < m → Z (I v) (ρ.set i (.io [Sc sc, I (t + 1)]))) : wpE (orc tbl f_within gl (n + 1)) (.callio 59 p i p1 es p2) R ρ Z := by
  show ownP ρ i fun _ _ => wpEs (orc tbl f_within gl (n + 1)) es R ρ fun ds ρ => ownP ρ i fun sl xs => (orc tbl f_within gl (n + 1)).io 59 xs ds fun d ys => Z d (ρ.set i (sl.repl ys))
  unfold ownP; rw [h]
  refine ha _ ?_
  rw [h]
  exact next_ok hm hsc ht _ k
end
variable (hw : W w)
include hw
theorem number_ok {most : Nat} (hsc : sc.length ≤ 30) (ht : t ≤ 500) (hmo : most ≤ 9) (Z : D → List D → Prop) (k : ∀ v t', v < (2 ^ w) ^ most → t' ≤ t + 10 → Z (I v) [Sc sc, I t']) : (orc tbl f_within gl (n + 2)).io 61 [Sc sc, I t] [I w, I most] Z := by
  refine ⟨_, rfl, rfl, rfl, ?_⟩
  show wpB _ f_law_number.body False [.io [Sc sc, I t], .val (I w), .val (I most), .unset, .unset] _
  refine s_asg e_c0 rfl (st_for (nx_io (Nat.succ_ne_zero most) hsc (by (first | grind | omega)) rfl (l_cons (e_add (e_var rfl) e_c1) l_nil) fun c hc => ⟨by show c ≤ 4096; (first | grind | omega), ?_⟩))
  have hc := Nat.le_of_lt_succ hc
  have hbb : ∀ {f j}, f < (2 ^ w) ^ j → j ≤ 9 → f < 2 ^ 256 := fun h1 h2 => Nat.lt_of_lt_of_le h1 (by
    rw [← Nat.pow_mul]
    exact Nat.pow_le_pow_right (by decide) (Nat.le_trans (Nat.mul_le_mul hw.hi h2) (by decide)))
  refine for_range (tg := .one 4 _) (B := wpB (orc tbl f_within gl (n + 1)) _ False) (Q := SK (orc tbl f_within gl (n + 1)) _ False _) (a := 0) (b := c) (fun j ρ => ∃ f t' s, f < (2 ^ w) ^ j ∧ t' ≤ t + 1 + j ∧ ρ = [.io [Sc sc, I t'], .val (I w), .val (I most), .val (I f), s]) (Nat.zero_le c) (fun j _ hj ρ hJ K k1 k2 => ?_) (fun ρ hJ => ?_) ⟨0, t + 1, .unset, Nat.one_pos, Nat.le_refl _, rfl⟩
  · obtain ⟨f, t', s, hf, ht', rfl⟩ := hJ
    refine st_asg rfl (wb (we (e_mul (e_var rfl) (e_pow e_c2 (e_var rfl) (by decide) hw.w4) (hbb hf (by (first | grind | omega))) (hw.sm2 (x := 1) (by exact Nat.two_pow_pos w) (Nat.le_refl _) |> fun h => by rwa [Nat.one_mul] at h)) (nx_io (m := 2 ^ w) (Nat.ne_of_gt (Nat.two_pow_pos w)) hsc (by (first | grind | omega)) rfl (l_cons (e_pow e_c2 (e_var rfl) (by decide) hw.w4) l_nil) fun v hv => k1 _ ⟨f * 2 ^ w + v, t' + 1, _, ?_, by (first | grind | omega), rfl⟩)))
    rw [Nat.pow_succ]
    exact Nat.lt_of_lt_of_le (Nat.add_lt_add_left hv _) (by rw [← Nat.succ_mul]; exact Nat.mul_le_mul_right _ hf)
  · obtain ⟨f, t', s, hf, ht', rfl⟩ := hJ
    show wpB _ _ False _ _
    exact s_ret (e_var rfl) (k f t' (Nat.lt_of_lt_of_le hf (pow_le hw.b2 hc)) (by (first | grind | omega)))
end
end Mine.P

set_option autoImplicit false
set_option linter.all false
set_option exponentiation.threshold 2000
namespace Mine.P
open PySem
/-- what law asks of the calls of its frame -/
structure LawC (C : Orc) : Prop where
  next : ∀ {sc : List Int} {t m : Nat}, m ≠ 0 → sc.length ≤ 30 → t ≤ 1000 → ∀ Z : D → List D → Prop, (∀ v, v < m → Z (I v) [Sc sc, I (t + 1)]) → C.io 59 [Sc sc, I t] [I m] Z
  num : ∀ {w : Nat}, W w → ∀ {sc : List Int} {t most : Nat}, sc.length ≤ 30 → t ≤ 500 → most ≤ 9 → ∀ Z : D → List D → Prop, (∀ v t', v < (2 ^ w) ^ most → t' ≤ t + 10 → Z (I v) [Sc sc, I t']) → C.io 61 [Sc sc, I t] [I w, I most] Z
  row : ∀ {w : Nat}, W w → ∀ {x : Nat}, x < 2 ^ 256 → Fn C False 60 [I x, I w] (N (2 ^ w) x)
  bs : ∀ {w : Nat}, W w → ∀ {x y : Nat}, x < 2 ^ 300 → y < 2 ^ 300 → Fn C False 54 [N (2 ^ w) x, N (2 ^ w) y, I w, .fn 25] (N (2 ^ w) (x * y))
  ms : ∀ {w : Nat}, W w → ∀ {a b c d x y : Nat}, 3 ≤ b → 4 ≤ c → 4 ≤ d → x < 2 ^ 300 → y < 2 ^ 300 → (dg (2 ^ w) y).length ≤ 16 → ((dg (2 ^ w) x).length ≤ 3 ∨ (dg (2 ^ w) y).length ≤ 3) → Fn C False 58 [N (2 ^ w) x, N (2 ^ w) y, I w, T4 a b c d] (N (2 ^ w) (x * y))
  tx : ∀ {w : Nat}, W w → ∀ {s : Bool} {b x y : Nat}, 2 ≤ b → b ≤ 36 → x < 2 ^ 200 → y < 2 ^ 200 → Fn C False 18 [.tup [.tup [.bool s, N (2 ^ w) x], N (2 ^ w) y], I b, I w, .fn 31] (.str (rt s b x y))
  rd : ∀ {w : Nat}, W w → ∀ {s : Bool} {b x y : Nat}, 2 ≤ b → b ≤ 36 → x < 2 ^ 200 → y < 2 ^ 200 → y ≠ 0 → (x ≠ 0 → Nat.gcd x y = 1) → (x = 0 → y = 1 ∧ s = false) → Fn C False 20 [.str (rt s b x y), I b, I w, .fn 25, .fn 31] (.tup [.tup [.bool s, N (2 ^ w) x], N (2 ^ w) y])
section
variable {C : Orc} (H : LawC C) {w t m : Nat} {R : Prop} {sc : List Int}
section
variable {ρ : MEnv} {e : ME} {es : List ME} {i p p1 p2 : Nat} {Z : D → MEnv → Prop}
theorem w_thr (h : wpEs C es R ρ fun ds ρ => thrP ds fun d => Z d ρ) : wpE C (.thr p es p1) R ρ Z := h
include H
theorem nx (hm : m ≠ 0) (hsc : sc.length ≤ 30) (ht : t ≤ 1000) (h : ρ[i]? = some (.own [Sc sc, I t])) (ha : EvL C R es ρ [I m] ρ) (k : ∀ v, v < m → Z (I v) (ρ.set i (.own [Sc sc, I (t + 1)]))) : wpE C (.callio 59 p i p1 es p2) R ρ Z := by
  show ownP ρ i fun _ _ => wpEs C es R ρ fun ds ρ => ownP ρ i fun sl xs => C.io 59 xs ds fun d ys => Z d (ρ.set i (sl.repl ys))
  unfold ownP; rw [h]
  refine ha _ ?_
  rw [h]
  exact H.next hm hsc ht _ k
theorem nb (hw : W w) {most : Nat} (hsc : sc.length ≤ 30) (ht : t ≤ 500) (hmo : most ≤ 9) (h : ρ[i]? = some (.own [Sc sc, I t])) (ha : EvL C R es ρ [I w, I most] ρ) (k : ∀ v t', v < (2 ^ w) ^ most → t' ≤ t + 10 → Z (I v) (ρ.set i (.own [Sc sc, I t']))) : wpE C (.callio 61 p i p1 es p2) R ρ Z := by
  show ownP ρ i fun _ _ => wpEs C es R ρ fun ds ρ => ownP ρ i fun sl xs => C.io 61 xs ds fun d ys => Z d (ρ.set i (sl.repl ys))
  unfold ownP; rw [h]
  refine ha _ ?_
  rw [h]
  exact H.num hw hsc ht hmo _ k
end
variable (hw : W w)
include hw
theorem pow_bits {x k j : Nat} (hx : x < (2 ^ w) ^ k) (h : 9 * k ≤ j) : x < 2 ^ j := Nat.lt_of_lt_of_le hx (by
  rw [← Nat.pow_mul]
  exact Nat.pow_le_pow_right (by decide) (Nat.le_trans (Nat.mul_le_mul_right k hw.hi) h))
include H
theorem lawD3 {x y a b c d : Nat} {s0 s1 s2 s4 s5 s6 s7 s8 s9 s10 s11 : Slot} (b3 : 3 ≤ b) (c4 : 4 ≤ c) (d4 : 4 ≤ d) (hx : x < (2 ^ w) ^ 9) (hy : y < (2 ^ w) ^ 3) : wpB C (lawD.drop 3) False [s0, s1, s2, .val (I w), s4, s5, s6, s7, s8, s9, s10, s11, .val (N (2 ^ w) x), .val (N (2 ^ w) y), .val (T4 a b c d), .val (N (2 ^ w) (x * y)), .unset] isTrueP := by
  have x3 : x < 2 ^ 300 := pow_bits hw hx (by decide)
  have y3 : y < 2 ^ 300 := pow_bits hw hy (by decide)
  have lx := dg_len hw.b2 hx
  have ly := dg_len hw.b2 hy
  have m2 := H.ms hw (a := a) b3 c4 d4 y3 x3 (Nat.le_trans lx (by decide)) (.inl ly)
  rw [Nat.mul_comm] at m2
  have m1 := H.ms hw (a := a) b3 c4 d4 x3 y3 (Nat.le_trans ly (by decide)) (.inr ly)
  refine s_asgN (e_list (l_cons (e_call (l_cons (e_var rfl) (l_cons (e_var rfl) (l_cons (e_var rfl) (l_cons e_fn l_nil)))) (H.bs hw x3 y3)) (l_cons (e_call (l_cons (e_var rfl) (l_cons (e_var rfl) (l_cons (e_var rfl) (l_cons (e_var rfl) l_nil)))) m1) (l_cons (e_call (l_cons (e_var rfl) (l_cons (e_var rfl) (l_cons (e_var rfl) (l_cons (e_var rfl) l_nil)))) m2) l_nil)))) rfl ?_
  exact s_ret (e_cmp (e_own rfl) (e_list (l_cons (e_var rfl) (l_cons (e_var rfl) (l_cons (e_var rfl) l_nil)))) fun Q q => cmp_due q) rfl
theorem lawD2 {x y : Nat} {s0 s2 s4 s5 s6 s7 s8 s9 : Slot} (hsc : sc.length ≤ 30) (ht : t ≤ 200) (hx : x < (2 ^ w) ^ 9) (hy : y < (2 ^ w) ^ 3) : wpB C (lawD.drop 2) False [s0, .own [Sc sc, I t], s2, .val (I w), s4, s5, s6, s7, s8, s9, .val (I x), .val (I y), .val (N (2 ^ w) x), .val (N (2 ^ w) y), .unset, .unset, .unset] isTrueP := by
  have hxy : x * y < 2 ^ 256 := by
    have := Nat.mul_lt_mul_of_lt_of_lt (pow_bits hw hx (by decide : 9 * 9 ≤ 81)) (pow_bits hw hy (by decide : 9 * 3 ≤ 27))
    rw [← Nat.pow_add] at this
    exact Nat.lt_trans this (Nat.pow_lt_pow_right (by decide) (by decide))
  refine st_asgL (ws_cons rfl (w_thr (wl_cons (nx H (m := 5) (by decide) hsc (by (first | grind | omega)) rfl (l_cons (e_as e_cint rfl) l_nil) fun v1 h1 => wl_cons (nx H (m := 6) (by decide) hsc (by (first | grind | omega)) rfl (l_cons (e_as e_cint rfl) l_nil) fun v2 h2 => wl_cons (wb (we e_c4 (nx H (m := 3) (by decide) hsc (by (first | grind | omega)) rfl (l_cons e_c3 l_nil) fun v3 h3 => ?_))))))))
  show wpEs _ _ False _ _
  refine wl_cons (we e_cint (wl_nil ⟨rfl, ?_⟩))
  have e : D.thr (max2 (v1 : Int) 2) (max2 (v2 : Int) 3) (max2 ((4 : Nat) + (v3 : Nat) : Int) 4) (max2 99 6) = T4 (max v1 2) (max v2 3) (max (4 + v3) 4) (max 99 6) := by
    show D.thr (max2 (v1 : Int) ((2 : Nat) : Int)) (max2 (v2 : Int) ((3 : Nat) : Int)) (max2 ((4 + v3 : Nat) : Int) ((4 : Nat) : Int)) (max2 ((99 : Nat) : Int) ((6 : Nat) : Int)) = _
    rw [max_nat, max_nat, max_nat, max_nat]
  rw [e]
  refine ws_cons rfl (we (e_call (l_cons (e_mul (e_var rfl) (e_var rfl) (pow_bits hw hx (by decide)) (pow_bits hw hy (by decide))) (l_cons (e_var rfl) l_nil)) (H.row hw hxy)) (ws_nil ?_))
  exact lawD3 H hw (Nat.le_max_right _ _) (Nat.le_max_right _ _) (by decide) hx hy
theorem lawD_ok {s0 s2 s4 s5 s6 s7 s8 s9 : Slot} (hsc : sc.length ≤ 30) (ht : t ≤ 100) : wpB C lawD False [s0, .own [Sc sc, I t], s2, .val (I w), s4, s5, s6, s7, s8, s9, .unset, .unset, .unset, .unset, .unset, .unset, .unset] isTrueP := by
  refine st_asgL (ws_cons rfl (nb H (most := 9) hw hsc (Nat.le_trans ht (by decide)) (by decide) rfl (l_cons (e_var rfl) (l_cons (e_as e_cint rfl) l_nil)) fun x t1 hx ht1 => ws_cons rfl (nb H (most := 3) hw hsc (by (first | grind | omega)) (by decide) rfl (l_cons (e_var rfl) (l_cons e_c3 l_nil)) fun y t2 hy ht2 => ws_nil ?_)))
  show wpB _ _ False [s0, .own [Sc sc, I t2], s2, .val (I w), s4, s5, s6, s7, s8, s9, .val (I x), .val (I y), .unset, .unset, .unset, .unset, .unset] isTrueP
  refine s_asgL2 (sl_cons (e_call (l_cons (e_var rfl) (l_cons (e_var rfl) l_nil)) (H.row hw (pow_bits hw hx (by decide)))) rfl (sl_cons (e_call (l_cons (e_var rfl) (l_cons (e_var rfl) l_nil)) (H.row hw (pow_bits hw hy (by decide)))) rfl sl_nil)) ?_
  exact lawD2 H hw hsc (by (first | grind | omega)) hx hy
end
end Mine.P

set_option autoImplicit false
set_option linter.all false
set_option exponentiation.threshold 2000
namespace Mine.P
open PySem
section
variable {C : Orc} {R : Prop} {ρ ρ1 ρ2 ρ3 : MEnv} {a b c e : ME} {es : List ME} {d : D} {ds : List D} {p p1 p2 p3 p4 i j k m n w : Nat} {r body : List MS} {Q K : Fl → MEnv → Prop} {Z : D → MEnv → Prop} {s : List Nat} {u v z : Int}
theorem e_cmp2Z (ha : Ev C R a ρ (.int u) ρ1) (hb : Ev C R b ρ1 (.int v) ρ2) (hc : Ev C R c ρ2 (.int z) ρ2) : Ev C R (.cmp2 a .le b .le c p) ρ (.bool (decide (u ≤ v) && decide (v ≤ z))) ρ2 := fun Q q => ha _ (hb _ (by
  show brP (decide (u ≤ v)) _ _
  cases hd : decide (u ≤ v) with
  | true => rw [hd] at q; exact br_t (hc _ q)
  | false => rw [hd] at q; exact br_f q))
theorem e_cutSN (h : ρ[i]? = some (.val (.str s))) (hi : Ev C R e ρ (I k) ρ1) (hl : s.length ≤ 4096) (hk : k ≤ s.length ∨ s = []) : Ev C R (.cut i p none (some e) p1 p2) ρ (.str (s.take k)) ρ1 := fun Q q => by
  rcases hk with hk | rfl
  · exact e_cutSH h hi hl hk Q q
  · show pkVar ρ i fun p => wpE C e R ρ fun d ρ => pkGet ρ p fun x => cutP x none (some d) fun d => Q d ρ
    unfold pkVar; rw [h]
    rw [List.take_nil] at q
    exact hi _ ⟨hl, Int.natCast_nonneg k, .inr ⟨rfl, q⟩⟩
theorem wc (h : EvL C R es ρ ds ρ1) (hf : C.fn R k ds fun d => Z d ρ1) : wpE C (.call k p es p1) R ρ Z := h _ hf
theorem st_expr (h : wpE C e R ρ fun d ρ => noneP d (wpB C r R ρ Q)) : wpB C (.expr e p :: r) R ρ Q := h
theorem w_idx (hv : varOf a = none) (h : wpE C a R ρ fun x ρ => wpE C e R ρ fun j ρ => idxP x j fun d => Z d ρ) : wpE C (.idx a e p) R ρ Z := by
  show pkP (varOf a) (wpE C a R ρ) ρ fun p ρ => wpE C e R ρ fun j ρ => pkGet ρ p fun x => idxP x j fun d => Z d ρ
  rw [hv]; exact h
end
/-! a base that is refused -/
section
variable {n w : Nat} {u : Int} (hu : ¬ (2 ≤ u ∧ u ≤ 36))
include hu
theorem need_no (Z : D → Prop) : (orc tbl f_within gl (n + 1)).fn True 16 [.int u] Z := by
  refine ⟨_, rfl, rfl, rfl, ?_⟩
  show wpB _ f_need_base.body True [.val (.int u)] _
  refine s_ifb (e_not (e_cmp2Z e_cint (e_var rfl) (e_lenG (s := SG) (glob_ok _ 0) (by decide)))) (fun _ => trivial) fun h => ?_
  refine absurd ?_ hu
  have h : (decide (2 ≤ u) && decide (u ≤ ((36 : Nat) : Int))) = true := by
    cases hd : (decide (2 ≤ u) && decide (u ≤ ((36 : Nat) : Int))) with
    | true => rfl
    | false => exact absurd h (by rw [show (decide (2 ≤ u) && decide (u ≤ ((SG.length : Nat) : Int))) = false from hd]; exact fun h => nomatch h)
  exact ⟨of_decide_eq_true (band h).1, of_decide_eq_true (band h).2⟩
theorem text_no {x : D} (Z : D → Prop) : (orc tbl f_within gl (n + 2)).fn True 17 [x, .int u, I w, .fn 31] Z := by
  refine ⟨_, rfl, rfl, rfl, ?_⟩
  show wpB _ f_nat_text.body True [.val x, .val (.int u), .val (I w), .val (.fn 31), .unset, .unset, .unset] _
  exact st_expr (wc (l_cons (e_var rfl) l_nil) (need_no hu _))
theorem from_no {x y : D} (Z : D → Prop) : (orc tbl f_within gl (n + 2)).fn True 19 [x, y, .int u, I w, .fn 25] Z := by
  refine ⟨_, rfl, rfl, rfl, ?_⟩
  show wpB _ f_nat_from_text.body True [.val x, .val y, .val (.int u), .val (I w), .val (.fn 25), .unset, .unset, .unset, .unset, .unset] _
  exact st_expr (wc (l_cons (e_var rfl) l_nil) (need_no hu _))
theorem r_text_no {s : Bool} {x y : D} (Z : D → Prop) : (orc tbl f_within gl (n + 3)).fn True 18 [.tup [.tup [.bool s, x], y], .int u, I w, .fn 31] Z := by
  refine ⟨_, rfl, rfl, rfl, ?_⟩
  show wpB _ f_r_text.body True [.val (.tup [.tup [.bool s, x], y]), .val (.int u), .val (I w), .val (.fn 31), .unset] _
  have h2 : 2 ≤ 4096 := by decide
  exact st_asg rfl (wb (we (e_iteB (x := .str (rpre s)) (e_idxTE rfl (e_idxT rfl e_c0 h2 rfl) e_c0 h2 rfl) (fun h => e_as e_str (by rw [h]; rfl)) fun h => e_as e_str (by rw [h]; rfl)) (wc (l_cons (e_idxTE rfl (e_idxT rfl e_c0 h2 rfl) e_c1 h2 rfl) (l_cons (e_var rfl) (l_cons (e_var rfl) (l_cons (e_var rfl) l_nil)))) (text_no hu _))))
theorem r_from_no {T : List Nat} {bg br : Nat} (hT : T.length ≤ 4096) (h1 : 1 ≤ T.length ∨ T = []) (hbg : bg = if (T.take 1 == [45]) = true then 1 else 0) (hbr : findIn T 47 = -1 ∧ br = T.length ∨ findIn T 47 = (br : Int)) (hle : bg ≤ br) (hbl : br ≤ T.length) (Z : D → Prop) : (orc tbl f_within gl (n + 3)).fn True 20 [.str T, .int u, I w, .fn 25, .fn 31] Z := by
  refine ⟨_, rfl, rfl, rfl, ?_⟩
  show wpB _ f_r_from_text.body True [.val (.str T), .val (.int u), .val (I w), .val (.fn 25), .val (.fn 31), .unset, .unset, .unset, .unset] _
  refine s_asg (d := I bg) (e_iteB (e_eqS (e_cutSN rfl e_c1 hT h1) e_str) (fun h => e_as e_c1 (by rw [hbg, if_pos h])) fun h => e_as e_c0 (by rw [hbg, h]; rfl)) rfl ?_
  rcases hbr with ⟨h, rfl⟩ | h
  · refine s_asg (e_as (d' := .int (-1)) (e_find (e_var rfl) e_str) (congrArg D.int h)) rfl ?_
    refine s_ifT (e_ltZ (e_var rfl) e_cint) (by decide) (s_asg (e_lenS rfl hT) rfl (s_end ?_))
    exact st_asg rfl (wc (l_cons (e_cutSB rfl (e_var rfl) (e_var rfl) hT hle hbl) (l_cons (e_var rfl) (l_cons (e_var rfl) (l_cons (e_var rfl) (l_cons (e_var rfl) l_nil))))) (from_no hu _))
  · refine s_asg (e_as (d' := I br) (e_find (e_var rfl) e_str) (congrArg D.int h)) rfl ?_
    refine s_ifF (e_lt (e_var rfl) e_c0) (Nat.not_lt_zero _) (s_end ?_)
    exact st_asg rfl (wc (l_cons (e_cutSB rfl (e_var rfl) (e_var rfl) hT hle hbl) (l_cons (e_var rfl) (l_cons (e_var rfl) (l_cons (e_var rfl) (l_cons (e_var rfl) l_nil))))) (from_no hu _))
noncomputable def TX : List (List Nat) := [[48], [49, 48, 47, 55], [122], [45], [], [63], [49, 47, 48], [47]]
theorem tx_no {v : Nat} (hv : v < 8) (Z : D → Prop) : (orc tbl f_within gl (n + 3)).fn True 20 [.str (TX.getD v []), .int u, I w, .fn 25, .fn 31] Z :=
  match v, hv with
  | 0, _ => r_from_no hu (T := [48]) (bg := 0) (br := 1) (by decide) (.inl (by decide)) rfl (.inl ⟨by decide +kernel, rfl⟩) (by decide) (by decide) Z
  | 1, _ => r_from_no hu (T := [49, 48, 47, 55]) (bg := 0) (br := 2) (by decide) (.inl (by decide)) rfl (.inr (by decide +kernel)) (by decide) (by decide) Z
  | 2, _ => r_from_no hu (T := [122]) (bg := 0) (br := 1) (by decide) (.inl (by decide)) rfl (.inl ⟨by decide +kernel, rfl⟩) (by decide) (by decide) Z
  | 3, _ => r_from_no hu (T := [45]) (bg := 1) (br := 1) (by decide) (.inl (by decide)) rfl (.inl ⟨by decide +kernel, rfl⟩) (by decide) (by decide) Z
  | 4, _ => r_from_no hu (T := []) (bg := 0) (br := 0) (by decide) (.inr rfl) rfl (.inl ⟨by decide +kernel, rfl⟩) (by decide) (by decide) Z
  | 5, _ => r_from_no hu (T := [63]) (bg := 0) (br := 1) (by decide) (.inl (by decide)) rfl (.inl ⟨by decide +kernel, rfl⟩) (by decide) (by decide) Z
  | 6, _ => r_from_no hu (T := [49, 47, 48]) (bg := 0) (br := 1) (by decide) (.inl (by decide)) rfl (.inr (by decide +kernel)) (by decide) (by decide) Z
  | 7, _ => r_from_no hu (T := [47]) (bg := 0) (br := 0) (by decide) (.inl (by decide)) rfl (.inr (by decide +kernel)) (by decide) (by decide) Z
  | v + 8, h => absurd h (by (first | grind | omega))
end
end Mine.P

set_option autoImplicit false
set_option linter.all false
set_option exponentiation.threshold 2000
namespace Mine.P
open PySem
section
variable {C C' : Orc} (H : LawC C) {w : Nat} {sc : List Int}
include H
/-- behind the first part of law -/
theorem law_mid (hw : W w) (hsc : sc.length ≤ 30)
    (no1 : ∀ {u : Int} {v : Nat}, ¬ (2 ≤ u ∧ u ≤ 36) → v < 8 → C'.fn True 20 [.str (TX.getD v []), .int u, I w, .fn 25, .fn 31] fun _ => False)
    (no2 : ∀ {u : Int} {s : Bool} {x y : D}, ¬ (2 ≤ u ∧ u ≤ 36) → C'.fn True 18 [.tup [.tup [.bool s, x], y], .int u, I w, .fn 31] fun _ => False)
    {u : Int} {s : Bool} {x y : Nat} {s0 s4 s5 s6 s7 : Slot} (hx : x < 2 ^ 200) (hy : y < 2 ^ 200) (hy0 : y ≠ 0) (hg : x ≠ 0 → Nat.gcd x y = 1) (hz : x = 0 → y = 1 ∧ s = false) {ρ : MEnv}
    (hρ : ρ = [s0, .own [Sc sc, I 4], .val (.int u), .val (I w), s4, s5, s6, s7, .val (.tup [.tup [.bool s, N (2 ^ w) x], N (2 ^ w) y]), .cel, .unset, .unset, .unset, .unset, .unset, .unset, .unset]) :
    wpE C lawT False ρ fun d ρ => boolP d fun b => brP b
      (wpB C lawB False ρ fun f ρ => flP f (wpB C lawD False ρ isTrueP) fun _ => False)
      (wpB C lawC False ρ fun f ρ => flP f ((refP C' lam1 9 ρ ∧ refP C' lam2 8 ρ) ∧ wpB C lawD False ρ isTrueP) fun _ => False) := by
  subst hρ
  refine we (e_cmp2Z e_cint (e_var rfl) e_cint) ?_
  refine And.intro (fun h => ?_) fun h => ?_
  · have hb1 := of_decide_eq_true (band h).1
    have hb2 := of_decide_eq_true (band h).2
    obtain ⟨b, rfl⟩ : ∃ b : Nat, u = (b : Int) := ⟨u.toNat, by (first | grind | omega)⟩
    have h1 : 2 ≤ b := by (first | grind | omega)
    have h2 : b ≤ 36 := by (first | grind | omega)
    refine st_asgC (we (e_call (l_cons (e_var rfl) (l_cons (e_var rfl) (l_cons (e_var rfl) (l_cons e_fn l_nil)))) (H.tx hw h1 h2 hx hy)) ⟨rfl, ?_⟩)
    refine s_ifb (e_cmp (e_call (l_cons (e_var rfl) (l_cons (e_var rfl) (l_cons (e_var rfl) (l_cons e_fn (l_cons e_fn l_nil))))) (H.rd hw h1 h2 hx hy hy0 hg hz)) (e_var rfl) fun Q q => cmp_thing q) (fun h => nomatch h) fun _ => s_end ?_
    exact lawD_ok H hw hsc (by decide)
  · have hn : ¬ (2 ≤ u ∧ u ≤ 36) := fun q => by rw [decide_eq_true q.1, decide_eq_true q.2] at h; cases h
    refine st_asgC (w_idx rfl (we (e_list (l_cons e_str (l_cons e_str (l_cons e_str (l_cons e_str (l_cons e_str (l_cons e_str (l_cons e_str (l_cons e_str l_nil))))))))) (nx H (m := 8) (by decide) hsc (by decide) rfl (l_cons (e_as e_cint rfl) l_nil) fun v hv => ?_)))
    have hd : (TX.map D.str)[v]? = some (.str (TX.getD v [])) := by
      have hl : v < TX.length := hv
      rw [List.getElem?_map, List.getD_eq_getElem?_getD, List.getElem?_eq_getElem hl]; rfl
    refine tupAt (ds := TX.map D.str) (by show 8 ≤ 4096; decide) hd ⟨rfl, ⟨⟨⟨.int u, .str (TX.getD v []), I w, rfl, rfl, rfl, ?_⟩, ⟨.int u, _, I w, rfl, rfl, rfl, ?_⟩⟩, ?_⟩⟩
    · exact wc (l_cons (e_var rfl) (l_cons (e_var rfl) (l_cons (e_var rfl) (l_cons e_fn (l_cons e_fn l_nil))))) (no1 hn hv)
    · exact wc (l_cons (e_var rfl) (l_cons (e_var rfl) (l_cons (e_var rfl) (l_cons e_fn l_nil)))) (no2 hn)
    · exact lawD_ok H hw hsc (by decide)
end
end Mine.P

set_option autoImplicit false
set_option linter.all false
set_option exponentiation.threshold 2000
namespace Mine.P
open PySem
theorem small_z {u : Int} (h : u.natAbs ≤ 2000) : u.natAbs < 2 ^ 200 := Nat.lt_of_le_of_lt h (Nat.lt_trans (by decide : 2000 < 2 ^ 20) (Nat.pow_lt_pow_right (by decide) (by decide)))
section
variable {C C' : Orc} (H : LawC C)
include H
/-- the loop for the greatest common divisor, and the rational -/
theorem law_gcd {Q : Fl → MEnv → Prop} {w bt : Nat} {tp u : Int} {sc : List Int} {s0 : Slot} (hw : W w) (ht : tp.natAbs ≤ 2000) (hb0 : bt ≠ 0) (hb : bt ≤ 2000)
    (k : ∀ (s : Bool) (x y : Nat), x < 2 ^ 200 → y < 2 ^ 200 → y ≠ 0 → (x ≠ 0 → Nat.gcd x y = 1) → (x = 0 → y = 1 ∧ s = false) → ∀ s6 s7, Q .next [s0, .own [Sc sc, I 4], .val (.int u), .val (I w), .val (.int tp), .val (I bt), s6, s7, .val (.tup [.tup [.bool s, N (2 ^ w) x], N (2 ^ w) y]), .cel, .unset, .unset, .unset, .unset, .unset, .unset, .unset]) :
    wpB C (lawA.drop 3) False [s0, .own [Sc sc, I 4], .val (.int u), .val (I w), .val (.int tp), .val (I bt), .unset, .unset, .cel, .cel, .unset, .unset, .unset, .unset, .unset, .unset, .unset] Q := by
  have sm2 : ∀ {z}, z ≤ 2000 → z < 2 ^ 200 := fun h => Nat.lt_of_le_of_lt h (Nat.lt_trans (by decide : 2000 < 2 ^ 20) (Nat.pow_lt_pow_right (by decide) (by decide)))
  have up : ∀ {z}, z < 2 ^ 200 → z < 2 ^ 256 := fun h => Nat.lt_trans h (Nat.pow_lt_pow_right (by decide) (by decide))
  refine s_asgL2 (sl_cons (e_absV rfl) rfl (sl_cons (e_var rfl) rfl sl_nil)) ?_
  refine s_whl (m := bt) (fun v ρ => ∃ g, Nat.gcd g v = Nat.gcd tp.natAbs bt ∧ ρ = [s0, .own [Sc sc, I 4], .val (.int u), .val (I w), .val (.int tp), .val (I bt), .val (I g), .val (I v), .cel, .cel, .unset, .unset, .unset, .unset, .unset, .unset, .unset]) ?_ ⟨_, rfl, rfl⟩
  rintro v _ ⟨g, hg, rfl⟩ K h1 h2
  refine w_test (W := fun ρ => wpB _ _ False ρ Q) (e_gt (e_var rfl) e_c0) (fun h => ?_) fun h => ?_
  · refine s_asgL2 (sl_cons (e_var rfl) rfl (sl_cons (e_mod (e_var rfl) (e_var rfl) (Nat.ne_of_gt h)) rfl sl_nil)) (s_nil (h1 (g % v) (Nat.mod_lt _ h) _ ⟨v, ?_, rfl⟩))
    rw [← hg, Nat.gcd_comm v, ← Nat.gcd_rec, Nat.gcd_comm]
  · have hv : v = 0 := Nat.eq_zero_of_not_pos h
    subst hv
    rw [Nat.gcd_zero_right] at hg
    subst hg
    have hgp : 0 < Nat.gcd tp.natAbs bt := Nat.gcd_pos_of_pos_right _ (Nat.pos_of_ne_zero hb0)
    have hx := sm2 (Nat.le_trans (Nat.div_le_self tp.natAbs (Nat.gcd tp.natAbs bt)) ht)
    have hy := sm2 (Nat.le_trans (Nat.div_le_self bt (Nat.gcd tp.natAbs bt)) hb)
    have hyne : bt / Nat.gcd tp.natAbs bt ≠ 0 := Nat.ne_of_gt (Nat.div_pos (Nat.gcd_le_right _ (Nat.pos_of_ne_zero hb0)) hgp)
    have cop : Nat.gcd (tp.natAbs / Nat.gcd tp.natAbs bt) (bt / Nat.gcd tp.natAbs bt) = 1 := by rw [Nat.gcd_div (Nat.gcd_dvd_left _ _) (Nat.gcd_dvd_right _ _), Nat.div_self hgp]
    refine st_asgC (we (e_tup (l_cons (e_tup (l_cons (e_ltZ (e_var rfl) e_cint) (l_cons (e_call (l_cons (e_div (e_absV rfl) (e_var rfl) (up (sm2 ht)) (Nat.ne_of_gt hgp)) (l_cons (e_var rfl) l_nil)) (H.row hw (up hx))) l_nil))) (l_cons (e_call (l_cons (e_div (e_var rfl) (e_var rfl) (up (sm2 hb)) (Nat.ne_of_gt hgp)) (l_cons (e_var rfl) l_nil)) (H.row hw (up hy))) l_nil))) ⟨rfl, ?_⟩)
    refine k _ _ _ hx hy hyne (fun _ => cop) (fun h => ?_) _ _
    rw [h, Nat.gcd_zero_left] at cop
    refine ⟨cop, decide_eq_false fun hlt => ?_⟩
    have h0 : tp.natAbs = 0 := by
      have := Nat.div_mul_cancel (Nat.gcd_dvd_left tp.natAbs bt)
      rw [h, Nat.zero_mul] at this; exact this.symm
    (first | grind | omega)
theorem law_A (no1 : ∀ {w : Nat} {u : Int} {v : Nat}, ¬ (2 ≤ u ∧ u ≤ 36) → v < 8 → C'.fn True 20 [.str (TX.getD v []), .int u, I w, .fn 25, .fn 31] fun _ => False)
    (no2 : ∀ {w : Nat} {u : Int} {s : Bool} {x y : D}, ¬ (2 ≤ u ∧ u ≤ 36) → C'.fn True 18 [.tup [.tup [.bool s, x], y], .int u, I w, .fn 31] fun _ => False) (ns : List Int) (hl : ns.length ≤ 63) : lawP C C' (.val (Sc ns) :: lawRest) := by
  have hsc : (ns.take 30).length ≤ 30 := List.length_take_le _ _
  unfold lawP
  refine s_asgN (xs := [Sc (ns.take 30), I 0]) (e_list (l_cons (e_as (e_cutHD rfl (e_as (d' := I 30) e_cint rfl) (by rw [List.length_map]; exact Nat.le_trans hl (by decide))) (congrArg D.list (List.map_take).symm)) (l_cons e_c0 l_nil))) rfl ?_
  show wpB _ _ False [.val (Sc ns), .own [Sc (ns.take 30), I 0], .cel, .cel, .unset, .unset, .unset, .unset, .cel, .cel, .unset, .unset, .unset, .unset, .unset, .unset, .unset] _
  refine st_asgTC (wl_cons (wb (nx H (m := 44) (by decide) hsc (by decide) rfl (l_cons (e_as e_cint rfl) l_nil) fun v1 h1 => we e_cint ?_)))
  show wpEs _ _ False _ _
  refine wl_cons (wb (we e_c2 (nx H (m := 8) (by decide) hsc (by decide) rfl (l_cons (e_as e_cint rfl) l_nil) fun v2 h2 => ?_)))
  refine And.intro rfl (And.intro rfl ?_)
  show wpB _ _ False [.val (Sc ns), .own [Sc (ns.take 30), I 2], .val (.int ((v1 : Int) - 3)), .val (I (2 + v2)), .unset, .unset, .unset, .unset, .cel, .cel, .unset, .unset, .unset, .unset, .unset, .unset, .unset] _
  generalize (v1 : Int) - 3 = u
  have hw : W (2 + v2) := W.of (Nat.le_add_right _ _) (by (first | grind | omega))
  generalize 2 + v2 = w at hw ⊢
  refine st_asgL (ws_cons rfl (wb (nx H (m := 2001) (by decide) hsc (by decide) rfl (l_cons (e_as e_cint rfl) l_nil) fun v3 h3 => we e_cint ?_)))
  show wpSl _ _ False _ _
  refine ws_cons rfl (wb (we e_c1 (nx H (m := 40) (by decide) hsc (by decide) rfl (l_cons (e_as e_cint rfl) l_nil) fun v4 h4 => ?_)))
  show wpB _ _ False [.val (Sc ns), .own [Sc (ns.take 30), I 4], .val (.int u), .val (I w), .val (.int ((v3 : Int) - 1000)), .val (I (1 + v4)), .unset, .unset, .cel, .cel, .unset, .unset, .unset, .unset, .unset, .unset, .unset] _
  refine law_gcd H hw (by (first | grind | omega)) (by (first | grind | omega)) (by (first | grind | omega)) fun s x y hx hy hy0 hg hz s6 s7 => ?_
  exact law_mid H hw hsc no1 no2 hx hy hy0 hg hz rfl
end
theorem law_c : LawC (orc tbl f_within gl 102) where
  next := fun hm hsc ht Z k => next_ok (n := 101) hm hsc ht Z k
  num := fun hw _ _ _ hsc ht hmo Z k => number_ok (n := 100) hw hsc ht hmo Z k
  row := fun hw _ hx => law_row_ok (n := 101) hw hx
  bs := fun hw _ _ hx hy => by
    have sc : ∀ {L : Nat}, 2 ≤ L → MulC (orc tbl f_within gl L) _ (.fn 25) := fun {L} hL x y hx hy => by
      obtain ⟨n, rfl⟩ := lvl hL
      exact Cv.fn (mul_school_ok hw (of_le4 hx (by decide)) (of_le4 hy (by decide)))
    exact by_slices_ok (n := 92) hw hx hy (sc (by decide)) (sc (by decide))
  ms := fun hw _ _ _ _ _ _ hb hc hd hx hy hl hm => mslices_ok (L := 102) hw hb hc hd (by decide) hx hy hl hm
  tx := fun hw _ _ _ _ h1 h2 hx hy => r_text_ok (n := 96) hw h1 h2 hx hy
  rd := fun hw _ _ _ _ h1 h2 hx hy hy0 hg hz => r_from_text_ok (n := 95) hw h1 h2 hx hy hy0 hg hz
theorem plain (ns : List Int) (hl : ns.length ≤ 63) : lawP (orc tbl f_within gl (100 + 2)) (orc tbl f_within gl 100) (.val (.list (ns.map .int)) :: lawRest) :=
  law_A law_c (fun hu hv => tx_no (n := 97) hu hv _) (fun hu => r_text_no (n := 97) hu _) ns hl
end Mine.P

open PySem PySem.W PyProof.Rows
theorem PySem.Challenge.cw_rr0060_01_holds : PySem.Challenge.rw_rr0060_01.Holds :=
  Mine.holds_of (n := 100) (by decide) Mine.P.plain

