import PyProof.Rows.All
import Wide.All
import OpenK.AllK
import Wide.FinOn
import HandS.ForMost
import HandS.Exc
import HandS.TryOnly
import HandS.WordsExc
import HandS.TupAny
import HandS.TupMul
import HandS.Wide
import HandS.IsInst
import HandS.Zip
import KE.DataIsa
import PyProof.Walks
import HandS.Flow
import HandS.Style
import HandS.Small
import PySem.Challenge.RW_notewire_k45_paces_far_away
set_option Elab.async false
set_option linter.all false
set_option maxRecDepth 100000
set_option maxHeartbeats 2000000
section
set_option linter.all false
set_option maxRecDepth 100000
/-! NWa: a core language over data, and its plain evaluator -/
namespace NW
open PySem L2

abbrev D := PyData
abbrev lim : Nat := 16777216

/-- a field of an owned dict: frozen data, or a list that the dict alone holds -/
inductive Fld where
  | fz (d : D)
  | ls (ds : List D)
/-- what a name holds: frozen data, or a list, a dict that nobody else holds -/
inductive O where
  | fz (d : D)
  | lst (ds : List D)
  | dct (kvs : List (Key × Fld))
abbrev Env := List (Option O)
/-- a value at hand: an owned thing, the thing of a name, a list in a field of a name's dict -/
inductive P where
  | val (o : O)
  | plc (i : Nat)
  | plf (i : Nat) (k : Key)
structure Exn where
  cls : Str
  flds : List (Str × D)
inductive Out (α : Type) where
  | ok (a : α) (e : Env)
  | exc (x : Exn) (e : Env)

def bnd {α β : Type} : Option (Out α) → (α → Env → Option (Out β)) → Option (Out β)
  | some (.ok a e), f => f a e
  | some (.exc x e), _ => some (.exc x e)
  | none, _ => none
@[simp] theorem bnd_ok {α β : Type} (a : α) (e : Env) (f : α → Env → Option (Out β)) : bnd (some (.ok a e)) f = f a e := rfl
@[simp] theorem bnd_exc {α β : Type} (x : Exn) (e : Env) (f : α → Env → Option (Out β)) : bnd (some (.exc x e)) f = some (.exc x e) := rfl
@[simp] theorem bnd_none {α β : Type} (f : α → Env → Option (Out β)) : bnd none f = none := rfl

/-! ### owned things as data -/
def Fld.d : Fld → D
  | .fz d => d
  | .ls ds => .list ds
def keyD : Key → D
  | .inl i => .int i
  | .inr x => .str x
/-- the data of a thing whose items are frozen -/
def O.flat : O → Option D
  | .fz d => some d
  | .lst ds => some (.list ds)
  | .dct _ => none
def look (kvs : List (Key × Fld)) (k : Key) : Option Fld := (kvs.find? fun kv => decide (kv.1 = k)).map (·.2)
def putF (kvs : List (Key × Fld)) (k : Key) (v : Fld) : List (Key × Fld) :=
  if kvs.any (fun kv => decide (kv.1 = k)) then kvs.map (fun kv => if kv.1 = k then (kv.1, v) else kv) else kvs ++ [(k, v)]

def slot (env : Env) (i : Nat) : Option O := (env[i]?).join
/-- a value read -/
def flatP : P → Env → Option D
  | .val o, _ => o.flat
  | .plc i, env => (slot env i).bind O.flat
  | .plf i k, env => match slot env i with
    | some (.dct kvs) => match look kvs k with
      | some (.ls ds) => some (.list ds)
      | _ => none
    | _ => none
/-- a value kept: what a name held is frozen from then on -/
def share : P → Env → Option (Out O)
  | .val o, env => some (.ok o env)
  | .plc i, env => match slot env i with
    | some o => match o.flat with
      | some d => some (.ok (.fz d) (env.set i (some (.fz d))))
      | none => none
    | none => none
  | .plf _ _, _ => none
/-- a value handed over: a list or a dict leaves its name -/
def mv : P → Env → Option (Out O)
  | .val o, env => some (.ok o env)
  | .plc i, env => match slot env i with
    | some (.fz d) => some (.ok (.fz d) env)
    | some o => some (.ok o (env.set i none))
    | none => none
  | .plf _ _, _ => none
/-- a value kept as frozen data -/
def frz (p : P) (env : Env) : Option (Out D) := bnd (share p env) fun o env => match o.flat with
  | some d => some (.ok d env)
  | none => none

/-! ### operators -/
inductive BinK | add | sub | mul | fdiv | mod | pow
  deriving DecidableEq
inductive CmpK | eq | ne | lt | le | gt | ge | isin | notin
  deriving DecidableEq

/-! The bounds are closed to the kernel (it must never reckon them at a number with a variable): they are chosen, and told by a law. -/
theorem smallI_ex : ∃ f : Int → Bool, ∀ i, f i = (decide (-(2 ^ 64) < i) && decide (i < 2 ^ 64)) := ⟨_, fun _ => rfl⟩
noncomputable def smallI : Int → Bool := Classical.choose smallI_ex
theorem smallI_def (i : Int) : smallI i = (decide (-(2 ^ 64) < i) && decide (i < 2 ^ 64)) := Classical.choose_spec smallI_ex i
theorem divOk_ex : ∃ f : Int → Bool, ∀ i, f i = (decide (0 < i) && decide (i < 1073741824)) := ⟨_, fun _ => rfl⟩
noncomputable def divOk : Int → Bool := Classical.choose divOk_ex
theorem divOk_def (i : Int) : divOk i = (decide (0 < i) && decide (i < 1073741824)) := Classical.choose_spec divOk_ex i
theorem divOk_iff {i : Int} : divOk i = true ↔ 0 < i ∧ i < 1073741824 := by rw [divOk_def, Bool.and_eq_true, decide_eq_true_eq, decide_eq_true_eq]
theorem powOk_ex : ∃ f : Int → Int → Bool, ∀ a b, f a b = (decide (0 ≤ b) && decide (b ≤ 1000000) && decide (a.natAbs < 2 ^ 64)) := ⟨_, fun _ _ => rfl⟩
noncomputable def powOk : Int → Int → Bool := Classical.choose powOk_ex
theorem powOk_def (a b : Int) : powOk a b = (decide (0 ≤ b) && decide (b ≤ 1000000) && decide (a.natAbs < 2 ^ 64)) := Classical.choose_spec powOk_ex a b
theorem powOk_iff {a b : Int} : powOk a b = true ↔ 0 ≤ b ∧ b ≤ 1000000 ∧ a.natAbs < 2 ^ 64 := by rw [powOk_def, Bool.and_eq_true, Bool.and_eq_true, decide_eq_true_eq, decide_eq_true_eq, decide_eq_true_eq, and_assoc]
theorem rngOk_ex : ∃ f : Int → Bool, ∀ n, f n = (decide (-(2 ^ 62) ≤ n) && decide (n < 2 ^ 62)) := ⟨_, fun _ => rfl⟩
noncomputable def rngOk : Int → Bool := Classical.choose rngOk_ex
theorem rngOk_def (n : Int) : rngOk n = (decide (-(2 ^ 62) ≤ n) && decide (n < 2 ^ 62)) := Classical.choose_spec rngOk_ex n
theorem smallI_of {i : Int} (h1 : -(2 ^ 64) < i) (h2 : i < 2 ^ 64) : smallI i = true := by
  rw [smallI_def, decide_eq_true h1, decide_eq_true h2]; rfl
theorem smallI_nat {n : Nat} (h : n ≤ 1000000) : smallI (n : Int) = true := smallI_of (by omega) (by omega)
theorem divOk_of {i : Int} (h1 : 0 < i) (h2 : i < 1073741824) : divOk i = true := divOk_iff.mpr ⟨h1, h2⟩
theorem divOk_nat {n : Nat} (h1 : 0 < n) (h : n ≤ 1000000) : divOk (n : Int) = true := divOk_of (by omega) (by omega)
theorem rngOk_of {n : Int} (h1 : -(2 ^ 62) ≤ n) (h2 : n < 2 ^ 62) : rngOk n = true := by
  rw [rngOk_def, decide_eq_true h1, decide_eq_true h2]; rfl
theorem rngOk_nat {n : Nat} (h : n ≤ 1000000000) : rngOk (n : Int) = true := rngOk_of (by omega) (by omega)
@[simp] theorem smallI_lit {n : Nat} (h : n < 18446744073709551616) : smallI (no_index (OfNat.ofNat n)) = true := smallI_of (show -(2 ^ 64) < (n : Int) by omega) (show (n : Int) < 2 ^ 64 by omega)
@[simp] theorem smallI_0 : smallI 0 = true := smallI_of (by omega) (by omega)
@[simp] theorem smallI_1 : smallI 1 = true := smallI_of (by omega) (by omega)
@[simp] theorem divOk_lit {n : Nat} (h : 0 < n) (h2 : n < 1073741824) : divOk (no_index (OfNat.ofNat n)) = true := divOk_of (show 0 < (n : Int) by omega) (show (n : Int) < 1073741824 by omega)
@[simp] theorem divOk_1 : divOk 1 = true := divOk_of (by omega) (by omega)
@[simp] theorem rngOk_lit {n : Nat} (h : n < 4611686018427387904) : rngOk (no_index (OfNat.ofNat n)) = true := rngOk_of (show -(2 ^ 62) ≤ (n : Int) by omega) (show (n : Int) < 2 ^ 62 by omega)
@[simp] theorem rngOk_0 : rngOk 0 = true := rngOk_of (by omega) (by omega)
@[simp] theorem rngOk_1 : rngOk 1 = true := rngOk_of (by omega) (by omega)
theorem powOk_10 {b : Int} (h : 0 ≤ b) (h2 : b ≤ 1000000) : powOk 10 b = true := powOk_iff.mpr ⟨h, h2, by decide⟩
@[simp] theorem powOk_10_lit {n : Nat} (h : n < 1000000) : powOk 10 (no_index (OfNat.ofNat n)) = true := powOk_10 (show 0 ≤ (n : Int) by omega) (show (n : Int) ≤ 1000000 by omega)
@[simp] theorem powOk_2_lit {n : Nat} (h : n < 1000000) : powOk 2 (no_index (OfNat.ofNat n)) = true := powOk_iff.mpr ⟨show 0 ≤ (n : Int) by omega, show (n : Int) ≤ 1000000 by omega, by decide⟩
example : smallI 250 = true := by simp
example : powOk 10 30 = true := by simp
example : divOk 17 = true := by simp
noncomputable def binO : BinK → D → D → Option O
  | .add, .int a, .int b => some (.fz (.int (a + b)))
  | .add, .str a, .str b => if a.length + b.length ≤ lim then some (.fz (.str (a ++ b))) else none
  | .add, .tuple a, .tuple b => if a.length + b.length ≤ lim then some (.fz (.tuple (a ++ b))) else none
  | .add, .list a, .list b => if a.length + b.length ≤ lim then some (.lst (a ++ b)) else none
  | .sub, .int a, .int b => some (.fz (.int (a - b)))
  | .mul, .int a, .int b => if smallI a || smallI b then some (.fz (.int (a * b))) else none
  | .fdiv, .int a, .int b => if divOk b then some (.fz (.int (a / b))) else none
  | .mod, .int a, .int b => if 0 < b then some (.fz (.int (a % b))) else none
  | .pow, .int a, .int b => if powOk a b then some (.fz (.int (a ^ b.toNat))) else none
  | _, _, _ => none

/-- a thing without objects within -/
def scalar : D → Bool
  | .none | .bool _ | .int _ | .str _ => true
  | _ => false
def shaped (d : D) : Bool := SeqAt.shaped d
def eqD (a b : D) : Option Bool := if shaped a && shaped b then some (PyData.eqv a b) else none
/-- an item of a row of flat or nested data: each is asked by == -/
def inD (x : D) : List D → Option Bool
  | [] => some false
  | y :: ys => match eqD x y with
    | some true => some true
    | some false => inD x ys
    | none => none
def ltStr (a b : Str) : Bool := decide (a.cps.toList < b.cps.toList)
def cmpO : CmpK → D → D → Option Bool
  | .eq, a, b => eqD a b
  | .ne, a, b => (eqD a b).map (!·)
  | .lt, .int a, .int b => some (decide (a < b))
  | .le, .int a, .int b => some (decide (a ≤ b))
  | .gt, .int a, .int b => some (decide (b < a))
  | .ge, .int a, .int b => some (decide (b ≤ a))
  | _, _, _ => none

def isNone : D → Bool
  | .none => true
  | _ => false
def cutD (xs : List D) (lo hi : Option Int) : List D := (xs.drop (HT.sIx xs.length 0 lo)).take (HT.sIx xs.length xs.length hi - HT.sIx xs.length 0 lo)
def ixD : D → D → Option D
  | .tuple ds, .int i => atI ds i
  | .list ds, .int i => atI ds i
  | _, _ => none
def slO : D → Option Int → Option Int → Option O
  | .tuple ds, lo, hi => some (.fz (.tuple (cutD ds lo hi)))
  | .list ds, lo, hi => some (.lst (cutD ds lo hi))
  | _, _, _ => none
def truthD : D → Option Bool
  | .none => some false
  | .bool b => some b
  | .int i => some (i != 0)
  | .tuple ds => some (!ds.isEmpty)
  | .list ds => some (!ds.isEmpty)
  | _ => none

inductive BI | len | int | max | min | sum | all | any | tuple | list | divmod
  deriving DecidableEq
def intsOf : List D → Option (List Int)
  | [] => some []
  | .int i :: r => (intsOf r).map (i :: ·)
  | _ :: _ => none
def boolsOf : List D → Option (List Bool)
  | [] => some []
  | .bool i :: r => (boolsOf r).map (i :: ·)
  | _ :: _ => none
def maxI : List Int → Int
  | [] => 0
  | [x] => x
  | x :: r => let m := maxI r; if m > x then m else x
def minI : List Int → Int
  | [] => 0
  | [x] => x
  | x :: r => let m := minI r; if m < x then m else x
def rowOf : D → Option (List D)
  | .tuple ds => some ds
  | .list ds => some ds
  | _ => none
noncomputable def biO : BI → List D → Option O
  | .len, [.tuple ds] => some (.fz (.int ds.length))
  | .len, [.list ds] => some (.fz (.int ds.length))
  | .int, [.int i] => some (.fz (.int i))
  | .max, [.int i, .int j] => some (.fz (.int (if j > i then j else i)))
  | .min, [.int i, .int j] => some (.fz (.int (if j < i then j else i)))
  | .max, [.list ds] => match intsOf ds with
    | some ns => if 0 < ns.length then some (.fz (.int (maxI ns))) else none
    | none => none
  | .min, [.list ds] => match intsOf ds with
    | some ns => if 0 < ns.length then some (.fz (.int (minI ns))) else none
    | none => none
  | .sum, [.list ds] => match intsOf ds with
    | some ns => some (.fz (.int ns.sum))
    | none => none
  | .sum, [.tuple ds] => match intsOf ds with
    | some ns => some (.fz (.int ns.sum))
    | none => none
  | .all, [.list ds] => match boolsOf ds with
    | some bs => some (.fz (.bool (bs.all id)))
    | none => none
  | .any, [.list ds] => match boolsOf ds with
    | some bs => some (.fz (.bool (bs.any id)))
    | none => none
  | .tuple, [.list ds] => some (.fz (.tuple ds))
  | .tuple, [.tuple ds] => some (.fz (.tuple ds))
  | .list, [.list ds] => some (.lst ds)
  | .list, [.tuple ds] => some (.lst ds)
  | .divmod, [.int i, .int j] => if divOk j then some (.fz (.tuple [.int (i / j), .int (i % j)])) else none
  | _, _ => none

inductive TyK | int | bool | str | tuple | list | dict
  deriving DecidableEq
def isiD : TyK → D → Bool
  | .int, d => match d with | .int _ => true | .bool _ => true | _ => false
  | .bool, d => match d with | .bool _ => true | _ => false
  | .str, d => match d with | .str _ => true | _ => false
  | .tuple, d => match d with | .tuple _ => true | _ => false
  | .list, d => match d with | .list _ => true | _ => false
  | .dict, d => match d with | .dict _ => true | _ => false

/-! ### the language -/
mutual
inductive CE where
  | lit (d : D)
  | var (i : Nat)
  | glob (x : Str)
  | tup (es : CEs)
  | lst (es : CEs)
  | dct (ks : List Str) (es : CEs)
  | bin (k : BinK) (a b : CE)
  | cmp (k : CmpK) (a b : CE)
  | chain (k l : CmpK) (a b c : CE)
  | isN (a : CE)
  | notN (a : CE)
  | and (a b : CE)
  | or (a b : CE)
  | not (a : CE)
  | neg (a : CE)
  | ite (t : CB) (a b : CE)
  | ix (a i : CE)
  | fld (i : Nat) (k : Str)
  | sl (a : CE) (lo hi : CEo)
  | bi (b : BI) (es : CEs)
  | isi (a : CE) (T : TyK)
  | call (f : Str) (es : CEs)
  | cio (f : Str) (i : Nat) (es : CEs)
  | comp (own : List Nat) (t : CT) (src : CI) (cond : CB) (elt : CE)
/-- tests -/
inductive CB where
  | yes
  | of (e : CE)
  | and (a b : CB)
  | or (a b : CB)
  | not (a : CB)
inductive CEs where
  | nil
  | cons (e : CE) (es : CEs)
inductive CEo where
  | none
  | some (e : CE)
/-- what is walked -/
inductive CI where
  | of (e : CE)
  | rng (e : CE)
  | rng2 (a b : CE)
  | enum (e : CE)
  | zip (a b : CE)
/-- a target of names -/
inductive CT where
  | name (i : Nat)
  | tup (l : List Nat)
end
mutual
inductive CS where
  | asg (t : CT) (e : CE)
  | par (l : List Nat) (es : CEs)
  | aug (i : Nat) (k : BinK) (e : CE)
  | put (i : Nat) (k : CE) (e : CE)          -- x[k] = e, x a list or a dict of its own
  | putf (i : Nat) (f : Str) (k : CE) (e : CE) -- x["f"][k] = e
  | append (i : Nat) (e : CE)
  | expr (e : CE)
  | ret (e : CE)
  | retN
  | ite (t : CB) (a b : CSs)
  | for_ (t : CT) (src : CI) (body : CSs)
  | while_ (t : CB) (body : CSs)
  | never
  | pass
  | brk
  | cnt
inductive CSs where
  | nil
  | cons (s : CS) (r : CSs)
end

/-- what a def means -/
inductive Mean where
  /-- data in, data out; n parameters -/
  | pure (n : Nat) (m : List D → Option (Except Exn D))
  /-- its first parameter is changed; n others -/
  | io (n : Nat) (m : O → List D → Option (Except Exn D × O))
  /-- what it hands back is the caller's own -/
  | mk (n : Nat) (m : List D → Option O)
structure Gam where
  const : Str → Option D
  fn : Str → Option Mean
  fuel : Nat

def setAll : Env → List Nat → List D → Option Env
  | env, [], [] => some env
  | env, i :: is, d :: ds => setAll (env.set i (some (.fz d))) is ds
  | _, _, _ => none
def setT : CT → D → Env → Option Env
  | .name i, d, env => some (env.set i (some (.fz d)))
  | .tup l, d, env => match d with
    | .tuple ds => setAll env l ds
    | _ => none
def tgIn (own : List Nat) : CT → Bool
  | .name i => own.contains i
  | .tup l => l.all fun i => own.contains i
def wipeE : Env → List Nat → Env
  | env, [] => env
  | env, i :: is => (wipeE env is).set i none
/-- the slots of a comprehension are as they were -/
def backE (env env2 : Env) : List Nat → Env
  | [] => env2
  | i :: is => (backE env env2 is).set i (slot env i)

def enumFrom (n : Nat) : List D → List D
  | [] => []
  | d :: ds => .tuple [.int n, d] :: enumFrom (n + 1) ds
def zipD : List D → List D → List D
  | a :: as, b :: bs => .tuple [a, b] :: zipD as bs
  | _, _ => []
def rangeD (lo : Int) : Nat → List D
  | 0 => []
  | n + 1 => .int lo :: rangeD (lo + 1) n

/-- a comprehension's turns -/
def compL (turn : D → Env → Option (Out (Option D))) : List D → Env → Option (Out (List D))
  | [], env => some (.ok [] env)
  | d :: ds, env => match turn d env with
    | some (.ok o env2) => match compL turn ds env2 with
      | some (.ok r env3) => match o with
        | some y => some (.ok (y :: r) env3)
        | none => some (.ok r env3)
      | _ => none
    | _ => none

/-- a slot without an owned thing -/
def frOk (env : Env) (i : Nat) : Bool := match slot env i with
  | none => true
  | some (.fz _) => true
  | _ => false
def wipeO (own : List Nat) (r : Option D) (e : Env) : Option (Out (Option D)) := if own.all (frOk e) then some (.ok r (wipeE e own)) else none
def compTurn (own : List Nat) (st : D → Env → Option Env) (t : Env → Option (Out Bool)) (el : Env → Option (Out P)) (d : D) (e : Env) : Option (Out (Option D)) := match st d e with
  | some e => bnd (t e) fun c e => if c then bnd (el e) fun p e => bnd (frz p e) fun y e => wipeO own (some y) e else wipeO own none e
  | none => none
def flats : List P → Env → Option (List D)
  | [], _ => some []
  | p :: ps, env => match flatP p env, flats ps env with
    | some d, some ds => some (d :: ds)
    | _, _ => none
mutual
/-- nothing that a name holds is changed -/
def noeff : CE → Bool
  | .lit _ | .var _ | .glob _ | .fld _ _ => true
  | .tup es | .lst es | .dct _ es | .bi _ es | .call _ es => noeffs es
  | .bin _ a b | .cmp _ a b | .and a b | .or a b | .ix a b => noeff a && noeff b
  | .chain _ _ a b c => noeff a && noeff b && noeff c
  | .ite t b c => noeffb t && noeff b && noeff c
  | .isN a | .notN a | .not a | .neg a | .isi a _ => noeff a
  | .sl a lo hi => noeff a && noeffo lo && noeffo hi
  | .cio _ _ _ => false
  | .comp _ _ src cond elt => noeffi src && noeffb cond && noeff elt
def noeffb : CB → Bool
  | .yes => true
  | .of e => noeff e
  | .and a b | .or a b => noeffb a && noeffb b
  | .not a => noeffb a
def noeffs : CEs → Bool
  | .nil => true
  | .cons e es => noeff e && noeffs es
def noeffo : CEo → Bool
  | .none => true
  | .some e => noeff e
def noeffi : CI → Bool
  | .of e | .rng e | .enum e => noeff e
  | .rng2 a b | .zip a b => noeff a && noeff b
end
/-- a field's list may be at hand only while nothing is changed -/
def P.still : P → Bool → Bool
  | .plf _ _, b => b
  | _, _ => true

/-- a call with its arguments -/
def callD : Mean → List D → Env → Option (Out P)
  | .pure n m, ds, env => if ds.length = n then match m ds with
    | some (.ok d) => some (.ok (.val (.fz d)) env)
    | some (.error x) => some (.exc x env)
    | none => none
    else none
  | .mk n m, ds, env => if ds.length = n then match m ds with
    | some o => some (.ok (.val o) env)
    | none => none
    else none
  | .io _ _, _, _ => none
/-- a call that changes the thing of a name -/
def callI : Mean → Nat → List D → Env → Option (Out P)
  | .io n m, i, ds, env => if ds.length = n then match slot env i with
    | some o => match m o ds with
      | some (.ok d, o') => some (.ok (.val (.fz d)) (env.set i (some o')))
      | some (.error x, o') => some (.exc x (env.set i (some o')))
      | none => none
    | none => none
    else none
  | _, _, _, _ => none
mutual
noncomputable def evalE (Γ : Gam) : CE → Env → Option (Out P)
  | .lit d, env => some (.ok (.val (.fz d)) env)
  | .var i, env => match slot env i with
    | some _ => some (.ok (.plc i) env)
    | none => none
  | .glob x, env => match Γ.const x with
    | some d => some (.ok (.val (.fz d)) env)
    | none => none
  | .tup es, env => bnd (evalDs Γ es env) fun ds env => if ds.length ≤ lim then some (.ok (.val (.fz (.tuple ds))) env) else none
  | .lst es, env => bnd (evalDs Γ es env) fun ds env => if ds.length ≤ lim then some (.ok (.val (.lst ds)) env) else none
  | .dct ks es, env => bnd (evalFs Γ es env) fun fs env => if ks.length = fs.length ∧ ks.length ≤ 15 ∧ ks ≠ [] ∧ ks.Nodup then some (.ok (.val (.dct ((ks.map Sum.inr).zip fs))) env) else none
  | .bin k a b, env => bnd (evalE Γ a env) fun p env => bnd (evalE Γ b env) fun q env => if p.still (noeff b) then match flatP p env, flatP q env with
    | some x, some y => (binO k x y).map fun o => .ok (.val o) env
    | _, _ => none
    else none
  | .cmp k a b, env => bnd (evalE Γ a env) fun p env => bnd (evalE Γ b env) fun q env => if p.still (noeff b) then match flatP p env, flatP q env with
    | some x, some y => (cmpO k x y).map fun c => .ok (.val (.fz (.bool c))) env
    | _, _ => none
    else none
  | .chain k l a b c, env => bnd (evalE Γ a env) fun p env => bnd (evalE Γ b env) fun q env => if p.still (noeff b) && q.still (noeff c) then match flatP p env, flatP q env with
    | some x, some y => match cmpO k x y with
      | some true => bnd (evalE Γ c env) fun r env => match flatP q env, flatP r env with
        | some y, some z => (cmpO l y z).map fun c => .ok (.val (.fz (.bool c))) env
        | _, _ => none
      | some false => some (.ok (.val (.fz (.bool false))) env)
      | none => none
    | _, _ => none
    else none
  | .isN a, env => bnd (evalE Γ a env) fun p env => match flatP p env with
    | some x => some (.ok (.val (.fz (.bool (isNone x)))) env)
    | none => none
  | .notN a, env => bnd (evalE Γ a env) fun p env => match flatP p env with
    | some x => some (.ok (.val (.fz (.bool (!isNone x)))) env)
    | none => none
  | .and a b, env => bnd (evalE Γ a env) fun p env => match flatP p env with
    | some (.bool true) => evalE Γ b env
    | some (.bool false) => some (.ok (.val (.fz (.bool false))) env)
    | _ => none
  | .or a b, env => bnd (evalE Γ a env) fun p env => match flatP p env with
    | some (.bool true) => some (.ok (.val (.fz (.bool true))) env)
    | some (.bool false) => evalE Γ b env
    | _ => none
  | .not a, env => bnd (evalE Γ a env) fun p env => match flatP p env with
    | some (.bool c) => some (.ok (.val (.fz (.bool (!c)))) env)
    | _ => none
  | .neg a, env => bnd (evalE Γ a env) fun p env => match flatP p env with
    | some (.int i) => some (.ok (.val (.fz (.int (-i)))) env)
    | _ => none
  | .ite t a b, env => bnd (evalT Γ t env) fun c env => if c then evalE Γ a env else evalE Γ b env
  | .ix a i, env => bnd (evalE Γ a env) fun p env => bnd (evalE Γ i env) fun q env => if p.still (noeff i) then match flatP p env, flatP q env with
    | some x, some y => (ixD x y).map fun d => .ok (.val (.fz d)) env
    | _, _ => none
    else none
  | .fld i k, env => match slot env i with
    | some (.dct kvs) => match look kvs (.inr k) with
      | some (.fz d) => some (.ok (.val (.fz d)) env)
      | some (.ls _) => some (.ok (.plf i (.inr k)) env)
      | none => none
    | _ => none
  | .sl a lo hi, env => bnd (evalE Γ a env) fun p env => bnd (evalO Γ lo env) fun l env => bnd (evalO Γ hi env) fun h env => if p.still (noeffo lo && noeffo hi) then match flatP p env with
    | some x => (slO x l h).map fun o => .ok (.val o) env
    | none => none
    else none
  | .bi b es, env => bnd (evalPs Γ es env) fun ps env => match flats ps env with
    | some ds => (biO b ds).map fun o => .ok (.val o) env
    | none => none
  | .isi a T, env => bnd (evalE Γ a env) fun p env => match flatP p env with
    | some d => some (.ok (.val (.fz (.bool (isiD T d)))) env)
    | none => none
  | .call f es, env => match Γ.fn f with
    | some m => bnd (evalDs Γ es env) fun ds env => callD m ds env
    | none => none
  | .cio f i es, env => match Γ.fn f with
    | some m => if (slot env i).isSome then bnd (evalDs Γ es env) fun ds env => callI m i ds env else none
    | none => none
  | .comp own t src cond elt, env => bnd (evalI Γ src env) fun items env =>
      if tgIn own t && own.all (frOk env) && decide (items.length ≤ lim) then match compL (compTurn own (setT t) (evalT Γ cond) (evalE Γ elt)) items (wipeE env own) with
      | some (.ok ds env2) => some (.ok (.val (.lst ds)) (backE env env2 own))
      | _ => none
      else none
noncomputable def evalDs (Γ : Gam) : CEs → Env → Option (Out (List D))
  | .nil, env => some (.ok [] env)
  | .cons e es, env => bnd (evalE Γ e env) fun p env => bnd (frz p env) fun d env => bnd (evalDs Γ es env) fun ds env => some (.ok (d :: ds) env)
noncomputable def evalPs (Γ : Gam) : CEs → Env → Option (Out (List P))
  | .nil, env => some (.ok [] env)
  | .cons e es, env => bnd (evalE Γ e env) fun p env => bnd (evalPs Γ es env) fun ps env => if p.still (noeffs es) then some (.ok (p :: ps) env) else none
noncomputable def evalFs (Γ : Gam) : CEs → Env → Option (Out (List Fld))
  | .nil, env => some (.ok [] env)
  | .cons e es, env => bnd (evalE Γ e env) fun p env => bnd (mv p env) fun o env => match o with
    | .fz d => bnd (evalFs Γ es env) fun fs env => some (.ok (.fz d :: fs) env)
    | .lst ds => bnd (evalFs Γ es env) fun fs env => some (.ok (.ls ds :: fs) env)
    | .dct _ => none
noncomputable def evalO (Γ : Gam) : CEo → Env → Option (Out (Option Int))
  | .none, env => some (.ok none env)
  | .some e, env => bnd (evalE Γ e env) fun p env => match flatP p env with
    | some (.int i) => some (.ok (some i) env)
    | _ => none
noncomputable def evalT (Γ : Gam) : CB → Env → Option (Out Bool)
  | .yes, env => some (.ok true env)
  | .and a b, env => bnd (evalT Γ a env) fun c env => if c then evalT Γ b env else some (.ok false env)
  | .or a b, env => bnd (evalT Γ a env) fun c env => if c then some (.ok true env) else evalT Γ b env
  | .not a, env => bnd (evalT Γ a env) fun c env => some (.ok (!c) env)
  | .of e, env => bnd (evalE Γ e env) fun p env => match flatP p env with
    | some d => (truthD d).map fun c => .ok c env
    | none => none
noncomputable def evalI (Γ : Gam) : CI → Env → Option (Out (List D))
  | .of e, env => bnd (evalE Γ e env) fun p env => bnd (frz p env) fun d env => (rowOf d).map fun ds => .ok ds env
  | .rng e, env => bnd (evalE Γ e env) fun p env => match flatP p env with
    | some (.int n) => if rngOk n then some (.ok (rangeD 0 n.toNat) env) else none
    | _ => none
  | .rng2 a b, env => bnd (evalE Γ a env) fun p env => bnd (evalE Γ b env) fun q env => match flatP p env, flatP q env with
    | some (.int m), some (.int n) => if rngOk m && rngOk n then some (.ok (rangeD m (n - m).toNat) env) else none
    | _, _ => none
  | .enum e, env => bnd (evalE Γ e env) fun p env => bnd (frz p env) fun d env => match d with
    | .list ds => some (.ok (enumFrom 0 ds) env)
    | _ => none
  | .zip a b, env => bnd (evalE Γ a env) fun p env => bnd (frz p env) fun d env => bnd (evalE Γ b env) fun q env => bnd (frz q env) fun d2 env =>
    match d, d2 with
    | .list as, .list bs => some (.ok (zipD as bs) env)
    | .tuple as, .tuple bs => some (.ok (zipD as bs) env)
    | _, _ => none
end
end NW

/-! ### statements -/
namespace NW
open PySem L2
inductive SO where
  | nx (e : Env)
  | ret (o : O) (e : Env)
  | brk (e : Env)
  | cnt (e : Env)
  | exc (x : Exn) (e : Env)
def sbnd {α : Type} : Option (Out α) → (α → Env → Option SO) → Option SO
  | some (.ok a e), f => f a e
  | some (.exc x e), _ => some (.exc x e)
  | none, _ => none
@[simp] theorem sbnd_ok {α : Type} (a : α) (e : Env) (f : α → Env → Option SO) : sbnd (some (.ok a e)) f = f a e := rfl
@[simp] theorem sbnd_exc {α : Type} (x : Exn) (e : Env) (f : α → Env → Option SO) : sbnd (some (.exc x e)) f = some (.exc x e) := rfl
@[simp] theorem sbnd_none {α : Type} (f : α → Env → Option SO) : sbnd none f = none := rfl
def setOs : Env → List Nat → List O → Option Env
  | env, [], [] => some env
  | env, i :: is, o :: os => setOs (env.set i (some o)) is os
  | _, _, _ => none
def forL (body : D → Env → Option SO) : List D → Env → Option SO
  | [], env => some (.nx env)
  | d :: ds, env => match body d env with
    | some (.nx env2) => forL body ds env2
    | some (.cnt env2) => forL body ds env2
    | some (.brk env2) => some (.nx env2)
    | r => r
def bodyF (st : D → Env → Option Env) (run : Env → Option SO) (d : D) (env : Env) : Option SO := match st d env with
  | some env => run env
  | none => none
def whileL (test : Env → Option (Out Bool)) (body : Env → Option SO) : Nat → Env → Option SO
  | 0, _ => none
  | n + 1, env => sbnd (test env) fun c env => if c then match body env with
      | some (.nx env2) => whileL test body n env2
      | some (.cnt env2) => whileL test body n env2
      | some (.brk env2) => some (.nx env2)
      | r => r
    else some (.nx env)
/-- a list changed at a place -/
def setAtI (ds : List D) (i : Int) (d : D) : Option (List D) := (ixN ds.length i).map fun j => ds.set j d
def targets (pn : Nat) : CT → Bool
  | .name i => decide (pn ≤ i)
  | .tup l => l.all fun i => decide (pn ≤ i)
noncomputable def evalOs (Γ : Gam) : CEs → Env → Option (Out (List O))
  | .nil, env => some (.ok [] env)
  | .cons e es, env => bnd (evalE Γ e env) fun p env => bnd (share p env) fun o env => bnd (evalOs Γ es env) fun os env => some (.ok (o :: os) env)
def augO : BinK → D → D → Option D
  | .add, .int a, .int b => some (.int (a + b))
  | .sub, .int a, .int b => some (.int (a - b))
  | _, _, _ => none
def keyOf : D → Option Key
  | .int i => some (.inl i)
  | .str x => some (.inr x)
  | _ => none
def keysOk (kvs : List (Key × Fld)) : Bool := decide ((kvs.map (·.1)).Nodup)
/-- x[q] = o -/
def putO (q : D) (x o : O) : Option O := match x with
  | .lst ds => match q, o with
    | .int j, .fz d => (setAtI ds j d).map .lst
    | _, _ => none
  | .dct kvs => match keyOf q with
    | some k => if kvs.length < lim && keysOk kvs then match o with
      | .fz d => some (.dct (putF kvs k (.fz d)))
      | .lst ds => some (.dct (putF kvs k (.ls ds)))
      | .dct _ => none
      else none
    | none => none
  | .fz _ => none
/-- x[f][q] = d -/
def putfO (q : D) (x : O) (f : Key) (d : D) : Option O := match x with
  | .dct kvs => match look kvs f, q with
    | some (.ls ds), .int j => if keysOk kvs then (setAtI ds j d).map fun ds' => .dct (putF kvs f (.ls ds')) else none
    | _, _ => none
  | _ => none
def appO (x : O) (d : D) : Option O := match x with
  | .lst ds => if ds.length < lim then some (.lst (ds ++ [d])) else none
  | _ => none
def isLst : Option O → Bool
  | some (.lst _) => true
  | _ => false
def isPlf : P → Bool
  | .plf _ _ => true
  | _ => false
mutual
noncomputable def evalS (Γ : Gam) (pn : Nat) : CS → Env → Option SO
  | .asg (.name i) e, env => if pn ≤ i then sbnd (evalE Γ e env) fun p env => sbnd (share p env) fun o env => some (.nx (env.set i (some o))) else none
  | .asg (.tup l) e, env => if l.all (fun i => decide (pn ≤ i)) then sbnd (evalE Γ e env) fun p env => sbnd (frz p env) fun d env => match setT (.tup l) d env with
    | some env => some (.nx env)
    | none => none
    else none
  | .par l es, env => if l.all (fun i => decide (pn ≤ i)) && decide l.Nodup then sbnd (evalOs Γ es env) fun os env => match setOs env l os with
    | some env => some (.nx env)
    | none => none
    else none
  | .aug i k e, env => if pn ≤ i then match slot env i with
    | some (.fz x) => sbnd (evalE Γ e env) fun p env => match (flatP p env).bind (augO k x) with
      | some d => some (.nx (env.set i (some (.fz d))))
      | none => none
    | _ => none
    else none
  | .put i k e, env => sbnd (evalE Γ e env) fun p env => sbnd (share p env) fun o env => if (slot env i).isSome then sbnd (evalE Γ k env) fun q env => match flatP q env, slot env i with
    | some y, some x => match putO y x o with
      | some x' => some (.nx (env.set i (some x')))
      | none => none
    | _, _ => none
    else none
  | .putf i f k e, env => sbnd (evalE Γ e env) fun p env => sbnd (frz p env) fun d env => sbnd (evalE Γ (.fld i f) env) fun r env => sbnd (evalE Γ k env) fun q env =>
    if isPlf r && r.still (noeff k) then match flatP q env, slot env i with
    | some y, some x => match putfO y x (.inr f) d with
      | some x' => some (.nx (env.set i (some x')))
      | none => none
    | _, _ => none
    else none
  | .append i e, env => if isLst (slot env i) then sbnd (evalE Γ e env) fun p env => sbnd (frz p env) fun d env => match slot env i with
    | some x => match appO x d with
      | some x' => some (.nx (env.set i (some x')))
      | none => none
    | none => none
    else none
  | .expr e, env => sbnd (evalE Γ e env) fun _ env => some (.nx env)
  | .ret e, env => sbnd (evalE Γ e env) fun p env => sbnd (mv p env) fun o env => some (.ret o env)
  | .retN, env => some (.ret (.fz .none) env)
  | .ite t a b, env => sbnd (evalT Γ t env) fun c env => if c then evalSs Γ pn a env else evalSs Γ pn b env
  | .for_ t src body, env => if targets pn t then sbnd (evalI Γ src env) fun items env => forL (bodyF (setT t) (evalSs Γ pn body)) items env
    else none
  | .while_ t body, env => whileL (evalT Γ t) (evalSs Γ pn body) Γ.fuel env
  | .never, _ => none
  | .pass, env => some (.nx env)
  | .brk, env => some (.brk env)
  | .cnt, env => some (.cnt env)
noncomputable def evalSs (Γ : Gam) (pn : Nat) : CSs → Env → Option SO
  | .nil, env => some (.nx env)
  | .cons s r, env => match evalS Γ pn s env with
    | some (.nx env) => evalSs Γ pn r env
    | r => r
end
/-- a def's body at its arguments: n names in all -/
def startE (n : Nat) (os : List O) : Env := os.map some ++ List.replicate (n - os.length) none
def endO : Option SO → Option (Except Exn O × Env)
  | some (.nx e) => some (.ok (.fz .none), e)
  | some (.ret o e) => some (.ok o, e)
  | some (.exc x e) => some (.error x, e)
  | _ => none
noncomputable def runPure (Γ : Gam) (n : Nat) (body : CSs) (ds : List D) : Option (Except Exn D) :=
  match endO (evalSs Γ 0 body (startE n (ds.map .fz))) with
  | some (.ok o, _) => match o.flat with
    | some d => some (.ok d)
    | none => none
  | some (.error x, _) => some (.error x)
  | none => none
noncomputable def runMk (Γ : Gam) (n : Nat) (body : CSs) (ds : List D) : Option O :=
  match endO (evalSs Γ 0 body (startE n (ds.map .fz))) with
  | some (.ok o, _) => some o
  | _ => none
noncomputable def runIo (Γ : Gam) (n : Nat) (body : CSs) (o : O) (ds : List D) : Option (Except Exn D × O) :=
  match endO (evalSs Γ 1 body (startE n (o :: ds.map .fz))) with
  | some (.ok r, e) => match r.flat, slot e 0 with
    | some d, some o' => some (.ok d, o')
    | _, _ => none
  | some (.error x, e) => match slot e 0 with
    | some o' => some (.error x, o')
    | none => none
  | none => none
end NW
namespace NW
example (Γ : Gam) : evalE Γ (.bin .add (.lit (.int 1)) (.lit (.int 2))) [] = some (.ok (.val (.fz (.int 3))) []) := rfl
example (Γ : Gam) (d : D) (n : Int) : evalSs Γ 0 (.cons (.asg (.name 0) (.bin .add (.var 0) (.lit (.int 2)))) .nil) [some (.fz (.int n))] = some (.nx [some (.fz (.int (n + 2)))]) := rfl
end NW
/-! the equations -/
namespace NW
open PySem L2
@[simp] theorem noeff_lit  {u0} : noeff  (.lit u0) = (true) := (rfl)
@[simp] theorem noeff_var  {u0} : noeff  (.var u0) = (true) := (rfl)
@[simp] theorem noeff_glob  {u0} : noeff  (.glob u0) = (true) := (rfl)
@[simp] theorem noeff_fld  {u0} {u1} : noeff  (.fld u0 u1) = (true) := (rfl)
@[simp] theorem noeff_tup  {es} : noeff  (.tup es) = (noeffs es) := (rfl)
@[simp] theorem noeff_lst  {es} : noeff  (.lst es) = (noeffs es) := (rfl)
@[simp] theorem noeff_dct  {u0} {es} : noeff  (.dct u0 es) = (noeffs es) := (rfl)
@[simp] theorem noeff_bi  {u0} {es} : noeff  (.bi u0 es) = (noeffs es) := (rfl)
@[simp] theorem noeff_call  {u0} {es} : noeff  (.call u0 es) = (noeffs es) := (rfl)
@[simp] theorem noeff_bin  {u0} {a} {b} : noeff  (.bin u0 a b) = (noeff a && noeff b) := (rfl)
@[simp] theorem noeff_cmp  {u0} {a} {b} : noeff  (.cmp u0 a b) = (noeff a && noeff b) := (rfl)
@[simp] theorem noeff_and  {a} {b} : noeff  (.and a b) = (noeff a && noeff b) := (rfl)
@[simp] theorem noeff_or  {a} {b} : noeff  (.or a b) = (noeff a && noeff b) := (rfl)
@[simp] theorem noeff_ix  {a} {b} : noeff  (.ix a b) = (noeff a && noeff b) := (rfl)
@[simp] theorem noeff_chain  {u0} {u1} {a} {b} {c} : noeff  (.chain u0 u1 a b c) = (noeff a && noeff b && noeff c) := (rfl)
@[simp] theorem noeff_ite  {t} {b} {c} : noeff  (.ite t b c) = (noeffb t && noeff b && noeff c) := (rfl)
@[simp] theorem noeff_isN  {a} : noeff  (.isN a) = (noeff a) := (rfl)
@[simp] theorem noeff_notN  {a} : noeff  (.notN a) = (noeff a) := (rfl)
@[simp] theorem noeff_not  {a} : noeff  (.not a) = (noeff a) := (rfl)
@[simp] theorem noeff_neg  {a} : noeff  (.neg a) = (noeff a) := (rfl)
@[simp] theorem noeff_isi  {a} {u0} : noeff  (.isi a u0) = (noeff a) := (rfl)
@[simp] theorem noeff_sl  {a} {lo} {hi} : noeff  (.sl a lo hi) = (noeff a && noeffo lo && noeffo hi) := (rfl)
@[simp] theorem noeff_cio  {u0} {u1} {u2} : noeff  (.cio u0 u1 u2) = (false) := (rfl)
@[simp] theorem noeff_comp  {u0} {u1} {src} {cond} {elt} : noeff  (.comp u0 u1 src cond elt) = (noeffi src && noeffb cond && noeff elt) := (rfl)
@[simp] theorem noeffb_yes   : noeffb  (.yes) = (true) := (rfl)
@[simp] theorem noeffb_of  {e} : noeffb  (.of e) = (noeff e) := (rfl)
@[simp] theorem noeffb_and  {a} {b} : noeffb  (.and a b) = (noeffb a && noeffb b) := (rfl)
@[simp] theorem noeffb_or  {a} {b} : noeffb  (.or a b) = (noeffb a && noeffb b) := (rfl)
@[simp] theorem noeffb_not  {a} : noeffb  (.not a) = (noeffb a) := (rfl)
@[simp] theorem noeffs_nil   : noeffs  (.nil) = (true) := (rfl)
@[simp] theorem noeffs_cons  {e} {es} : noeffs  (.cons e es) = (noeff e && noeffs es) := (rfl)
@[simp] theorem noeffo_none   : noeffo  (.none) = (true) := (rfl)
@[simp] theorem noeffo_some  {e} : noeffo  (.some e) = (noeff e) := (rfl)
@[simp] theorem noeffi_of  {e} : noeffi  (.of e) = (noeff e) := (rfl)
@[simp] theorem noeffi_rng  {e} : noeffi  (.rng e) = (noeff e) := (rfl)
@[simp] theorem noeffi_enum  {e} : noeffi  (.enum e) = (noeff e) := (rfl)
@[simp] theorem noeffi_rng2  {a} {b} : noeffi  (.rng2 a b) = (noeff a && noeff b) := (rfl)
@[simp] theorem noeffi_zip  {a} {b} : noeffi  (.zip a b) = (noeff a && noeff b) := (rfl)
@[simp] theorem evalE_lit (Γ : Gam) {d} {env} : evalE Γ (.lit d) env = (some (.ok (.val (.fz d)) env)) := (rfl)
@[simp] theorem evalE_var (Γ : Gam) {i} {env} : evalE Γ (.var i) env = (match slot env i with
    | some _ => some (.ok (.plc i) env)
    | none => none) := (rfl)
@[simp] theorem evalE_glob (Γ : Gam) {x} {env} : evalE Γ (.glob x) env = (match Γ.const x with
    | some d => some (.ok (.val (.fz d)) env)
    | none => none) := (rfl)
@[simp] theorem evalE_tup (Γ : Gam) {es} {env} : evalE Γ (.tup es) env = (bnd (evalDs Γ es env) fun ds env => if ds.length ≤ lim then some (.ok (.val (.fz (.tuple ds))) env) else none) := (rfl)
@[simp] theorem evalE_lst (Γ : Gam) {es} {env} : evalE Γ (.lst es) env = (bnd (evalDs Γ es env) fun ds env => if ds.length ≤ lim then some (.ok (.val (.lst ds)) env) else none) := (rfl)
@[simp] theorem evalE_dct (Γ : Gam) {ks} {es} {env} : evalE Γ (.dct ks es) env = (bnd (evalFs Γ es env) fun fs env => if ks.length = fs.length ∧ ks.length ≤ 15 ∧ ks ≠ [] ∧ ks.Nodup then some (.ok (.val (.dct ((ks.map Sum.inr).zip fs))) env) else none) := (rfl)
@[simp] theorem evalE_bin (Γ : Gam) {k} {a} {b} {env} : evalE Γ (.bin k a b) env = (bnd (evalE Γ a env) fun p env => bnd (evalE Γ b env) fun q env => if p.still (noeff b) then match flatP p env, flatP q env with
    | some x, some y => (binO k x y).map fun o => .ok (.val o) env
    | _, _ => none
    else none) := (rfl)
@[simp] theorem evalE_cmp (Γ : Gam) {k} {a} {b} {env} : evalE Γ (.cmp k a b) env = (bnd (evalE Γ a env) fun p env => bnd (evalE Γ b env) fun q env => if p.still (noeff b) then match flatP p env, flatP q env with
    | some x, some y => (cmpO k x y).map fun c => .ok (.val (.fz (.bool c))) env
    | _, _ => none
    else none) := (rfl)
@[simp] theorem evalE_chain (Γ : Gam) {k} {l} {a} {b} {c} {env} : evalE Γ (.chain k l a b c) env = (bnd (evalE Γ a env) fun p env => bnd (evalE Γ b env) fun q env => if p.still (noeff b) && q.still (noeff c) then match flatP p env, flatP q env with
    | some x, some y => match cmpO k x y with
      | some true => bnd (evalE Γ c env) fun r env => match flatP q env, flatP r env with
        | some y, some z => (cmpO l y z).map fun c => .ok (.val (.fz (.bool c))) env
        | _, _ => none
      | some false => some (.ok (.val (.fz (.bool false))) env)
      | none => none
    | _, _ => none
    else none) := (rfl)
@[simp] theorem evalE_isN (Γ : Gam) {a} {env} : evalE Γ (.isN a) env = (bnd (evalE Γ a env) fun p env => match flatP p env with
    | some x => some (.ok (.val (.fz (.bool (isNone x)))) env)
    | none => none) := (rfl)
@[simp] theorem evalE_notN (Γ : Gam) {a} {env} : evalE Γ (.notN a) env = (bnd (evalE Γ a env) fun p env => match flatP p env with
    | some x => some (.ok (.val (.fz (.bool (!isNone x)))) env)
    | none => none) := (rfl)
@[simp] theorem evalE_and (Γ : Gam) {a} {b} {env} : evalE Γ (.and a b) env = (bnd (evalE Γ a env) fun p env => match flatP p env with
    | some (.bool true) => evalE Γ b env
    | some (.bool false) => some (.ok (.val (.fz (.bool false))) env)
    | _ => none) := (rfl)
@[simp] theorem evalE_or (Γ : Gam) {a} {b} {env} : evalE Γ (.or a b) env = (bnd (evalE Γ a env) fun p env => match flatP p env with
    | some (.bool true) => some (.ok (.val (.fz (.bool true))) env)
    | some (.bool false) => evalE Γ b env
    | _ => none) := (rfl)
@[simp] theorem evalE_not (Γ : Gam) {a} {env} : evalE Γ (.not a) env = (bnd (evalE Γ a env) fun p env => match flatP p env with
    | some (.bool c) => some (.ok (.val (.fz (.bool (!c)))) env)
    | _ => none) := (rfl)
@[simp] theorem evalE_neg (Γ : Gam) {a} {env} : evalE Γ (.neg a) env = (bnd (evalE Γ a env) fun p env => match flatP p env with
    | some (.int i) => some (.ok (.val (.fz (.int (-i)))) env)
    | _ => none) := (rfl)
@[simp] theorem evalE_ite (Γ : Gam) {t} {a} {b} {env} : evalE Γ (.ite t a b) env = (bnd (evalT Γ t env) fun c env => if c then evalE Γ a env else evalE Γ b env) := (rfl)
@[simp] theorem evalE_ix (Γ : Gam) {a} {i} {env} : evalE Γ (.ix a i) env = (bnd (evalE Γ a env) fun p env => bnd (evalE Γ i env) fun q env => if p.still (noeff i) then match flatP p env, flatP q env with
    | some x, some y => (ixD x y).map fun d => .ok (.val (.fz d)) env
    | _, _ => none
    else none) := (rfl)
@[simp] theorem evalE_fld (Γ : Gam) {i} {k} {env} : evalE Γ (.fld i k) env = (match slot env i with
    | some (.dct kvs) => match look kvs (.inr k) with
      | some (.fz d) => some (.ok (.val (.fz d)) env)
      | some (.ls _) => some (.ok (.plf i (.inr k)) env)
      | none => none
    | _ => none) := (rfl)
@[simp] theorem evalE_sl (Γ : Gam) {a} {lo} {hi} {env} : evalE Γ (.sl a lo hi) env = (bnd (evalE Γ a env) fun p env => bnd (evalO Γ lo env) fun l env => bnd (evalO Γ hi env) fun h env => if p.still (noeffo lo && noeffo hi) then match flatP p env with
    | some x => (slO x l h).map fun o => .ok (.val o) env
    | none => none
    else none) := (rfl)
@[simp] theorem evalE_bi (Γ : Gam) {b} {es} {env} : evalE Γ (.bi b es) env = (bnd (evalPs Γ es env) fun ps env => match flats ps env with
    | some ds => (biO b ds).map fun o => .ok (.val o) env
    | none => none) := (rfl)
@[simp] theorem evalE_isi (Γ : Gam) {a} {env} : evalE Γ (.isi a T) env = (bnd (evalE Γ a env) fun p env => match flatP p env with
    | some d => some (.ok (.val (.fz (.bool (isiD T d)))) env)
    | none => none) := (rfl)
@[simp] theorem evalE_call (Γ : Gam) {f} {es} {env} : evalE Γ (.call f es) env = (match Γ.fn f with
    | some m => bnd (evalDs Γ es env) fun ds env => callD m ds env
    | none => none) := (rfl)
@[simp] theorem evalE_cio (Γ : Gam) {f} {i} {es} {env} : evalE Γ (.cio f i es) env = (match Γ.fn f with
    | some m => if (slot env i).isSome then bnd (evalDs Γ es env) fun ds env => callI m i ds env else none
    | none => none) := (rfl)
@[simp] theorem evalE_comp (Γ : Gam) {own} {t} {src} {cond} {elt} {env} : evalE Γ (.comp own t src cond elt) env = (bnd (evalI Γ src env) fun items env =>
      if tgIn own t && own.all (frOk env) && decide (items.length ≤ lim) then match compL (compTurn own (setT t) (evalT Γ cond) (evalE Γ elt)) items (wipeE env own) with
      | some (.ok ds env2) => some (.ok (.val (.lst ds)) (backE env env2 own))
      | _ => none
      else none) := (rfl)
@[simp] theorem evalDs_nil (Γ : Gam) {env} : evalDs Γ (.nil) env = (some (.ok [] env)) := (rfl)
@[simp] theorem evalDs_cons (Γ : Gam) {e} {es} {env} : evalDs Γ (.cons e es) env = (bnd (evalE Γ e env) fun p env => bnd (frz p env) fun d env => bnd (evalDs Γ es env) fun ds env => some (.ok (d :: ds) env)) := (rfl)
@[simp] theorem evalPs_nil (Γ : Gam) {env} : evalPs Γ (.nil) env = (some (.ok [] env)) := (rfl)
@[simp] theorem evalPs_cons (Γ : Gam) {e} {es} {env} : evalPs Γ (.cons e es) env = (bnd (evalE Γ e env) fun p env => bnd (evalPs Γ es env) fun ps env => if p.still (noeffs es) then some (.ok (p :: ps) env) else none) := (rfl)
@[simp] theorem evalFs_nil (Γ : Gam) {env} : evalFs Γ (.nil) env = (some (.ok [] env)) := (rfl)
@[simp] theorem evalFs_cons (Γ : Gam) {e} {es} {env} : evalFs Γ (.cons e es) env = (bnd (evalE Γ e env) fun p env => bnd (mv p env) fun o env => match o with
    | .fz d => bnd (evalFs Γ es env) fun fs env => some (.ok (.fz d :: fs) env)
    | .lst ds => bnd (evalFs Γ es env) fun fs env => some (.ok (.ls ds :: fs) env)
    | .dct _ => none) := (rfl)
@[simp] theorem evalO_none (Γ : Gam) {env} : evalO Γ (.none) env = (some (.ok none env)) := (rfl)
@[simp] theorem evalO_some (Γ : Gam) {e} {env} : evalO Γ (.some e) env = (bnd (evalE Γ e env) fun p env => match flatP p env with
    | some (.int i) => some (.ok (some i) env)
    | _ => none) := (rfl)
@[simp] theorem evalT_yes (Γ : Gam) {env} : evalT Γ (.yes) env = (some (.ok true env)) := (rfl)
@[simp] theorem evalT_and (Γ : Gam) {a} {b} {env} : evalT Γ (.and a b) env = (bnd (evalT Γ a env) fun c env => if c then evalT Γ b env else some (.ok false env)) := (rfl)
@[simp] theorem evalT_or (Γ : Gam) {a} {b} {env} : evalT Γ (.or a b) env = (bnd (evalT Γ a env) fun c env => if c then some (.ok true env) else evalT Γ b env) := (rfl)
@[simp] theorem evalT_not (Γ : Gam) {a} {env} : evalT Γ (.not a) env = (bnd (evalT Γ a env) fun c env => some (.ok (!c) env)) := (rfl)
@[simp] theorem evalT_of (Γ : Gam) {e} {env} : evalT Γ (.of e) env = (bnd (evalE Γ e env) fun p env => match flatP p env with
    | some d => (truthD d).map fun c => .ok c env
    | none => none) := (rfl)
@[simp] theorem evalI_of (Γ : Gam) {e} {env} : evalI Γ (.of e) env = (bnd (evalE Γ e env) fun p env => bnd (frz p env) fun d env => (rowOf d).map fun ds => .ok ds env) := (rfl)
@[simp] theorem evalI_rng (Γ : Gam) {e} {env} : evalI Γ (.rng e) env = (bnd (evalE Γ e env) fun p env => match flatP p env with
    | some (.int n) => if rngOk n then some (.ok (rangeD 0 n.toNat) env) else none
    | _ => none) := (rfl)
@[simp] theorem evalI_rng2 (Γ : Gam) {a} {b} {env} : evalI Γ (.rng2 a b) env = (bnd (evalE Γ a env) fun p env => bnd (evalE Γ b env) fun q env => match flatP p env, flatP q env with
    | some (.int m), some (.int n) => if rngOk m && rngOk n then some (.ok (rangeD m (n - m).toNat) env) else none
    | _, _ => none) := (rfl)
@[simp] theorem evalI_enum (Γ : Gam) {e} {env} : evalI Γ (.enum e) env = (bnd (evalE Γ e env) fun p env => bnd (frz p env) fun d env => match d with
    | .list ds => some (.ok (enumFrom 0 ds) env)
    | _ => none) := (rfl)
@[simp] theorem evalI_zip (Γ : Gam) {a} {b} {env} : evalI Γ (.zip a b) env = (bnd (evalE Γ a env) fun p env => bnd (frz p env) fun d env => bnd (evalE Γ b env) fun q env => bnd (frz q env) fun d2 env =>
    match d, d2 with
    | .list as, .list bs => some (.ok (zipD as bs) env)
    | .tuple as, .tuple bs => some (.ok (zipD as bs) env)
    | _, _ => none) := (rfl)
@[simp] theorem evalOs_nil (Γ : Gam) {env} : evalOs Γ (.nil) env = (some (.ok [] env)) := (rfl)
@[simp] theorem evalOs_cons (Γ : Gam) {e} {es} {env} : evalOs Γ (.cons e es) env = (bnd (evalE Γ e env) fun p env => bnd (share p env) fun o env => bnd (evalOs Γ es env) fun os env => some (.ok (o :: os) env)) := (rfl)
@[simp] theorem evalS_asg (Γ : Gam) (pn : Nat) {i} {e} {env} : evalS Γ pn (.asg (.name i) e) env = (if pn ≤ i then sbnd (evalE Γ e env) fun p env => sbnd (share p env) fun o env => some (.nx (env.set i (some o))) else none) := (rfl)
@[simp] theorem evalS_asg_2 (Γ : Gam) (pn : Nat) {l} {e} {env} : evalS Γ pn (.asg (.tup l) e) env = (if l.all (fun i => decide (pn ≤ i)) then sbnd (evalE Γ e env) fun p env => sbnd (frz p env) fun d env => match setT (.tup l) d env with
    | some env => some (.nx env)
    | none => none
    else none) := (rfl)
@[simp] theorem evalS_par (Γ : Gam) (pn : Nat) {l} {es} {env} : evalS Γ pn (.par l es) env = (if l.all (fun i => decide (pn ≤ i)) && decide l.Nodup then sbnd (evalOs Γ es env) fun os env => match setOs env l os with
    | some env => some (.nx env)
    | none => none
    else none) := (rfl)
@[simp] theorem evalS_aug (Γ : Gam) (pn : Nat) {i} {k} {e} {env} : evalS Γ pn (.aug i k e) env = (if pn ≤ i then match slot env i with
    | some (.fz x) => sbnd (evalE Γ e env) fun p env => match (flatP p env).bind (augO k x) with
      | some d => some (.nx (env.set i (some (.fz d))))
      | none => none
    | _ => none
    else none) := (rfl)
@[simp] theorem evalS_put (Γ : Gam) (pn : Nat) {i} {k} {e} {env} : evalS Γ pn (.put i k e) env = (sbnd (evalE Γ e env) fun p env => sbnd (share p env) fun o env => if (slot env i).isSome then sbnd (evalE Γ k env) fun q env => match flatP q env, slot env i with
    | some y, some x => match putO y x o with
      | some x' => some (.nx (env.set i (some x')))
      | none => none
    | _, _ => none
    else none) := (rfl)
@[simp] theorem evalS_putf (Γ : Gam) (pn : Nat) {i} {f} {k} {e} {env} : evalS Γ pn (.putf i f k e) env = (sbnd (evalE Γ e env) fun p env => sbnd (frz p env) fun d env => sbnd (evalE Γ (.fld i f) env) fun r env => sbnd (evalE Γ k env) fun q env =>
    if isPlf r && r.still (noeff k) then match flatP q env, slot env i with
    | some y, some x => match putfO y x (.inr f) d with
      | some x' => some (.nx (env.set i (some x')))
      | none => none
    | _, _ => none
    else none) := (rfl)
@[simp] theorem evalS_append (Γ : Gam) (pn : Nat) {i} {e} {env} : evalS Γ pn (.append i e) env = (if isLst (slot env i) then sbnd (evalE Γ e env) fun p env => sbnd (frz p env) fun d env => match slot env i with
    | some x => match appO x d with
      | some x' => some (.nx (env.set i (some x')))
      | none => none
    | none => none
    else none) := (rfl)
@[simp] theorem evalS_expr (Γ : Gam) (pn : Nat) {e} {env} : evalS Γ pn (.expr e) env = (sbnd (evalE Γ e env) fun _ env => some (.nx env)) := (rfl)
@[simp] theorem evalS_ret (Γ : Gam) (pn : Nat) {e} {env} : evalS Γ pn (.ret e) env = (sbnd (evalE Γ e env) fun p env => sbnd (mv p env) fun o env => some (.ret o env)) := (rfl)
@[simp] theorem evalS_retN (Γ : Gam) (pn : Nat) {env} : evalS Γ pn (.retN) env = (some (.ret (.fz .none) env)) := (rfl)
@[simp] theorem evalS_ite (Γ : Gam) (pn : Nat) {t} {a} {b} {env} : evalS Γ pn (.ite t a b) env = (sbnd (evalT Γ t env) fun c env => if c then evalSs Γ pn a env else evalSs Γ pn b env) := (rfl)
@[simp] theorem evalS_for (Γ : Gam) (pn : Nat) {t} {src} {body} {env} : evalS Γ pn (.for_ t src body) env = (if targets pn t then sbnd (evalI Γ src env) fun items env => forL (bodyF (setT t) (evalSs Γ pn body)) items env
    else none) := (rfl)
@[simp] theorem evalS_while (Γ : Gam) (pn : Nat) {t} {body} {env} : evalS Γ pn (.while_ t body) env = (whileL (evalT Γ t) (evalSs Γ pn body) Γ.fuel env) := (rfl)
@[simp] theorem evalS_never (Γ : Gam) (pn : Nat) {u0} : evalS Γ pn (.never) u0 = (none) := (rfl)
@[simp] theorem evalS_pass (Γ : Gam) (pn : Nat) {env} : evalS Γ pn (.pass) env = (some (.nx env)) := (rfl)
@[simp] theorem evalS_brk (Γ : Gam) (pn : Nat) {env} : evalS Γ pn (.brk) env = (some (.brk env)) := (rfl)
@[simp] theorem evalS_cnt (Γ : Gam) (pn : Nat) {env} : evalS Γ pn (.cnt) env = (some (.cnt env)) := (rfl)
@[simp] theorem evalSs_nil (Γ : Gam) (pn : Nat) {env} : evalSs Γ pn (.nil) env = (some (.nx env)) := (rfl)
@[simp] theorem evalSs_cons (Γ : Gam) (pn : Nat) {s} {r} {env} : evalSs Γ pn (.cons s r) env = (match evalS Γ pn s env with
    | some (.nx env) => evalSs Γ pn r env
    | r => r) := (rfl)
end NW
end
section
set_option linter.all false
set_option maxRecDepth 100000
/-! NWb: what data are in the abstract heap; owned things; what a step keeps -/
namespace NW
open PySem L2
open Classical in
/-- the abstract heap as frozen data may read it: lists in G alone -/
noncomputable def HG (H : Hp) (G : Addr → Prop) : Hp := fun a => match H a with
  | some (.lst xs) => if G a then some (.lst xs) else none
  | x => x
theorem HG_lst {H : Hp} {G : Addr → Prop} {a : Addr} {xs : List V} : HG H G a = some (.lst xs) ↔ H a = some (.lst xs) ∧ G a := by
  unfold HG
  split
  · rename_i ys h
    split
    · rename_i g
      rw [h]; exact ⟨fun e => ⟨e, g⟩, fun e => e.1⟩
    · rename_i g
      exact ⟨fun e => (nomatch e), fun e => (g e.2).elim⟩
  · rename_i hn
    exact ⟨fun e => (hn xs e).elim, fun e => (hn xs e.1).elim⟩
theorem HG_tup {H : Hp} {G : Addr → Prop} {a : Addr} {xs : List V} : HG H G a = some (.tup xs) ↔ H a = some (.tup xs) := by
  unfold HG
  split
  · rename_i ys h
    split
    · exact ⟨fun e => (nomatch e), fun e => by rw [h] at e; cases e⟩
    · exact ⟨fun e => (nomatch e), fun e => by rw [h] at e; cases e⟩
  · exact Iff.rfl
theorem HG_frz {H : Hp} {G : Addr → Prop} {a : Addr} {o : Obj} {u : HO} : HG H G a = some (.frz o u) ↔ H a = some (.frz o u) := by
  unfold HG
  split
  · rename_i ys h
    split
    · exact ⟨fun e => (nomatch e), fun e => by rw [h] at e; cases e⟩
    · exact ⟨fun e => (nomatch e), fun e => by rw [h] at e; cases e⟩
  · exact Iff.rfl
/-- H' reads all sequences that H does -/
structure Sub (K : PySem.W.Frag) (H H' : Hp) : Prop where
  l : ∀ a xs, SqL K H a xs → SqL K H' a xs
  t : ∀ a xs, SqT K H a xs → SqT K H' a xs
mutual
theorem dp_mono {K : PySem.W.Frag} {H H' : Hp} (s : Sub K H H') : ∀ (d : PyData) (v : V), Dp K H v d → Dp K H' v d
  | .none, _, h => by cases h; exact .non
  | .bool _, _, h => by cases h; exact .bl _
  | .int _, _, h => by cases h; exact .int _
  | .str _, _, h => by cases h; exact .str _
  | .list ds, _, h => by
    cases h with
    | lst h1 h2 => exact .lst (s.l _ _ h1) (dpAll_mono s ds _ h2)
  | .tuple ds, _, h => by
    cases h with
    | tup h1 h2 => exact .tup (s.t _ _ h1) (dpAll_mono s ds _ h2)
  | .dict _, _, h => by cases h
theorem dpAll_mono {K : PySem.W.Frag} {H H' : Hp} (s : Sub K H H') : ∀ (ds : List PyData) (vs : List V), DpAll K H vs ds → DpAll K H' vs ds
  | [], _, h => by cases h; exact .nil
  | d :: ds, _, h => by
    cases h with
    | cons h1 h2 => exact .cons (dp_mono s d _ h1) (dpAll_mono s ds _ h2)
end
theorem sub_forget (K : PySem.W.Frag) (H : Hp) (G : Addr → Prop) : Sub K (HG H G) H where
  l := fun a xs h => by
    rcases h with (h | ⟨o, h⟩) | h
    · exact .inl (.inl (HG_lst.mp h).1)
    · exact .inl (.inr ⟨o, HG_frz.mp h⟩)
    · exact .inr h
  t := fun a xs h => by
    rcases h with (h | ⟨o, h⟩) | h
    · exact .inl (.inl (HG_tup.mp h))
    · exact .inl (.inr ⟨o, HG_frz.mp h⟩)
    · exact .inr h

abbrev Rp (K : PySem.W.Frag) (H : Hp) (G : Addr → Prop) (v : V) (d : D) : Prop := Dp K (HG H G) v d
abbrev RpA (K : PySem.W.Frag) (H : Hp) (G : Addr → Prop) (vs : List V) (ds : List D) : Prop := DpAll K (HG H G) vs ds
/-- readable: the row itself at any place, its items frozen -/
def RpS (K : PySem.W.Frag) (H : Hp) (G : Addr → Prop) (v : V) : D → Prop
  | .list ds => ∃ a xs, v = .ref a ∧ SqL K H a xs ∧ RpA K H G xs ds
  | d => Rp K H G v d
theorem Rp.s {K : PySem.W.Frag} {H : Hp} {G : Addr → Prop} {v : V} {d : D} (h : Rp K H G v d) : RpS K H G v d := by
  cases d with
  | list ds =>
    cases h with
    | lst h1 h2 => exact ⟨_, _, rfl, (sub_forget K H G).l _ _ h1, h2⟩
  | none => exact h
  | bool b => exact h
  | int i => exact h
  | str x => exact h
  | tuple ds => exact h
  | dict kvs => exact h
theorem RpS.dp {K : PySem.W.Frag} {H : Hp} {G : Addr → Prop} {v : V} {d : D} (h : RpS K H G v d) : Dp K H v d := by
  cases d with
  | list ds =>
    obtain ⟨a, xs, rfl, h1, h2⟩ := h
    exact .lst h1 (dpAll_mono (sub_forget K H G) _ _ h2)
  | none => exact dp_mono (sub_forget K H G) _ _ h
  | bool b => exact dp_mono (sub_forget K H G) _ _ h
  | int i => exact dp_mono (sub_forget K H G) _ _ h
  | str x => exact dp_mono (sub_forget K H G) _ _ h
  | tuple ds => exact dp_mono (sub_forget K H G) _ _ h
  | dict kvs => exact dp_mono (sub_forget K H G) _ _ h
theorem dpAll_length {K : PySem.W.Frag} {H : Hp} : ∀ {vs : List V} {ds : List D}, DpAll K H vs ds → vs.length = ds.length
  | _, _, .nil => rfl
  | _, _, .cons _ t => by rw [List.length_cons, List.length_cons, dpAll_length t]
theorem dpAll_append {K : PySem.W.Frag} {H : Hp} : ∀ {vs ws : List V} {ds es : List D}, DpAll K H vs ds → DpAll K H ws es → DpAll K H (vs ++ ws) (ds ++ es)
  | _, _, _, _, .nil, h => h
  | _, _, _, _, .cons a t, h => .cons a (dpAll_append t h)
theorem dpAll_get {K : PySem.W.Frag} {H : Hp} : ∀ {vs : List V} {ds : List D} {i : Nat} {d : D}, DpAll K H vs ds → ds[i]? = some d → ∃ v, vs[i]? = some v ∧ Dp K H v d
  | _, _, i, d, .nil, h => by simp at h
  | _, _, 0, d, .cons a t, h => by simp at h; subst h; exact ⟨_, rfl, a⟩
  | _, _, i + 1, d, .cons a t, h => by
    obtain ⟨v, h1, h2⟩ := dpAll_get (i := i) t (by simpa using h)
    exact ⟨v, by simpa using h1, h2⟩
theorem dpAll_getV {K : PySem.W.Frag} {H : Hp} {vs : List V} {ds : List D} {i : Nat} {v : V} (h : DpAll K H vs ds) (e : vs[i]? = some v) : ∃ d, ds[i]? = some d ∧ Dp K H v d := by
  have hl := dpAll_length h
  have hi : i < ds.length := by rw [← hl]; exact (List.getElem?_eq_some_iff.mp e).1
  obtain ⟨w, h1, h2⟩ := dpAll_get h (List.getElem?_eq_getElem hi)
  rw [e] at h1
  cases h1
  exact ⟨_, List.getElem?_eq_getElem hi, h2⟩
theorem dpAll_take {K : PySem.W.Frag} {H : Hp} : ∀ {vs : List V} {ds : List D} (n : Nat), DpAll K H vs ds → DpAll K H (vs.take n) (ds.take n)
  | _, _, 0, _ => .nil
  | _, _, _ + 1, .nil => .nil
  | _, _, n + 1, .cons a t => .cons a (dpAll_take n t)
theorem dpAll_drop {K : PySem.W.Frag} {H : Hp} : ∀ {vs : List V} {ds : List D} (n : Nat), DpAll K H vs ds → DpAll K H (vs.drop n) (ds.drop n)
  | _, _, 0, h => h
  | _, _, _ + 1, .nil => .nil
  | _, _, n + 1, .cons a t => dpAll_drop n t
theorem dpAll_cut {K : PySem.W.Frag} {H : Hp} {vs : List V} {ds : List D} (lo hi : Option Int) (h : DpAll K H vs ds) : DpAll K H (cutV vs lo hi) (cutD ds lo hi) := by
  unfold cutV cutD
  rw [dpAll_length h]
  exact dpAll_take _ (dpAll_drop _ h)
theorem dpAll_set {K : PySem.W.Frag} {H : Hp} {v : V} {d : D} (a : Dp K H v d) : ∀ {vs : List V} {ds : List D} (n : Nat), DpAll K H vs ds → DpAll K H (vs.set n v) (ds.set n d)
  | _, _, _, .nil => .nil
  | _, _, 0, .cons _ t => .cons a t
  | _, _, n + 1, .cons b t => .cons b (dpAll_set a n t)

/-! ### owned things -/
/-- a field: its value, the place that it holds -/
def OwF (K : PySem.W.Frag) (H : Hp) (G : Addr → Prop) : Fld → V → List Addr → Prop
  | .fz d, v, fp => fp = [] ∧ Rp K H G v d
  | .ls ds, v, fp => ∃ a xs, v = .ref a ∧ fp = [a] ∧ ¬ G a ∧ H a = some (.lst xs) ∧ RpA K H G xs ds
def OwFs (K : PySem.W.Frag) (H : Hp) (G : Addr → Prop) : List (Key × Fld) → List (Key × V) → List Addr → Prop
  | [], [], fp => fp = []
  | (k, f) :: r, (k', v) :: rv, fp => k = k' ∧ ∃ fp1 fp2, fp = fp1 ++ fp2 ∧ (∀ a ∈ fp1, a ∉ fp2) ∧ OwF K H G f v fp1 ∧ OwFs K H G r rv fp2
  | _, _, _ => False
def Ow (K : PySem.W.Frag) (H : Hp) (G : Addr → Prop) : O → V → List Addr → Prop
  | .fz d, v, fp => fp = [] ∧ Rp K H G v d
  | .lst ds, v, fp => ∃ a xs, v = .ref a ∧ fp = [a] ∧ ¬ G a ∧ H a = some (.lst xs) ∧ RpA K H G xs ds
  | .dct kvs, v, fp => ∃ a rv fp', v = .ref a ∧ fp = a :: fp' ∧ a ∉ fp' ∧ ¬ G a ∧ H a = some (.dK rv) ∧ OwFs K H G kvs rv fp'

/-- what stays behind a step: F the places that the names hold -/
structure Step (H : Hp) (G F : Addr → Prop) (H' : Hp) (G' F' : Addr → Prop) : Prop where
  keep : ∀ b u, H b = some u → ¬ F b → H' b = some u
  tups : ∀ b xs, H b = some (.tup xs) → H' b = some (.tup xs)
  frzs : ∀ b o u, H b = some (.frz o u) → H' b = some (.frz o u)
  gsub : ∀ b, G b → G' b
  gnew : ∀ b, G' b → G b ∨ F b ∨ H b = none
  fnew : ∀ b, F' b → F b ∨ H b = none
theorem Step.refl {H : Hp} {G F : Addr → Prop} : Step H G F H G F := ⟨fun _ _ h _ => h, fun _ _ h => h, fun _ _ _ h => h, fun _ h => h, fun _ h => .inl h, fun _ h => .inl h⟩
theorem Step.none_of {H : Hp} {G F : Addr → Prop} {H' : Hp} {G' F' : Addr → Prop} (s : Step H G F H' G' F') {b : Addr} (h : H' b = none) : H b = none ∨ F b := by
  cases q : H b with
  | none => exact .inl rfl
  | some u =>
    by_cases f : F b
    · exact .inr f
    · rw [s.keep b u q f] at h; cases h
theorem Step.trans {H H1 H2 : Hp} {G F G1 F1 G2 F2 : Addr → Prop} (a : Step H G F H1 G1 F1) (b : Step H1 G1 F1 H2 G2 F2) : Step H G F H2 G2 F2 where
  keep := fun c u h nf => by
    have h1 := a.keep c u h nf
    refine b.keep c u h1 fun f1 => ?_
    rcases a.fnew c f1 with z | z
    · exact nf z
    · rw [h] at z; cases z
  tups := fun c xs h => b.tups c xs (a.tups c xs h)
  frzs := fun c o u h => b.frzs c o u (a.frzs c o u h)
  gsub := fun c h => b.gsub c (a.gsub c h)
  gnew := fun c h => by
    rcases b.gnew c h with z | z | z
    · exact a.gnew c z
    · exact .inr (a.fnew c z)
    · rcases a.none_of z with y | y
      · exact .inr (.inr y)
      · exact .inr (.inl y)
  fnew := fun c h => by
    rcases b.fnew c h with z | z
    · exact a.fnew c z
    · exact (a.none_of z).symm
theorem Step.sub {K : PySem.W.Frag} {H H' : Hp} {G F G' F' : Addr → Prop} (s : Step H G F H' G' F') (dis : ∀ b, G b → ¬ F b) : Sub K (HG H G) (HG H' G') where
  l := fun a xs h => by
    rcases h with (h | ⟨o, h⟩) | h
    · obtain ⟨h, g⟩ := HG_lst.mp h
      exact .inl (.inl (HG_lst.mpr ⟨s.keep a _ h (dis a g), s.gsub a g⟩))
    · exact .inl (.inr ⟨o, HG_frz.mpr (s.frzs _ _ _ (HG_frz.mp h))⟩)
    · exact .inr h
  t := fun a xs h => by
    rcases h with (h | ⟨o, h⟩) | h
    · exact .inl (.inl (HG_tup.mpr (s.tups _ _ (HG_tup.mp h))))
    · exact .inl (.inr ⟨o, HG_frz.mpr (s.frzs _ _ _ (HG_frz.mp h))⟩)
    · exact .inr h
theorem OwF.step {K : PySem.W.Frag} {H H' : Hp} {G F G' F' : Addr → Prop} (s : Step H G F H' G' F') (dis : ∀ b, G b → ¬ F b) {f : Fld} {v : V} {fp : List Addr} (hf : ∀ b ∈ fp, ¬ F b) (h : OwF K H G f v fp) : OwF K H' G' f v fp := by
  cases f with
  | fz d => exact ⟨h.1, dp_mono (s.sub dis) _ _ h.2⟩
  | ls ds =>
    obtain ⟨a, xs, rfl, rfl, ng, hl, hr⟩ := h
    have nf := hf a (by simp)
    refine ⟨a, xs, rfl, rfl, fun g => ?_, s.keep a _ hl nf, dpAll_mono (s.sub dis) _ _ hr⟩
    rcases s.gnew a g with z | z | z
    · exact ng z
    · exact nf z
    · rw [hl] at z; cases z
theorem OwFs.step {K : PySem.W.Frag} {H H' : Hp} {G F G' F' : Addr → Prop} (s : Step H G F H' G' F') (dis : ∀ b, G b → ¬ F b) : ∀ {kvs : List (Key × Fld)} {rv : List (Key × V)} {fp : List Addr}, (∀ b ∈ fp, ¬ F b) → OwFs K H G kvs rv fp → OwFs K H' G' kvs rv fp
  | [], [], fp, _, h => h
  | (k, f) :: r, (k', v) :: rv, fp, hf, h => by
    obtain ⟨e, fp1, fp2, rfl, dj, h1, h2⟩ := h
    exact ⟨e, fp1, fp2, rfl, dj, h1.step s dis fun b hb => hf b (List.mem_append_left _ hb), OwFs.step s dis (fun b hb => hf b (List.mem_append_right _ hb)) h2⟩
  | [], _ :: _, _, _, h => h.elim
  | _ :: _, [], _, _, h => h.elim
theorem Ow.step {K : PySem.W.Frag} {H H' : Hp} {G F G' F' : Addr → Prop} (s : Step H G F H' G' F') (dis : ∀ b, G b → ¬ F b) {o : O} {v : V} {fp : List Addr} (hf : ∀ b ∈ fp, ¬ F b) (h : Ow K H G o v fp) : Ow K H' G' o v fp := by
  cases o with
  | fz d => exact ⟨h.1, dp_mono (s.sub dis) _ _ h.2⟩
  | lst ds =>
    obtain ⟨a, xs, rfl, rfl, ng, hl, hr⟩ := h
    have nf := hf a (by simp)
    refine ⟨a, xs, rfl, rfl, fun g => ?_, s.keep a _ hl nf, dpAll_mono (s.sub dis) _ _ hr⟩
    rcases s.gnew a g with z | z | z
    · exact ng z
    · exact nf z
    · rw [hl] at z; cases z
  | dct kvs =>
    obtain ⟨a, rv, fp', rfl, rfl, na, ng, hl, hr⟩ := h
    have nf := hf a (by simp)
    refine ⟨a, rv, fp', rfl, rfl, na, fun g => ?_, s.keep a _ hl nf, hr.step s dis fun b hb => hf b (List.mem_cons_of_mem _ hb)⟩
    rcases s.gnew a g with z | z | z
    · exact ng z
    · exact nf z
    · rw [hl] at z; cases z
theorem OwF.mono {K : PySem.W.Frag} {H H' : Hp} {G G' : Addr → Prop} (s : Sub K (HG H G) (HG H' G')) {f : Fld} {v : V} {fp : List Addr} (k : ∀ b ∈ fp, ∀ u, H b = some u → H' b = some u) (ng' : ∀ b ∈ fp, ¬ G' b) (h : OwF K H G f v fp) : OwF K H' G' f v fp := by
  cases f with
  | fz d => exact ⟨h.1, dp_mono s _ _ h.2⟩
  | ls ds =>
    obtain ⟨a, xs, rfl, rfl, ng, hl, hr⟩ := h
    exact ⟨a, xs, rfl, rfl, ng' a (by simp), k a (by simp) _ hl, dpAll_mono s _ _ hr⟩
theorem OwFs.mono {K : PySem.W.Frag} {H H' : Hp} {G G' : Addr → Prop} (s : Sub K (HG H G) (HG H' G')) : ∀ {kvs : List (Key × Fld)} {rv : List (Key × V)} {fp : List Addr}, (∀ b ∈ fp, ∀ u, H b = some u → H' b = some u) → (∀ b ∈ fp, ¬ G' b) → OwFs K H G kvs rv fp → OwFs K H' G' kvs rv fp
  | [], [], fp, _, _, h => h
  | (k, f) :: r, (k', v) :: rv, fp, hk, hg, h => by
    obtain ⟨e, fp1, fp2, rfl, dj, h1, h2⟩ := h
    exact ⟨e, fp1, fp2, rfl, dj, h1.mono s (fun b hb => hk b (List.mem_append_left _ hb)) (fun b hb => hg b (List.mem_append_left _ hb)), OwFs.mono s (fun b hb => hk b (List.mem_append_right _ hb)) (fun b hb => hg b (List.mem_append_right _ hb)) h2⟩
  | [], _ :: _, _, _, _, h => h.elim
  | _ :: _, [], _, _, _, h => h.elim
theorem Ow.mono {K : PySem.W.Frag} {H H' : Hp} {G G' : Addr → Prop} (s : Sub K (HG H G) (HG H' G')) {o : O} {v : V} {fp : List Addr} (k : ∀ b ∈ fp, ∀ u, H b = some u → H' b = some u) (ng' : ∀ b ∈ fp, ¬ G' b) (h : Ow K H G o v fp) : Ow K H' G' o v fp := by
  cases o with
  | fz d => exact ⟨h.1, dp_mono s _ _ h.2⟩
  | lst ds =>
    obtain ⟨a, xs, rfl, rfl, ng, hl, hr⟩ := h
    exact ⟨a, xs, rfl, rfl, ng' a (by simp), k a (by simp) _ hl, dpAll_mono s _ _ hr⟩
  | dct kvs =>
    obtain ⟨a, rv, fp', rfl, rfl, na, ng, hl, hr⟩ := h
    exact ⟨a, rv, fp', rfl, rfl, na, ng' a (by simp), k a (by simp) _ hl, hr.mono s (fun b hb => k b (List.mem_cons_of_mem _ hb)) (fun b hb => ng' b (List.mem_cons_of_mem _ hb))⟩
theorem sub_G {K : PySem.W.Frag} {H : Hp} {G G' : Addr → Prop} (h : ∀ b, G b → G' b) : Sub K (HG H G) (HG H G') where
  l := fun a xs z => by
    rcases z with (z | ⟨o, z⟩) | z
    · obtain ⟨z, g⟩ := HG_lst.mp z
      exact .inl (.inl (HG_lst.mpr ⟨z, h a g⟩))
    · exact .inl (.inr ⟨o, HG_frz.mpr (HG_frz.mp z)⟩)
    · exact .inr z
  t := fun a xs z => by
    rcases z with (z | ⟨o, z⟩) | z
    · exact .inl (.inl (HG_tup.mpr (HG_tup.mp z)))
    · exact .inl (.inr ⟨o, HG_frz.mpr (HG_frz.mp z)⟩)
    · exact .inr z
/-- a held list, frozen -/
theorem ow_freeze {K : PySem.W.Frag} {H : Hp} {G : Addr → Prop} {o : O} {d : D} {v : V} {fp : List Addr} (h : Ow K H G o v fp) (e : o.flat = some d) {G' : Addr → Prop} (hs : ∀ b, G b → G' b) (hf : ∀ b ∈ fp, G' b) : Rp K H G' v d := by
  cases o with
  | fz d' => cases e; exact dp_mono (sub_G hs) _ _ h.2
  | lst ds =>
    cases e
    obtain ⟨a, xs, rfl, rfl, ng, hl, hr⟩ := h
    exact .lst (.inl (.inl (HG_lst.mpr ⟨hl, hf a (by simp)⟩))) (dpAll_mono (sub_G hs) _ _ hr)
  | dct kvs => cases e
/-- what is held is neither frozen nor nothing -/
theorem OwF.held {K : PySem.W.Frag} {H : Hp} {G : Addr → Prop} {f : Fld} {v : V} {fp : List Addr} (h : OwF K H G f v fp) : ∀ b ∈ fp, ¬ G b ∧ ∃ u, H b = some u := by
  cases f with
  | fz d => intro b hb; rw [h.1] at hb; cases hb
  | ls ds =>
    obtain ⟨a, xs, rfl, rfl, ng, hl, hr⟩ := h
    intro b hb
    have e : b = a := by simpa using hb
    subst e
    exact ⟨ng, _, hl⟩
theorem OwFs.held {K : PySem.W.Frag} {H : Hp} {G : Addr → Prop} : ∀ {kvs : List (Key × Fld)} {rv : List (Key × V)} {fp : List Addr}, OwFs K H G kvs rv fp → ∀ b ∈ fp, ¬ G b ∧ ∃ u, H b = some u
  | [], [], fp, h => by
    intro b hb
    have e : fp = [] := h
    rw [e] at hb; cases hb
  | (k, f) :: r, (k', v) :: rv, fp, h => by
    obtain ⟨e, fp1, fp2, rfl, dj, h1, h2⟩ := h
    intro b hb
    rcases List.mem_append.mp hb with z | z
    · exact h1.held b z
    · exact OwFs.held h2 b z
  | [], _ :: _, _, h => h.elim
  | _ :: _, [], _, h => h.elim
theorem Ow.held {K : PySem.W.Frag} {H : Hp} {G : Addr → Prop} {o : O} {v : V} {fp : List Addr} (h : Ow K H G o v fp) : ∀ b ∈ fp, ¬ G b ∧ ∃ u, H b = some u := by
  cases o with
  | fz d => intro b hb; rw [h.1] at hb; cases hb
  | lst ds =>
    obtain ⟨a, xs, rfl, rfl, ng, hl, hr⟩ := h
    intro b hb
    have e : b = a := by simpa using hb
    subst e
    exact ⟨ng, _, hl⟩
  | dct kvs =>
    obtain ⟨a, rv, fp', rfl, rfl, na, ng, hl, hr⟩ := h
    intro b hb
    rcases List.mem_cons.mp hb with rfl | z
    · exact ⟨ng, _, hl⟩
    · exact hr.held b z

/-! ### the names -/
abbrev Fs := Nat → List Addr
def FF (fps : Fs) : Addr → Prop := fun b => ∃ i, b ∈ fps i
structure EnvR (K : PySem.W.Frag) (env : Env) (σ : St) (H : Hp) (G : Addr → Prop) (fps : Fs) : Prop where
  gh : ∀ b, G b → ∃ u, H b = some u
  len : env.length = σ.length
  rep : ∀ i o, slot env i = some o → ∃ v, σ[i]? = some (some v) ∧ Ow K H G o v (fps i)
  emp : ∀ i, slot env i = none → fps i = []
  dis : ∀ i j a, a ∈ fps i → a ∈ fps j → i = j
theorem EnvR.held {K : PySem.W.Frag} {env : Env} {σ : St} {H : Hp} {G : Addr → Prop} {fps : Fs} (E : EnvR K env σ H G fps) {b : Addr} (h : FF fps b) : ¬ G b ∧ ∃ u, H b = some u := by
  obtain ⟨i, hi⟩ := h
  cases e : slot env i with
  | none => rw [E.emp i e] at hi; cases hi
  | some o =>
    obtain ⟨v, _, ho⟩ := E.rep i o e
    exact ho.held b hi
theorem EnvR.gf {K : PySem.W.Frag} {env : Env} {σ : St} {H : Hp} {G : Addr → Prop} {fps : Fs} (E : EnvR K env σ H G fps) : ∀ b, G b → ¬ FF fps b := fun b g f => (E.held f).1 g
theorem slot_set {env : Env} {i j : Nat} {o : Option O} (hi : i < env.length) : slot (env.set i o) j = if j = i then o else slot env j := by
  unfold slot
  by_cases h : j = i
  · subst h
    rw [if_pos rfl, List.getElem?_set_self hi]
    rfl
  · rw [if_neg h, List.getElem?_set_ne (Ne.symm h)]
theorem slot_lt {env : Env} {i : Nat} {o : O} (h : slot env i = some o) : i < env.length := by
  unfold slot at h
  cases q : env[i]? with
  | none => rw [q] at h; cases h
  | some x => exact (List.getElem?_eq_some_iff.mp q).1
def updF (fps : Fs) (i : Nat) (fp : List Addr) : Fs := fun j => if j = i then fp else fps j
theorem updF_same {fps : Fs} {i : Nat} {fp : List Addr} : updF fps i fp i = fp := by unfold updF; rw [if_pos rfl]
theorem updF_ne {fps : Fs} {i j : Nat} {fp : List Addr} (h : j ≠ i) : updF fps i fp j = fps j := by unfold updF; rw [if_neg h]

/-- a value's relation -/
def PR (K : PySem.W.Frag) (H : Hp) (G : Addr → Prop) (σ : St) (env : Env) : P → V → List Addr → Prop
  | .val o, v, fp => Ow K H G o v fp
  | .plc i, v, fp => fp = [] ∧ σ[i]? = some (some v)
  | .plf i k, v, fp => fp = [] ∧ ∃ a rv, σ[i]? = some (some (.ref a)) ∧ H a = some (.dK rv) ∧ valV rv k = some v
theorem owf_s {K : PySem.W.Frag} {H : Hp} {G : Addr → Prop} {ds : List D} {v : V} {fp : List Addr} (h : OwF K H G (.ls ds) v fp) : RpS K H G v (.list ds) := by
  obtain ⟨a, xs, rfl, rfl, ng, hl, hr⟩ := h
  exact ⟨a, xs, rfl, SqL.of hl, hr⟩
theorem ow_flat {K : PySem.W.Frag} {H : Hp} {G : Addr → Prop} {o : O} {d : D} {v : V} {fp : List Addr} (h : Ow K H G o v fp) (e : o.flat = some d) : RpS K H G v d := by
  cases o with
  | fz d' => cases e; exact Rp.s h.2
  | lst ds =>
    cases e
    obtain ⟨a, xs, rfl, rfl, ng, hl, hr⟩ := h
    exact ⟨a, xs, rfl, SqL.of hl, hr⟩
  | dct kvs => cases e
theorem look_val {K : PySem.W.Frag} {H : Hp} {G : Addr → Prop} {k : Key} {f : Fld} : ∀ {kvs : List (Key × Fld)} {rv : List (Key × V)} {fp : List Addr}, OwFs K H G kvs rv fp → look kvs k = some f → ∃ v fp1, valV rv k = some v ∧ OwF K H G f v fp1 ∧ ∀ b ∈ fp1, b ∈ fp
  | [], [], fp, h, e => by cases e
  | (k0, f0) :: r, (k', v) :: rv, fp, h, e => by
    obtain ⟨rfl, fp1, fp2, rfl, dj, h1, h2⟩ := h
    by_cases hk : k0 = k
    · have e' : f0 = f := by
        unfold look at e
        rw [List.find?_cons_of_pos (by simpa using hk)] at e
        simpa using e
      subst e'
      exact ⟨v, fp1, valV_pos hk, h1, fun b hb => List.mem_append_left _ hb⟩
    · have e' : look r k = some f := by
        unfold look at e ⊢
        rw [List.find?_cons_of_neg (by simpa using hk)] at e
        exact e
      obtain ⟨w, fp', q1, q2, q3⟩ := look_val h2 e'
      exact ⟨w, fp', by rw [valV_neg hk]; exact q1, q2, fun b hb => List.mem_append_right _ (q3 b hb)⟩
  | [], _ :: _, _, h, _ => h.elim
  | _ :: _, [], _, h, _ => h.elim
theorem pr_flat {K : PySem.W.Frag} {env : Env} {σ : St} {H : Hp} {G : Addr → Prop} {fps : Fs} (E : EnvR K env σ H G fps) {p : P} {v : V} {fp : List Addr} {d : D} (h : PR K H G σ env p v fp) (e : flatP p env = some d) : RpS K H G v d := by
  cases p with
  | val o => exact ow_flat h e
  | plc i =>
    obtain ⟨_, hs⟩ := h
    have e0 : (slot env i).bind O.flat = some d := e
    cases ho : slot env i with
    | none => rw [ho] at e0; cases e0
    | some o =>
      rw [ho] at e0
      obtain ⟨w, hw, how⟩ := E.rep i o ho
      rw [hs] at hw
      cases hw
      exact ow_flat how e0
  | plf i k =>
    obtain ⟨_, a, rv, hs, hH, hv⟩ := h
    unfold flatP at e
    simp only at e
    split at e
    · rename_i kvs hk
      split at e
      · rename_i ds hd
        cases e
        obtain ⟨w, hw, how⟩ := E.rep i _ hk
        rw [hs] at hw
        cases hw
        obtain ⟨a', rv', fp', e1, e2, na, ng, hl, hr⟩ := how
        cases e1
        rw [hH] at hl
        cases hl
        obtain ⟨w, fp1, q1, q2, _⟩ := look_val hr hd
        rw [hv] at q1
        cases q1
        exact owf_s q2
      · cases e
    · cases e
end NW
end
section
set_option linter.all false
set_option maxRecDepth 100000
set_option maxHeartbeats 1000000
/-! NWc: the operators and built-ins on data -/
namespace NW
open PySem L2 PyProof.Rows
theorem lim_eq : lim = sizeLine := by rw [sizeLine_eq]

/-- readings as they are -/
def tE (X : Cx) (e : Expr) (σ : L2.St) (H : Hp) (Q : VK) : Prop := ∀ pins s, Inv X pins σ H s → wpAny (model X.prog X.w) X.A (eval e X.env) (EP X pins σ Q) X.xe s
def tT (X : Cx) (e : Expr) (σ : L2.St) (H : Hp) (Q : Bool → Hp → Prop) : Prop := ∀ pins s, Inv X pins σ H s → wpAny (model X.prog X.w) X.A (isTrue e X.env (eval e X.env)) (TP X pins σ Q) X.xe s
def tA (X : Cx) (es : List Expr) (σ : L2.St) (H : Hp) (Q : List V → Hp → Prop) : Prop := ∀ pos pins s, Inv X pins σ H s → wpAny (model X.prog X.w) X.A (spliced (backTo pos (starEach es X.env))) (AP X pins σ Q) X.xe s
def tS (X : Cx) (st : Stmt) (D : Ends) (σ : L2.St) (H : Hp) : Prop := ∀ pins s, Inv X pins σ H s → wpAny (model X.prog X.w) X.A (exec st X.env) (SP X pins D) X.xe s
def tSs (X : Cx) (st : List Stmt) (D : Ends) (σ : L2.St) (H : Hp) : Prop := ∀ pins s, Inv X pins σ H s → wpAny (model X.prog X.w) X.A (execs st X.env) (SP X pins D) X.xe s
def tI (X : Cx) (tg iter : Expr) (σ : L2.St) (H : Hp) (R : It → Hp → Prop) : Prop := ∀ pins s, Inv X pins σ H s → wpAny (model X.prog X.w) X.A (eval iter X.env) (fun v s1 => wpAny (model X.prog X.w) X.A (pyIter v) (PIE X pins σ tg R) X.xe s1) X.xe s
theorem peS (X : Cx) (e : Expr) : PE X e (tE X e) := ⟨fun pins s σ H Q I h => h pins s I⟩
theorem ptS (X : Cx) (e : Expr) : PT X e (tT X e) := ⟨fun pins s σ H Q I h => h pins s I⟩
theorem paS (X : Cx) (es : List Expr) : PA X es (tA X es) := ⟨fun pos pins s σ H Q I h => h pos pins s I⟩
theorem psS (X : Cx) (st : Stmt) : PS X st (tS X st) := ⟨fun pins s σ H D I h => h pins s I⟩
theorem pssS (X : Cx) (st : List Stmt) : PSs X st (tSs X st) := ⟨fun pins s σ H D I h => h pins s I⟩
theorem piS (X : Cx) (tg iter : Expr) : PI X tg iter (tI X tg iter) := ⟨fun pins s σ H R I h => h pins s I⟩
theorem tE_of {X : Cx} {e : Expr} {t : TE} (h : PE X e t) {σ : L2.St} {H : Hp} {Q : VK} (q : t σ H Q) : tE X e σ H Q := fun pins s I => h.run pins s σ H Q I q
theorem tT_of {X : Cx} {e : Expr} {t : TT} (h : PT X e t) {σ : L2.St} {H : Hp} {Q : Bool → Hp → Prop} (q : t σ H Q) : tT X e σ H Q := fun pins s I => h.run pins s σ H Q I q
theorem tA_of {X : Cx} {es : List Expr} {t : TA} (h : PA X es t) {σ : L2.St} {H : Hp} {Q : List V → Hp → Prop} (q : t σ H Q) : tA X es σ H Q := fun pos pins s I => h.run pos pins s σ H Q I q
theorem tS_of {X : Cx} {st : Stmt} {t : TS} (h : PS X st t) {D : Ends} {σ : L2.St} {H : Hp} (q : t D σ H) : tS X st D σ H := fun pins s I => h.run pins s σ H D I q
theorem tSs_of {X : Cx} {st : List Stmt} {t : TS} (h : PSs X st t) {D : Ends} {σ : L2.St} {H : Hp} (q : t D σ H) : tSs X st D σ H := fun pins s I => h.run pins s σ H D I q
theorem tI_of {X : Cx} {tg iter : Expr} {t : TI} (h : PI X tg iter t) {σ : L2.St} {H : Hp} {R : It → Hp → Prop} (q : t σ H R) : tI X tg iter σ H R := fun pins s I => h.run pins s σ H R I q

/-- a result: new things are nobody else's -/
def ResO (K : PySem.W.Frag) (H : Hp) (G : Addr → Prop) (o : O) (Q : VK) : Prop := ∀ v H' fp, Same H H' → (∀ b, H b = none → H' b = none ∨ b ∈ fp ∨ (∃ xs, H' b = some (.tup xs))) → Ow K H' G o v fp → (∀ b ∈ fp, H b = none) → Q v H'
section
variable {K : PySem.W.Frag} {H : Hp} {G : Addr → Prop}
theorem same_sub {H H' : Hp} (s : Same H H') : Sub K (HG H G) (HG H' G) where
  l := fun a xs h => by
    rcases h with (h | ⟨o, h⟩) | h
    · obtain ⟨h, g⟩ := HG_lst.mp h
      exact .inl (.inl (HG_lst.mpr ⟨s a _ h, g⟩))
    · exact .inl (.inr ⟨o, HG_frz.mpr (s _ _ (HG_frz.mp h))⟩)
    · exact .inr h
  t := fun a xs h => by
    rcases h with (h | ⟨o, h⟩) | h
    · exact .inl (.inl (HG_tup.mpr (s _ _ (HG_tup.mp h))))
    · exact .inl (.inr ⟨o, HG_frz.mpr (s _ _ (HG_frz.mp h))⟩)
    · exact .inr h
theorem same_upd {H : Hp} {p : Addr} {o : HO} (h : H p = none) : Same H (upd H p o) := fun b u e => by rw [upd_ne (ne_of_none e h)]; exact e
theorem rint {v : V} {i : Int} (h : Rp K H G v (.int i)) : v = .int i := by cases h; rfl
theorem rbool {v : V} {i : Bool} (h : Rp K H G v (.bool i)) : v = .bl i := by cases h; rfl
theorem rstr {v : V} {i : Str} (h : Rp K H G v (.str i)) : v = .str i := by cases h; rfl
theorem rnon {v : V} (h : Rp K H G v .none) : v = .non := by cases h; rfl
theorem rtup {v : V} {ds : List D} (h : Rp K H G v (.tuple ds)) : ∃ a xs, v = .ref a ∧ SqT K H a xs ∧ RpA K H G xs ds := by
  cases h with
  | tup h1 h2 => exact ⟨_, _, rfl, (sub_forget K H G).t _ _ h1, h2⟩
theorem tup_r {a : Addr} {xs : List V} {ds : List D} (h : SqT K H a xs) (r : RpA K H G xs ds) : Rp K H G (.ref a) (.tuple ds) := by
  refine .tup ?_ r
  rcases h with (h | ⟨o, h⟩) | h
  · exact .inl (.inl (HG_tup.mpr h))
  · exact .inl (.inr ⟨o, HG_frz.mpr h⟩)
  · exact .inr h
theorem ResO.here {o : O} {Q : VK} {v : V} (h : ResO K H G o Q) (r : Ow K H G o v []) : Q v H := h v H [] (fun _ _ e => e) (fun b e => .inl e) r (fun b hb => by cases hb)
theorem ResO.int {i : Int} {Q : VK} (h : ResO K H G (.fz (.int i)) Q) : Q (.int i) H := h.here ⟨rfl, .int i⟩
theorem ResO.bl {i : Bool} {Q : VK} (h : ResO K H G (.fz (.bool i)) Q) : Q (.bl i) H := h.here ⟨rfl, .bl i⟩
theorem ResO.str {i : Str} {Q : VK} (h : ResO K H G (.fz (.str i)) Q) : Q (.str i) H := h.here ⟨rfl, .str i⟩
theorem ResO.newT {ds : List D} {Q : VK} (h : ResO K H G (.fz (.tuple ds)) Q) {xs : List V} (r : RpA K H G xs ds) {p : Addr} (hp : H p = none) : Q (.ref p) (upd H p (.tup xs)) := by
  have s := same_upd (o := .tup xs) hp
  refine h _ _ [] s (fun b e => ?_) ⟨rfl, tup_r (SqT.of upd_same) (dpAll_mono (same_sub s) _ _ r)⟩ (fun b hb => by cases hb)
  by_cases hb : b = p
  · subst hb; exact .inr (.inr ⟨xs, upd_same⟩)
  · rw [upd_ne hb]; exact .inl e
theorem ResO.sameT {ds : List D} {Q : VK} (h : ResO K H G (.fz (.tuple ds)) Q) {a : Addr} {xs : List V} (hs : SqT K H a xs) (r : RpA K H G xs ds) : Q (.ref a) H := h.here ⟨rfl, tup_r hs r⟩
theorem ResO.newL {ds : List D} {Q : VK} (h : ResO K H G (.lst ds) Q) (hg : ∀ b, G b → ∃ u, H b = some u) {xs : List V} (r : RpA K H G xs ds) {p : Addr} (hp : H p = none) : Q (.ref p) (upd H p (.lst xs)) := by
  have s := same_upd (o := .lst xs) hp
  have ng : ¬ G p := fun g => by obtain ⟨u, e⟩ := hg p g; rw [hp] at e; cases e
  refine h _ _ [p] s (fun b e => ?_) ⟨p, xs, rfl, rfl, ng, upd_same, dpAll_mono (same_sub s) _ _ r⟩ (fun b hb => by
    have e : b = p := by simpa using hb
    rw [e]; exact hp)
  by_cases hb : b = p
  · subst hb; exact .inr (.inl (by simp))
  · rw [upd_ne hb]; exact .inl e
end

/-! ### operators -/
def GHeld (H : Hp) (G : Addr → Prop) : Prop := ∀ b, G b → ∃ u, H b = some u
section
variable {X : Cx}
theorem OpR.imp {f : Value → Value → Sem Value} {r r' : R2} (h : OpR X f r) (i : ∀ x y H Q, r' x y H Q → r x y H Q) : OpR X f r' :=
  fun pins s σ H x y v u Q I rx ry q => h pins s σ H x y v u Q I rx ry (i _ _ _ _ q)
theorem CallR.imp {f : Value} {r r' : List V → Hp → VK → Prop} (h : CallR X f r) (i : ∀ x H Q, r' x H Q → r x H Q) : CallR X f r' :=
  fun pins s σ H x u Q I rx q => h pins s σ H x u Q I rx (i _ _ _ q)
/-- list + list -/
theorem op_catL : OpR X (binaryOp .Add) (fun x y H Q => ∃ l b xs zs, x = .ref l ∧ y = .ref b ∧ SqL X.K H l xs ∧ SqL X.K H b zs ∧ xs.length + zs.length ≤ sizeLine ∧ ∀ p, H p = none → Q (.ref p) (upd H p (.lst (xs ++ zs)))) := by
  intro pins s σ H x y v u Q I rx ry h
  obtain ⟨l, b, xs, zs, rfl, rfl, hH, hB, hz, q⟩ := h
  cases rx
  cases ry
  obtain ⟨its, r, ⟨o, n, e, hc, hd, hdat⟩, hl⟩ := I.list hH
  obtain ⟨its2, r2, ⟨o2, n2, e2, hc2, hd2, hdat2⟩, hl2⟩ := I.list hB
  obtain ⟨cls, dd, data, sl⟩ := o
  obtain ⟨cls2, dd2, data2, sl2⟩ := o2
  simp only at hc hd hdat hc2 hd2 hdat2
  subst hc hd hdat hc2 hd2 hdat2
  have h1 := r.length
  have h2 := r2.length
  have ea : its.toArray ++ its2.toArray = (its ++ its2).toArray := by simp
  refine concat_meets ⟨_, e, rfl⟩ ⟨_, e2, rfl⟩ noFill_list_add seq_list_add PySem.F.slot_list_add PySem.F.entry_list_add (PySem.F.args_list_add_2 _ _) (list_addW l b its.toArray its2.toArray n n2 none none sl sl2 (by simp; omega)) ⟨e, e2, ?_⟩
  rw [ea]
  exact ⟨.ref _, _, I.lnew (t' := s.toks) (r.append r2) (by rw [List.length_append]; omega), rfl, q _ I.fresh⟩
def binOp : BinK → Operator
  | .add => .Add | .sub => .Sub | .mul => .Mult | .fdiv => .FloorDiv | .mod => .Mod | .pow => .Pow
theorem bin_ok (k : BinK) {x y : V} {dx dy : D} {o : O} {H : Hp} {G : Addr → Prop} {Q : VK} (hg : GHeld H G) (hx : RpS X.K H G x dx) (hy : RpS X.K H G y dy) (e : binO k dx dy = some o) (hq : ResO X.K H G o Q) :
    ∃ r, OpR X (binaryOp (binOp k)) r ∧ r x y H Q := by
  cases k
  case add =>
    cases dx <;> cases dy <;> try cases e
    · have h1 := rint hx; have h2 := rint hy; subst h1 h2
      exact ⟨_, op_add, _, _, rfl, rfl, hq.int⟩
    · rename_i a b
      have h1 := rstr hx; have h2 := rstr hy; subst h1 h2
      simp only [binO] at e
      split at e
      · rename_i hl
        cases e
        exact ⟨_, op_add_str, _, _, rfl, rfl, by rw [← lim_eq]; exact hl, hq.str⟩
      · cases e
    · rename_i a b
      simp only [binO] at e
      split at e
      · rename_i hl
        cases e
        obtain ⟨p, xs, rfl, s1, r1⟩ := hx
        obtain ⟨p', ys, rfl, s2, r2⟩ := hy
        have l1 := dpAll_length r1
        have l2 := dpAll_length r2
        refine ⟨_, op_catL, _, _, _, _, rfl, rfl, s1, s2, by rw [l1, l2, ← lim_eq]; exact hl, fun q hn => hq.newL hg (dpAll_append r1 r2) hn⟩
      · cases e
    · rename_i a b
      simp only [binO] at e
      split at e
      · rename_i hl
        cases e
        obtain ⟨p, xs, rfl, s1, r1⟩ := rtup hx
        obtain ⟨p', ys, rfl, s2, r2⟩ := rtup hy
        have l1 := dpAll_length r1
        have l2 := dpAll_length r2
        refine ⟨_, op_catA, _, _, _, _, rfl, rfl, s1, s2, by rw [l1, l2, ← lim_eq]; exact hl, fun z => ?_, fun _ z => ?_, fun _ _ q hn => hq.newT (dpAll_append r1 r2) hn⟩
        · subst z
          cases r1
          exact hq.sameT s2 r2
        · subst z
          cases r2
          rw [List.append_nil] at hq
          exact hq.sameT s1 r1
      · cases e
  case sub =>
    cases dx <;> cases dy <;> try cases e
    have h1 := rint hx; have h2 := rint hy; subst h1 h2
    exact ⟨_, op_sub, _, _, rfl, rfl, hq.int⟩
  case mul =>
    cases dx <;> cases dy <;> try cases e
    rename_i a b
    have h1 := rint hx; have h2 := rint hy; subst h1 h2
    simp only [binO] at e
    split at e
    · rename_i hl
      cases e
      refine ⟨_, op_mul, _, _, rfl, rfl, ?_, hq.int⟩
      rw [smallI_def, smallI_def] at hl
      simp only [Bool.or_eq_true, Bool.and_eq_true, decide_eq_true_eq] at hl
      exact hl
    · cases e
  case fdiv =>
    cases dx <;> cases dy <;> try cases e
    rename_i a b
    have h1 := rint hx; have h2 := rint hy; subst h1 h2
    simp only [binO] at e
    split at e
    · rename_i hl
      cases e
      exact ⟨_, op_fdiv, _, _, rfl, rfl, divOk_iff.mp hl, hq.int⟩
    · cases e
  case mod =>
    cases dx <;> cases dy <;> try cases e
    rename_i a b
    have h1 := rint hx; have h2 := rint hy; subst h1 h2
    simp only [binO] at e
    split at e
    · rename_i hl
      cases e
      exact ⟨_, op_mod, _, _, rfl, rfl, hl, hq.int⟩
    · cases e
  case pow =>
    cases dx <;> cases dy <;> try cases e
    rename_i a b
    have h1 := rint hx; have h2 := rint hy; subst h1 h2
    simp only [binO] at e
    split at e
    · rename_i hl
      cases e
      exact ⟨_, op_pow, _, _, rfl, rfl, powOk_iff.mp hl, hq.int⟩
    · cases e
def cmpOp : CmpK → CmpOp
  | .eq => .Eq | .ne => .NotEq | .lt => .Lt | .le => .LtE | .gt => .Gt | .ge => .GtE | .isin => .In | .notin => .NotIn
theorem eqD_some {a b : D} {c : Bool} (e : eqD a b = some c) : SeqAt.shaped a = true ∧ SeqAt.shaped b = true ∧ c = PyData.eqv a b := by
  unfold eqD at e
  split at e
  · rename_i h
    simp only [Bool.and_eq_true] at h
    cases e
    exact ⟨h.1, h.2, rfl⟩
  · cases e
theorem cmp_ok (hu : X.A.units + 64 < cLine) (k : CmpK) {x y : V} {dx dy : D} {c : Bool} {H : Hp} {G : Addr → Prop} {Q : VK} (hx : RpS X.K H G x dx) (hy : RpS X.K H G y dy) (e : cmpO k dx dy = some c) (hq : Q (.bl c) H) :
    ∃ r, OpR X (compareOp (cmpOp k)) r ∧ r x y H Q := by
  cases k
  case eq =>
    have e' : eqD dx dy = some c := by cases dx <;> cases dy <;> exact e
    obtain ⟨s1, s2, rfl⟩ := eqD_some e'
    exact ⟨_, op_eqD hu, dx, dy, hx.dp, hy.dp, s1, s2, hq⟩
  case ne =>
    have e' : (eqD dx dy).map (!·) = some c := by cases dx <;> cases dy <;> exact e
    cases q : eqD dx dy with
    | none => rw [q] at e'; cases e'
    | some c' =>
      rw [q] at e'
      cases e'
      obtain ⟨s1, s2, rfl⟩ := eqD_some q
      exact ⟨_, op_neD hu, dx, dy, hx.dp, hy.dp, s1, s2, hq⟩
  case lt =>
    cases dx <;> cases dy <;> try cases e
    have h1 := rint hx; have h2 := rint hy; subst h1 h2
    exact ⟨_, op_lt, _, _, rfl, rfl, hq⟩
  case le =>
    cases dx <;> cases dy <;> try cases e
    have h1 := rint hx; have h2 := rint hy; subst h1 h2
    exact ⟨_, op_le, _, _, rfl, rfl, hq⟩
  case gt =>
    cases dx <;> cases dy <;> try cases e
    have h1 := rint hx; have h2 := rint hy; subst h1 h2
    exact ⟨_, op_gt, _, _, rfl, rfl, hq⟩
  case ge =>
    cases dx <;> cases dy <;> try cases e
    have h1 := rint hx; have h2 := rint hy; subst h1 h2
    exact ⟨_, op_ge, _, _, rfl, rfl, hq⟩
  case isin => cases dx <;> cases dy <;> cases e
  case notin => cases dx <;> cases dy <;> cases e
end
end NW
end
section
set_option linter.all false
set_option maxRecDepth 100000
set_option maxHeartbeats 1000000
/-! NWd: items, slices, truth, built-in calls -/
namespace NW
open PySem L2 PyProof.Rows
theorem rp_row {K : PySem.W.Frag} {H : Hp} {G : Addr → Prop} {v : V} {d : D} {ds : List D} (h : RpS K H G v d) (e : rowOf d = some ds) : ∃ a xs, v = .ref a ∧ (SqL K H a xs ∨ SqT K H a xs) ∧ RpA K H G xs ds := by
  cases d <;> try cases e
  · obtain ⟨a, xs, rfl, s, r⟩ := h
    exact ⟨a, xs, rfl, .inl s, r⟩
  · obtain ⟨a, xs, rfl, s, r⟩ := rtup h
    exact ⟨a, xs, rfl, .inr s, r⟩
theorem atI_rp {K : PySem.W.Frag} {H : Hp} {xs : List V} {ds : List D} {i : Int} {d : D} (r : DpAll K H xs ds) (e : atI ds i = some d) : ∃ v, atI xs i = some v ∧ Dp K H v d := by
  unfold atI at e ⊢
  rw [dpAll_length r]
  cases q : ixN ds.length i with
  | none => rw [q] at e; cases e
  | some j =>
    rw [q] at e
    exact dpAll_get r e
section
variable {X : Cx}
theorem ix_ok {x y : V} {dx dy d : D} {H : Hp} {G : Addr → Prop} {Q : VK} (hx : RpS X.K H G x dx) (hy : RpS X.K H G y dy) (e : ixD dx dy = some d) (hq : ∀ v, Rp X.K H G v d → Q v H) :
    ∃ r, IxR X r ∧ r x y H Q := by
  cases dx <;> cases dy <;> try cases e
  · obtain ⟨a, xs, rfl, s, r⟩ := hx
    have h2 := rint hy; subst h2
    obtain ⟨v, e1, e2⟩ := atI_rp r e
    exact ⟨_, ix_list, a, xs, _, v, rfl, rfl, s, e1, hq v e2⟩
  · obtain ⟨a, xs, rfl, s, r⟩ := rtup hx
    have h2 := rint hy; subst h2
    obtain ⟨v, e1, e2⟩ := atI_rp r e
    exact ⟨_, ix_tup, a, xs, _, v, rfl, rfl, s, e1, hq v e2⟩
theorem sIx_le (n d : Nat) (h : d ≤ n) (o : Option Int) : HT.sIx n d o ≤ n := HT.sIx_le n d h o
theorem sl_ok {x : V} {dx : D} {lo hi : Option Int} {o : O} {H : Hp} {G : Addr → Prop} {Q : VK} (hg : GHeld H G) (hx : RpS X.K H G x dx) (e : slO dx lo hi = some o) (hq : ResO X.K H G o Q) :
    ∃ r, SlR X r ∧ r x lo hi H Q := by
  cases dx <;> try cases e
  · obtain ⟨a, xs, rfl, s, r⟩ := hx
    exact ⟨_, sl_list, a, xs, rfl, s, fun p hp => hq.newL hg (dpAll_cut lo hi r) hp⟩
  · obtain ⟨a, xs, rfl, s, r⟩ := rtup hx
    refine ⟨_, sl_tupA, a, xs, rfl, s, fun z => ?_, fun _ p hp => hq.newT (dpAll_cut lo hi r) hp⟩
    rename_i ds
    have hl := dpAll_length r
    have e : cutD ds lo hi = ds := by
      unfold cutD
      rw [← hl, z.1, z.2]
      simp [hl]
    rw [e] at hq
    exact hq.sameT s r
/-- truth -/
theorem tru_D {K : PySem.W.Frag} {x : V} {d : D} {c : Bool} {H : Hp} {G : Addr → Prop} (hx : RpS K H G x d) (e : truthD d = some c) : TruV K x H c := by
  cases d <;> try cases e
  · have := rnon hx; subst this; exact rfl
  · have := rbool hx; subst this; exact rfl
  · have := rint hx; subst this; exact rfl
  · obtain ⟨a, xs, rfl, s, r⟩ := hx
    refine .inl ⟨xs, s, ?_⟩
    have hl := dpAll_length r
    rename_i ds
    cases xs <;> cases ds <;> first | rfl | cases hl
  · obtain ⟨a, xs, rfl, s, r⟩ := rtup hx
    refine .inr (.inl ⟨xs, s, ?_⟩)
    have hl := dpAll_length r
    rename_i ds
    cases xs <;> cases ds <;> first | rfl | cases hl

/-! ### built-ins -/
inductive RpSs (K : PySem.W.Frag) (H : Hp) (G : Addr → Prop) : List V → List D → Prop
  | nil : RpSs K H G [] []
  | cons {v : V} {vs : List V} {d : D} {ds : List D} : RpS K H G v d → RpSs K H G vs ds → RpSs K H G (v :: vs) (d :: ds)
theorem rpSs1 {K : PySem.W.Frag} {H : Hp} {G : Addr → Prop} {vs : List V} {d : D} (h : RpSs K H G vs [d]) : ∃ v, vs = [v] ∧ RpS K H G v d := by
  cases h with
  | cons h1 h2 => cases h2; exact ⟨_, rfl, h1⟩
theorem rpSs2 {K : PySem.W.Frag} {H : Hp} {G : Addr → Prop} {vs : List V} {d e : D} (h : RpSs K H G vs [d, e]) : ∃ v u, vs = [v, u] ∧ RpS K H G v d ∧ RpS K H G u e := by
  cases h with
  | cons h1 h2 =>
    obtain ⟨u, rfl, h3⟩ := rpSs1 h2
    exact ⟨_, _, rfl, h1, h3⟩
theorem ints_rp {K : PySem.W.Frag} {H : Hp} : ∀ {xs : List V} {ds : List D} {ns : List Int}, DpAll K H xs ds → intsOf ds = some ns → xs = ns.map V.int
  | [], [], ns, _, e => by cases e; rfl
  | x :: xs, d :: ds, ns, .cons h1 h2, e => by
    cases d <;> try cases e
    cases h1
    rename_i i
    have e' : (intsOf ds).map (i :: ·) = some ns := e
    cases q : intsOf ds with
    | none => rw [q] at e'; cases e'
    | some ms =>
      rw [q] at e'
      cases e'
      rw [List.map_cons, ints_rp h2 q]
theorem bools_rp {K : PySem.W.Frag} {H : Hp} : ∀ {xs : List V} {ds : List D} {ns : List Bool}, DpAll K H xs ds → boolsOf ds = some ns → xs = ns.map V.bl
  | [], [], ns, _, e => by cases e; rfl
  | x :: xs, d :: ds, ns, .cons h1 h2, e => by
    cases d <;> try cases e
    cases h1
    rename_i i
    have e' : (boolsOf ds).map (i :: ·) = some ns := e
    cases q : boolsOf ds with
    | none => rw [q] at e'; cases e'
    | some ms =>
      rw [q] at e'
      cases e'
      rw [List.map_cons, bools_rp h2 q]
theorem maxI_mem : ∀ ns : List Int, 0 < ns.length → maxI ns ∈ ns ∧ ∀ y ∈ ns, y ≤ maxI ns
  | [x], _ => by simp [maxI]
  | x :: y :: r, _ => by
    obtain ⟨h1, h2⟩ := maxI_mem (y :: r) (by simp)
    have e : maxI (x :: y :: r) = if maxI (y :: r) > x then maxI (y :: r) else x := rfl
    rw [e]
    split
    · exact ⟨List.mem_cons_of_mem _ h1, fun z hz => by
        rcases List.mem_cons.mp hz with rfl | hz
        · omega
        · exact h2 z hz⟩
    · exact ⟨List.mem_cons_self, fun z hz => by
        rcases List.mem_cons.mp hz with rfl | hz
        · omega
        · have := h2 z hz; omega⟩
theorem minI_mem : ∀ ns : List Int, 0 < ns.length → minI ns ∈ ns ∧ ∀ y ∈ ns, minI ns ≤ y
  | [x], _ => by simp [minI]
  | x :: y :: r, _ => by
    obtain ⟨h1, h2⟩ := minI_mem (y :: r) (by simp)
    have e : minI (x :: y :: r) = if minI (y :: r) < x then minI (y :: r) else x := rfl
    rw [e]
    split
    · exact ⟨List.mem_cons_of_mem _ h1, fun z hz => by
        rcases List.mem_cons.mp hz with rfl | hz
        · omega
        · exact h2 z hz⟩
    · exact ⟨List.mem_cons_self, fun z hz => by
        rcases List.mem_cons.mp hz with rfl | hz
        · omega
        · have := h2 z hz; omega⟩
/-- sum(t), t a tuple of ints -/
theorem sum_tupW {prog : Program} {w : World} {A : Around} {E : Value → Shared → Prop} {s : Shared} {l : Addr} {its : List Value} {ns : List Int} {Q : Value → Shared → Prop} (hh : A.handled = none) (hl : s.heap.IsTuple l its.toArray) (hi : IntsAre its ns)
    (h : ∀ h' tk t', (∀ b o, s.heap.get? b = some o → h'.get? b = some o) → Q (.int ns.sum t') { s with heap := h', toks := tk }) : wpAny (model prog w) A (call (.builtin "sum") [.ref l]) Q E s := by
  obtain ⟨xs, e⟩ := hi.allInts.items
  have hn : numsOf (intItems xs).toList = ns := by rw [← e]; exact hi.numsOf
  rw [nums_intItems] at hn
  rw [e] at hl
  have hlt : l < s.heap.objs.size := by obtain ⟨_, e, _⟩ := hl; exact Heap.lt_size e
  refine call_sum_walkG (wpAny_pyIter_tuple hl ?_)
  refine ⟨_, [_, l], [_], _, _, _, numAt xs, rfl, Walks.tuple (A := A.in1) hh _ l (Nat.ne_of_lt hlt) (intItems xs), ⟨⟨_, Heap.get?_push_size _ rfl, rfl, rfl⟩, hl.push _⟩, fun b hb => ?_, fun _ _ => intItems_at, fun h' tk t' hk => ?_⟩
  · show b < (s.heap.push _).objs.size
    rw [Heap.size_push]
    rcases List.mem_cons.mp hb with rfl | hb
    · exact Nat.lt_succ_self _
    · rcases List.mem_cons.mp hb with rfl | hb
      · exact Nat.lt_succ_of_lt hlt
      · cases hb
  · have hold : ∀ c o, s.heap.get? c = some o → h'.get? c = some o := fun c o e => by
      refine hk c o (fun hm => ?_) (Heap.get?_push_of_some _ e)
      rcases List.mem_cons.mp hm with e1 | hm
      · have := Heap.lt_size e; rw [e1] at this; exact Nat.lt_irrefl _ this
      · cases hm
    have := h h' tk t' hold
    have e2 : (intItems xs).size = xs.size := by simp [intItems]
    rw [e2, preSum_eq, List.take_of_length_le (by simp), hn]; exact this
theorem cr_sumT (hc : X.calm = true) : CallR X (.builtin "sum") (fun vs H Q => ∃ (a : Addr) (ns : List Int), vs = [V.ref a] ∧ SqT X.K H a (ns.map V.int) ∧ Q (.int ns.sum) H) := by
  intro pins s σ H vs us Q I r h
  obtain ⟨a, ns, rfl, hs, q⟩ := h
  obtain ⟨its, rv, hl, _⟩ := I.tuple hs
  rw [Vals.ref1 r]
  exact sum_tupW (I.ok.hd hc) (show s.heap.IsTuple a its.toArray from hl) rv.ints fun h' tk t' hk => ⟨.int _, H, I.kept hk, ⟨_, rfl⟩, q⟩
def biName : BI → Str
  | .len => "len" | .int => "int" | .max => "max" | .min => "min" | .sum => "sum" | .all => "all" | .any => "any" | .tuple => "tuple" | .list => "list" | .divmod => "divmod"
def biVal : BI → Value
  | .len => .builtin "len" | .int => .type "int" | .max => .builtin "max" | .min => .builtin "min" | .sum => .builtin "sum" | .all => .builtin "all" | .any => .builtin "any" | .tuple => .type "tuple" | .list => .type "list" | .divmod => .builtin "divmod"
theorem bi_ok (hc : X.calm = true) (b : BI) {vs : List V} {ds : List D} {o : O} {H : Hp} {G : Addr → Prop} {Q : VK} (hg : GHeld H G) (hx : RpSs X.K H G vs ds) (e : biO b ds = some o) (hq : ResO X.K H G o Q) :
    ∃ r, CallR X (biVal b) r ∧ r vs H Q := by
  unfold biO at e
  split at e
  · cases e
    obtain ⟨v, rfl, h1⟩ := rpSs1 hx
    obtain ⟨a, xs, rfl, s, r⟩ := rtup h1
    refine ⟨_, call_len_seq, a, xs, rfl, .inr s, ?_⟩
    rw [dpAll_length r]; exact hq.int
  · cases e
    obtain ⟨v, rfl, h1⟩ := rpSs1 hx
    obtain ⟨a, xs, rfl, s, r⟩ := h1
    refine ⟨_, call_len_seq, a, xs, rfl, .inl s, ?_⟩
    rw [dpAll_length r]; exact hq.int
  · cases e
    obtain ⟨v, rfl, h1⟩ := rpSs1 hx
    have := rint h1; subst this
    exact ⟨_, call_int1, .inl ⟨_, rfl, hq.int⟩⟩
  · cases e
    obtain ⟨v, u, rfl, h1, h2⟩ := rpSs2 hx
    have := rint h1; have := rint h2; subst v u
    exact ⟨_, call_max2 hc, _, _, rfl, hq.int⟩
  · cases e
    obtain ⟨v, u, rfl, h1, h2⟩ := rpSs2 hx
    have := rint h1; have := rint h2; subst v u
    exact ⟨_, call_min2 hc, _, _, rfl, hq.int⟩
  · split at e
    · rename_i ns hns
      split at e
      · rename_i hp
        cases e
        obtain ⟨v, rfl, h1⟩ := rpSs1 hx
        obtain ⟨a, xs, rfl, s, r⟩ := h1
        have := ints_rp r hns; subst this
        refine ⟨_, cr_max hc, a, ns, rfl, s, hp, fun m h1 h2 => ?_⟩
        obtain ⟨q1, q2⟩ := maxI_mem ns hp
        have : m = maxI ns := by have := h2 _ q1; have := q2 _ h1; omega
        rw [this]; exact hq.int
      · cases e
    · cases e
  · split at e
    · rename_i ns hns
      split at e
      · rename_i hp
        cases e
        obtain ⟨v, rfl, h1⟩ := rpSs1 hx
        obtain ⟨a, xs, rfl, s, r⟩ := h1
        have := ints_rp r hns; subst this
        refine ⟨_, cr_min hc, a, ns, rfl, s, hp, fun m h1 h2 => ?_⟩
        obtain ⟨q1, q2⟩ := minI_mem ns hp
        have : m = minI ns := by have := h2 _ q1; have := q2 _ h1; omega
        rw [this]; exact hq.int
      · cases e
    · cases e
  · split at e
    · rename_i ns hns
      cases e
      obtain ⟨v, rfl, h1⟩ := rpSs1 hx
      obtain ⟨a, xs, rfl, s, r⟩ := h1
      have := ints_rp r hns; subst this
      exact ⟨_, cr_sum hc, a, ns, rfl, s, hq.int⟩
    · cases e
  · split at e
    · rename_i ns hns
      cases e
      obtain ⟨v, rfl, h1⟩ := rpSs1 hx
      obtain ⟨a, xs, rfl, s, r⟩ := rtup h1
      have := ints_rp r hns; subst this
      exact ⟨_, cr_sumT hc, a, ns, rfl, s, hq.int⟩
    · cases e
  · split at e
    · rename_i ns hns
      cases e
      obtain ⟨v, rfl, h1⟩ := rpSs1 hx
      obtain ⟨a, xs, rfl, s, r⟩ := h1
      have := bools_rp r hns; subst this
      exact ⟨_, cr_all hc, a, ns, rfl, s, hq.bl⟩
    · cases e
  · split at e
    · rename_i ns hns
      cases e
      obtain ⟨v, rfl, h1⟩ := rpSs1 hx
      obtain ⟨a, xs, rfl, s, r⟩ := h1
      have := bools_rp r hns; subst this
      exact ⟨_, cr_any hc, a, ns, rfl, s, hq.bl⟩
    · cases e
  · cases e
    obtain ⟨v, rfl, h1⟩ := rpSs1 hx
    obtain ⟨a, xs, rfl, s, r⟩ := h1
    exact ⟨_, call_tuple_of, a, xs, rfl, .inl ⟨s, fun l hl => hq.newT r hl⟩⟩
  · cases e
    obtain ⟨v, rfl, h1⟩ := rpSs1 hx
    obtain ⟨a, xs, rfl, s, r⟩ := rtup h1
    exact ⟨_, call_tuple_of, a, xs, rfl, .inr ⟨s, hq.sameT s r⟩⟩
  · cases e
    obtain ⟨v, rfl, h1⟩ := rpSs1 hx
    obtain ⟨a, xs, rfl, s, r⟩ := h1
    exact ⟨_, call_list_of, a, xs, rfl, .inl s, fun l hl => hq.newL hg r hl⟩
  · cases e
    obtain ⟨v, rfl, h1⟩ := rpSs1 hx
    obtain ⟨a, xs, rfl, s, r⟩ := rtup h1
    exact ⟨_, call_list_of, a, xs, rfl, .inr s, fun l hl => hq.newL hg r hl⟩
  · split at e
    · rename_i hj
      cases e
      obtain ⟨v, u, rfl, h1, h2⟩ := rpSs2 hx
      have := rint h1; have := rint h2; subst v u
      exact ⟨_, call_divmod, _, _, rfl, divOk_iff.mp hj, fun p hp => hq.newT (.cons (.int _) (.cons (.int _) .nil)) hp⟩
    · cases e
  · cases e
def tyName : TyK → String
  | .int => "int" | .bool => "bool" | .str => "str" | .tuple => "tuple" | .list => "list" | .dict => "dict"
theorem isi_ok (T : TyK) {d : D} {x : V} {H : Hp} {G : Addr → Prop} {Q : VK} (hx : RpS X.K H G x d) (hq : Q (.bl (isiD T d)) H) :
    ∃ r, CallR X (.builtin "isinstance") r ∧ r [x, .ty (tyName T)] H Q := by
  refine ⟨fun vs H Q => ∃ (x : V) (d : D), vs = [x, .ty (tyName T)] ∧ Dp X.K H x d ∧ Q (.bl (isiD T d)) H, ?_, x, d, rfl, hx.dp, hq⟩
  intro pins s σ H vs us Q I r h
  obtain ⟨x, d, rfl, hd, q⟩ := h
  obtain ⟨u, w', rfl, r1, r2⟩ := vals2 r
  obtain ⟨as, rd⟩ := Dp.reads I d x u hd r1
  have fin : ∀ {b : Bool}, b = isiD T d → ∀ tk, s.toks ≤ tk → EP X pins σ Q (.bool b) { s with toks := tk } := fun e tk _ => ⟨.bl _, H, I.tok _, rfl, by rw [e]; exact q⟩
  cases T <;> cases r2
  · exact PySem.W.isinstance_int_data rd (fin (by cases d <;> rfl))
  · exact PySem.W.isinstance_bool_data rd (fin (by cases d <;> rfl))
  · exact PySem.W.isinstance_str_data rd (fin (by cases d <;> rfl))
  · exact PySem.W.isinstance_tuple_data rd (fin (by cases d <;> rfl))
  · exact PySem.W.isinstance_list_data rd (fin (by cases d <;> rfl))
  · exact PySem.W.isinstance_dict_data rd (fin (by cases d <;> rfl))
end
end NW
end
section
set_option linter.all false
set_option maxRecDepth 100000
set_option maxHeartbeats 1000000
/-! NWe: contexts, goals, what evaluation leaves -/
namespace NW
open PySem L2 PyProof.Rows
/-- what is fixed through a law: the written part, the module's names, what the defs mean, how an exception of data stands in the heap -/
structure Ct where
  K : PySem.W.Frag
  mg : Str → Option Value
  Γ : Gam
  xr : Exn → Value → Option Addr → Hp → Prop
def F0 : Addr → Prop := fun _ => False
/-- promises -/
def spPure (c : Ct) (n : Nat) (m : List D → Option (Except Exn D)) : Sp := fun vs H Q E => ∃ (G : Addr → Prop) (ds : List D) (r : Except Exn D), GHeld H G ∧ RpA c.K H G vs ds ∧ ds.length = n ∧ m ds = some r ∧ match r with
  | .ok d => ∀ v H' G', Step H G F0 H' G' F0 → GHeld H' G' → Rp c.K H' G' v d → Q v H'
  | .error x => ∀ cls dd H' G', Step H G F0 H' G' F0 → GHeld H' G' → c.xr x cls dd H' → E cls dd H'
def spMk (c : Ct) (n : Nat) (m : List D → Option O) : Sp := fun vs H Q E => ∃ (G : Addr → Prop) (ds : List D) (o : O), GHeld H G ∧ RpA c.K H G vs ds ∧ ds.length = n ∧ m ds = some o ∧
  ∀ v H' G' fp, Step H G F0 H' G' F0 → GHeld H' G' → Ow c.K H' G' o v fp → (∀ b ∈ fp, H b = none) → Q v H'
def spIo (c : Ct) (n : Nat) (m : O → List D → Option (Except Exn D × O)) : Sp := fun vs H Q E => ∃ (G : Addr → Prop) (o o' : O) (v0 : V) (ws : List V) (fp : List Addr) (ds : List D) (r : Except Exn D), GHeld H G ∧ vs = v0 :: ws ∧ Ow c.K H G o v0 fp ∧ RpA c.K H G ws ds ∧ ds.length = n ∧ m o ds = some (r, o') ∧ match r with
  | .ok d => ∀ v H' G' fp', Step H G (· ∈ fp) H' G' (· ∈ fp') → GHeld H' G' → Ow c.K H' G' o' v0 fp' → Rp c.K H' G' v d → Q v H'
  | .error x => ∀ cls dd H' G' fp', Step H G (· ∈ fp) H' G' (· ∈ fp') → GHeld H' G' → Ow c.K H' G' o' v0 fp' → c.xr x cls dd H' → E cls dd H'
def spOf (c : Ct) : Mean → Sp
  | .pure n m => spPure c n m
  | .mk n m => spMk c n m
  | .io n m => spIo c n m
def arity : Mean → Nat
  | .pure n _ => n
  | .mk n _ => n
  | .io n _ => n + 1
/-- a def of the module keeps its promise, with room for it here -/
def FnAt (c : Ct) (X : Cx) (f : Str) (m : Mean) : Prop := ∃ (fa : Addr) (fd : FuncData) (ps : List Str) (k : Nat), FnOk X.prog X.w X.K X.mg X.base (L2.CX X.prog X.w) k fa fd ps (spOf c m) ∧ Room k X.A ∧ c.mg f = some (.ref fa) ∧ PySem.W.keepIn c.K (.ref fa) = true ∧ Binds c.K fd ps [] ∧ (f == ("__debug__" : Str)) = false
def bltNames : List Str := ["len", "int", "max", "min", "sum", "all", "any", "tuple", "list", "divmod", "isinstance", "range", "enumerate", "zip", "bool", "str", "dict", "sorted", "set", "repr"]
structure CtxOk (c : Ct) (X : Cx) (W : WX) (N : List Str) (sc : Scope) (fn : Str → Bool) : Prop where
  eK : X.K = c.K
  eM : X.mg = c.mg
  eN : X.N = N
  eS : X.env.scope = sc
  eF : X.fn = fn
  nd : N.Nodup
  calm : X.calm = true
  tk : Takes X W
  rm : Room 0 X.A
  fns : ∀ f m, c.Γ.fn f = some m → FnAt c X f m
  blt : ∀ x ∈ bltNames, c.mg x = none
  glob : ∀ x d, c.Γ.const x = some d → (x == ("__debug__" : Str)) = false ∧ ∃ u v, c.mg x = some u ∧ RelV v u ∧ ∀ H G, Rp c.K H G v d

/-- behind a step from (H0, G0, fps0): the state, and the places fpt of the thing at hand -/
structure Aft (K : PySem.W.Frag) (σ : L2.St) (H0 : Hp) (G0 : Addr → Prop) (fps0 : Fs) (env : Env) (H : Hp) (G : Addr → Prop) (fps : Fs) (fpt : List Addr) : Prop where
  E : EnvR K env σ H G fps
  S : Step H0 G0 (FF fps0) H G (FF fps)
  new : ∀ b ∈ fpt, FF fps0 b ∨ H0 b = none
  off : ∀ b ∈ fpt, ¬ FF fps b
section
variable {K : PySem.W.Frag} {σ : L2.St} {H0 H1 H2 H H' : Hp} {G0 G1 G2 G G' F F' : Addr → Prop} {fps0 fps1 fps2 fps : Fs} {env env1 env2 : Env} {fpt fpt1 fpt2 : List Addr}
theorem Aft.refl (E : EnvR K env σ H G fps) : Aft K σ H G fps env H G fps [] := ⟨E, Step.refl, (fun b hb => nomatch hb), (fun b hb => nomatch hb)⟩
theorem Aft.next (a : Aft K σ H0 G0 fps0 env1 H1 G1 fps1 fpt1) (b : Aft K σ H1 G1 fps1 env2 H2 G2 fps2 fpt2) : Aft K σ H0 G0 fps0 env2 H2 G2 fps2 fpt2 :=
  ⟨b.E, a.S.trans b.S, fun c hc => by
    rcases b.new c hc with z | z
    · exact a.S.fnew c z
    · exact (a.S.none_of z).symm, b.off⟩
theorem Aft.drop (a : Aft K σ H0 G0 fps0 env1 H1 G1 fps1 fpt1) : Aft K σ H0 G0 fps0 env1 H1 G1 fps1 [] := ⟨a.E, a.S, (fun b hb => nomatch hb), (fun b hb => nomatch hb)⟩
theorem Same.step (s : Same H H') : Step H G F0 H' G F0 := ⟨fun b u e _ => s b u e, fun b xs e => s _ _ e, fun b o u e => s _ _ e, fun _ g => g, fun _ g => .inl g, fun _ f => f.elim⟩
theorem Same.stepF (s : Same H H') : Step H G F H' G F := ⟨fun b u e _ => s b u e, fun b xs e => s _ _ e, fun b o u e => s _ _ e, fun _ g => g, fun _ g => .inl g, fun _ f => .inl f⟩
/-- the names are as they were, where only other places have changed -/
theorem EnvR.step (E : EnvR K env σ H G fps) (s : Step H G F H' G' F') (d1 : ∀ b, FF fps b → ¬ F b) (d2 : ∀ b, G b → ¬ F b) (gh : GHeld H' G') : EnvR K env σ H' G' fps :=
  ⟨gh, E.len, fun i o h => by
    obtain ⟨v, e, r⟩ := E.rep i o h
    exact ⟨v, e, r.step s d2 fun b hb => d1 b ⟨i, hb⟩⟩, E.emp, E.dis⟩
theorem EnvR.same (E : EnvR K env σ H G fps) (s : Same H H') : EnvR K env σ H' G fps := E.step (Same.step s) (fun _ _ f => f) (fun _ _ f => f) fun b g => by
  obtain ⟨u, e⟩ := E.gh b g
  exact ⟨u, s _ _ e⟩
theorem Ow.same {o : O} {v : V} {fp : List Addr} (s : Same H H') (h : Ow K H G o v fp) : Ow K H' G o v fp := h.step (Same.step s) (fun _ _ f => f) fun _ _ f => f
/-- a thing at hand stays through a further step -/
theorem PR.next {p : P} {v : V} {ne : Bool} (a : Aft K σ H0 G0 fps0 env1 H1 G1 fps1 fpt1) (r : PR K H1 G1 σ env1 p v fpt1) (b : Aft K σ H1 G1 fps1 env2 H2 G2 fps2 fpt2) (st : p.still ne = true) (hs : ne = true → Same H1 H2) :
    PR K H2 G2 σ env2 p v fpt1 ∧ Aft K σ H0 G0 fps0 env2 H2 G2 fps2 fpt1 := by
  cases p with
  | val o =>
    have r' : Ow K H1 G1 o v fpt1 := r
    refine ⟨r'.step b.S a.E.gf a.off, b.E, a.S.trans b.S, a.new, fun c hc f => ?_⟩
    rcases b.S.fnew c f with z | z
    · exact a.off c hc z
    · obtain ⟨_, u, e⟩ := r'.held c hc
      rw [e] at z; cases z
  | plc i =>
    obtain ⟨rfl, r⟩ := r
    exact ⟨⟨rfl, r⟩, (a.next b).drop⟩
  | plf i k =>
    obtain ⟨rfl, x, rv, h1, h2, h3⟩ := r
    exact ⟨⟨rfl, x, rv, h1, hs st _ _ h2, h3⟩, (a.next b).drop⟩
/-- what a name held is frozen -/
theorem freeze_slot {i : Nat} {o : O} {d : D} {v : V} (E : EnvR K env σ H G fps) (hs : slot env i = some o) (hv : σ[i]? = some (some v)) (hd : o.flat = some d) :
    ∃ G' fps', EnvR K (env.set i (some (.fz d))) σ H G' fps' ∧ Step H G (FF fps) H G' (FF fps') ∧ Rp K H G' v d := by
  obtain ⟨w, hw, ho⟩ := E.rep i o hs
  rw [hv] at hw
  cases hw
  have hi := slot_lt hs
  refine ⟨fun b => G b ∨ b ∈ fps i, updF fps i [], ⟨fun b g => ?_, by rw [List.length_set]; exact E.len, fun j o' hj => ?_, fun j hj => ?_, fun j k a ha hb => ?_⟩, ⟨fun b u e _ => e, fun b xs e => e, fun b o u e => e, fun b g => .inl g, fun b g => g.elim .inl fun z => .inr (.inl ⟨i, z⟩), fun b ⟨j, hj⟩ => ?_⟩, ow_freeze ho hd (fun b g => .inl g) fun b hb => .inr hb⟩
  · rcases g with g | g
    · exact E.gh b g
    · exact (ho.held b g).2
  · rw [slot_set hi] at hj
    by_cases e : j = i
    · rw [if_pos e] at hj
      cases hj
      subst e
      exact ⟨v, hv, updF_same, ow_freeze ho hd (fun b g => .inl g) fun b hb => .inr hb⟩
    · rw [if_neg e] at hj
      obtain ⟨w, hw, r⟩ := E.rep j o' hj
      rw [updF_ne e]
      refine ⟨w, hw, r.mono (sub_G fun b g => .inl g) (fun b _ u e => e) fun b hb g => ?_⟩
      rcases g with g | g
      · exact (r.held b hb).1 g
      · exact e (E.dis j i b hb g)
  · rw [slot_set hi] at hj
    by_cases e : j = i
    · rw [e, updF_same]
    · rw [if_neg e] at hj
      rw [updF_ne e]
      exact E.emp j hj
  · unfold updF at ha hb
    split at ha
    · cases ha
    · split at hb
      · cases hb
      · exact E.dis j k a ha hb
  · unfold updF at hj
    split at hj
    · cases hj
    · exact .inl ⟨j, hj⟩
/-- a thing at hand is kept by its value: what a name held is frozen -/
theorem share_ok {p : P} {o : O} {v : V} (a : Aft K σ H0 G0 fps0 env H G fps fpt) (r : PR K H G σ env p v fpt) (e : share p env = some (.ok o env2)) :
    ∃ G' fps' fpt', Aft K σ H0 G0 fps0 env2 H G' fps' fpt' ∧ Ow K H G' o v fpt' := by
  cases p with
  | val o' =>
    cases e
    exact ⟨G, fps, fpt, a, r⟩
  | plc i =>
    obtain ⟨rfl, hv⟩ := r
    unfold share at e
    simp only at e
    split at e
    · rename_i o' hs
      split at e
      · rename_i d hd
        cases e
        obtain ⟨G', fps', E', S', R'⟩ := freeze_slot a.E hs hv hd
        exact ⟨G', fps', [], ⟨E', a.S.trans S', (fun b hb => nomatch hb), (fun b hb => nomatch hb)⟩, rfl, R'⟩
      · cases e
    · cases e
  | plf i k => cases e
theorem share_not {p : P} {x : Exn} (e : share p env = some (.exc x env2)) : False := by
  cases p with
  | val o' => cases e
  | plc i =>
    unfold share at e
    simp only at e
    split at e
    · split at e <;> cases e
    · cases e
  | plf i k => cases e
/-- a thing at hand is handed over -/
theorem mv_ok {p : P} {o : O} {v : V} (a : Aft K σ H0 G0 fps0 env H G fps fpt) (r : PR K H G σ env p v fpt) (e : mv p env = some (.ok o env2)) :
    ∃ G' fps' fpt', Aft K σ H0 G0 fps0 env2 H G' fps' fpt' ∧ Ow K H G' o v fpt' := by
  cases p with
  | val o' =>
    cases e
    exact ⟨G, fps, fpt, a, r⟩
  | plc i =>
    obtain ⟨rfl, hv⟩ := r
    unfold mv at e
    simp only at e
    split at e
    · rename_i d hs
      cases e
      obtain ⟨w, hw, ho⟩ := a.E.rep i _ hs
      rw [hv] at hw
      cases hw
      obtain ⟨h1, h2⟩ := ho
      exact ⟨G, fps, [], a, rfl, h2⟩
    · rename_i o' hnf hs
      cases e
      obtain ⟨w, hw, ho⟩ := a.E.rep i _ hs
      rw [hv] at hw
      cases hw
      have hi := slot_lt hs
      refine ⟨G, updF fps i [], fps i, ⟨⟨a.E.gh, by rw [List.length_set]; exact a.E.len, fun j o2 hj => ?_, fun j hj => ?_, fun j k b hb hb' => ?_⟩, ⟨a.S.keep, a.S.tups, a.S.frzs, a.S.gsub, a.S.gnew, fun b ⟨j, hj⟩ => ?_⟩, fun b hb => a.S.fnew b ⟨i, hb⟩, fun b hb ⟨j, hj⟩ => ?_⟩, ho⟩
      · rw [slot_set hi] at hj
        by_cases e : j = i
        · rw [if_pos e] at hj; cases hj
        · rw [if_neg e] at hj
          rw [updF_ne e]
          exact a.E.rep j o2 hj
      · by_cases e : j = i
        · rw [e, updF_same]
        · rw [slot_set hi, if_neg e] at hj
          rw [updF_ne e]; exact a.E.emp j hj
      · unfold updF at hb hb'
        split at hb
        · cases hb
        · split at hb'
          · cases hb'
          · exact a.E.dis j k b hb hb'
      · unfold updF at hj
        split at hj
        · cases hj
        · exact a.S.fnew b ⟨j, hj⟩
      · unfold updF at hj
        split at hj
        · cases hj
        · rename_i e; exact e (a.E.dis j i b hj hb)
    · cases e
  | plf i k => cases e
theorem mv_not {p : P} {x : Exn} (e : mv p env = some (.exc x env2)) : False := by
  cases p with
  | val o' => cases e
  | plc i =>
    unfold mv at e
    simp only at e
    split at e <;> cases e
  | plf i k => cases e
/-- an owned thing at hand is frozen -/
theorem freeze_ok {o : O} {d : D} {v : V} (a : Aft K σ H0 G0 fps0 env H G fps fpt) (r : Ow K H G o v fpt) (e : o.flat = some d) :
    ∃ G', Aft K σ H0 G0 fps0 env H G' fps [] ∧ Rp K H G' v d := by
  refine ⟨fun b => G b ∨ b ∈ fpt, ⟨⟨fun b g => ?_, a.E.len, fun j o' hj => ?_, a.E.emp, a.E.dis⟩, ⟨a.S.keep, a.S.tups, a.S.frzs, fun b g => .inl (a.S.gsub b g), fun b g => ?_, a.S.fnew⟩, (fun b hb => nomatch hb), (fun b hb => nomatch hb)⟩, ow_freeze r e (fun b g => .inl g) fun b hb => .inr hb⟩
  · rcases g with g | g
    · exact a.E.gh b g
    · exact (r.held b g).2
  · obtain ⟨w, hw, q⟩ := a.E.rep j o' hj
    refine ⟨w, hw, q.mono (sub_G fun b g => .inl g) (fun b _ u e => e) fun b hb g => ?_⟩
    rcases g with g | g
    · exact (q.held b hb).1 g
    · exact a.off b g ⟨j, hb⟩
  · rcases g with g | g
    · exact a.S.gnew b g
    · exact .inr (a.new b g)
theorem frz_ok {p : P} {d : D} {v : V} (a : Aft K σ H0 G0 fps0 env H G fps fpt) (r : PR K H G σ env p v fpt) (e : frz p env = some (.ok d env2)) :
    ∃ G' fps', Aft K σ H0 G0 fps0 env2 H G' fps' [] ∧ Rp K H G' v d := by
  unfold frz at e
  cases q : share p env with
  | none => rw [q] at e; cases e
  | some out =>
    cases out with
    | exc x e2 => exact (share_not q).elim
    | ok o e2 =>
      rw [q, bnd_ok] at e
      split at e
      · rename_i d' hd
        cases e
        obtain ⟨G', fps', fpt', a', r'⟩ := share_ok a r q
        obtain ⟨G2, a2, r2⟩ := freeze_ok a' r' hd
        exact ⟨G2, fps', a2, r2⟩
      · cases e
theorem frz_not {p : P} {x : Exn} (e : frz p env = some (.exc x env2)) : False := by
  unfold frz at e
  cases q : share p env with
  | none => rw [q] at e; cases e
  | some out =>
    cases out with
    | exc x e2 => exact share_not q
    | ok o e2 =>
      rw [q, bnd_ok] at e
      split at e <;> cases e
/-- a result laid on the heap -/
theorem resO_of {o : O} {Q : VK} (E : EnvR K env σ H G fps) (h : ∀ v H' fp, Aft K σ H G fps env H' G fps fp → Ow K H' G o v fp → Same H H' → Q v H') : ResO K H G o Q :=
  fun v H' fp s _ r hn => h v H' fp ⟨E.same s, Same.stepF s, fun b hb => .inr (hn b hb), fun b hb f => by
    obtain ⟨_, u, e⟩ := E.held f
    rw [hn b hb] at e; cases e⟩ r s
end
theorem Aft.frame {K : PySem.W.Frag} {σ : L2.St} {H0 H1 H2 : Hp} {G0 G1 G2 : Addr → Prop} {fps0 fps1 fps2 : Fs} {env1 env2 : Env} {fpt1 fpt2 : List Addr} {v : V} {d : D}
    (a : Aft K σ H0 G0 fps0 env1 H1 G1 fps1 fpt1) (b : Aft K σ H1 G1 fps1 env2 H2 G2 fps2 fpt2) (r : Rp K H1 G1 v d) : Rp K H2 G2 v d := dp_mono (b.S.sub a.E.gf) _ _ r
theorem Aft.frames {K : PySem.W.Frag} {σ : L2.St} {H0 H1 H2 : Hp} {G0 G1 G2 : Addr → Prop} {fps0 fps1 fps2 : Fs} {env1 env2 : Env} {fpt1 fpt2 : List Addr} {vs : List V} {ds : List D}
    (a : Aft K σ H0 G0 fps0 env1 H1 G1 fps1 fpt1) (b : Aft K σ H1 G1 fps1 env2 H2 G2 fps2 fpt2) (r : RpA K H1 G1 vs ds) : RpA K H2 G2 vs ds := dpAll_mono (b.S.sub a.E.gf) _ _ r

/-! ### goals -/
/-- what is wanted behind an expression -/
def GE (c : Ct) (W : WX) (σ : L2.St) (H : Hp) (G : Addr → Prop) (fps : Fs) (ne : Bool) (Q : VK) : Out P → Prop
  | .ok p env' => ∀ v H' G' fps' fpt, Aft c.K σ H G fps env' H' G' fps' fpt → PR c.K H' G' σ env' p v fpt → (ne = true → Same H H') → Q v H'
  | .exc x env' => ∀ cls d H' G' fps', Aft c.K σ H G fps env' H' G' fps' [] → c.xr x cls d H' → W cls d σ H'
def GT (c : Ct) (W : WX) (σ : L2.St) (H : Hp) (G : Addr → Prop) (fps : Fs) (ne : Bool) (Q : Bool → Hp → Prop) : Out Bool → Prop
  | .ok b env' => ∀ H' G' fps', Aft c.K σ H G fps env' H' G' fps' [] → (ne = true → Same H H') → Q b H'
  | .exc x env' => ∀ cls d H' G' fps', Aft c.K σ H G fps env' H' G' fps' [] → c.xr x cls d H' → W cls d σ H'
def GD (c : Ct) (W : WX) (σ : L2.St) (H : Hp) (G : Addr → Prop) (fps : Fs) (ne : Bool) (Q : List V → Hp → Prop) : Out (List D) → Prop
  | .ok ds env' => ∀ vs H' G' fps', Aft c.K σ H G fps env' H' G' fps' [] → RpA c.K H' G' vs ds → (ne = true → Same H H') → Q vs H'
  | .exc x env' => ∀ cls d H' G' fps', Aft c.K σ H G fps env' H' G' fps' [] → c.xr x cls d H' → W cls d σ H'
inductive PRs (K : PySem.W.Frag) (H : Hp) (G : Addr → Prop) (σ : L2.St) (env : Env) : List P → List V → List Addr → Prop
  | nil : PRs K H G σ env [] [] []
  | cons {p : P} {ps : List P} {v : V} {vs : List V} {f1 f2 : List Addr} : PR K H G σ env p v f1 → PRs K H G σ env ps vs f2 → PRs K H G σ env (p :: ps) (v :: vs) (f1 ++ f2)
def GP (c : Ct) (W : WX) (σ : L2.St) (H : Hp) (G : Addr → Prop) (fps : Fs) (ne : Bool) (Q : List V → Hp → Prop) : Out (List P) → Prop
  | .ok ps env' => ∀ vs H' G' fps' fpt, Aft c.K σ H G fps env' H' G' fps' fpt → PRs c.K H' G' σ env' ps vs fpt → (ne = true → Same H H') → Q vs H'
  | .exc x env' => ∀ cls d H' G' fps', Aft c.K σ H G fps env' H' G' fps' [] → c.xr x cls d H' → W cls d σ H'
theorem Aft.app {K : PySem.W.Frag} {σ : L2.St} {H0 H : Hp} {G0 G : Addr → Prop} {fps0 fps : Fs} {env : Env} {f1 f2 : List Addr} (a : Aft K σ H0 G0 fps0 env H G fps f1) (b : Aft K σ H0 G0 fps0 env H G fps f2) : Aft K σ H0 G0 fps0 env H G fps (f1 ++ f2) :=
  ⟨a.E, a.S, fun c hc => (List.mem_append.mp hc).elim (a.new c) (b.new c), fun c hc => (List.mem_append.mp hc).elim (a.off c) (b.off c)⟩
theorem prs_flats {K : PySem.W.Frag} {env : Env} {σ : L2.St} {H : Hp} {G : Addr → Prop} {fps : Fs} (E : EnvR K env σ H G fps) : ∀ {ps : List P} {vs : List V} {fp : List Addr} {ds : List D}, PRs K H G σ env ps vs fp → flats ps env = some ds → RpSs K H G vs ds
  | _, _, _, ds, .nil, e => by
    have e' : some [] = some ds := e
    cases e'
    exact .nil
  | _, _, _, ds, .cons (p := p) (ps := ps) h1 h2, e => by
    have e' : (match flatP p env, flats ps env with
      | some d, some ds => some (d :: ds)
      | _, _ => none) = some ds := e
    split at e'
    · rename_i d ds' e1 e2
      cases e'
      exact .cons (pr_flat E h1 e1) (prs_flats E h2 e2)
    · cases e'
/-- the ways of a bind -/
theorem bnd_ways {α β : Type} {x : Option (Out α)} {f : α → Env → Option (Out β)} {out : Out β} (h : bnd x f = some out) : (∃ a e, x = some (.ok a e) ∧ f a e = some out) ∨ ∃ y e, x = some (.exc y e) ∧ out = .exc y e := by
  cases x with
  | none => cases h
  | some o =>
    cases o with
    | ok a e => exact .inl ⟨a, e, rfl, h⟩
    | exc y e => cases h; exact .inr ⟨y, e, rfl, rfl⟩
end NW
end
section
set_option linter.all false
set_option maxRecDepth 100000
set_option maxHeartbeats 1000000
/-! NWf: a text is a core text (Bool); expressions: what the evaluator tells, the machine does -/
namespace NW
open PySem L2 PyProof.Rows
/-! ### matching -/
def visB (sc : Scope) (x : Str) : Bool := match sc.names.lookup x with
  | some .local | some .cell | some .free => true
  | _ => false
def glB (sc : Scope) (x : Str) : Bool := match sc.names.lookup x with
  | some .globalImplicit => true
  | _ => false
def tgB (sc : Scope) (fn : Str → Bool) (x : Str) : Bool := match sc.names.lookup x with
  | some .local => true
  | some .cell => fn x
  | _ => false
def nmB (x : Str) : Bool := !(x == ("__debug__" : Str)) && !(x == ("__classdict__" : Str))
def isSlice : Expr → Bool
  | .Slice .. => true
  | _ => false
def isSet : Expr → Bool
  | .Set .. => true
  | _ => false
def isStar : Expr → Bool
  | .Starred .. => true
  | _ => false
/-- as a test, an expression by its truth -/
def plainTest : Expr → Bool
  | .UnaryOp .Not _ _ => false
  | .BoolOp .. => false
  | .IfExp .. => false
  | .Compare .. => false
  | _ => true
def ownP (N : List Str) (own : List Nat) : List (Str × Nat) := own.map fun i => ((N[i]?).getD "", i)
def mNames (N : List Str) (sc : Scope) (fn : Str → Bool) : List Nat → List Expr → Bool
  | [], [] => true
  | i :: is, .Name x _ :: es => decide (N[i]? = some x) && tgB sc fn x && mNames N sc fn is es
  | _, _ => false
def mT (N : List Str) (sc : Scope) (fn : Str → Bool) : CT → Expr → Bool
  | .name i, .Name x _ => decide (N[i]? = some x) && tgB sc fn x
  | .tup l, .Tuple es _ _ => mNames N sc fn l es
  | _, _ => false
def mKeys : List Str → List (Option Expr) → Bool
  | [], [] => true
  | k :: ks, some (.Constant (.str x) _ _) :: es => decide (k = x) && mKeys ks es
  | _, _ => false
mutual
def mE (N : List Str) : CE → Scope → (Str → Bool) → Expr → Bool
  | .lit d, _, _, e => match d, e with
    | .int i, .Constant (.int j) _ _ => decide (i = j)
    | .bool i, .Constant (.bool j) _ _ => decide (i = j)
    | .str i, .Constant (.str j) _ _ => decide (i = j)
    | .none, .Constant .none _ _ => true
    | _, _ => false
  | .var i, sc, _, e => match e with
    | .Name x _ => decide (N[i]? = some x) && visB sc x && nmB x
    | _ => false
  | .glob y, sc, _, e => match e with
    | .Name x _ => decide (y = x) && glB sc x && nmB x
    | _ => false
  | .tup es, sc, fn, e => match e with
    | .Tuple l _ _ => mEs N es sc fn l
    | _ => false
  | .lst es, sc, fn, e => match e with
    | .List l _ => mEs N es sc fn l
    | _ => false
  | .dct ks es, sc, fn, e => match e with
    | .Dict keys vals _ => mKeys ks keys && mEs N es sc fn vals && decide (ks.length = vals.length) && decide (ks ≠ []) && decide (ks.length ≤ 15)
    | _ => false
  | .bin k a b, sc, fn, e => match e with
    | .BinOp l o r _ => decide (o = binOp k) && mE N a sc fn l && mE N b sc fn r
    | _ => false
  | .cmp k a b, sc, fn, e => match e with
    | .Compare l [o] [r] _ => decide (o = cmpOp k) && !(behindInMarks o r) && mE N a sc fn l && mE N b sc fn r
    | _ => false
  | .chain k k' a b c, sc, fn, e => match e with
    | .Compare l [o, o'] [m, r] _ => decide (o = cmpOp k) && decide (o' = cmpOp k') && decide (k ≠ .isin) && decide (k ≠ .notin) && decide (k' ≠ .isin) && decide (k' ≠ .notin) && mE N a sc fn l && mE N b sc fn m && mE N c sc fn r
    | _ => false
  | .isN a, sc, fn, e => match e with
    | .Compare l [.Is] [.Constant .none _ _] _ => mE N a sc fn l
    | _ => false
  | .notN a, sc, fn, e => match e with
    | .Compare l [.IsNot] [.Constant .none _ _] _ => mE N a sc fn l
    | _ => false
  | .and a b, sc, fn, e => match e with
    | .BoolOp .And [x, y] _ => mE N a sc fn x && mE N b sc fn y
    | .BoolOp .And (x :: y :: z :: r) p => mE N a sc fn x && mE N b sc fn (.BoolOp .And (y :: z :: r) p)
    | _ => false
  | .or a b, sc, fn, e => match e with
    | .BoolOp .Or [x, y] _ => mE N a sc fn x && mE N b sc fn y
    | .BoolOp .Or (x :: y :: z :: r) p => mE N a sc fn x && mE N b sc fn (.BoolOp .Or (y :: z :: r) p)
    | _ => false
  | .not a, sc, fn, e => match e with
    | .UnaryOp .Not x _ => mE N a sc fn x
    | _ => false
  | .neg a, sc, fn, e => match e with
    | .UnaryOp .USub x _ => mE N a sc fn x
    | _ => false
  | .ite t a b, sc, fn, e => match e with
    | .IfExp x y z _ => mB N t sc fn x && mE N a sc fn y && mE N b sc fn z
    | _ => false
  | .ix a i, sc, fn, e => match e with
    | .Subscript x j _ => !(isSlice j) && mE N a sc fn x && mE N i sc fn j
    | _ => false
  | .fld i k, sc, _, e => match e with
    | .Subscript (.Name x _) (.Constant (.str y) _ _) _ => decide (N[i]? = some x) && visB sc x && nmB x && decide (k = y)
    | _ => false
  | .sl a lo hi, sc, fn, e => match e with
    | .Subscript x (.Slice l h none _) _ => mE N a sc fn x && mO N lo sc fn l && mO N hi sc fn h
    | _ => false
  | .bi b es, sc, fn, e => match e with
    | .Call (.Name x _) (y :: l) [] _ => decide (x = biName b) && glB sc x && mEs N es sc fn (y :: l)
    | _ => false
  | .isi a T, sc, fn, e => match e with
    | .Call (.Name x _) [y, .Name z _] [] _ => decide (x = "isinstance") && glB sc x && decide (z = Str.ofString (tyName T)) && glB sc z && mE N a sc fn y && !(isStar y)
    | _ => false
  | .call f es, sc, fn, e => match e with
    | .Call (.Name x _) l [] _ => decide (x = f) && glB sc x && mEs N es sc fn l
    | _ => false
  | .cio f i es, sc, fn, e => match e with
    | .Call (.Name x _) (.Name y _ :: l) [] _ => decide (x = f) && glB sc x && decide (N[i]? = some y) && visB sc y && nmB y && mEs N es sc fn l
    | _ => false
  | .comp own t src cond elt, sc, fn, e => match e with
    | .ListComp el [⟨tg, it, ifs, 0⟩] scope _ => blkC N sc scope (ownP N own) && !(isSet it) && mI N src sc fn tg it &&
        mT N (relS scope sc) (fun x => scope.names.lookup x == some .cell) t tg && mE N elt (relS scope sc) (fun x => scope.names.lookup x == some .cell) el &&
        (match ifs with
        | [] => (match cond with | .yes => true | _ => false)
        | [x] => mB N cond (relS scope sc) (fun x => scope.names.lookup x == some .cell) x
        | _ => false)
    | _ => false
def mB (N : List Str) : CB → Scope → (Str → Bool) → Expr → Bool
  | .yes, _, _, _ => false
  | .of a, sc, fn, e => match e with
    | .UnaryOp .Not _ _ => false
    | .BoolOp _ _ _ => false
    | .IfExp _ _ _ _ => false
    | e => mE N a sc fn e
  | .and a b, sc, fn, e => match e with
    | .BoolOp .And [x, y] _ => mB N a sc fn x && mB N b sc fn y
    | .BoolOp .And (x :: y :: z :: r) p => mB N a sc fn x && mB N b sc fn (.BoolOp .And (y :: z :: r) p)
    | _ => false
  | .or a b, sc, fn, e => match e with
    | .BoolOp .Or [x, y] _ => mB N a sc fn x && mB N b sc fn y
    | .BoolOp .Or (x :: y :: z :: r) p => mB N a sc fn x && mB N b sc fn (.BoolOp .Or (y :: z :: r) p)
    | _ => false
  | .not a, sc, fn, e => match e with
    | .UnaryOp .Not x _ => mB N a sc fn x
    | _ => false
def mEs (N : List Str) : CEs → Scope → (Str → Bool) → List Expr → Bool
  | .nil, _, _, l => match l with
    | [] => true
    | _ => false
  | .cons e es, sc, fn, l => match l with
    | x :: l => !(isStar x) && mE N e sc fn x && mEs N es sc fn l
    | _ => false
def mO (N : List Str) : CEo → Scope → (Str → Bool) → Option Expr → Bool
  | .none, _, _, l => match l with
    | none => true
    | _ => false
  | .some e, sc, fn, l => match l with
    | some x => mE N e sc fn x
    | _ => false
def mI (N : List Str) : CI → Scope → (Str → Bool) → Expr → Expr → Bool
  | .of a, sc, fn, _, e => mE N a sc fn e
  | .rng a, sc, fn, _, e => match e with
    | .Call (.Name x _) [y] [] _ => decide (x = "range") && glB sc x && !(isStar y) && mE N a sc fn y
    | _ => false
  | .rng2 a b, sc, fn, _, e => match e with
    | .Call (.Name x _) [y, z] [] _ => decide (x = "range") && glB sc x && !(isStar y) && !(isStar z) && mE N a sc fn y && mE N b sc fn z
    | _ => false
  | .enum a, sc, fn, tg, e => match tg, e with
    | .Tuple _ _ _, .Call (.Name x _) [y] [] _ => decide (x = "enumerate") && glB sc x && !(isStar y) && mE N a sc fn y
    | _, _ => false
  | .zip a b, sc, fn, tg, e => match tg, e with
    | .Tuple _ _ _, .Call (.Name x _) [y, z] [] _ => decide (x = "zip") && glB sc x && !(isStar y) && !(isStar z) && mE N a sc fn y && mE N b sc fn z
    | _, _ => false
end
theorem mE_lit (N : List Str) {d} {u0} {u1} {e} : mE N (.lit d) u0 u1 e = (match d, e with
    | .int i, .Constant (.int j) _ _ => decide (i = j)
    | .bool i, .Constant (.bool j) _ _ => decide (i = j)
    | .str i, .Constant (.str j) _ _ => decide (i = j)
    | .none, .Constant .none _ _ => true
    | _, _ => false) := rfl
theorem mE_var (N : List Str) {i} {sc} {u0} {e} : mE N (.var i) sc u0 e = (match e with
    | .Name x _ => decide (N[i]? = some x) && visB sc x && nmB x
    | _ => false) := rfl
theorem mE_glob (N : List Str) {y} {sc} {u0} {e} : mE N (.glob y) sc u0 e = (match e with
    | .Name x _ => decide (y = x) && glB sc x && nmB x
    | _ => false) := rfl
theorem mE_tup (N : List Str) {es} {sc} {fn} {e} : mE N (.tup es) sc fn e = (match e with
    | .Tuple l _ _ => mEs N es sc fn l
    | _ => false) := rfl
theorem mE_lst (N : List Str) {es} {sc} {fn} {e} : mE N (.lst es) sc fn e = (match e with
    | .List l _ => mEs N es sc fn l
    | _ => false) := rfl
theorem mE_dct (N : List Str) {ks} {es} {sc} {fn} {e} : mE N (.dct ks es) sc fn e = (match e with
    | .Dict keys vals _ => mKeys ks keys && mEs N es sc fn vals && decide (ks.length = vals.length) && decide (ks ≠ []) && decide (ks.length ≤ 15)
    | _ => false) := rfl
theorem mE_bin (N : List Str) {k} {a} {b} {sc} {fn} {e} : mE N (.bin k a b) sc fn e = (match e with
    | .BinOp l o r _ => decide (o = binOp k) && mE N a sc fn l && mE N b sc fn r
    | _ => false) := rfl
theorem mE_cmp (N : List Str) {k} {a} {b} {sc} {fn} {e} : mE N (.cmp k a b) sc fn e = (match e with
    | .Compare l [o] [r] _ => decide (o = cmpOp k) && !(behindInMarks o r) && mE N a sc fn l && mE N b sc fn r
    | _ => false) := rfl
theorem mE_chain (N : List Str) {k} {k'} {a} {b} {c} {sc} {fn} {e} : mE N (.chain k k' a b c) sc fn e = (match e with
    | .Compare l [o, o'] [m, r] _ => decide (o = cmpOp k) && decide (o' = cmpOp k') && decide (k ≠ .isin) && decide (k ≠ .notin) && decide (k' ≠ .isin) && decide (k' ≠ .notin) && mE N a sc fn l && mE N b sc fn m && mE N c sc fn r
    | _ => false) := rfl
theorem mE_isN (N : List Str) {a} {sc} {fn} {e} : mE N (.isN a) sc fn e = (match e with
    | .Compare l [.Is] [.Constant .none _ _] _ => mE N a sc fn l
    | _ => false) := rfl
theorem mE_notN (N : List Str) {a} {sc} {fn} {e} : mE N (.notN a) sc fn e = (match e with
    | .Compare l [.IsNot] [.Constant .none _ _] _ => mE N a sc fn l
    | _ => false) := rfl
theorem mE_and (N : List Str) {a} {b} {sc} {fn} {e} : mE N (.and a b) sc fn e = (match e with
    | .BoolOp .And [x, y] _ => mE N a sc fn x && mE N b sc fn y
    | .BoolOp .And (x :: y :: z :: r) p => mE N a sc fn x && mE N b sc fn (.BoolOp .And (y :: z :: r) p)
    | _ => false) := rfl
theorem mE_or (N : List Str) {a} {b} {sc} {fn} {e} : mE N (.or a b) sc fn e = (match e with
    | .BoolOp .Or [x, y] _ => mE N a sc fn x && mE N b sc fn y
    | .BoolOp .Or (x :: y :: z :: r) p => mE N a sc fn x && mE N b sc fn (.BoolOp .Or (y :: z :: r) p)
    | _ => false) := rfl
theorem mE_not (N : List Str) {a} {sc} {fn} {e} : mE N (.not a) sc fn e = (match e with
    | .UnaryOp .Not x _ => mE N a sc fn x
    | _ => false) := rfl
theorem mE_neg (N : List Str) {a} {sc} {fn} {e} : mE N (.neg a) sc fn e = (match e with
    | .UnaryOp .USub x _ => mE N a sc fn x
    | _ => false) := rfl
theorem mE_ite (N : List Str) {t} {a} {b} {sc} {fn} {e} : mE N (.ite t a b) sc fn e = (match e with
    | .IfExp x y z _ => mB N t sc fn x && mE N a sc fn y && mE N b sc fn z
    | _ => false) := rfl
theorem mE_ix (N : List Str) {a} {i} {sc} {fn} {e} : mE N (.ix a i) sc fn e = (match e with
    | .Subscript x j _ => !(isSlice j) && mE N a sc fn x && mE N i sc fn j
    | _ => false) := rfl
theorem mE_fld (N : List Str) {i} {k} {sc} {u0} {e} : mE N (.fld i k) sc u0 e = (match e with
    | .Subscript (.Name x _) (.Constant (.str y) _ _) _ => decide (N[i]? = some x) && visB sc x && nmB x && decide (k = y)
    | _ => false) := rfl
theorem mE_sl (N : List Str) {a} {lo} {hi} {sc} {fn} {e} : mE N (.sl a lo hi) sc fn e = (match e with
    | .Subscript x (.Slice l h none _) _ => mE N a sc fn x && mO N lo sc fn l && mO N hi sc fn h
    | _ => false) := rfl
theorem mE_bi (N : List Str) {b} {es} {sc} {fn} {e} : mE N (.bi b es) sc fn e = (match e with
    | .Call (.Name x _) (y :: l) [] _ => decide (x = biName b) && glB sc x && mEs N es sc fn (y :: l)
    | _ => false) := rfl
theorem mE_isi (N : List Str) {a} {sc} {fn} {e} : mE N (.isi a T) sc fn e = (match e with
    | .Call (.Name x _) [y, .Name z _] [] _ => decide (x = "isinstance") && glB sc x && decide (z = Str.ofString (tyName T)) && glB sc z && mE N a sc fn y && !(isStar y)
    | _ => false) := rfl
theorem mE_call (N : List Str) {f} {es} {sc} {fn} {e} : mE N (.call f es) sc fn e = (match e with
    | .Call (.Name x _) l [] _ => decide (x = f) && glB sc x && mEs N es sc fn l
    | _ => false) := rfl
theorem mE_cio (N : List Str) {f} {i} {es} {sc} {fn} {e} : mE N (.cio f i es) sc fn e = (match e with
    | .Call (.Name x _) (.Name y _ :: l) [] _ => decide (x = f) && glB sc x && decide (N[i]? = some y) && visB sc y && nmB y && mEs N es sc fn l
    | _ => false) := rfl
theorem mE_comp (N : List Str) {own} {t} {src} {cond} {elt} {sc} {fn} {e} : mE N (.comp own t src cond elt) sc fn e = (match e with
    | .ListComp el [⟨tg, it, ifs, 0⟩] scope _ => blkC N sc scope (ownP N own) && !(isSet it) && mI N src sc fn tg it &&
        mT N (relS scope sc) (fun x => scope.names.lookup x == some .cell) t tg && mE N elt (relS scope sc) (fun x => scope.names.lookup x == some .cell) el &&
        (match ifs with
        | [] => (match cond with | .yes => true | _ => false)
        | [x] => mB N cond (relS scope sc) (fun x => scope.names.lookup x == some .cell) x
        | _ => false)
    | _ => false) := rfl
theorem mB_yes (N : List Str) {u0} {u1} {u2} : mB N (.yes) u0 u1 u2 = (false) := rfl
theorem mB_of (N : List Str) {a} {sc} {fn} {e} : mB N (.of a) sc fn e = (match e with
    | .UnaryOp .Not _ _ => false
    | .BoolOp _ _ _ => false
    | .IfExp _ _ _ _ => false
    | e => mE N a sc fn e) := rfl
theorem mB_and (N : List Str) {a} {b} {sc} {fn} {e} : mB N (.and a b) sc fn e = (match e with
    | .BoolOp .And [x, y] _ => mB N a sc fn x && mB N b sc fn y
    | .BoolOp .And (x :: y :: z :: r) p => mB N a sc fn x && mB N b sc fn (.BoolOp .And (y :: z :: r) p)
    | _ => false) := rfl
theorem mB_or (N : List Str) {a} {b} {sc} {fn} {e} : mB N (.or a b) sc fn e = (match e with
    | .BoolOp .Or [x, y] _ => mB N a sc fn x && mB N b sc fn y
    | .BoolOp .Or (x :: y :: z :: r) p => mB N a sc fn x && mB N b sc fn (.BoolOp .Or (y :: z :: r) p)
    | _ => false) := rfl
theorem mB_not (N : List Str) {a} {sc} {fn} {e} : mB N (.not a) sc fn e = (match e with
    | .UnaryOp .Not x _ => mB N a sc fn x
    | _ => false) := rfl
theorem mEs_nil (N : List Str) {u0} {u1} {l} : mEs N (.nil) u0 u1 l = (match l with
    | [] => true
    | _ => false) := rfl
theorem mEs_cons (N : List Str) {e} {es} {sc} {fn} {l} : mEs N (.cons e es) sc fn l = (match l with
    | x :: l => !(isStar x) && mE N e sc fn x && mEs N es sc fn l
    | _ => false) := rfl
theorem mO_none (N : List Str) {u0} {u1} {l} : mO N (.none) u0 u1 l = (match l with
    | none => true
    | _ => false) := rfl
theorem mO_some (N : List Str) {e} {sc} {fn} {l} : mO N (.some e) sc fn l = (match l with
    | some x => mE N e sc fn x
    | _ => false) := rfl
theorem mI_of (N : List Str) {a} {sc} {fn} {u0} {e} : mI N (.of a) sc fn u0 e = (mE N a sc fn e) := rfl
theorem mI_rng (N : List Str) {a} {sc} {fn} {u0} {e} : mI N (.rng a) sc fn u0 e = (match e with
    | .Call (.Name x _) [y] [] _ => decide (x = "range") && glB sc x && !(isStar y) && mE N a sc fn y
    | _ => false) := rfl
theorem mI_rng2 (N : List Str) {a} {b} {sc} {fn} {u0} {e} : mI N (.rng2 a b) sc fn u0 e = (match e with
    | .Call (.Name x _) [y, z] [] _ => decide (x = "range") && glB sc x && !(isStar y) && !(isStar z) && mE N a sc fn y && mE N b sc fn z
    | _ => false) := rfl
theorem mI_enum (N : List Str) {a} {sc} {fn} {tg} {e} : mI N (.enum a) sc fn tg e = (match tg, e with
    | .Tuple _ _ _, .Call (.Name x _) [y] [] _ => decide (x = "enumerate") && glB sc x && !(isStar y) && mE N a sc fn y
    | _, _ => false) := rfl
theorem mI_zip (N : List Str) {a} {b} {sc} {fn} {tg} {e} : mI N (.zip a b) sc fn tg e = (match tg, e with
    | .Tuple _ _ _, .Call (.Name x _) [y, z] [] _ => decide (x = "zip") && glB sc x && !(isStar y) && !(isStar z) && mE N a sc fn y && mE N b sc fn z
    | _, _ => false) := rfl
theorem visB_ok {sc : Scope} {x : Str} (h : visB sc x = true) : Vis sc x := by
  unfold visB at h
  unfold Vis
  split at h
  · rename_i e; exact .inl e
  · rename_i e; exact .inr (.inl e)
  · rename_i e; exact .inr (.inr e)
  · cases h
theorem glB_ok {sc : Scope} {x : Str} (h : glB sc x = true) : sc.names.lookup x = some .globalImplicit := by
  unfold glB at h
  split at h
  · assumption
  · cases h
theorem tgB_ok {sc : Scope} {fn : Str → Bool} {x : Str} (h : tgB sc fn x = true) : L2.Loc sc x ∧ (fn x = true ∨ sc.names.lookup x = some .local) := by
  unfold tgB at h
  unfold L2.Loc
  split at h
  · rename_i e; exact ⟨.inl e, .inr e⟩
  · rename_i e; exact ⟨.inr e, .inl h⟩
  · cases h
theorem nmB_ok {x : Str} (h : nmB x = true) : (x == ("__debug__" : Str)) = false ∧ (x == ("__classdict__" : Str)) = false := by
  unfold nmB at h
  simpa using h
theorem star_ok {e : Expr} (h : isStar e = false) (es : List Expr) (env : PySem.Env) : starEach (e :: es) env = (false, eval e env) :: starEach es env := by
  cases e <;> first | rfl | cases h
theorem plainIx_ok {b : Expr} (h : isSlice b = false) : PlainIx b := by
  cases b <;> first | exact fun _ _ => rfl | cases h
theorem notSet_ok {it : Expr} (h : isSet it = false) (env : PySem.Env) (x : Value) : foldedSetIterable it env x = pure x := by
  cases it <;> first | rfl | cases h
theorem starEach_any {N : List Str} {fn : Str → Bool} {sc : Scope} (env : PySem.Env) (pos : Pos) : ∀ {es : CEs} {l : List Expr}, mEs N es sc fn l = true → (backTo pos (starEach l env)).any (·.1) = false
  | .nil, [], _ => rfl
  | .cons e es, x :: l, h => by
    simp only [mEs_cons, Bool.and_eq_true, Bool.not_eq_true'] at h
    rw [star_ok h.1.1]
    have ih := starEach_any env pos h.2
    unfold backTo at ih ⊢
    rw [List.map_cons, List.any_cons, ih]
    rfl
  | .nil, _ :: _, h => by simp [mEs_nil] at h
  | .cons _ _, [], h => by simp [mEs_cons] at h
end NW
end
section
set_option linter.all false
set_option maxRecDepth 100000
set_option maxHeartbeats 1000000
/-! NWg: expressions, case by case -/
namespace NW
open PySem L2 PyProof.Rows
/-- a source of items -/
def Src (K : PySem.W.Frag) (J : It) (ds : List D) (H : Hp) (G : Addr → Prop) : Prop :=
  ∃ R0 : Hp → (Addr → Prop) → Prop, R0 H G ∧ (∀ (H : Hp) (G F : Addr → Prop) (H' : Hp) (G' F' : Addr → Prop), Step H G F H' G' F' → (∀ b, G b → ¬ F b) → R0 H G → R0 H' G') ∧
    ∀ (i : Nat) (H : Hp) (G : Addr → Prop), R0 H G → (∀ d, ds[i]? = some d → J.go i H ∧ ∀ x H', J.yld i H x H' → Same H H' ∧ Rp K H' G x d) ∧ (ds.length ≤ i → J.stop i H)
def GI (c : Ct) (W : WX) (σ : L2.St) (H : Hp) (G : Addr → Prop) (fps : Fs) (ne : Bool) (R : It → Hp → Prop) : Out (List D) → Prop
  | .ok ds env' => ∀ J H' G' fps', Aft c.K σ H G fps env' H' G' fps' [] → Src c.K J ds H' G' → (ne = true → Same H H') → R J H'
  | .exc x env' => ∀ cls d H' G' fps', Aft c.K σ H G fps env' H' G' fps' [] → c.xr x cls d H' → W cls d σ H'
def GO (c : Ct) (W : WX) (σ : L2.St) (H : Hp) (G : Addr → Prop) (fps : Fs) (ne : Bool) (Q : Option Int → Hp → Prop) : Out (Option Int) → Prop
  | .ok i env' => ∀ H' G' fps', Aft c.K σ H G fps env' H' G' fps' [] → (ne = true → Same H H') → Q i H'
  | .exc x env' => ∀ cls d H' G' fps', Aft c.K σ H G fps env' H' G' fps' [] → c.xr x cls d H' → W cls d σ H'
/-- the fields of a dict that is made -/
def FldR (K : PySem.W.Frag) (H : Hp) (G : Addr → Prop) : List Fld → List V → List Addr → Prop
  | [], [], fp => fp = []
  | f :: r, v :: rv, fp => ∃ fp1 fp2, fp = fp1 ++ fp2 ∧ (∀ a ∈ fp1, a ∉ fp2) ∧ OwF K H G f v fp1 ∧ FldR K H G r rv fp2
  | _, _, _ => False
def GF (c : Ct) (W : WX) (σ : L2.St) (H : Hp) (G : Addr → Prop) (fps : Fs) (ne : Bool) (Q : List V → Hp → Prop) : Out (List Fld) → Prop
  | .ok fs env' => ∀ vs H' G' fps' fpt, Aft c.K σ H G fps env' H' G' fps' fpt → FldR c.K H' G' fs vs fpt → (ne = true → Same H H') → Q vs H'
  | .exc x env' => ∀ cls d H' G' fps', Aft c.K σ H G fps env' H' G' fps' [] → c.xr x cls d H' → W cls d σ H'

section
variable (c : Ct) (N : List Str)
def SE (sc : Scope) (fn : Str → Bool) (e : Expr) (a : CE) : Prop := ∀ X W, CtxOk c X W N sc fn → ∀ env σ H G fps out Q, EnvR c.K env σ H G fps → evalE c.Γ a env = some out → GE c W σ H G fps (noeff a) Q out → tE X e σ H Q
def SB (sc : Scope) (fn : Str → Bool) (e : Expr) (a : CB) : Prop := ∀ X W, CtxOk c X W N sc fn → ∀ env σ H G fps out Q, EnvR c.K env σ H G fps → evalT c.Γ a env = some out → GT c W σ H G fps (noeffb a) Q out → tT X e σ H Q
def SDs (sc : Scope) (fn : Str → Bool) (l : List Expr) (a : CEs) : Prop := ∀ X W, CtxOk c X W N sc fn → ∀ env σ H G fps out Q, EnvR c.K env σ H G fps → evalDs c.Γ a env = some out → GD c W σ H G fps (noeffs a) Q out → tA X l σ H Q
def SPs (sc : Scope) (fn : Str → Bool) (l : List Expr) (a : CEs) : Prop := ∀ X W, CtxOk c X W N sc fn → ∀ env σ H G fps out Q, EnvR c.K env σ H G fps → evalPs c.Γ a env = some out → GP c W σ H G fps (noeffs a) Q out → tA X l σ H Q
end
section
variable {c : Ct} {N : List Str} {sc : Scope} {fn : Str → Bool}
theorem CtxOk.gl {X : Cx} {W : WX} (ok : CtxOk c X W N sc fn) {x : Str} (h : glB sc x = true) : Gl X x := by
  have := glB_ok h
  show X.env.scope.names.lookup x = _
  rw [ok.eS]; exact this
theorem CtxOk.vis {X : Cx} {W : WX} (ok : CtxOk c X W N sc fn) {x : Str} (h : visB sc x = true) : Vis X.env.scope x := by
  rw [ok.eS]; exact visB_ok h
theorem CtxOk.bl {X : Cx} {W : WX} (ok : CtxOk c X W N sc fn) {x : Str} (h : x ∈ bltNames) : X.mg x = none := by
  rw [ok.eM]; exact ok.blt x h
theorem CtxOk.hu {X : Cx} {W : WX} (ok : CtxOk c X W N sc fn) : X.A.units + 64 < cLine := ok.rm.units
theorem same_refl (H : Hp) : Same H H := fun _ _ h => h
/-- a name -/
theorem tE_var {X : Cx} {W : WX} (ok : CtxOk c X W N sc fn) {i : Nat} {x : Str} {p : Pos} (h : (decide (N[i]? = some x) && visB sc x && nmB x) = true) {σ : L2.St} {H : Hp} {Q : VK} {v : V} (hv : σ[i]? = some (some v)) (q : Q v H) : tE X (.Name x p) σ H Q := by
  simp only [Bool.and_eq_true, decide_eq_true_eq] at h
  obtain ⟨⟨h1, h2⟩, h3⟩ := h
  obtain ⟨n1, n2⟩ := nmB_ok h3
  exact tE_of (pe_var (by rw [ok.eN]; exact h1) (ok.vis h2) n1 n2) ⟨v, hv, q⟩
theorem se_lit {d : D} {e : Expr} (h : mE N (.lit d) sc fn e = true) : SE c N sc fn e (.lit d) := by
  intro X W ok env σ H G fps out Q E he hq
  simp only [evalE_lit] at he
  cases he
  simp only [mE_lit] at h
  split at h
  · have h := of_decide_eq_true h
    subst h
    exact tE_of pe_int (hq _ H G fps [] (Aft.refl E) ⟨rfl, .int _⟩ fun _ => same_refl H)
  · have h := of_decide_eq_true h
    subst h
    exact tE_of pe_bl (hq _ H G fps [] (Aft.refl E) ⟨rfl, .bl _⟩ fun _ => same_refl H)
  · have h := of_decide_eq_true h
    subst h
    exact tE_of pe_str (hq _ H G fps [] (Aft.refl E) ⟨rfl, .str _⟩ fun _ => same_refl H)
  · exact tE_of pe_non (hq _ H G fps [] (Aft.refl E) ⟨rfl, .non⟩ fun _ => same_refl H)
  · cases h
theorem se_var {i : Nat} {e : Expr} (h : mE N (.var i) sc fn e = true) : SE c N sc fn e (.var i) := by
  intro X W ok env σ H G fps out Q E he hq
  simp only [evalE_var] at he
  split at he
  · rename_i o ho
    cases he
    simp only [mE_var] at h
    split at h
    · obtain ⟨v, hv, r⟩ := E.rep i o ho
      exact tE_var ok h hv (hq v H G fps [] (Aft.refl E) ⟨rfl, hv⟩ fun _ => same_refl H)
    · cases h
  · cases he
theorem se_glob {y : Str} {e : Expr} (h : mE N (.glob y) sc fn e = true) : SE c N sc fn e (.glob y) := by
  intro X W ok env σ H G fps out Q E he hq
  simp only [evalE_glob] at he
  split at he
  · rename_i d hd
    cases he
    simp only [mE_glob] at h
    split at h
    · simp only [Bool.and_eq_true, decide_eq_true_eq] at h
      obtain ⟨⟨rfl, h2⟩, h3⟩ := h
      obtain ⟨n1, u, v, e1, e2, e3⟩ := ok.glob _ _ hd
      exact tE_of (pe_glob (ok.gl h2) (by rw [ok.eM]; exact e1) e2 n1) (hq v H G fps [] (Aft.refl E) ⟨rfl, e3 H G⟩ fun _ => same_refl H)
    · cases h
  · cases he
/-! ### rows of arguments -/
theorem sds_nil : SDs c N sc fn [] .nil := by
  intro X W ok env σ H G fps out Q E he hq
  simp only [evalDs_nil] at he
  cases he
  exact tA_of pa_nil (hq [] H G fps (Aft.refl E) .nil fun _ => same_refl H)
theorem sds_cons {e : Expr} {l : List Expr} {a : CE} {as : CEs} (hs : isStar e = false) (h1 : SE c N sc fn e a) (h2 : SDs c N sc fn l as) : SDs c N sc fn (e :: l) (.cons a as) := by
  intro X W ok env σ H G fps out Q E he hq
  simp only [evalDs_cons] at he
  refine tA_of (pa_cons (peS X e) (paS X l) (star_ok hs l X.env)) ?_
  rcases bnd_ways he with ⟨p, env1, e1, he⟩ | ⟨y, env1, e1, rfl⟩
  · refine h1 X W ok env σ H G fps _ _ E e1 fun v H1 G1 fps1 fpt1 a1 r1 s1 => ?_
    rcases bnd_ways he with ⟨d, env2, e2, he⟩ | ⟨y, env2, e2, rfl⟩
    · obtain ⟨G2, fps2, a2, r2⟩ := frz_ok a1 r1 e2
      rcases bnd_ways he with ⟨ds, env3, e3, he⟩ | ⟨y, env3, e3, rfl⟩
      · cases he
        refine h2 X W ok env2 σ H1 G2 fps2 _ _ a2.E e3 fun vs H3 G3 fps3 a3 r3 s3 => ?_
        refine hq (v :: vs) H3 G3 fps3 (a2.next a3) (.cons (a2.frame a3 r2) r3) fun hn => ?_
        simp only [noeffs_cons, Bool.and_eq_true] at hn
        exact (s1 hn.1).trans (s3 hn.2)
      · exact h2 X W ok env2 σ H1 G2 fps2 _ _ a2.E e3 fun cls d H3 G3 fps3 a3 x3 => hq cls d H3 G3 fps3 (a2.next a3) x3
    · exact (frz_not e2).elim
  · exact h1 X W ok env σ H G fps _ _ E e1 fun cls d H1 G1 fps1 a1 x1 => hq cls d H1 G1 fps1 a1 x1
theorem sps_nil : SPs c N sc fn [] .nil := by
  intro X W ok env σ H G fps out Q E he hq
  simp only [evalPs_nil] at he
  cases he
  exact tA_of pa_nil (hq [] H G fps [] (Aft.refl E) .nil fun _ => same_refl H)
theorem sps_cons {e : Expr} {l : List Expr} {a : CE} {as : CEs} (hs : isStar e = false) (h1 : SE c N sc fn e a) (h2 : SPs c N sc fn l as) : SPs c N sc fn (e :: l) (.cons a as) := by
  intro X W ok env σ H G fps out Q E he hq
  simp only [evalPs_cons] at he
  refine tA_of (pa_cons (peS X e) (paS X l) (star_ok hs l X.env)) ?_
  rcases bnd_ways he with ⟨p, env1, e1, he⟩ | ⟨y, env1, e1, rfl⟩
  · refine h1 X W ok env σ H G fps _ _ E e1 fun v H1 G1 fps1 fpt1 a1 r1 s1 => ?_
    rcases bnd_ways he with ⟨ps, env3, e3, he⟩ | ⟨y, env3, e3, rfl⟩
    · split at he
      · rename_i hst
        cases he
        refine h2 X W ok env1 σ H1 G1 fps1 _ _ a1.E e3 fun vs H3 G3 fps3 fpt3 a3 r3 s3 => ?_
        obtain ⟨r1', a1'⟩ := r1.next a1 a3 hst s3
        refine hq (v :: vs) H3 G3 fps3 _ (a1'.app (a1.next a3)) (.cons r1' r3) fun hn => ?_
        simp only [noeffs_cons, Bool.and_eq_true] at hn
        exact (s1 hn.1).trans (s3 hn.2)
      · cases he
    · exact h2 X W ok env1 σ H1 G1 fps1 _ _ a1.E e3 fun cls d H3 G3 fps3 a3 x3 => hq cls d H3 G3 fps3 (a1.next a3) x3
  · exact h1 X W ok env σ H G fps _ _ E e1 fun cls d H1 G1 fps1 a1 x1 => hq cls d H1 G1 fps1 a1 x1
/-! ### displays -/
theorem se_tup {es : CEs} {l : List Expr} {k : Nat} {p : Pos} (h : SDs c N sc fn l es) : SE c N sc fn (.Tuple l k p) (.tup es) := by
  intro X W ok env σ H G fps out Q E he hq
  simp only [evalE_tup] at he
  refine tE_of (pe_tup (paS X l)) ?_
  rcases bnd_ways he with ⟨ds, env1, e1, he⟩ | ⟨y, env1, e1, rfl⟩
  · split at he
    · rename_i hl
      cases he
      refine h X W ok env σ H G fps _ _ E e1 fun vs H1 G1 fps1 a1 r1 s1 => ?_
      refine ⟨by rw [dpAll_length r1, ← lim_eq]; exact hl, fun p hp => ?_⟩
      exact (resO_of (o := .fz (.tuple ds)) a1.E fun v H2 fp a2 r2 s2 => hq v H2 G1 fps1 fp (a1.next a2) r2 fun hn => (s1 hn).trans s2).newT r1 hp
    · cases he
  · exact h X W ok env σ H G fps _ _ E e1 fun cls d H1 G1 fps1 a1 x1 => hq cls d H1 G1 fps1 a1 x1
theorem se_lst {es : CEs} {l : List Expr} {p : Pos} (h : SDs c N sc fn l es) : SE c N sc fn (.List l p) (.lst es) := by
  intro X W ok env σ H G fps out Q E he hq
  simp only [evalE_lst] at he
  refine tE_of (pe_lst (paS X l)) ?_
  rcases bnd_ways he with ⟨ds, env1, e1, he⟩ | ⟨y, env1, e1, rfl⟩
  · split at he
    · rename_i hl
      cases he
      refine h X W ok env σ H G fps _ _ E e1 fun vs H1 G1 fps1 a1 r1 s1 => ?_
      refine ⟨by rw [dpAll_length r1, ← lim_eq]; exact hl, fun p hp => ?_⟩
      exact (resO_of (o := .lst ds) a1.E fun v H2 fp a2 r2 s2 => hq v H2 G1 fps1 fp (a1.next a2) r2 fun hn => (s1 hn).trans s2).newL a1.E.gh r1 hp
    · cases he
  · exact h X W ok env σ H G fps _ _ E e1 fun cls d H1 G1 fps1 a1 x1 => hq cls d H1 G1 fps1 a1 x1
/-! ### operators -/
theorem opAny {X : Cx} {f : Value → Value → Sem Value} : OpR X f (fun x y H Q => ∃ r, OpR X f r ∧ r x y H Q) := fun pins s σ H x y v u Q I rx ry ⟨r, ho, q⟩ => ho pins s σ H x y v u Q I rx ry q
theorem ixAny {X : Cx} : IxR X (fun x y H Q => ∃ r, IxR X r ∧ r x y H Q) := fun value slice pins s σ H x y v u Q I rx ry ⟨r, ho, q⟩ hs => ho value slice pins s σ H x y v u Q I rx ry q hs
theorem slAny {X : Cx} : SlR X (fun x lo hi H Q => ∃ r, SlR X r ∧ r x lo hi H Q) := fun pins s σ H x v vl vu lo hi sl Q I rx hs pl pu ⟨r, ho, q⟩ => ho pins s σ H x v vl vu lo hi sl Q I rx hs pl pu q
theorem callAny {X : Cx} {f : Value} : CallR X f (fun xs H Q => ∃ r, CallR X f r ∧ r xs H Q) := fun pins s σ H x u Q I rx ⟨r, ho, q⟩ => ho pins s σ H x u Q I rx q
theorem unAny {X : Cx} {f : Value → Sem Value} : UnR X f (fun x H Q => ∃ r, UnR X f r ∧ r x H Q) := fun pins s σ H x v Q I rx ⟨r, ho, q⟩ => ho pins s σ H x v Q I rx q
theorem se_bin {k : BinK} {a b : CE} {x y : Expr} {p : Pos} (h1 : SE c N sc fn x a) (h2 : SE c N sc fn y b) : SE c N sc fn (.BinOp x (binOp k) y p) (.bin k a b) := by
  intro X W ok env σ H G fps out Q E he hq
  simp only [evalE_bin] at he
  refine tE_of (pe_op opAny (peS X x) (peS X y)) ?_
  rcases bnd_ways he with ⟨p1, env1, e1, he⟩ | ⟨z, env1, e1, rfl⟩
  · refine h1 X W ok env σ H G fps _ _ E e1 fun vx H1 G1 fps1 fpt1 a1 r1 s1 => ?_
    rcases bnd_ways he with ⟨p2, env2, e2, he⟩ | ⟨z, env2, e2, rfl⟩
    · split at he
      · rename_i hst
        split at he
        · rename_i dx dy f1 f2
          cases hb : binO k dx dy with
          | none => rw [hb] at he; cases he
          | some o =>
            rw [hb] at he
            cases he
            refine h2 X W ok env1 σ H1 G1 fps1 _ _ a1.E e2 fun vy H2 G2 fps2 fpt2 a2 r2 s2 => ?_
            obtain ⟨r1', a1'⟩ := r1.next a1 a2 hst s2
            refine bin_ok k a2.E.gh (ok.eK ▸ pr_flat a2.E r1' f1) (ok.eK ▸ pr_flat a2.E r2 f2) hb ?_
            rw [ok.eK]
            exact resO_of a2.E fun v H3 fp a3 r3 s3 => hq v H3 G2 fps2 fp ((a1.next a2).next a3) r3 fun hn => by
              simp only [noeff_bin, Bool.and_eq_true] at hn
              exact (s1 hn.1).trans ((s2 hn.2).trans s3)
        · cases he
      · cases he
    · exact h2 X W ok env1 σ H1 G1 fps1 _ _ a1.E e2 fun cls d H3 G3 fps3 a3 x3 => hq cls d H3 G3 fps3 (a1.next a3) x3
  · exact h1 X W ok env σ H G fps _ _ E e1 fun cls d H1 G1 fps1 a1 x1 => hq cls d H1 G1 fps1 a1 x1
/-- two operands, then a comparison -/
theorem cmp_two {k : CmpK} {a b : CE} {x y : Expr} {X : Cx} {W : WX} (h1 : SE c N sc fn x a) (h2 : SE c N sc fn y b) (ok : CtxOk c X W N sc fn) {env : Env} {σ : L2.St} {H : Hp} {G : Addr → Prop} {fps : Fs} {out : Out P} {Q : VK} (E : EnvR c.K env σ H G fps)
    (he : evalE c.Γ (.cmp k a b) env = some out) (hq : GE c W σ H G fps (noeff (.cmp k a b)) Q out) : tOp (fun x y H Q => ∃ r, OpR X (compareOp (cmpOp k)) r ∧ r x y H Q) (tE X x) (tE X y) σ H Q := by
  simp only [evalE_cmp] at he
  rcases bnd_ways he with ⟨p1, env1, e1, he⟩ | ⟨z, env1, e1, rfl⟩
  · refine h1 X W ok env σ H G fps _ _ E e1 fun vx H1 G1 fps1 fpt1 a1 r1 s1 => ?_
    rcases bnd_ways he with ⟨p2, env2, e2, he⟩ | ⟨z, env2, e2, rfl⟩
    · split at he
      · rename_i hst
        split at he
        · rename_i dx dy f1 f2
          cases hb : cmpO k dx dy with
          | none => rw [hb] at he; cases he
          | some o =>
            rw [hb] at he
            cases he
            refine h2 X W ok env1 σ H1 G1 fps1 _ _ a1.E e2 fun vy H2 G2 fps2 fpt2 a2 r2 s2 => ?_
            obtain ⟨r1', a1'⟩ := r1.next a1 a2 hst s2
            refine cmp_ok ok.hu k (ok.eK ▸ pr_flat a2.E r1' f1) (ok.eK ▸ pr_flat a2.E r2 f2) hb ?_
            exact hq _ H2 G2 fps2 [] (a1.next a2).drop ⟨rfl, .bl _⟩ fun hn => by
              simp only [noeff_cmp, Bool.and_eq_true] at hn
              exact (s1 hn.1).trans (s2 hn.2)
        · cases he
      · cases he
    · exact h2 X W ok env1 σ H1 G1 fps1 _ _ a1.E e2 fun cls d H3 G3 fps3 a3 x3 => hq cls d H3 G3 fps3 (a1.next a3) x3
  · exact h1 X W ok env σ H G fps _ _ E e1 fun cls d H1 G1 fps1 a1 x1 => hq cls d H1 G1 fps1 a1 x1
theorem se_cmp {k : CmpK} {a b : CE} {x y : Expr} {p : Pos} (hm : behindInMarks (cmpOp k) y = false) (h1 : SE c N sc fn x a) (h2 : SE c N sc fn y b) : SE c N sc fn (.Compare x [cmpOp k] [y] p) (.cmp k a b) :=
  fun X W ok env σ H G fps out Q E he hq => tE_of (pe_cmpR opAny (peS X x) (peS X y) hm) (cmp_two h1 h2 ok E he hq)
/-- what a comparison gives is a truth value -/
theorem cmp_bool {k : CmpK} {a b : CE} {env : Env} {p : P} {env' : Env} (he : evalE c.Γ (.cmp k a b) env = some (.ok p env')) : ∃ b, p = .val (.fz (.bool b)) := by
  simp only [evalE_cmp] at he
  rcases bnd_ways he with ⟨p1, env1, e1, he⟩ | ⟨z, env1, e1, h⟩
  · rcases bnd_ways he with ⟨p2, env2, e2, he⟩ | ⟨z, env2, e2, h⟩
    · split at he
      · split at he
        · rename_i dx dy f1 f2
          cases hb : cmpO k dx dy with
          | none => rw [hb] at he; cases he
          | some o => rw [hb] at he; cases he; exact ⟨_, rfl⟩
        · cases he
      · cases he
    · cases h
  · cases h
/-- the goal of a test from that of an expression -/
theorem GT.of {W : WX} {σ : L2.St} {H : Hp} {G : Addr → Prop} {fps : Fs} {ne : Bool} {Q : Bool → Hp → Prop} {out : Out Bool} {x : Option (Out P)} (he : bnd x (fun p env => match flatP p env with
    | some d => (truthD d).map fun c => .ok c env
    | none => none) = some out) (hq : GT c W σ H G fps ne Q out) : ∃ o, x = some o ∧ GE c W σ H G fps ne (fun v H' => ∃ d G', RpS c.K H' G' v d ∧ ∃ k, truthD d = some k ∧ Q k H') o := by
  rcases bnd_ways he with ⟨p1, env1, e1, he⟩ | ⟨z, env1, e1, rfl⟩
  · refine ⟨_, e1, fun v H1 G1 fps1 fpt1 a1 r1 s1 => ?_⟩
    split at he
    · rename_i d hd
      cases ht : truthD d with
      | none => rw [ht] at he; cases he
      | some k =>
        rw [ht] at he
        cases he
        exact ⟨d, G1, pr_flat a1.E r1 hd, k, ht, hq H1 G1 fps1 a1.drop s1⟩
    · cases he
  · exact ⟨_, e1, hq⟩
/-- a test by truth -/
theorem sb_plain {a : CE} {x : Expr} (ht : ∀ env whole, isTrue x env whole = (do let v ← whole; standAt x.pos; holding [v] (truthy v))) (h : SE c N sc fn x a) : SB c N sc fn x (.of a) := by
  intro X W ok env σ H G fps out Q E he hq
  simp only [evalT_of] at he
  obtain ⟨o, e1, hq'⟩ := GT.of he hq
  refine tT_of (pt_truth (peS X x) (ht X.env)) ?_
  have := h X W ok env σ H G fps o _ E e1 hq'
  intro pins s I
  refine thn (this pins s I) fun u s' ⟨v, H', I', rv, d, G', rp, k, hk, q⟩ => ?_
  exact ⟨v, H', I', rv, k, by rw [ok.eK]; exact tru_D rp hk, q⟩
theorem sb_cmp {k : CmpK} {a b : CE} {x y : Expr} {p : Pos} (hm : behindInMarks (cmpOp k) y = false) (h1 : SE c N sc fn x a) (h2 : SE c N sc fn y b) : SB c N sc fn (.Compare x [cmpOp k] [y] p) (.of (.cmp k a b)) := by
  intro X W ok env σ H G fps out Q E he hq
  simp only [evalT_of] at he
  refine tT_of (pt_cmpR opAny (peS X x) (peS X y) hm) ?_
  show tOp _ (tE X x) (tE X y) σ H (fun v H' => ∃ k, v = .bl k ∧ Q k H')
  rcases bnd_ways he with ⟨p1, env1, e1, he⟩ | ⟨z, env1, e1, rfl⟩
  · obtain ⟨b, rfl⟩ := cmp_bool e1
    cases he
    exact cmp_two h1 h2 ok E e1 fun v H1 G1 fps1 fpt1 a1 r1 s1 => by
      obtain ⟨_, r⟩ := r1
      have := rbool r
      subst this
      exact ⟨_, rfl, hq H1 G1 fps1 a1.drop s1⟩
  · exact cmp_two h1 h2 ok E e1 hq
end
end NW
end
section
set_option linter.all false
set_option maxRecDepth 100000
set_option maxHeartbeats 1000000
/-! NWh: expressions, further cases -/
namespace NW
open PySem L2 PyProof.Rows
section
variable {c : Ct} {N : List Str} {sc : Scope} {fn : Str → Bool}
theorem lastMarks_ok {o o' : CmpOp} {m r : Expr} (h : behindInMarks o' r = false) : lastMarks [o, o'] [m, r] = false := h
theorem chain_ok {k k' : CmpK} {a b d : CE} {x y z : Expr} {X : Cx} {W : WX} (h1 : SE c N sc fn x a) (h2 : SE c N sc fn y b) (h3 : SE c N sc fn z d) (ok : CtxOk c X W N sc fn) {env : Env} {σ : L2.St} {H : Hp} {G : Addr → Prop} {fps : Fs} {out : Out P} {Q : VK} (E : EnvR c.K env σ H G fps)
    (he : evalE c.Γ (.chain k k' a b d) env = some out) (hq : GE c W σ H G fps (noeff (.chain k k' a b d)) Q out) :
    tChain (fun x y H Q => ∃ r, OpR X (compareOp (cmpOp k)) r ∧ r x y H Q) (fun x y H Q => ∃ r, OpR X (compareOp (cmpOp k')) r ∧ r x y H Q) (tE X x) (tE X y) (tE X z) σ H Q := by
  simp only [evalE_chain] at he
  rcases bnd_ways he with ⟨p1, env1, e1, he⟩ | ⟨z, env1, e1, rfl⟩
  · refine h1 X W ok env σ H G fps _ _ E e1 fun vx H1 G1 fps1 fpt1 a1 r1 s1 => ?_
    rcases bnd_ways he with ⟨p2, env2, e2, he⟩ | ⟨z, env2, e2, rfl⟩
    · split at he
      · rename_i hst
        simp only [Bool.and_eq_true] at hst
        split at he
        · rename_i dx dy f1 f2
          refine h2 X W ok env1 σ H1 G1 fps1 _ _ a1.E e2 fun vy H2 G2 fps2 fpt2 a2 r2 s2 => ?_
          obtain ⟨r1', a1'⟩ := r1.next a1 a2 hst.1 s2
          cases hb : cmpO k dx dy with
          | none => rw [hb] at he; cases he
          | some b1 =>
            rw [hb] at he
            refine cmp_ok ok.hu k (ok.eK ▸ pr_flat a2.E r1' f1) (ok.eK ▸ pr_flat a2.E r2 f2) hb ⟨b1, rfl, ?_⟩
            cases b1 with
            | false =>
              cases he
              rw [if_neg Bool.false_ne_true]
              exact hq _ H2 G2 fps2 [] (a1.next a2).drop ⟨rfl, .bl _⟩ fun hn => by
                simp only [noeff_chain, Bool.and_eq_true] at hn
                exact (s1 hn.1.1).trans (s2 hn.1.2)
            | true =>
              rw [if_pos rfl]
              simp only at he
              rcases bnd_ways he with ⟨p3, env3, e3, he⟩ | ⟨z, env3, e3, rfl⟩
              · split at he
                · rename_i dy' dz f3 f4
                  cases hb2 : cmpO k' dy' dz with
                  | none => rw [hb2] at he; cases he
                  | some b2 =>
                    rw [hb2] at he
                    cases he
                    refine h3 X W ok env2 σ H2 G2 fps2 _ _ a2.E e3 fun vz H3 G3 fps3 fpt3 a3 r3 s3 => ?_
                    obtain ⟨r2', a2'⟩ := r2.next a2 a3 hst.2 s3
                    refine cmp_ok ok.hu k' (ok.eK ▸ pr_flat a3.E r2' f3) (ok.eK ▸ pr_flat a3.E r3 f4) hb2 ?_
                    exact hq _ H3 G3 fps3 [] ((a1.next a2).next a3).drop ⟨rfl, .bl _⟩ fun hn => by
                      simp only [noeff_chain, Bool.and_eq_true] at hn
                      exact (s1 hn.1.1).trans ((s2 hn.1.2).trans (s3 hn.2))
                · cases he
              · exact h3 X W ok env2 σ H2 G2 fps2 _ _ a2.E e3 fun cls d H3 G3 fps3 a3 x3 => hq cls d H3 G3 fps3 ((a1.next a2).next a3) x3
        · cases he
      · cases he
    · exact h2 X W ok env1 σ H1 G1 fps1 _ _ a1.E e2 fun cls d H3 G3 fps3 a3 x3 => hq cls d H3 G3 fps3 (a1.next a3) x3
  · exact h1 X W ok env σ H G fps _ _ E e1 fun cls d H1 G1 fps1 a1 x1 => hq cls d H1 G1 fps1 a1 x1
theorem marks_of {k : CmpK} (h1 : k ≠ .isin) (h2 : k ≠ .notin) (r : Expr) : behindInMarks (cmpOp k) r = false := by
  refine nomark r ?_ ?_ <;> cases k <;> first | decide | exact absurd rfl h1 | exact absurd rfl h2
theorem se_chain {k k' : CmpK} {a b d : CE} {x y z : Expr} {p : Pos} (i1 : k' ≠ .isin) (i2 : k' ≠ .notin) (h1 : SE c N sc fn x a) (h2 : SE c N sc fn y b) (h3 : SE c N sc fn z d) : SE c N sc fn (.Compare x [cmpOp k, cmpOp k'] [y, z] p) (.chain k k' a b d) :=
  fun X W ok env σ H G fps out Q E he hq => tE_of (pe_chain opAny opAny (peS X x) (peS X y) (peS X z) (lastMarks_ok (marks_of i1 i2 z))) (chain_ok h1 h2 h3 ok E he hq)
theorem chain_bool {k k' : CmpK} {a b d : CE} {env : Env} {p : P} {env' : Env} (he : evalE c.Γ (.chain k k' a b d) env = some (.ok p env')) : ∃ b, p = .val (.fz (.bool b)) := by
  simp only [evalE_chain] at he
  rcases bnd_ways he with ⟨p1, env1, e1, he⟩ | ⟨z, env1, e1, h⟩
  · rcases bnd_ways he with ⟨p2, env2, e2, he⟩ | ⟨z, env2, e2, h⟩
    · split at he
      · split at he
        · rename_i dx dy f1 f2
          cases hb : cmpO k dx dy with
          | none => rw [hb] at he; cases he
          | some o =>
            rw [hb] at he
            cases o with
            | false => cases he; exact ⟨_, rfl⟩
            | true =>
              simp only at he
              rcases bnd_ways he with ⟨p3, env3, e3, he⟩ | ⟨z, env3, e3, h⟩
              · split at he
                · rename_i dy' dz f3 f4
                  cases hb2 : cmpO k' dy' dz with
                  | none => rw [hb2] at he; cases he
                  | some b2 => rw [hb2] at he; cases he; exact ⟨_, rfl⟩
                · cases he
              · cases h
        · cases he
      · cases he
    · cases h
  · cases h
theorem sb_chain {k k' : CmpK} {a b d : CE} {x y z : Expr} {p : Pos} (i1 : k' ≠ .isin) (i2 : k' ≠ .notin) (h1 : SE c N sc fn x a) (h2 : SE c N sc fn y b) (h3 : SE c N sc fn z d) : SB c N sc fn (.Compare x [cmpOp k, cmpOp k'] [y, z] p) (.of (.chain k k' a b d)) := by
  intro X W ok env σ H G fps out Q E he hq
  simp only [evalT_of] at he
  refine tT_of (pt_chain opAny opAny (peS X x) (peS X y) (peS X z) (lastMarks_ok (marks_of i1 i2 z))) ?_
  show tChain _ _ (tE X x) (tE X y) (tE X z) σ H (fun v H' => ∃ k, v = .bl k ∧ Q k H')
  rcases bnd_ways he with ⟨p1, env1, e1, he⟩ | ⟨z, env1, e1, rfl⟩
  · obtain ⟨b, rfl⟩ := chain_bool e1
    cases he
    exact chain_ok h1 h2 h3 ok E e1 fun v H1 G1 fps1 fpt1 a1 r1 s1 => by
      obtain ⟨_, r⟩ := r1
      have := rbool r
      subst this
      exact ⟨_, rfl, hq H1 G1 fps1 a1.drop s1⟩
  · exact chain_ok h1 h2 h3 ok E e1 hq
/-! ### is None -/
theorem dp_non {K : PySem.W.Frag} {H : Hp} {v : V} {d : D} (h : Dp K H v d) : decide (v = .non) = isNone d := by
  cases h <;> simp [isNone]
theorem isN_ok {a : CE} {x : Expr} {X : Cx} {W : WX} (h1 : SE c N sc fn x a) (ok : CtxOk c X W N sc fn) {env : Env} {σ : L2.St} {H : Hp} {G : Addr → Prop} {fps : Fs} {out : Out P} {Q : VK} (E : EnvR c.K env σ H G fps)
    (he : evalE c.Γ (.isN a) env = some out) (hq : GE c W σ H G fps (noeff (.isN a)) Q out) : tIsN (tE X x) σ H Q := by
  simp only [evalE_isN] at he
  rcases bnd_ways he with ⟨p1, env1, e1, he⟩ | ⟨z, env1, e1, rfl⟩
  · refine h1 X W ok env σ H G fps _ _ E e1 fun vx H1 G1 fps1 fpt1 a1 r1 s1 => ?_
    split at he
    · rename_i d f1
      cases he
      rw [dp_non (pr_flat a1.E r1 f1).dp]
      exact hq _ H1 G1 fps1 [] a1.drop ⟨rfl, .bl _⟩ s1
    · cases he
  · exact h1 X W ok env σ H G fps _ _ E e1 fun cls d H1 G1 fps1 a1 x1 => hq cls d H1 G1 fps1 a1 x1
theorem notN_ok {a : CE} {x : Expr} {X : Cx} {W : WX} (h1 : SE c N sc fn x a) (ok : CtxOk c X W N sc fn) {env : Env} {σ : L2.St} {H : Hp} {G : Addr → Prop} {fps : Fs} {out : Out P} {Q : VK} (E : EnvR c.K env σ H G fps)
    (he : evalE c.Γ (.notN a) env = some out) (hq : GE c W σ H G fps (noeff (.notN a)) Q out) : tNotN (tE X x) σ H Q := by
  simp only [evalE_notN] at he
  rcases bnd_ways he with ⟨p1, env1, e1, he⟩ | ⟨z, env1, e1, rfl⟩
  · refine h1 X W ok env σ H G fps _ _ E e1 fun vx H1 G1 fps1 fpt1 a1 r1 s1 => ?_
    split at he
    · rename_i d f1
      cases he
      rw [dp_non (pr_flat a1.E r1 f1).dp]
      exact hq _ H1 G1 fps1 [] a1.drop ⟨rfl, .bl _⟩ s1
    · cases he
  · exact h1 X W ok env σ H G fps _ _ E e1 fun cls d H1 G1 fps1 a1 x1 => hq cls d H1 G1 fps1 a1 x1
theorem se_isN {a : CE} {x : Expr} {j : Nat} {p p' : Pos} (h1 : SE c N sc fn x a) : SE c N sc fn (.Compare x [.Is] [.Constant .none j p'] p) (.isN a) :=
  fun X W ok env σ H G fps out Q E he hq => tE_of (pe_cmp (pc_isN (peS X x)) rfl) (isN_ok h1 ok E he hq)
theorem se_notN {a : CE} {x : Expr} {j : Nat} {p p' : Pos} (h1 : SE c N sc fn x a) : SE c N sc fn (.Compare x [.IsNot] [.Constant .none j p'] p) (.notN a) :=
  fun X W ok env σ H G fps out Q E he hq => tE_of (pe_cmp (pc_notN (peS X x)) rfl) (notN_ok h1 ok E he hq)
theorem sb_isN {a : CE} {x : Expr} {j : Nat} {p p' : Pos} (h1 : SE c N sc fn x a) : SB c N sc fn (.Compare x [.Is] [.Constant .none j p'] p) (.of (.isN a)) := by
  intro X W ok env σ H G fps out Q E he hq
  simp only [evalT_of] at he
  refine tT_of (pt_cmp (pc_isN (peS X x)) rfl) ?_
  show tIsN (tE X x) σ H (fun v H' => ∃ k, v = .bl k ∧ Q k H')
  rcases bnd_ways he with ⟨p1, env1, e1, he⟩ | ⟨z, env1, e1, rfl⟩
  · have hb : ∃ b, p1 = .val (.fz (.bool b)) := by
      simp only [evalE_isN] at e1
      rcases bnd_ways e1 with ⟨p1, env1, e1, he⟩ | ⟨z, env1, e1, h⟩
      · split at he
        · cases he; exact ⟨_, rfl⟩
        · cases he
      · cases h
    obtain ⟨b, rfl⟩ := hb
    cases he
    exact isN_ok h1 ok E e1 fun v H1 G1 fps1 fpt1 a1 r1 s1 => by
      obtain ⟨_, r⟩ := r1
      have := rbool r
      subst this
      exact ⟨_, rfl, hq H1 G1 fps1 a1.drop s1⟩
  · exact isN_ok h1 ok E e1 hq
theorem sb_notN {a : CE} {x : Expr} {j : Nat} {p p' : Pos} (h1 : SE c N sc fn x a) : SB c N sc fn (.Compare x [.IsNot] [.Constant .none j p'] p) (.of (.notN a)) := by
  intro X W ok env σ H G fps out Q E he hq
  simp only [evalT_of] at he
  refine tT_of (pt_cmp (pc_notN (peS X x)) rfl) ?_
  show tNotN (tE X x) σ H (fun v H' => ∃ k, v = .bl k ∧ Q k H')
  rcases bnd_ways he with ⟨p1, env1, e1, he⟩ | ⟨z, env1, e1, rfl⟩
  · have hb : ∃ b, p1 = .val (.fz (.bool b)) := by
      simp only [evalE_notN] at e1
      rcases bnd_ways e1 with ⟨p1, env1, e1, he⟩ | ⟨z, env1, e1, h⟩
      · split at he
        · cases he; exact ⟨_, rfl⟩
        · cases he
      · cases h
    obtain ⟨b, rfl⟩ := hb
    cases he
    exact notN_ok h1 ok E e1 fun v H1 G1 fps1 fpt1 a1 r1 s1 => by
      obtain ⟨_, r⟩ := r1
      have := rbool r
      subst this
      exact ⟨_, rfl, hq H1 G1 fps1 a1.drop s1⟩
  · exact notN_ok h1 ok E e1 hq
/-! ### and, or, not -/
theorem and_ok {a b : CE} {x : Expr} {X : Cx} {W : WX} {t2 : TE} (h1 : SE c N sc fn x a) (ok : CtxOk c X W N sc fn) {env : Env} {σ : L2.St} {H : Hp} {G : Addr → Prop} {fps : Fs} {out : Out P} {Q : VK} (E : EnvR c.K env σ H G fps)
    (h2 : ∀ env σ H G fps out Q, EnvR c.K env σ H G fps → evalE c.Γ b env = some out → GE c W σ H G fps (noeff b) Q out → t2 σ H Q)
    (he : evalE c.Γ (.and a b) env = some out) (hq : GE c W σ H G fps (noeff (.and a b)) Q out) : tAndV (tE X x) t2 σ H Q := by
  simp only [evalE_and] at he
  rcases bnd_ways he with ⟨p1, env1, e1, he⟩ | ⟨z, env1, e1, rfl⟩
  · refine h1 X W ok env σ H G fps _ _ E e1 fun vx H1 G1 fps1 fpt1 a1 r1 s1 => ?_
    split at he
    · rename_i f1
      have := rbool (pr_flat a1.E r1 f1)
      subst this
      refine ⟨true, rfl, ?_⟩
      rw [if_pos rfl]
      refine h2 env1 σ H1 G1 fps1 out Q a1.E he ?_
      cases out with
      | ok p env2 =>
        exact fun v H2 G2 fps2 fpt2 a2 r2 s2 => hq v H2 G2 fps2 fpt2 (a1.next a2) r2 fun hn => by
          simp only [noeff_and, Bool.and_eq_true] at hn
          exact (s1 hn.1).trans (s2 hn.2)
      | exc x env2 => exact fun cls d H2 G2 fps2 a2 x2 => hq cls d H2 G2 fps2 (a1.next a2) x2
    · rename_i f1
      have := rbool (pr_flat a1.E r1 f1)
      subst this
      cases he
      refine ⟨false, rfl, ?_⟩
      rw [if_neg Bool.false_ne_true]
      exact hq _ H1 G1 fps1 [] a1.drop ⟨rfl, .bl _⟩ fun hn => by
        simp only [noeff_and, Bool.and_eq_true] at hn
        exact s1 hn.1
    · cases he
  · exact h1 X W ok env σ H G fps _ _ E e1 fun cls d H1 G1 fps1 a1 x1 => hq cls d H1 G1 fps1 a1 x1
theorem or_ok {a b : CE} {x : Expr} {X : Cx} {W : WX} {t2 : TE} (h1 : SE c N sc fn x a) (ok : CtxOk c X W N sc fn) {env : Env} {σ : L2.St} {H : Hp} {G : Addr → Prop} {fps : Fs} {out : Out P} {Q : VK} (E : EnvR c.K env σ H G fps)
    (h2 : ∀ env σ H G fps out Q, EnvR c.K env σ H G fps → evalE c.Γ b env = some out → GE c W σ H G fps (noeff b) Q out → t2 σ H Q)
    (he : evalE c.Γ (.or a b) env = some out) (hq : GE c W σ H G fps (noeff (.or a b)) Q out) : tOrV (tE X x) t2 σ H Q := by
  simp only [evalE_or] at he
  rcases bnd_ways he with ⟨p1, env1, e1, he⟩ | ⟨z, env1, e1, rfl⟩
  · refine h1 X W ok env σ H G fps _ _ E e1 fun vx H1 G1 fps1 fpt1 a1 r1 s1 => ?_
    split at he
    · rename_i f1
      have := rbool (pr_flat a1.E r1 f1)
      subst this
      cases he
      refine ⟨true, rfl, ?_⟩
      rw [if_pos rfl]
      exact hq _ H1 G1 fps1 [] a1.drop ⟨rfl, .bl _⟩ fun hn => by
        simp only [noeff_or, Bool.and_eq_true] at hn
        exact s1 hn.1
    · rename_i f1
      have := rbool (pr_flat a1.E r1 f1)
      subst this
      refine ⟨false, rfl, ?_⟩
      rw [if_neg Bool.false_ne_true]
      refine h2 env1 σ H1 G1 fps1 out Q a1.E he ?_
      cases out with
      | ok p env2 =>
        exact fun v H2 G2 fps2 fpt2 a2 r2 s2 => hq v H2 G2 fps2 fpt2 (a1.next a2) r2 fun hn => by
          simp only [noeff_or, Bool.and_eq_true] at hn
          exact (s1 hn.1).trans (s2 hn.2)
      | exc x env2 => exact fun cls d H2 G2 fps2 a2 x2 => hq cls d H2 G2 fps2 (a1.next a2) x2
    · cases he
  · exact h1 X W ok env σ H G fps _ _ E e1 fun cls d H1 G1 fps1 a1 x1 => hq cls d H1 G1 fps1 a1 x1
theorem se_and1 {a b : CE} {x y : Expr} {p : Pos} (h1 : SE c N sc fn x a) (h2 : SE c N sc fn y b) : SE c N sc fn (.BoolOp .And [x, y] p) (.and a b) :=
  fun X W ok env σ H G fps out Q E he hq => tE_of (pe_and (peS X x) (pe_one (peS X y))) (and_ok h1 ok E (h2 X W ok) he hq)
theorem se_and2 {a b : CE} {x y z : Expr} {r : List Expr} {p : Pos} (h1 : SE c N sc fn x a) (h2 : SE c N sc fn (.BoolOp .And (y :: z :: r) p) b) : SE c N sc fn (.BoolOp .And (x :: y :: z :: r) p) (.and a b) :=
  fun X W ok env σ H G fps out Q E he hq => tE_of (pe_and (peS X x) (peS X _)) (and_ok h1 ok E (h2 X W ok) he hq)
theorem se_or1 {a b : CE} {x y : Expr} {p : Pos} (h1 : SE c N sc fn x a) (h2 : SE c N sc fn y b) : SE c N sc fn (.BoolOp .Or [x, y] p) (.or a b) :=
  fun X W ok env σ H G fps out Q E he hq => tE_of (pe_or (peS X x) (pe_one (peS X y))) (or_ok h1 ok E (h2 X W ok) he hq)
theorem se_or2 {a b : CE} {x y z : Expr} {r : List Expr} {p : Pos} (h1 : SE c N sc fn x a) (h2 : SE c N sc fn (.BoolOp .Or (y :: z :: r) p) b) : SE c N sc fn (.BoolOp .Or (x :: y :: z :: r) p) (.or a b) :=
  fun X W ok env σ H G fps out Q E he hq => tE_of (pe_or (peS X x) (peS X _)) (or_ok h1 ok E (h2 X W ok) he hq)
theorem se_not {a : CE} {x : Expr} {p : Pos} (h1 : SE c N sc fn x a) : SE c N sc fn (.UnaryOp .Not x p) (.not a) := by
  intro X W ok env σ H G fps out Q E he hq
  simp only [evalE_not] at he
  refine tE_of (pe_not (peS X x)) ?_
  rcases bnd_ways he with ⟨p1, env1, e1, he⟩ | ⟨z, env1, e1, rfl⟩
  · refine h1 X W ok env σ H G fps _ _ E e1 fun vx H1 G1 fps1 fpt1 a1 r1 s1 => ?_
    split at he
    · rename_i b f1
      cases he
      have := rbool (pr_flat a1.E r1 f1)
      subst this
      exact ⟨_, rfl, hq _ H1 G1 fps1 [] a1.drop ⟨rfl, .bl _⟩ s1⟩
    · cases he
  · exact h1 X W ok env σ H G fps _ _ E e1 fun cls d H1 G1 fps1 a1 x1 => hq cls d H1 G1 fps1 a1 x1
theorem se_neg {a : CE} {x : Expr} {p : Pos} (h1 : SE c N sc fn x a) : SE c N sc fn (.UnaryOp .USub x p) (.neg a) := by
  intro X W ok env σ H G fps out Q E he hq
  simp only [evalE_neg] at he
  refine tE_of (pe_un un_neg (peS X x)) ?_
  rcases bnd_ways he with ⟨p1, env1, e1, he⟩ | ⟨z, env1, e1, rfl⟩
  · refine h1 X W ok env σ H G fps _ _ E e1 fun vx H1 G1 fps1 fpt1 a1 r1 s1 => ?_
    split at he
    · rename_i b f1
      cases he
      have := rint (pr_flat a1.E r1 f1)
      subst this
      exact ⟨_, rfl, hq _ H1 G1 fps1 [] a1.drop ⟨rfl, .int _⟩ s1⟩
    · cases he
  · exact h1 X W ok env σ H G fps _ _ E e1 fun cls d H1 G1 fps1 a1 x1 => hq cls d H1 G1 fps1 a1 x1
/-! ### tests -/
theorem isTrue_bool {op : BoolOp} {vs : List Expr} {p : Pos} {env : PySem.Env} (w1 w2 : Sem Value) : isTrue (.BoolOp op vs p) env w1 = isTrue (.BoolOp op vs p) env w2 := by
  simp only [PySem.isTrue]
theorem pwS (X : Cx) (op : BoolOp) (vs : List Expr) (p : Pos) : PW X (.BoolOp op vs p) (tT X (.BoolOp op vs p)) := ⟨fun wh pins s σ H Q I h => by
  rw [isTrue_bool wh (eval (.BoolOp op vs p) X.env)]
  exact h pins s I⟩
theorem tand_ok {a b : CB} {x : Expr} {X : Cx} {W : WX} {t2 : TT} (h1 : SB c N sc fn x a) (ok : CtxOk c X W N sc fn) {env : Env} {σ : L2.St} {H : Hp} {G : Addr → Prop} {fps : Fs} {out : Out Bool} {Q : Bool → Hp → Prop} (E : EnvR c.K env σ H G fps)
    (h2 : ∀ env σ H G fps out Q, EnvR c.K env σ H G fps → evalT c.Γ b env = some out → GT c W σ H G fps (noeffb b) Q out → t2 σ H Q)
    (he : evalT c.Γ (.and a b) env = some out) (hq : GT c W σ H G fps (noeffb (.and a b)) Q out) : tAnd (tT X x) t2 σ H Q := by
  simp only [evalT_and] at he
  rcases bnd_ways he with ⟨p1, env1, e1, he⟩ | ⟨z, env1, e1, rfl⟩
  · refine h1 X W ok env σ H G fps _ _ E e1 fun H1 G1 fps1 a1 s1 => ?_
    cases p1 with
    | true =>
      rw [if_pos rfl] at he
      rw [if_pos rfl]
      refine h2 env1 σ H1 G1 fps1 out Q a1.E he ?_
      cases out with
      | ok p env2 =>
        exact fun H2 G2 fps2 a2 s2 => hq H2 G2 fps2 (a1.next a2) fun hn => by
          simp only [noeffb_and, Bool.and_eq_true] at hn
          exact (s1 hn.1).trans (s2 hn.2)
      | exc x env2 => exact fun cls d H2 G2 fps2 a2 x2 => hq cls d H2 G2 fps2 (a1.next a2) x2
    | false =>
      rw [if_neg Bool.false_ne_true] at he
      rw [if_neg Bool.false_ne_true]
      cases he
      exact hq H1 G1 fps1 a1 fun hn => by
        simp only [noeffb_and, Bool.and_eq_true] at hn
        exact s1 hn.1
  · exact h1 X W ok env σ H G fps _ _ E e1 fun cls d H1 G1 fps1 a1 x1 => hq cls d H1 G1 fps1 a1 x1
theorem tor_ok {a b : CB} {x : Expr} {X : Cx} {W : WX} {t2 : TT} (h1 : SB c N sc fn x a) (ok : CtxOk c X W N sc fn) {env : Env} {σ : L2.St} {H : Hp} {G : Addr → Prop} {fps : Fs} {out : Out Bool} {Q : Bool → Hp → Prop} (E : EnvR c.K env σ H G fps)
    (h2 : ∀ env σ H G fps out Q, EnvR c.K env σ H G fps → evalT c.Γ b env = some out → GT c W σ H G fps (noeffb b) Q out → t2 σ H Q)
    (he : evalT c.Γ (.or a b) env = some out) (hq : GT c W σ H G fps (noeffb (.or a b)) Q out) : tOr (tT X x) t2 σ H Q := by
  simp only [evalT_or] at he
  rcases bnd_ways he with ⟨p1, env1, e1, he⟩ | ⟨z, env1, e1, rfl⟩
  · refine h1 X W ok env σ H G fps _ _ E e1 fun H1 G1 fps1 a1 s1 => ?_
    cases p1 with
    | false =>
      rw [if_neg Bool.false_ne_true] at he
      rw [if_neg Bool.false_ne_true]
      refine h2 env1 σ H1 G1 fps1 out Q a1.E he ?_
      cases out with
      | ok p env2 =>
        exact fun H2 G2 fps2 a2 s2 => hq H2 G2 fps2 (a1.next a2) fun hn => by
          simp only [noeffb_or, Bool.and_eq_true] at hn
          exact (s1 hn.1).trans (s2 hn.2)
      | exc x env2 => exact fun cls d H2 G2 fps2 a2 x2 => hq cls d H2 G2 fps2 (a1.next a2) x2
    | true =>
      rw [if_pos rfl] at he
      rw [if_pos rfl]
      cases he
      exact hq H1 G1 fps1 a1 fun hn => by
        simp only [noeffb_or, Bool.and_eq_true] at hn
        exact s1 hn.1
  · exact h1 X W ok env σ H G fps _ _ E e1 fun cls d H1 G1 fps1 a1 x1 => hq cls d H1 G1 fps1 a1 x1
theorem sb_and1 {a b : CB} {x y : Expr} {p : Pos} (h1 : SB c N sc fn x a) (h2 : SB c N sc fn y b) : SB c N sc fn (.BoolOp .And [x, y] p) (.and a b) :=
  fun X W ok env σ H G fps out Q E he hq => tT_of (PW.pt (pw_and (ptS X x) (pw_and1 (ptS X y)))) (tand_ok h1 ok E (h2 X W ok) he hq)
theorem sb_and2 {a b : CB} {x y z : Expr} {r : List Expr} {p : Pos} (h1 : SB c N sc fn x a) (h2 : SB c N sc fn (.BoolOp .And (y :: z :: r) p) b) : SB c N sc fn (.BoolOp .And (x :: y :: z :: r) p) (.and a b) :=
  fun X W ok env σ H G fps out Q E he hq => tT_of (PW.pt (pw_and (ptS X x) (pwS X _ _ _))) (tand_ok h1 ok E (h2 X W ok) he hq)
theorem sb_or1 {a b : CB} {x y : Expr} {p : Pos} (h1 : SB c N sc fn x a) (h2 : SB c N sc fn y b) : SB c N sc fn (.BoolOp .Or [x, y] p) (.or a b) :=
  fun X W ok env σ H G fps out Q E he hq => tT_of (PW.pt (pw_or (ptS X x) (pw_or1 (ptS X y)))) (tor_ok h1 ok E (h2 X W ok) he hq)
theorem sb_or2 {a b : CB} {x y z : Expr} {r : List Expr} {p : Pos} (h1 : SB c N sc fn x a) (h2 : SB c N sc fn (.BoolOp .Or (y :: z :: r) p) b) : SB c N sc fn (.BoolOp .Or (x :: y :: z :: r) p) (.or a b) :=
  fun X W ok env σ H G fps out Q E he hq => tT_of (PW.pt (pw_or (ptS X x) (pwS X _ _ _))) (tor_ok h1 ok E (h2 X W ok) he hq)
theorem sb_not {a : CB} {x : Expr} {p : Pos} (h1 : SB c N sc fn x a) : SB c N sc fn (.UnaryOp .Not x p) (.not a) := by
  intro X W ok env σ H G fps out Q E he hq
  simp only [evalT_not] at he
  refine tT_of (pt_not (ptS X x)) ?_
  rcases bnd_ways he with ⟨p1, env1, e1, he⟩ | ⟨z, env1, e1, rfl⟩
  · cases he
    exact h1 X W ok env σ H G fps _ _ E e1 fun H1 G1 fps1 a1 s1 => hq H1 G1 fps1 a1 s1
  · exact h1 X W ok env σ H G fps _ _ E e1 fun cls d H1 G1 fps1 a1 x1 => hq cls d H1 G1 fps1 a1 x1
theorem se_ite {t : CB} {a b : CE} {x y z : Expr} {p : Pos} (h0 : SB c N sc fn x t) (h1 : SE c N sc fn y a) (h2 : SE c N sc fn z b) : SE c N sc fn (.IfExp x y z p) (.ite t a b) := by
  intro X W ok env σ H G fps out Q E he hq
  simp only [evalE_ite] at he
  refine tE_of (pe_ifExp (ptS X x) (peS X y) (peS X z)) ?_
  rcases bnd_ways he with ⟨p1, env1, e1, he⟩ | ⟨z, env1, e1, rfl⟩
  · refine h0 X W ok env σ H G fps _ _ E e1 fun H1 G1 fps1 a1 s1 => ?_
    cases p1 with
    | true =>
      rw [if_pos rfl] at he
      rw [if_pos rfl]
      refine h1 X W ok env1 σ H1 G1 fps1 out Q a1.E he ?_
      cases out with
      | ok p env2 =>
        exact fun v H2 G2 fps2 fpt2 a2 r2 s2 => hq v H2 G2 fps2 fpt2 (a1.next a2) r2 fun hn => by
          simp only [noeff_ite, Bool.and_eq_true] at hn
          exact (s1 hn.1.1).trans (s2 hn.1.2)
      | exc x env2 => exact fun cls d H2 G2 fps2 a2 x2 => hq cls d H2 G2 fps2 (a1.next a2) x2
    | false =>
      rw [if_neg Bool.false_ne_true] at he
      rw [if_neg Bool.false_ne_true]
      refine h2 X W ok env1 σ H1 G1 fps1 out Q a1.E he ?_
      cases out with
      | ok p env2 =>
        exact fun v H2 G2 fps2 fpt2 a2 r2 s2 => hq v H2 G2 fps2 fpt2 (a1.next a2) r2 fun hn => by
          simp only [noeff_ite, Bool.and_eq_true] at hn
          exact (s1 hn.1.1).trans (s2 hn.2)
      | exc x env2 => exact fun cls d H2 G2 fps2 a2 x2 => hq cls d H2 G2 fps2 (a1.next a2) x2
  · exact h0 X W ok env σ H G fps _ _ E e1 fun cls d H1 G1 fps1 a1 x1 => hq cls d H1 G1 fps1 a1 x1
/-! ### items -/
theorem se_ix {a i : CE} {x y : Expr} {p : Pos} (hs : isSlice y = false) (h1 : SE c N sc fn x a) (h2 : SE c N sc fn y i) : SE c N sc fn (.Subscript x y p) (.ix a i) := by
  intro X W ok env σ H G fps out Q E he hq
  simp only [evalE_ix] at he
  refine tE_of (pe_ix ixAny (peS X x) (peS X y) (plainIx_ok hs)) ?_
  rcases bnd_ways he with ⟨p1, env1, e1, he⟩ | ⟨z, env1, e1, rfl⟩
  · refine h1 X W ok env σ H G fps _ _ E e1 fun vx H1 G1 fps1 fpt1 a1 r1 s1 => ?_
    rcases bnd_ways he with ⟨p2, env2, e2, he⟩ | ⟨z, env2, e2, rfl⟩
    · split at he
      · rename_i hst
        split at he
        · rename_i dx dy f1 f2
          cases hb : ixD dx dy with
          | none => rw [hb] at he; cases he
          | some o =>
            rw [hb] at he
            cases he
            refine h2 X W ok env1 σ H1 G1 fps1 _ _ a1.E e2 fun vy H2 G2 fps2 fpt2 a2 r2 s2 => ?_
            obtain ⟨r1', a1'⟩ := r1.next a1 a2 hst s2
            refine ix_ok (ok.eK ▸ pr_flat a2.E r1' f1) (ok.eK ▸ pr_flat a2.E r2 f2) hb fun v r3 => ?_
            exact hq v H2 G2 fps2 [] (a1.next a2).drop ⟨rfl, ok.eK ▸ r3⟩ fun hn => by
              simp only [noeff_ix, Bool.and_eq_true] at hn
              exact (s1 hn.1).trans (s2 hn.2)
        · cases he
      · cases he
    · exact h2 X W ok env1 σ H1 G1 fps1 _ _ a1.E e2 fun cls d H3 G3 fps3 a3 x3 => hq cls d H3 G3 fps3 (a1.next a3) x3
  · exact h1 X W ok env σ H G fps _ _ E e1 fun cls d H1 G1 fps1 a1 x1 => hq cls d H1 G1 fps1 a1 x1
theorem se_fld {i : Nat} {k x : Str} {j : Nat} {p p1 p2 : Pos} (h : (decide (N[i]? = some x) && visB sc x && nmB x) = true) : SE c N sc fn (.Subscript (.Name x p1) (.Constant (.str k) j p2) p) (.fld i k) := by
  intro X W ok env σ H G fps out Q E he hq
  simp only [evalE_fld] at he
  have hu := ok.hu
  refine tE_of (pe_dget (by omega) (peS X _) pe_str (fun _ _ => rfl)) ?_
  split at he
  · rename_i kvs hk
    obtain ⟨v, hv, r⟩ := E.rep i _ hk
    obtain ⟨a, rv, fp', rfl, hf, na, ng, hl, hr⟩ := r
    split at he
    · rename_i d hd
      cases he
      obtain ⟨v, fp1, q1, q2, q3⟩ := look_val hr hd
      refine tE_var ok h hv ⟨a, v, rfl, ?_, ?_⟩
      · have := DGet.k (k := Sum.inr k) hl
        rw [q1] at this
        exact this
      · exact hq v H G fps [] (Aft.refl E) ⟨rfl, q2.2⟩ fun _ => same_refl H
    · rename_i ds hd
      cases he
      obtain ⟨v, fp1, q1, q2, q3⟩ := look_val hr hd
      refine tE_var ok h hv ⟨a, v, rfl, ?_, ?_⟩
      · have := DGet.k (k := Sum.inr k) hl
        rw [q1] at this
        exact this
      · exact hq v H G fps [] (Aft.refl E) ⟨rfl, a, rv, hv, hl, q1⟩ fun _ => same_refl H
    · cases he
  · cases he
def SO_ (c : Ct) (N : List Str) (sc : Scope) (fn : Str → Bool) (l : Option Expr) (a : CEo) : Prop := ∀ X W, CtxOk c X W N sc fn → ∃ t : TO, PO X l t ∧ ∀ env σ H G fps out Q, EnvR c.K env σ H G fps → evalO c.Γ a env = some out → GO c W σ H G fps (noeffo a) Q out → t σ H Q
theorem so_none : SO_ c N sc fn none .none := fun X W ok => ⟨_, po_none, fun env σ H G fps out Q E he hq => by
  simp only [evalO_none] at he
  cases he
  exact hq H G fps (Aft.refl E) fun _ => same_refl H⟩
theorem so_some {a : CE} {x : Expr} (h1 : SE c N sc fn x a) : SO_ c N sc fn (some x) (.some a) := fun X W ok => ⟨_, po_some (peS X x), fun env σ H G fps out Q E he hq => by
  simp only [evalO_some] at he
  rcases bnd_ways he with ⟨p1, env1, e1, he⟩ | ⟨z, env1, e1, rfl⟩
  · refine h1 X W ok env σ H G fps _ _ E e1 fun vx H1 G1 fps1 fpt1 a1 r1 s1 => ?_
    split at he
    · rename_i i f1
      cases he
      have := rint (pr_flat a1.E r1 f1)
      subst this
      exact ⟨i, rfl, hq H1 G1 fps1 a1.drop s1⟩
    · cases he
  · exact h1 X W ok env σ H G fps _ _ E e1 fun cls d H1 G1 fps1 a1 x1 => hq cls d H1 G1 fps1 a1 x1⟩
theorem se_sl {a : CE} {lo hi : CEo} {x : Expr} {l h : Option Expr} {p p2 : Pos} (h1 : SE c N sc fn x a) (h2 : SO_ c N sc fn l lo) (h3 : SO_ c N sc fn h hi) : SE c N sc fn (.Subscript x (.Slice l h none p2) p) (.sl a lo hi) := by
  intro X W ok env σ H G fps out Q E he hq
  simp only [evalE_sl] at he
  obtain ⟨t2, p2', h2⟩ := h2 X W ok
  obtain ⟨t3, p3', h3⟩ := h3 X W ok
  refine tE_of (pe_slice slAny (peS X x) p2' p3') ?_
  rcases bnd_ways he with ⟨p1, env1, e1, he⟩ | ⟨z, env1, e1, rfl⟩
  · refine h1 X W ok env σ H G fps _ _ E e1 fun vx H1 G1 fps1 fpt1 a1 r1 s1 => ?_
    rcases bnd_ways he with ⟨l', env2, e2, he⟩ | ⟨z, env2, e2, rfl⟩
    · refine h2 env1 σ H1 G1 fps1 _ _ a1.E e2 fun H2 G2 fps2 a2 s2 => ?_
      rcases bnd_ways he with ⟨h', env3, e3, he⟩ | ⟨z, env3, e3, rfl⟩
      · split at he
        · rename_i hst
          split at he
          · rename_i dx f1
            cases hb : slO dx l' h' with
            | none => rw [hb] at he; cases he
            | some o =>
              rw [hb] at he
              cases he
              refine h3 env2 σ H2 G2 fps2 _ _ a2.E e3 fun H3 G3 fps3 a3 s3 => ?_
              obtain ⟨r1', a1'⟩ := r1.next a1 (a2.next a3) hst fun hn => by
                simp only [Bool.and_eq_true] at hn
                exact (s2 hn.1).trans (s3 hn.2)
              refine sl_ok a3.E.gh (ok.eK ▸ pr_flat a3.E r1' f1) hb ?_
              rw [ok.eK]
              exact resO_of a3.E fun v H4 fp a4 r4 s4 => hq v H4 G3 fps3 fp (((a1.next a2).next a3).next a4) r4 fun hn => by
                simp only [noeff_sl, Bool.and_eq_true] at hn
                exact (s1 hn.1.1).trans ((s2 hn.1.2).trans ((s3 hn.2).trans s4))
          · cases he
        · cases he
      · exact h3 env2 σ H2 G2 fps2 _ _ a2.E e3 fun cls d H3 G3 fps3 a3 x3 => hq cls d H3 G3 fps3 ((a1.next a2).next a3) x3
    · exact h2 env1 σ H1 G1 fps1 _ _ a1.E e2 fun cls d H3 G3 fps3 a3 x3 => hq cls d H3 G3 fps3 (a1.next a3) x3
  · exact h1 X W ok env σ H G fps _ _ E e1 fun cls d H1 G1 fps1 a1 x1 => hq cls d H1 G1 fps1 a1 x1
end
end NW
end
section
set_option linter.all false
set_option maxRecDepth 100000
set_option maxHeartbeats 1000000
/-! NWi: calls, displays of dicts -/
namespace NW
open PySem L2 PyProof.Rows
section
variable {c : Ct} {N : List Str} {sc : Scope} {fn : Str → Bool}
theorem biName_in (b : BI) : biName b ∈ bltNames := by cases b <;> decide +kernel
theorem biName_nm (b : BI) : (biName b == ("__debug__" : Str)) = false ∧ biName b ≠ "__name__" := by cases b <;> decide +kernel
theorem bi_boot (b : BI) : bootBuiltins (biName b) = some (biVal b) := by cases b <;> decide +kernel
theorem bi_kind (b : BI) : (∃ id, biVal b = .builtin id) ∨ ∃ T, biVal b = .type T := by
  cases b <;> first | exact .inl ⟨_, rfl⟩ | exact .inr ⟨_, rfl⟩
theorem pe_bi {X : Cx} {W : WX} (ok : CtxOk c X W N sc fn) (b : BI) {r : List V → Hp → VK → Prop} (hc : CallR X (biVal b) r) {x : Str} {e : Expr} {es : List Expr} {as : CEs} {p pos : Pos} (hx : x = biName b) (hg : glB sc x = true) (hm : mEs N as sc fn (e :: es) = true) :
    PE X (.Call (.Name x p) (e :: es) [] pos) (tCB r (tA X (e :: es))) := by
  subst hx
  have hst : isStar e = false := by
    cases as with
    | nil => simp [mEs_nil] at hm
    | cons a as =>
      simp only [mEs_cons, Bool.and_eq_true, Bool.not_eq_true'] at hm
      exact hm.1.1
  have hpl : (backTo pos (starEach es X.env)).any (·.1) = false := by
    cases as with
    | nil => simp [mEs_nil] at hm
    | cons a as =>
      simp only [mEs_cons, Bool.and_eq_true, Bool.not_eq_true'] at hm
      exact starEach_any X.env pos hm.2
  obtain ⟨n1, n2⟩ := biName_nm b
  rcases bi_kind b with ⟨id, e'⟩ | ⟨T, e'⟩
  · exact pe_callB (id := id) (e' ▸ hc) (ok.gl hg) (ok.bl (biName_in b)) (e' ▸ bi_boot b) (paS X _) n2 n1 (star_ok hst es X.env) hpl
  · exact pe_callTy (T := T) (e' ▸ hc) (ok.gl hg) (ok.bl (biName_in b)) (e' ▸ bi_boot b) (paS X _) n2 n1 (star_ok hst es X.env) hpl
theorem se_bi {b : BI} {as : CEs} {x : Str} {e : Expr} {es : List Expr} {p pos : Pos} (hx : x = biName b) (hg : glB sc x = true) (hm : mEs N as sc fn (e :: es) = true) (h : SPs c N sc fn (e :: es) as) : SE c N sc fn (.Call (.Name x p) (e :: es) [] pos) (.bi b as) := by
  intro X W ok env σ H G fps out Q E he hq
  simp only [evalE_bi] at he
  refine tE_of (pe_bi ok b callAny hx hg hm) ?_
  rcases bnd_ways he with ⟨ps, env1, e1, he⟩ | ⟨y, env1, e1, rfl⟩
  · refine h X W ok env σ H G fps _ _ E e1 fun vs H1 G1 fps1 fpt1 a1 r1 s1 => ?_
    split at he
    · rename_i ds f1
      cases hb : biO b ds with
      | none => rw [hb] at he; cases he
      | some o =>
        rw [hb] at he
        cases he
        refine bi_ok ok.calm b a1.E.gh (ok.eK ▸ prs_flats a1.E r1 f1) hb ?_
        rw [ok.eK]
        exact resO_of a1.E fun v H3 fp a3 r3 s3 => hq v H3 G1 fps1 fp (a1.next a3) r3 fun hn => (s1 hn).trans s3
    · cases he
  · exact h X W ok env σ H G fps _ _ E e1 fun cls d H1 G1 fps1 a1 x1 => hq cls d H1 G1 fps1 a1 x1
theorem ty_in (T : TyK) : Str.ofString (tyName T) ∈ bltNames := by cases T <;> decide +kernel
theorem ty_nm (T : TyK) : (Str.ofString (tyName T) == ("__debug__" : Str)) = false ∧ Str.ofString (tyName T) ≠ "__name__" := by cases T <;> decide +kernel
theorem ty_boot (T : TyK) : bootBuiltins (Str.ofString (tyName T)) = some (.type (tyName T)) := by cases T <;> decide +kernel
theorem se_isi {a : CE} {T : TyK} {y : Expr} {p p1 p2 : Pos} (hg : glB sc "isinstance" = true) (hz : glB sc (Str.ofString (tyName T)) = true) (hs : isStar y = false) (h : SE c N sc fn y a) : SE c N sc fn (.Call (.Name "isinstance" p) [y, .Name (Str.ofString (tyName T)) p1] [] p2) (.isi a T) := by
  intro X W ok env σ H G fps out Q E he hq
  simp only [evalE_isi] at he
  obtain ⟨n1, n2⟩ := ty_nm T
  refine tE_of (pe_callB callAny (ok.gl hg) (ok.bl (by decide +kernel)) boot_isinstance (pa_cons (peS X y) (pa_cons (pe_bltn (v := .ty (tyName T)) (ok.gl hz) (ok.bl (ty_in T)) (ty_boot T) rfl n2 n1) pa_nil) (star_ok hs _ X.env)) (by decide +kernel) (by decide +kernel) (star_ok hs _ X.env) rfl) ?_
  rcases bnd_ways he with ⟨p, env1, e1, he⟩ | ⟨y, env1, e1, rfl⟩
  · refine h X W ok env σ H G fps _ _ E e1 fun v H1 G1 fps1 fpt1 a1 r1 s1 => ?_
    split at he
    · rename_i d f1
      cases he
      exact isi_ok T (ok.eK ▸ pr_flat a1.E r1 f1) (hq _ H1 G1 fps1 [] a1.drop ⟨rfl, .bl _⟩ s1)
    · cases he
  · exact h X W ok env σ H G fps _ _ E e1 fun cls d H1 G1 fps1 a1 x1 => hq cls d H1 G1 fps1 a1 x1
/-! ### defs -/
theorem arg_len {K : PySem.W.Frag} {H : Hp} {vs : List V} {ds : List D} (r : DpAll K H vs ds) : vs.length = ds.length := dpAll_length r
theorem step_lift {K : PySem.W.Frag} {σ : L2.St} {H0 H1 H2 : Hp} {G0 G1 G2 : Addr → Prop} {fps0 fps1 : Fs} {env1 : Env} {fpt1 : List Addr} (a : Aft K σ H0 G0 fps0 env1 H1 G1 fps1 fpt1) (s : Step H1 G1 F0 H2 G2 F0) (g : GHeld H2 G2) : Aft K σ H1 G1 fps1 env1 H2 G2 fps1 [] :=
  ⟨a.E.step s (fun _ _ f => f) (fun _ _ f => f) g, ⟨fun b u e _ => s.keep b u e fun f => f, s.tups, s.frzs, s.gsub, fun b h => (s.gnew b h).elim .inl fun z => z.elim (fun f => f.elim) fun z => .inr (.inr z), fun b h => .inl h⟩, (fun b hb => nomatch hb), (fun b hb => nomatch hb)⟩
theorem f0_same {H1 H2 : Hp} {G1 G2 : Addr → Prop} (s : Step H1 G1 F0 H2 G2 F0) : Same H1 H2 := fun b u e => s.keep b u e fun f => f
/-- behind the arguments of a call: its promise gives the rest -/
theorem call_tail {m : Mean} {X : Cx} {W : WX} {env1 : Env} {σ : L2.St} {H H1 : Hp} {G G1 : Addr → Prop} {fps fps1 : Fs} {out : Out P} {Q : VK} {ne : Bool} {ds : List D} {vs : List V}
    (a1 : Aft c.K σ H G fps env1 H1 G1 fps1 []) (r1 : RpA c.K H1 G1 vs ds) (s1 : ne = true → Same H H1) (he : callD m ds env1 = some out) (hq : GE c W σ H G fps ne Q out) : spOf c m vs H1 Q (WE W σ) := by
  cases m with
  | pure n m =>
    simp only [callD] at he
    split at he
    · rename_i hn
      split at he
      · rename_i d hd
        cases he
        refine ⟨G1, ds, .ok d, a1.E.gh, r1, hn, hd, fun v H2 G2 st gh r2 => ?_⟩
        exact hq v H2 G2 fps1 [] (a1.next (step_lift a1 st gh)) ⟨rfl, r2⟩ fun hn => (s1 hn).trans (f0_same st)
      · rename_i x hd
        cases he
        refine ⟨G1, ds, .error x, a1.E.gh, r1, hn, hd, fun cls dd H2 G2 st gh r2 => ?_⟩
        exact hq cls dd H2 G2 fps1 (a1.next (step_lift a1 st gh)) r2
      · cases he
    · cases he
  | mk n m =>
    simp only [callD] at he
    split at he
    · rename_i hn
      split at he
      · rename_i o hd
        cases he
        refine ⟨G1, ds, o, a1.E.gh, r1, hn, hd, fun v H2 G2 fp st gh r2 hnew => ?_⟩
        have a2 := step_lift a1 st gh
        refine hq v H2 G2 fps1 fp ⟨a2.E, (a1.next a2).S, fun b hb => (a1.S.none_of (hnew b hb)).symm, fun b hb f => ?_⟩ r2 fun hn => (s1 hn).trans (f0_same st)
        obtain ⟨_, u, e⟩ := a1.E.held f
        rw [hnew b hb] at e; cases e
      · cases he
    · cases he
  | io n m => cases he
theorem pe_callS0 {X : Cx} {CX : CXT} {k : Nat} {f : Addr} {fd : FuncData} {ps : List Str} {sp : Sp} {E : L2.St → XK} {x : Str} {p pos : Pos} (F : FnOk X.prog X.w X.K X.mg X.base CX k f fd ps sp) (hr : Room k X.A) (hg : Gl X x) (hm : X.mg x = some (.ref f)) (hk : PySem.W.keepIn X.K (.ref f) = true) (hb : Binds X.K fd ps []) (hx : ∀ σ, PassesAt CX X σ (E σ))
    (hdb : (x == ("__debug__" : Str)) = false) : PE X (.Call (.Name x p) [] [] pos) (tCallS sp E tNil) := by
  refine ⟨fun pins s σ H Q I h => ?_⟩
  refine wpAny_Call_Name_kw (ld_glob I hg hm ?_ hdb)
  exact PySem.W.callWith_K0 I.kIn hk (run_fnS (us := []) F hr hb (hx σ) I .nil h)
theorem plain_of {as : CEs} {e : Expr} {es : List Expr} {pos : Pos} (env : PySem.Env) (hm : mEs N as sc fn (e :: es) = true) : isStar e = false ∧ (backTo pos (starEach es env)).any (·.1) = false := by
  cases as with
  | nil => simp [mEs_nil] at hm
  | cons a as =>
    simp only [mEs_cons, Bool.and_eq_true, Bool.not_eq_true'] at hm
    exact ⟨hm.1.1, starEach_any env pos hm.2⟩
theorem nil_of {as : CEs} (hm : mEs N as sc fn [] = true) : as = .nil := by
  cases as with
  | nil => rfl
  | cons a as => simp [mEs_cons] at hm
theorem se_call {f : Str} {as : CEs} {l : List Expr} {p pos : Pos} (hg : glB sc f = true) (hm : mEs N as sc fn l = true) (h : SDs c N sc fn l as) : SE c N sc fn (.Call (.Name f p) l [] pos) (.call f as) := by
  intro X W ok env σ H G fps out Q E he hq
  simp only [evalE_call] at he
  split at he
  · rename_i m hf
    obtain ⟨fa, fd, ps, k, F, hr, hmg, hk, hb, hdb⟩ := ok.fns f m hf
    cases l with
    | nil =>
      have := nil_of hm
      subst this
      simp only [evalDs_nil, bnd_ok] at he
      exact tE_of (pe_callS0 F hr (ok.gl hg) (by rw [ok.eM]; exact hmg) (by rw [ok.eK]; exact hk) (by rw [ok.eK]; exact hb) (fun σ => passAt ok.tk σ) hdb) (call_tail (X := X) (Aft.refl E) .nil (fun _ => same_refl H) he hq)
    | cons e es =>
      obtain ⟨hst, hpl⟩ := plain_of (pos := pos) X.env hm
      refine tE_of (pe_callS F hr (ok.gl hg) (by rw [ok.eM]; exact hmg) (by rw [ok.eK]; exact hk) (by rw [ok.eK]; exact hb) (fun σ => passAt ok.tk σ) (paS X _) hdb (star_ok hst es X.env) hpl) ?_
      rcases bnd_ways he with ⟨ds, env1, e1, he⟩ | ⟨y, env1, e1, rfl⟩
      · exact h X W ok env σ H G fps _ _ E e1 fun vs H1 G1 fps1 a1 r1 s1 => call_tail (X := X) a1 r1 s1 he hq
      · exact h X W ok env σ H G fps _ _ E e1 fun cls d H1 G1 fps1 a1 x1 => hq cls d H1 G1 fps1 a1 x1
  · cases he
/-- what a call changes at a name's place -/
theorem Aft.io {K : PySem.W.Frag} {σ : L2.St} {H0 H1 H2 : Hp} {G0 G1 G2 : Addr → Prop} {fps0 fps1 : Fs} {env1 : Env} {i : Nat} {o o' : O} {v : V} {fp' : List Addr} (a : Aft K σ H0 G0 fps0 env1 H1 G1 fps1 [])
    (hs : slot env1 i = some o) (hv : σ[i]? = some (some v)) (s : Step H1 G1 (· ∈ fps1 i) H2 G2 (· ∈ fp')) (g : GHeld H2 G2) (r : Ow K H2 G2 o' v fp') :
    Aft K σ H1 G1 fps1 (env1.set i (some o')) H2 G2 (updF fps1 i fp') [] := by
  have hi := slot_lt hs
  have off : ∀ j, j ≠ i → ∀ b ∈ fps1 j, ¬ b ∈ fps1 i := fun j hj b hb hb' => hj (a.E.dis j i b hb hb')
  have offN : ∀ j, j ≠ i → ∀ b ∈ fps1 j, ¬ b ∈ fp' := fun j hj b hb hb' => by
    rcases s.fnew b hb' with z | z
    · exact off j hj b hb z
    · obtain ⟨_, u, e⟩ := a.E.held ⟨j, hb⟩
      rw [z] at e; cases e
  refine ⟨⟨g, by rw [List.length_set]; exact a.E.len, fun j o2 hj => ?_, fun j hj => ?_, fun j k b hb hb' => ?_⟩, ⟨fun b u e nf => s.keep b u e fun f => nf ⟨i, f⟩, s.tups, s.frzs, s.gsub, fun b hb => ?_, fun b ⟨j, hj⟩ => ?_⟩, (fun b hb => nomatch hb), (fun b hb => nomatch hb)⟩
  · rw [slot_set hi] at hj
    by_cases e : j = i
    · rw [if_pos e] at hj
      cases hj
      subst e
      exact ⟨v, hv, by rw [updF_same]; exact r⟩
    · rw [if_neg e] at hj
      obtain ⟨w, hw, q⟩ := a.E.rep j o2 hj
      rw [updF_ne e]
      exact ⟨w, hw, q.step s (fun b hb f => a.E.gf b hb ⟨i, f⟩) (off j e)⟩
  · rw [slot_set hi] at hj
    by_cases e : j = i
    · rw [if_pos e] at hj; cases hj
    · rw [if_neg e] at hj
      rw [updF_ne e]; exact a.E.emp j hj
  · unfold updF at hb hb'
    split at hb
    · rename_i e
      split at hb'
      · rename_i e'
        rw [e, e']
      · rename_i e'
        exact (offN k e' b hb' hb).elim
    · rename_i e
      split at hb'
      · exact (offN j e b hb hb').elim
      · exact a.E.dis j k b hb hb'
  · rcases s.gnew b hb with z | z | z
    · exact .inl z
    · exact .inr (.inl ⟨i, z⟩)
    · exact .inr (.inr z)
  · unfold updF at hj
    split at hj
    · rcases s.fnew b hj with z | z
      · exact .inl ⟨i, z⟩
      · exact .inr z
    · exact .inl ⟨j, hj⟩
theorem io_tail {m : Mean} {X : Cx} {W : WX} {env1 : Env} {σ : L2.St} {H H1 : Hp} {G G1 : Addr → Prop} {fps fps1 : Fs} {out : Out P} {Q : VK} {i : Nat} {ds : List D} {vs : List V} {v : V}
    (a1 : Aft c.K σ H G fps env1 H1 G1 fps1 []) (r1 : RpA c.K H1 G1 vs ds) (hv : σ[i]? = some (some v)) (he : callI m i ds env1 = some out) (hq : GE c W σ H G fps false Q out) : spOf c m (v :: vs) H1 Q (WE W σ) := by
  cases m with
  | io n m =>
    simp only [callI] at he
    split at he
    · rename_i hn
      split at he
      · rename_i o ho
        obtain ⟨w, hw, hr⟩ := a1.E.rep i o ho
        rw [hv] at hw
        cases hw
        split at he
        · rename_i d o' hd
          cases he
          refine ⟨G1, o, o', v, vs, fps1 i, ds, .ok d, a1.E.gh, rfl, hr, r1, hn, hd, fun u H2 G2 fp' st gh r2 rd => ?_⟩
          exact hq u H2 G2 _ [] (a1.next (a1.io ho hv st gh r2)) ⟨rfl, rd⟩ (fun z => nomatch z)
        · rename_i x o' hd
          cases he
          refine ⟨G1, o, o', v, vs, fps1 i, ds, .error x, a1.E.gh, rfl, hr, r1, hn, hd, fun cls dd H2 G2 fp' st gh r2 rx => ?_⟩
          exact hq cls dd H2 G2 _ (a1.next (a1.io ho hv st gh r2)) rx
        · cases he
      · cases he
    · cases he
  | pure n m => cases he
  | mk n m => cases he
theorem se_cio {f : Str} {i : Nat} {y : Str} {as : CEs} {l : List Expr} {p p2 pos : Pos} (hg : glB sc f = true) (hy : (decide (N[i]? = some y) && visB sc y && nmB y) = true) (hm : mEs N as sc fn l = true) (h : SDs c N sc fn l as) :
    SE c N sc fn (.Call (.Name f p) (.Name y p2 :: l) [] pos) (.cio f i as) := by
  intro X W ok env σ H G fps out Q E he hq
  simp only [evalE_cio] at he
  split at he
  · rename_i m hf
    obtain ⟨fa, fd, ps, k, F, hr, hmg, hk, hb, hdb⟩ := ok.fns f m hf
    split at he
    · rename_i hsome
      obtain ⟨o, ho⟩ := Option.isSome_iff_exists.mp hsome
      obtain ⟨v, hv, _⟩ := E.rep i o ho
      refine tE_of (pe_callS F hr (ok.gl hg) (by rw [ok.eM]; exact hmg) (by rw [ok.eK]; exact hk) (by rw [ok.eK]; exact hb) (fun σ => passAt ok.tk σ) (pa_cons (peS X _) (paS X l) (star_ok rfl l X.env)) hdb (star_ok rfl l X.env) (starEach_any X.env pos hm)) ?_
      refine tE_var ok hy hv ?_
      rcases bnd_ways he with ⟨ds, env1, e1, he⟩ | ⟨z, env1, e1, rfl⟩
      · exact h X W ok env σ H G fps _ _ E e1 fun vs H1 G1 fps1 a1 r1 s1 => io_tail (X := X) a1 r1 hv he hq
      · exact h X W ok env σ H G fps _ _ E e1 fun cls d H1 G1 fps1 a1 x1 => hq cls d H1 G1 fps1 a1 x1
    · cases he
  · cases he
end
end NW
end
section
set_option linter.all false
set_option maxRecDepth 100000
set_option maxHeartbeats 1000000
/-! NWj: sources, targets, displays of dicts -/
namespace NW
open PySem L2 PyProof.Rows
/-! ### sources -/
section
variable {K : PySem.W.Frag} {H : Hp} {G : Addr → Prop}
theorem rp_keep {d : D} {v : V} {H H' : Hp} {G F G' F' : Addr → Prop} (s : Step H G F H' G' F') (dis : ∀ b, G b → ¬ F b) (h : Rp K H G v d) : Rp K H' G' v d := dp_mono (s.sub dis) _ _ h
theorem rlist {v : V} {ds : List D} (h : Rp K H G v (.list ds)) : ∃ a xs, v = .ref a ∧ SqL K H a xs ∧ RpA K H G xs ds := by
  cases h with
  | lst h1 h2 => exact ⟨_, _, rfl, (sub_forget K H G).l _ _ h1, h2⟩
theorem sqL_one {H : Hp} {a : Addr} {xs : List V} {i : Nat} {x : V} (h : SqL K H a xs) (e : xs[i]? = some x) {y : V} (q : ∀ zs, SqL K H a zs → zs[i]? = some y) : y = x := by
  have := q xs h
  rw [e] at this
  exact (Option.some.inj this).symm
theorem sqT_one {H : Hp} {a : Addr} {xs : List V} {i : Nat} {x : V} (h : SqT K H a xs) (e : xs[i]? = some x) {y : V} (q : ∀ zs, SqT K H a zs → zs[i]? = some y) : y = x := by
  have := q xs h
  rw [e] at this
  exact (Option.some.inj this).symm
theorem src_list {a : Addr} {ds : List D} (h : Rp K H G (.ref a) (.list ds)) : Src K (Itl K a) ds H G := by
  refine ⟨fun H G => Rp K H G (.ref a) (.list ds), h, fun H G F H' G' F' s dis r => rp_keep s dis r, fun i H G r => ?_⟩
  obtain ⟨a', xs, e, hs, hr⟩ := rlist r
  cases e
  refine ⟨fun d hd => ?_, fun hl => ⟨xs, hs, by rw [dpAll_length hr]; exact hl⟩⟩
  obtain ⟨v, hv, hd⟩ := dpAll_get hr hd
  refine ⟨⟨xs, v, hs, hv⟩, fun x H' y => ?_⟩
  obtain ⟨e, y⟩ := y
  subst e
  rw [sqL_one hs hv y]
  exact ⟨same_refl _, hd⟩
theorem src_tup {a : Addr} {ds : List D} (h : Rp K H G (.ref a) (.tuple ds)) : Src K (Itt K a) ds H G := by
  refine ⟨fun H G => Rp K H G (.ref a) (.tuple ds), h, fun H G F H' G' F' s dis r => rp_keep s dis r, fun i H G r => ?_⟩
  obtain ⟨a', xs, e, hs, hr⟩ := rtup r
  cases e
  refine ⟨fun d hd => ?_, fun hl => ⟨xs, hs, by rw [dpAll_length hr]; exact hl⟩⟩
  obtain ⟨v, hv, hd⟩ := dpAll_get hr hd
  refine ⟨⟨xs, v, hs, hv⟩, fun x H' y => ?_⟩
  obtain ⟨e, y⟩ := y
  subst e
  rw [sqT_one hs hv y]
  exact ⟨same_refl _, hd⟩
theorem rangeD_length : ∀ (n : Nat) (lo : Int), (rangeD lo n).length = n
  | 0, _ => rfl
  | n + 1, lo => by rw [rangeD, List.length_cons, rangeD_length n]
theorem rangeD_get : ∀ (n : Nat) (lo : Int) (i : Nat) (d : D), (rangeD lo n)[i]? = some d → i < n ∧ d = .int (lo + i)
  | 0, lo, i, d, h => by simp [rangeD] at h
  | n + 1, lo, 0, d, h => by
    simp [rangeD] at h
    exact ⟨Nat.succ_pos _, by rw [← h]; simp⟩
  | n + 1, lo, i + 1, d, h => by
    obtain ⟨h1, h2⟩ := rangeD_get n (lo + 1) i d (by simpa [rangeD] using h)
    refine ⟨Nat.succ_lt_succ h1, ?_⟩
    rw [h2]; congr 1; omega
theorem src_rng {lo : Int} {n : Nat} : Src K (Itr lo n) (rangeD lo n) H G := by
  refine ⟨fun _ _ => True, trivial, fun _ _ _ _ _ _ _ _ _ => trivial, fun i H G _ => ⟨fun d hd => ?_, fun hl => by rw [rangeD_length] at hl; exact hl⟩⟩
  obtain ⟨h1, rfl⟩ := rangeD_get n lo i d hd
  refine ⟨h1, fun x H' y => ?_⟩
  obtain ⟨e1, e2⟩ := y
  subst e1 e2
  exact ⟨same_refl _, .int _⟩
theorem enumFrom_get : ∀ (ds : List D) (n i : Nat) (d : D), (enumFrom n ds)[i]? = some d → ∃ e, ds[i]? = some e ∧ d = .tuple [.int ((n + i : Nat) : Int), e]
  | [], _, i, d, h => by simp [enumFrom] at h
  | e :: ds, n, 0, d, h => by
    simp [enumFrom] at h
    exact ⟨e, rfl, by rw [← h]; simp⟩
  | e :: ds, n, i + 1, d, h => by
    obtain ⟨e', h1, h2⟩ := enumFrom_get ds (n + 1) i d (by simpa [enumFrom] using h)
    refine ⟨e', by simpa using h1, ?_⟩
    rw [h2, show n + 1 + i = n + (i + 1) by omega]
theorem enumFrom_length : ∀ (ds : List D) (n : Nat), (enumFrom n ds).length = ds.length
  | [], _ => rfl
  | d :: ds, n => by rw [enumFrom, List.length_cons, List.length_cons, enumFrom_length ds]
theorem new_pair {T : Addr} {x y : V} {dx dy : D} (hT : H T = none) (hx : Rp K H G x dx) (hy : Rp K H G y dy) : Same H (upd H T (.tup [x, y])) ∧ Rp K (upd H T (.tup [x, y])) G (.ref T) (.tuple [dx, dy]) := by
  have s := same_upd (o := .tup [x, y]) hT
  exact ⟨s, tup_r (SqT.of upd_same) (.cons (dp_mono (same_sub s) _ _ hx) (.cons (dp_mono (same_sub s) _ _ hy) .nil))⟩
theorem src_enum {a : Addr} {ds : List D} (h : Rp K H G (.ref a) (.list ds)) : Src K (Ite K a) (enumFrom 0 ds) H G := by
  refine ⟨fun H G => Rp K H G (.ref a) (.list ds), h, fun H G F H' G' F' s dis r => rp_keep s dis r, fun i H G r => ?_⟩
  obtain ⟨a', xs, e, hs, hr⟩ := rlist r
  cases e
  refine ⟨fun d hd => ?_, fun hl => ⟨xs, hs, by rw [dpAll_length hr]; rw [enumFrom_length] at hl; exact hl⟩⟩
  obtain ⟨e, he, rfl⟩ := enumFrom_get ds 0 i d hd
  obtain ⟨v, hv, hd⟩ := dpAll_get hr he
  refine ⟨⟨xs, v, hs, hv⟩, fun x H' y => ?_⟩
  obtain ⟨T, z, e1, hT, e2, y⟩ := y
  subst e1 e2
  rw [sqL_one hs hv y]
  have := new_pair (x := .int (i : Nat)) (y := v) (K := K) (G := G) hT (.int _) hd
  rw [Nat.zero_add]
  exact this
theorem zipD_get : ∀ (as bs : List D) (i : Nat) (d : D), (zipD as bs)[i]? = some d → ∃ x y, as[i]? = some x ∧ bs[i]? = some y ∧ d = .tuple [x, y]
  | [], _, i, d, h => by simp [zipD] at h
  | _ :: _, [], i, d, h => by simp [zipD] at h
  | a :: as, b :: bs, 0, d, h => by
    simp [zipD] at h
    exact ⟨a, b, rfl, rfl, h.symm⟩
  | a :: as, b :: bs, i + 1, d, h => by
    obtain ⟨x, y, h1, h2, h3⟩ := zipD_get as bs i d (by simpa [zipD] using h)
    exact ⟨x, y, by simpa using h1, by simpa using h2, h3⟩
theorem zipD_length : ∀ (as bs : List D) (i : Nat), (zipD as bs).length ≤ i → as.length ≤ i ∨ bs.length ≤ i
  | [], _, i, h => .inl (Nat.zero_le _)
  | _ :: _, [], i, h => .inr (Nat.zero_le _)
  | a :: as, b :: bs, i, h => by
    rw [zipD, List.length_cons] at h
    cases i with
    | zero => omega
    | succ i =>
      rcases zipD_length as bs i (by omega) with z | z
      · exact .inl (by simpa using z)
      · exact .inr (by simpa using z)
theorem src_zip {a b : Addr} {ds es : List D} (h : Rp K H G (.ref a) (.list ds)) (h2 : Rp K H G (.ref b) (.list es)) : Src K (Itz K a b) (zipD ds es) H G := by
  refine ⟨fun H G => Rp K H G (.ref a) (.list ds) ∧ Rp K H G (.ref b) (.list es), ⟨h, h2⟩, fun H G F H' G' F' s dis r => ⟨rp_keep s dis r.1, rp_keep s dis r.2⟩, fun i H G r => ?_⟩
  obtain ⟨r, r'⟩ := r
  obtain ⟨_, xs, e, hs, hr⟩ := rlist r
  cases e
  obtain ⟨_, ys, e, hs', hr'⟩ := rlist r'
  cases e
  refine ⟨fun d hd => ?_, fun hl => ⟨xs, ys, hs, hs', by rw [dpAll_length hr, dpAll_length hr']; exact zipD_length _ _ _ hl⟩⟩
  obtain ⟨x, y, hx, hy, rfl⟩ := zipD_get ds es i d hd
  obtain ⟨v, hv, hd⟩ := dpAll_get hr hx
  obtain ⟨w, hw, hd'⟩ := dpAll_get hr' hy
  refine ⟨⟨xs, ys, v, w, hs, hs', hv, hw⟩, fun x H' y => ?_⟩
  obtain ⟨T, z1, z2, e1, hT, e2, y1, y2⟩ := y
  subst e1 e2
  rw [sqL_one hs hv y1, sqL_one hs' hw y2]
  exact new_pair hT hd hd'
theorem src_zipT {a b : Addr} {ds es : List D} (h : Rp K H G (.ref a) (.tuple ds)) (h2 : Rp K H G (.ref b) (.tuple es)) : Src K (RZ.ItzT K a b) (zipD ds es) H G := by
  refine ⟨fun H G => Rp K H G (.ref a) (.tuple ds) ∧ Rp K H G (.ref b) (.tuple es), ⟨h, h2⟩, fun H G F H' G' F' s dis r => ⟨rp_keep s dis r.1, rp_keep s dis r.2⟩, fun i H G r => ?_⟩
  obtain ⟨r, r'⟩ := r
  obtain ⟨_, xs, e, hs, hr⟩ := rtup r
  cases e
  obtain ⟨_, ys, e, hs', hr'⟩ := rtup r'
  cases e
  refine ⟨fun d hd => ?_, fun hl => ⟨xs, ys, hs, hs', by rw [dpAll_length hr, dpAll_length hr']; exact zipD_length _ _ _ hl⟩⟩
  obtain ⟨x, y, hx, hy, rfl⟩ := zipD_get ds es i d hd
  obtain ⟨v, hv, hd⟩ := dpAll_get hr hx
  obtain ⟨w, hw, hd'⟩ := dpAll_get hr' hy
  refine ⟨⟨xs, ys, v, w, hs, hs', hv, hw⟩, fun x H' y => ?_⟩
  obtain ⟨T, z1, z2, e1, hT, e2, y1, y2⟩ := y
  subst e1 e2
  rw [sqT_one hs hv y1, sqT_one hs' hw y2]
  exact new_pair hT hd hd'
end
/-- a row, a list or a tuple -/
theorem pi_row {X : Cx} {tg : Expr} {l : Expr} {tl : TE} (hl : PE X l tl) : PI X tg l (fun σ H R => tl σ H fun x H1 => ∃ a, x = .ref a ∧ (((∃ xs, SqL X.K H1 a xs) ∧ R (Itl X.K a) H1) ∨ ((∃ xs, SqT X.K H1 a xs) ∧ R (Itt X.K a) H1))) := by
  refine ⟨fun pins s σ H R I h => ?_⟩
  refine thn (hl.run pins s σ H _ I h) fun v s1 ⟨x, H1, I1, r1, q1⟩ => ?_
  obtain ⟨a, e, ⟨⟨xs, hq⟩, q⟩ | ⟨⟨xs, hq⟩, q⟩⟩ := q1
  · subst e
    cases r1
    obtain ⟨its, rv, p, hz⟩ := I1.list hq
    refine wpAny_pyIter_list p.isList ?_
    refine ⟨s1.heap.objs.size, [s1.heap.objs.size], _, _, H1, rfl, I1.kept (t' := s1.toks) fun b o e => Heap.get?_push_of_some _ e, turn_list a _, ⟨_, Heap.get?_push_size _ rfl, rfl, rfl⟩, fun b hb => ?_, q⟩
    have e : b = s1.heap.objs.size := by simpa using hb
    subst e
    exact I1.fpOk (Nat.le_refl _) (I1.hok.fresh (Nat.le_refl _))
  · subst e
    cases r1
    obtain ⟨its, rv, p, hz⟩ := I1.tuple hq
    refine wpAny_pyIter_tuple (show s1.heap.IsTuple a its.toArray from p) ?_
    refine ⟨s1.heap.objs.size, [s1.heap.objs.size], _, _, H1, rfl, I1.kept (t' := s1.toks) fun b o e => Heap.get?_push_of_some _ e, turn_tuple a _, ⟨_, Heap.get?_push_size _ rfl, rfl, rfl⟩, fun b hb => ?_, q⟩
    have e : b = s1.heap.objs.size := by simpa using hb
    subst e
    exact I1.fpOk (Nat.le_refl _) (I1.hok.fresh (Nat.le_refl _))
section
variable (c : Ct) (N : List Str)
def SI (sc : Scope) (fn : Str → Bool) (tg e : Expr) (a : CI) : Prop := ∀ X W, CtxOk c X W N sc fn → ∀ env σ H G fps out R, EnvR c.K env σ H G fps → evalI c.Γ a env = some out → GI c W σ H G fps (noeffi a) R out → tI X tg e σ H R
end
section
variable {c : Ct} {N : List Str} {sc : Scope} {fn : Str → Bool} {tg : Expr}
theorem rng_ok {n : Int} (h : rngOk n = true) : -(2 ^ 62) ≤ n ∧ n < 2 ^ 62 := by
  rw [rngOk_def] at h
  rw [Bool.and_eq_true] at h
  exact ⟨of_decide_eq_true h.1, of_decide_eq_true h.2⟩
theorem si_of {e : Expr} {a : CE} (h : SE c N sc fn e a) : SI c N sc fn tg e (.of a) := by
  intro X W ok env σ H G fps out R E he hq
  simp only [evalI_of] at he
  refine tI_of (pi_row (peS X e)) ?_
  rcases bnd_ways he with ⟨p, env1, e1, he⟩ | ⟨y, env1, e1, rfl⟩
  · refine h X W ok env σ H G fps _ _ E e1 fun v H1 G1 fps1 fpt1 a1 r1 s1 => ?_
    rcases bnd_ways he with ⟨d, env2, e2, he⟩ | ⟨y, env2, e2, rfl⟩
    · obtain ⟨G2, fps2, a2, r2⟩ := frz_ok a1 r1 e2
      cases d <;> try cases he
      · obtain ⟨b, xs, rfl, hs, _⟩ := rlist r2
        rw [ok.eK]
        exact ⟨b, rfl, .inl ⟨⟨xs, hs⟩, hq _ H1 G2 fps2 a2 (src_list r2) s1⟩⟩
      · obtain ⟨b, xs, rfl, hs, _⟩ := rtup r2
        rw [ok.eK]
        exact ⟨b, rfl, .inr ⟨⟨xs, hs⟩, hq _ H1 G2 fps2 a2 (src_tup r2) s1⟩⟩
    · exact (frz_not e2).elim
  · exact h X W ok env σ H G fps _ _ E e1 fun cls d H1 G1 fps1 a1 x1 => hq cls d H1 G1 fps1 a1 x1
theorem si_rng {e : Expr} {a : CE} {p pos : Pos} (hg : glB sc "range" = true) (hs : isStar e = false) (h : SE c N sc fn e a) : SI c N sc fn tg (.Call (.Name "range" p) [e] [] pos) (.rng a) := by
  intro X W ok env σ H G fps out R E he hq
  simp only [evalI_rng] at he
  refine tI_of (pi_range1 (ok.gl hg) (ok.bl (by decide +kernel)) (pa_cons (peS X e) pa_nil (star_ok hs _ X.env)) (star_ok hs _ X.env)) ?_
  rcases bnd_ways he with ⟨p, env1, e1, he⟩ | ⟨y, env1, e1, rfl⟩
  · refine h X W ok env σ H G fps _ _ E e1 fun v H1 G1 fps1 fpt1 a1 r1 s1 => ?_
    split at he
    · rename_i n f1
      split at he
      · rename_i hn
        cases he
        have := rint (pr_flat a1.E r1 f1)
        subst this
        exact ⟨n, rfl, (rng_ok hn).1, (rng_ok hn).2, hq _ H1 G1 fps1 a1.drop src_rng s1⟩
      · cases he
    · cases he
  · exact h X W ok env σ H G fps _ _ E e1 fun cls d H1 G1 fps1 a1 x1 => hq cls d H1 G1 fps1 a1 x1
theorem si_rng2 {e e' : Expr} {a b : CE} {p pos : Pos} (hg : glB sc "range" = true) (hs : isStar e = false) (hs' : isStar e' = false) (h : SE c N sc fn e a) (h' : SE c N sc fn e' b) : SI c N sc fn tg (.Call (.Name "range" p) [e, e'] [] pos) (.rng2 a b) := by
  intro X W ok env σ H G fps out R E he hq
  simp only [evalI_rng2] at he
  refine tI_of (pi_range2 (ok.gl hg) (ok.bl (by decide +kernel)) (pa_cons (peS X e) (pa_cons (peS X e') pa_nil (star_ok hs' _ X.env)) (star_ok hs _ X.env)) (by rw [star_ok hs, star_ok hs']; rfl) (star_ok hs' _ X.env)) ?_
  rcases bnd_ways he with ⟨p1, env1, e1, he⟩ | ⟨y, env1, e1, rfl⟩
  · refine h X W ok env σ H G fps _ _ E e1 fun v H1 G1 fps1 fpt1 a1 r1 s1 => ?_
    rcases bnd_ways he with ⟨p2, env2, e2, he⟩ | ⟨y, env2, e2, rfl⟩
    · refine h' X W ok env1 σ H1 G1 fps1 _ _ a1.E e2 fun v2 H2 G2 fps2 fpt2 a2 r2 s2 => ?_
      split at he
      · rename_i m n f1 f2
        split at he
        · rename_i hn
          cases he
          have z2 := rint (pr_flat a2.E r2 f2)
          subst z2
          -- the first operand is an int, whatever happened behind it
          have z1 : v = .int m := by
            cases p1 with
            | val o =>
              cases o with
              | fz d => cases f1; exact rint r1.2
              | lst ds => cases f1
              | dct kvs => cases f1
            | plc i =>
              obtain ⟨_, hv⟩ := r1
              have f1' : (slot env2 i).bind O.flat = some (.int m) := f1
              cases hso : slot env2 i with
              | none => rw [hso] at f1'; cases f1'
              | some o =>
                rw [hso] at f1'
                obtain ⟨w, hw, ho⟩ := a2.E.rep i o hso
                rw [hv] at hw
                cases hw
                exact rint (ow_flat ho f1')
            | plf i k =>
              unfold flatP at f1
              simp only at f1
              split at f1
              · split at f1 <;> cases f1
              · cases f1
          subst z1
          exact ⟨m, n, rfl, (have hn := Bool.and_eq_true _ _ ▸ hn; ⟨(rng_ok hn.1).1, (rng_ok hn.1).2, (rng_ok hn.2).1, (rng_ok hn.2).2⟩), hq _ H2 G2 fps2 (a1.next a2).drop src_rng fun hn => by
            simp only [noeffi_rng2, Bool.and_eq_true] at hn
            exact (s1 hn.1).trans (s2 hn.2)⟩
        · cases he
      · cases he
    · exact h' X W ok env1 σ H1 G1 fps1 _ _ a1.E e2 fun cls d H3 G3 fps3 a3 x3 => hq cls d H3 G3 fps3 (a1.next a3) x3
  · exact h X W ok env σ H G fps _ _ E e1 fun cls d H1 G1 fps1 a1 x1 => hq cls d H1 G1 fps1 a1 x1
theorem si_enum {e : Expr} {a : CE} {p pos tpos : Pos} {elts : List Expr} {kk : Nat} (hg : glB sc "enumerate" = true) (hs : isStar e = false) (h : SE c N sc fn e a) : SI c N sc fn (.Tuple elts kk tpos) (.Call (.Name "enumerate" p) [e] [] pos) (.enum a) := by
  intro X W ok env σ H G fps out R E he hq
  simp only [evalI_enum] at he
  refine tI_of (pi_enum (ok.gl hg) (ok.bl (by decide +kernel)) (pa_cons (peS X e) pa_nil (star_ok hs _ X.env)) (star_ok hs _ X.env)) ?_
  rcases bnd_ways he with ⟨p, env1, e1, he⟩ | ⟨y, env1, e1, rfl⟩
  · refine h X W ok env σ H G fps _ _ E e1 fun v H1 G1 fps1 fpt1 a1 r1 s1 => ?_
    rcases bnd_ways he with ⟨d, env2, e2, he⟩ | ⟨y, env2, e2, rfl⟩
    · obtain ⟨G2, fps2, a2, r2⟩ := frz_ok a1 r1 e2
      split at he
      · cases he
        obtain ⟨b, xs, rfl, hs, _⟩ := rlist r2
        rw [ok.eK]
        exact ⟨b, xs, rfl, hs, hq _ H1 G2 fps2 a2 (src_enum r2) s1⟩
      · cases he
    · exact (frz_not e2).elim
  · exact h X W ok env σ H G fps _ _ E e1 fun cls d H1 G1 fps1 a1 x1 => hq cls d H1 G1 fps1 a1 x1
theorem si_zip {e e' : Expr} {a b : CE} {p pos tpos : Pos} {elts : List Expr} {kk : Nat} (hg : glB sc "zip" = true) (hs : isStar e = false) (hs' : isStar e' = false) (h : SE c N sc fn e a) (h' : SE c N sc fn e' b) : SI c N sc fn (.Tuple elts kk tpos) (.Call (.Name "zip" p) [e, e'] [] pos) (.zip a b) := by
  intro X W ok env σ H G fps out R E he hq
  simp only [evalI_zip] at he
  refine tI_of (RZ.pi_zipA (ok.gl hg) (ok.bl (by decide +kernel)) (pa_cons (peS X e) (pa_cons (peS X e') pa_nil (star_ok hs' _ X.env)) (star_ok hs _ X.env)) (star_ok hs _ X.env) (by rw [star_ok hs']; rfl)) ?_
  rcases bnd_ways he with ⟨p1, env1, e1, he⟩ | ⟨y, env1, e1, rfl⟩
  · refine h X W ok env σ H G fps _ _ E e1 fun v H1 G1 fps1 fpt1 a1 r1 s1 => ?_
    rcases bnd_ways he with ⟨d, env1b, e1b, he⟩ | ⟨y, env2, e2, rfl⟩
    · obtain ⟨G1b, fps1b, a1b, r1b⟩ := frz_ok a1 r1 e1b
      rcases bnd_ways he with ⟨p2, env2, e2, he⟩ | ⟨y, env2, e2, rfl⟩
      · refine h' X W ok env1b σ H1 G1b fps1b _ _ a1b.E e2 fun v2 H2 G2 fps2 fpt2 a2 r2 s2 => ?_
        rcases bnd_ways he with ⟨d2, env3, e3, he⟩ | ⟨y, env3, e3, rfl⟩
        · obtain ⟨G3, fps3, a3, r3⟩ := frz_ok a2 r2 e3
          have r1c := a1b.frame a3 r1b
          have sm : (noeffi (.zip a b)) = true → Same H H2 := fun hn => by
            simp only [noeffi_zip, Bool.and_eq_true] at hn
            exact (s1 hn.1).trans (s2 hn.2)
          split at he
          · cases he
            obtain ⟨b1, xs, rfl, hs1, _⟩ := rlist r1c
            obtain ⟨b2, ys, rfl, hs2, _⟩ := rlist r3
            rw [ok.eK]
            exact ⟨b1, b2, xs, ys, rfl, .inl ⟨hs1, hs2, hq _ H2 G3 fps3 (a1b.next a3) (src_zip r1c r3) sm⟩⟩
          · cases he
            obtain ⟨b1, xs, rfl, hs1, _⟩ := rtup r1c
            obtain ⟨b2, ys, rfl, hs2, _⟩ := rtup r3
            rw [ok.eK]
            exact ⟨b1, b2, xs, ys, rfl, .inr ⟨hs1, hs2, hq _ H2 G3 fps3 (a1b.next a3) (src_zipT r1c r3) sm⟩⟩
          · cases he
        · exact (frz_not e3).elim
      · exact h' X W ok env1b σ H1 G1b fps1b _ _ a1b.E e2 fun cls d H3 G3 fps3 a3 x3 => hq cls d H3 G3 fps3 (a1b.next a3) x3
    · exact (frz_not e2).elim
  · exact h X W ok env σ H G fps _ _ E e1 fun cls d H1 G1 fps1 a1 x1 => hq cls d H1 G1 fps1 a1 x1
end
end NW
end
section
set_option linter.all false
set_option maxRecDepth 100000
set_option maxHeartbeats 1000000
/-! NWk: targets, comprehensions -/
namespace NW
open PySem L2 PyProof.Rows
/-! ### stores -/
section
variable {K : PySem.W.Frag} {σ : L2.St} {H H0 : Hp} {G G0 : Addr → Prop} {fps fps0 : Fs} {env : Env}
theorem EnvR.put {i : Nat} {o : O} {v : V} {fp : List Addr} (E : EnvR K env σ H G fps) (r : Ow K H G o v fp) (off : ∀ b ∈ fp, ¬ FF fps b) :
    ∃ fps', EnvR K (env.set i (some o)) (σ.set i (some v)) H G fps' ∧ ∀ b, FF fps' b → FF fps b ∨ b ∈ fp := by
  by_cases hi : i < env.length
  · refine ⟨updF fps i fp, ⟨E.gh, by rw [List.length_set, List.length_set]; exact E.len, fun j o' hj => ?_, fun j hj => ?_, fun j k b hb hb' => ?_⟩, fun b ⟨j, hj⟩ => ?_⟩
    · rw [slot_set hi] at hj
      by_cases e : j = i
      · subst e
        rw [if_pos rfl] at hj
        cases hj
        exact ⟨v, List.getElem?_set_self (by rw [← E.len]; exact hi), by rw [updF_same]; exact r⟩
      · rw [if_neg e] at hj
        obtain ⟨w, hw, q⟩ := E.rep j o' hj
        exact ⟨w, by rw [List.getElem?_set_ne (Ne.symm e)]; exact hw, by rw [updF_ne e]; exact q⟩
    · rw [slot_set hi] at hj
      by_cases e : j = i
      · rw [if_pos e] at hj; cases hj
      · rw [if_neg e] at hj
        rw [updF_ne e]; exact E.emp j hj
    · unfold updF at hb hb'
      split at hb
      · rename_i e
        split at hb'
        · rename_i e'; rw [e, e']
        · exact (off b hb ⟨k, hb'⟩).elim
      · split at hb'
        · exact (off b hb' ⟨j, hb⟩).elim
        · exact E.dis j k b hb hb'
    · unfold updF at hj
      split at hj
      · exact .inr hj
      · exact .inl ⟨j, hj⟩
  · have h1 : env.length ≤ i := Nat.le_of_not_lt hi
    rw [List.set_eq_of_length_le h1, List.set_eq_of_length_le (by rw [← E.len]; exact h1)]
    exact ⟨fps, E, fun b hb => .inl hb⟩
theorem Aft.put {i : Nat} {o : O} {v : V} {fpt : List Addr} (a : Aft K σ H0 G0 fps0 env H G fps fpt) (r : Ow K H G o v fpt) :
    ∃ fps', EnvR K (env.set i (some o)) (σ.set i (some v)) H G fps' ∧ Step H0 G0 (FF fps0) H G (FF fps') := by
  obtain ⟨fps', E', hf⟩ := a.E.put (i := i) r a.off
  exact ⟨fps', E', a.S.keep, a.S.tups, a.S.frzs, a.S.gsub, a.S.gnew, fun b hb => (hf b hb).elim (a.S.fnew b) (a.new b)⟩
end
/-! ### targets -/
def gsT : List Nat → TGs
  | [] => gNil
  | i :: is => gCons (gName i) (gsT is)
def gT (K : PySem.W.Frag) : CT → TG
  | .name i => gName i
  | .tup l => gTup K l.length (gsT l)
def CT.slots : CT → List Nat
  | .name i => [i]
  | .tup l => l
section
variable {c : Ct} {N : List Str} {sc : Scope} {fn : Str → Bool}
theorem each_names (env : PySem.Env) : ∀ {l : List Nat} {es : List Expr}, mNames N sc fn l es = true → assignEach es env = es.map (fun e => (false, assign e env)) ∧ es.length = l.length
  | [], [], _ => ⟨rfl, rfl⟩
  | i :: is, .Name x p :: es, h => by
    simp only [mNames, Bool.and_eq_true] at h
    obtain ⟨h1, h2⟩ := each_names env h.2
    exact ⟨by rw [List.map_cons, ← h1]; rfl, by rw [List.length_cons, List.length_cons, h2]⟩
  | [], _ :: _, h => by cases h
  | i :: is, [], h => by cases h
theorem pgs_names {X : Cx} {W : WX} (ok : CtxOk c X W N sc fn) : ∀ {l : List Nat} {es : List Expr}, mNames N sc fn l es = true → PGs X es (gsT l)
  | [], [], _ => pgs_nil
  | i :: is, .Name x p :: es, h => by
    simp only [mNames, Bool.and_eq_true, decide_eq_true_eq] at h
    obtain ⟨h1, h2⟩ := tgB_ok h.1.2
    exact pgs_cons (pg_name (by rw [ok.eN]; exact ok.nd) (by rw [ok.eN]; exact h.1.1) (by rw [ok.eS]; exact h1) (by rw [ok.eF, ok.eS]; exact h2)) (pgs_names ok h.2) rfl
  | [], _ :: _, h => by cases h
  | i :: is, [], h => by cases h
theorem findIdx_none {α : Type} (es : List α) (f : α → Value → Sem Unit) : (es.map (fun e => (false, f e))).findIdx? (·.1) = none := by
  induction es with
  | nil => rfl
  | cons e es ih => simp [List.findIdx?_cons]
theorem pg_T {X : Cx} {W : WX} (ok : CtxOk c X W N sc fn) {t : CT} {tg : Expr} (h : mT N sc fn t tg = true) : PG X tg (gT X.K t) := by
  unfold mT at h
  split at h
  · simp only [Bool.and_eq_true, decide_eq_true_eq] at h
    obtain ⟨h1, h2⟩ := tgB_ok h.2
    exact pg_name (by rw [ok.eN]; exact ok.nd) (by rw [ok.eN]; exact h.1) (by rw [ok.eS]; exact h1) (by rw [ok.eF, ok.eS]; exact h2)
  · obtain ⟨h1, h2⟩ := each_names X.env h
    exact pg_tup ok.calm (pgs_names ok h) (by rw [h1, List.length_map, h2]) (by rw [h1]; exact findIdx_none _ _)
  · cases h
variable {K : PySem.W.Frag}
theorem gsT_ok : ∀ {l : List Nat} {vs : List V} {ds : List D} {σ : L2.St} {H : Hp} {G : Addr → Prop} {fps : Fs} {env env2 : Env} {Q : L2.St → Hp → Prop}, EnvR K env σ H G fps → RpA K H G vs ds → setAll env l ds = some env2 →
    (∀ σ2 fps2, EnvR K env2 σ2 H G fps2 → (∀ b, FF fps2 b → FF fps b) → (∀ j, j ∉ l → σ2[j]? = σ[j]?) → σ2.length = σ.length → Q σ2 H) → gsT l vs σ H Q
  | [], vs, [], σ, H, G, fps, env, env2, Q, E, r, e, q => by
    cases e
    cases r
    exact ⟨rfl, q σ fps E (fun _ h => h) (fun _ _ => rfl) rfl⟩
  | i :: l, vs, d :: ds, σ, H, G, fps, env, env2, Q, E, r, e, q => by
    cases r with
    | cons r1 r2 =>
      obtain ⟨fps', E', hf⟩ := E.put (i := i) (o := .fz d) (fp := []) ⟨rfl, r1⟩ (fun b hb => nomatch hb)
      refine ⟨_, _, rfl, ?_⟩
      refine gsT_ok E' r2 e fun σ2 fps2 E2 h2 h3 h4 => ?_
      refine q σ2 fps2 E2 (fun b hb => (hf b (h2 b hb)).elim id fun z => nomatch z) (fun j hj => ?_) (by rw [h4, List.length_set])
      rw [List.mem_cons, not_or] at hj
      rw [h3 j hj.2, List.getElem?_set_ne (Ne.symm hj.1)]
  | [], vs, d :: ds, σ, H, G, fps, env, env2, Q, E, r, e, q => by cases e
  | i :: l, vs, [], σ, H, G, fps, env, env2, Q, E, r, e, q => by cases e
theorem setAll_len : ∀ {l : List Nat} {ds : List D} {env env2 : Env}, setAll env l ds = some env2 → ds.length = l.length
  | [], [], _, _, _ => rfl
  | _ :: l, _ :: ds, env, env2, e => by rw [List.length_cons, List.length_cons, setAll_len (l := l) (ds := ds) e]
  | [], _ :: _, _, _, e => by cases e
  | _ :: _, [], _, _, e => by cases e
theorem gT_ok {t : CT} {v : V} {d : D} {σ : L2.St} {H : Hp} {G : Addr → Prop} {fps : Fs} {env env2 : Env} {Q : L2.St → Hp → Prop} (E : EnvR K env σ H G fps) (r : Rp K H G v d) (e : setT t d env = some env2)
    (q : ∀ σ2 fps2, EnvR K env2 σ2 H G fps2 → (∀ b, FF fps2 b → FF fps b) → (∀ j, j ∉ t.slots → σ2[j]? = σ[j]?) → σ2.length = σ.length → Q σ2 H) : gT K t v σ H Q := by
  cases t with
  | name i =>
    cases e
    obtain ⟨fps', E', hf⟩ := E.put (i := i) (o := .fz d) (fp := []) ⟨rfl, r⟩ (fun b hb => nomatch hb)
    refine q _ fps' E' (fun b hb => (hf b hb).elim id fun z => nomatch z) (fun j hj => ?_) (List.length_set ..)
    have : j ≠ i := by simpa [CT.slots] using hj
    rw [List.getElem?_set_ne (Ne.symm this)]
  | tup l =>
    cases d <;> try cases e
    rename_i ds
    obtain ⟨a, xs, rfl, hs, hr⟩ := rtup r
    refine ⟨a, xs, rfl, hs, ?_, gsT_ok E hr e q⟩
    rw [dpAll_length hr]
    exact setAll_len e
end
/-! ### slots forgotten, slots back -/
theorem wipe_get (σ : L2.St) (j : Nat) : ∀ own : List Nat, (wipe σ own)[j]? = if j ∈ own then (if j < σ.length then some none else none) else σ[j]?
  | [] => by simp [wipe]
  | i :: own => by
    unfold wipe
    by_cases e : i = j
    · subst e
      by_cases hl : i < σ.length
      · rw [List.getElem?_set_self (by rw [wipe_length]; exact hl)]; simp [hl]
      · rw [List.getElem?_eq_none (by rw [List.length_set, wipe_length]; omega)]; simp [hl]
    · rw [List.getElem?_set_ne e, wipe_get σ j own]
      have : (j ∈ i :: own) ↔ j ∈ own := by rw [List.mem_cons]; exact ⟨fun h => h.resolve_left (fun z => e z.symm), .inr⟩
      simp only [this]
theorem wipe_ext {σ σ2 : L2.St} {own : List Nat} (hl : σ2.length = σ.length) (h : ∀ j, j ∉ own → σ2[j]? = σ[j]?) : wipe σ2 own = wipe σ own := by
  apply List.ext_getElem?
  intro j
  rw [wipe_get, wipe_get, hl]
  split
  · rfl
  · rename_i hj; exact h j hj
theorem wipeE_len (env : Env) : ∀ own : List Nat, (wipeE env own).length = env.length
  | [] => rfl
  | i :: own => by unfold wipeE; rw [List.length_set, wipeE_len env own]
theorem slot_ge {env : Env} {j : Nat} (h : env.length ≤ j) : slot env j = none := by
  unfold slot
  rw [List.getElem?_eq_none h]; rfl
theorem slot_wipe (env : Env) (j : Nat) : ∀ own : List Nat, slot (wipeE env own) j = if j ∈ own then none else slot env j
  | [] => by simp [wipeE]
  | i :: own => by
    unfold wipeE
    by_cases hl : i < env.length
    · rw [slot_set (by rw [wipeE_len]; exact hl), slot_wipe env j own]
      by_cases e : j = i
      · simp [e]
      · simp [e]
    · rw [List.set_eq_of_length_le (by rw [wipeE_len]; omega), slot_wipe env j own]
      by_cases e : j = i
      · subst e
        rw [slot_ge (Nat.le_of_not_lt hl)]; simp
      · simp [e]
theorem backE_len (env env2 : Env) : ∀ own : List Nat, (backE env env2 own).length = env2.length
  | [] => rfl
  | i :: own => by unfold backE; rw [List.length_set, backE_len env env2 own]
theorem slot_back {env env2 : Env} (hl : env.length = env2.length) (j : Nat) : ∀ own : List Nat, slot (backE env env2 own) j = if j ∈ own then slot env j else slot env2 j
  | [] => by simp [backE]
  | i :: own => by
    unfold backE
    by_cases h : i < env2.length
    · rw [slot_set (by rw [backE_len]; exact h), slot_back hl j own]
      by_cases e : j = i
      · simp [e]
      · simp [e]
    · rw [List.set_eq_of_length_le (by rw [backE_len]; omega), slot_back hl j own]
      by_cases e : j = i
      · subst e
        rw [slot_ge (env := env) (by omega), slot_ge (env := env2) (by omega)]; simp
      · simp [e]
section
variable {K : PySem.W.Frag} {σ : L2.St} {H H' : Hp} {G G' : Addr → Prop} {fps fps' : Fs} {env env2 : Env}
theorem fr_emp (E : EnvR K env σ H G fps) {i : Nat} (h : frOk env i = true) : fps i = [] := by
  unfold frOk at h
  split at h
  · rename_i e; exact E.emp i e
  · rename_i d e
    obtain ⟨v, _, hv⟩ := E.rep i _ e
    exact hv.1
  · cases h
theorem EnvR.wipe (E : EnvR K env σ H G fps) {own : List Nat} (h : own.all (frOk env) = true) : EnvR K (wipeE env own) (L2.wipe σ own) H G fps := by
  rw [List.all_eq_true] at h
  refine ⟨E.gh, by rw [wipeE_len, wipe_length]; exact E.len, fun j o hj => ?_, fun j hj => ?_, E.dis⟩
  · rw [slot_wipe] at hj
    split at hj
    · cases hj
    · rename_i hn
      obtain ⟨v, hv, r⟩ := E.rep j o hj
      exact ⟨v, by rw [wipe_get, if_neg hn]; exact hv, r⟩
  · rw [slot_wipe] at hj
    split at hj
    · rename_i hm; exact fr_emp E (h j hm)
    · exact E.emp j hj
theorem EnvR.back (E : EnvR K env σ H G fps) {own : List Nat} (E2 : EnvR K env2 (L2.wipe σ own) H' G' fps') (S : Step H G (FF fps) H' G' (FF fps')) (h : own.all (frOk env) = true) (hn : ∀ j ∈ own, slot env2 j = none) : EnvR K (backE env env2 own) σ H' G' fps' := by
  rw [List.all_eq_true] at h
  have l2 := E2.len
  rw [wipe_length] at l2
  refine ⟨E2.gh, by rw [backE_len]; exact l2, fun j o hj => ?_, fun j hj => ?_, E2.dis⟩
  · rw [slot_back (by rw [E.len, l2])] at hj
    split at hj
    · rename_i hm
      have hf := h j hm
      unfold frOk at hf
      rw [hj] at hf
      cases o with
      | fz d =>
        obtain ⟨v, hv, _, r⟩ := E.rep j _ hj
        exact ⟨v, hv, E2.emp j (hn j hm), dp_mono (S.sub E.gf) _ _ r⟩
      | lst ds => cases hf
      | dct kvs => cases hf
    · rename_i hm
      obtain ⟨v, hv, r⟩ := E2.rep j o hj
      rw [wipe_get, if_neg hm] at hv
      exact ⟨v, hv, r⟩
  · rw [slot_back (by rw [E.len, l2])] at hj
    split at hj
    · rename_i hm; exact E2.emp j (hn j hm)
    · exact E2.emp j hj
theorem Step.updNew {F F' : Addr → Prop} (S : Step H G F H' G' F') {b : Addr} (hb : H b = none) {o : HO} : Step H G F (upd H' b o) G' F' where
  keep := fun x u e nf => by rw [upd_ne (ne_of_none e hb)]; exact S.keep x u e nf
  tups := fun x xs e => by rw [upd_ne (ne_of_none e hb)]; exact S.tups x xs e
  frzs := fun x o u e => by rw [upd_ne (ne_of_none e hb)]; exact S.frzs x o u e
  gsub := S.gsub
  gnew := S.gnew
  fnew := S.fnew
theorem Same.updNew (s : Same H H') {b : Addr} (hb : H b = none) {o : HO} : Same H (upd H' b o) := fun x u e => by rw [upd_ne (ne_of_none e hb)]; exact s x u e
/-- one place is written that nobody reads as frozen -/
theorem step_at {a : Addr} {o : HO} (hl : ∃ xs, H a = some (.lst xs) ∨ ∃ kvs, H a = some (.dK kvs)) : Step H G (· = a) (upd H a o) G (· = a) where
  keep := fun x u e nf => by rw [upd_ne nf]; exact e
  tups := fun x xs e => by
    by_cases h : x = a
    · subst h
      obtain ⟨ys, h | ⟨kvs, h⟩⟩ := hl <;> (rw [h] at e; cases e)
    · rw [upd_ne h]; exact e
  frzs := fun x o' u e => by
    by_cases h : x = a
    · subst h
      obtain ⟨ys, h | ⟨kvs, h⟩⟩ := hl <;> (rw [h] at e; cases e)
    · rw [upd_ne h]; exact e
  gsub := fun _ h => h
  gnew := fun _ h => .inl h
  fnew := fun _ h => .inl h
theorem gheld_upd {a : Addr} {o : HO} (g : GHeld H G) : GHeld (upd H a o) G := fun b hb => by
  by_cases h : b = a
  · subst h; exact ⟨o, upd_same⟩
  · obtain ⟨u, e⟩ := g b hb
    exact ⟨u, by rw [upd_ne h]; exact e⟩
end
/-! ### comprehensions -/
def fnB (scope : Scope) : Str → Bool := fun x => scope.names.lookup x == some .cell
def tTs (X : Cx) (ifs : List Expr) (σ : L2.St) (H : Hp) (Q : Bool → Hp → Prop) : Prop := ∀ pins s, Inv X pins σ H s → wpAny (model X.prog X.w) X.A (forIn ifs true fun c r => if r = true then do let ok ← isTrue c X.env (eval c X.env); pure (ForInStep.yield ok) else pure (ForInStep.yield r)) (TP X pins σ Q) X.xe s
theorem ptsS (X : Cx) (ifs : List Expr) : PTs X ifs (tTs X ifs) := ⟨fun pins s σ H Q I h => h pins s I⟩
theorem tTs_of {X : Cx} {ifs : List Expr} {t : TT} (h : PTs X ifs t) {σ : L2.St} {H : Hp} {Q : Bool → Hp → Prop} (q : t σ H Q) : tTs X ifs σ H Q := fun pins s I => h.run pins s σ H Q I q
def cT (X : Cx) (scope : Scope) (ifs : List Expr) : TT := fun σ H Q => ∀ (s : Shared) (H0 : Hp) (C : Addr) (cl : List (Str × Addr)) (fp : List Addr), tTs (X.blk s H0 scope (compEnvC scope cl C X.env) fp) ifs σ H Q
def cE (X : Cx) (scope : Scope) (el : Expr) : TE := fun σ H Q => ∀ (s : Shared) (H0 : Hp) (C : Addr) (cl : List (Str × Addr)) (fp : List Addr), tE (X.blk s H0 scope (compEnvC scope cl C X.env) fp) el σ H Q
section
variable (c : Ct) (N : List Str)
def SBs (sc : Scope) (fn : Str → Bool) (ifs : List Expr) (a : CB) : Prop := ∀ X W, CtxOk c X W N sc fn → ∀ env σ H G fps out Q, EnvR c.K env σ H G fps → evalT c.Γ a env = some out → GT c W σ H G fps (noeffb a) Q out → tTs X ifs σ H Q
end
section
variable {c : Ct} {N : List Str} {sc : Scope} {fn : Str → Bool}
theorem sbs_nil : SBs c N sc fn [] .yes := by
  intro X W ok env σ H G fps out Q E he hq
  simp only [evalT_yes] at he
  cases he
  exact tTs_of pts_nil (hq H G fps (Aft.refl E) fun _ => same_refl H)
theorem sbs_one {x : Expr} {a : CB} (h : SB c N sc fn x a) : SBs c N sc fn [x] a :=
  fun X W ok env σ H G fps out Q E he hq => tTs_of (pts_one (ptS X x)) (h X W ok env σ H G fps out Q E he hq)
def W0 : WX := fun _ _ _ _ => False
theorem CtxOk.blk {X : Cx} {W : WX} (ok : CtxOk c X W N sc fn) (scope : Scope) (s : Shared) (H : Hp) (C : Addr) (cl : List (Str × Addr)) (fp : List Addr) : CtxOk c (X.blk s H scope (compEnvC scope cl C X.env) fp) W0 N (relS scope sc) (fnB scope) where
  eK := ok.eK
  eM := ok.eM
  eN := ok.eN
  eS := by rw [← ok.eS]; rfl
  eF := rfl
  nd := ok.nd
  calm := ok.calm
  tk := fun _ _ x => by
    obtain ⟨_, _, _, _, _, _, _, _, _, _, _, _, _, _, _, _, z⟩ := x
    exact z.elim
  rm := ok.rm
  fns := ok.fns
  blt := ok.blt
  glob := ok.glob
/-- where a comprehension stands ahead of turn i -/
def CompI (K : PySem.W.Frag) (own : List Nat) (σ : L2.St) (turn : D → Env → Option (Out (Option D))) (items ds : List D) (env2 : Env) (R0 : Hp → (Addr → Prop) → Prop) (b : Addr) (H1 : Hp) (G1 : Addr → Prop) (fps1 : Fs) (ne : Bool) (i : Nat) (H : Hp) : Prop :=
  ∃ env G fps acc accv rest, EnvR K env (L2.wipe σ own) H G fps ∧ Step H1 G1 (FF fps1) H G (FF fps) ∧ H b = some (.lst accv) ∧ ¬ G b ∧ ¬ FF fps b ∧ RpA K H G accv acc ∧ compL turn (items.drop i) env = some (.ok rest env2) ∧ ds = acc ++ rest ∧ acc.length ≤ i ∧ R0 H G ∧ (∀ j ∈ own, slot env j = none) ∧ (ne = true → Same H1 H)
theorem compL_cons {turn : D → Env → Option (Out (Option D))} {d : D} {ds rest : List D} {env env2 : Env} (h : compL turn (d :: ds) env = some (.ok rest env2)) :
    ∃ o env3 r, turn d env = some (.ok o env3) ∧ compL turn ds env3 = some (.ok r env2) ∧ rest = o.toList ++ r := by
  unfold compL at h
  split at h
  · rename_i o env3 e
    split at h
    · rename_i r env4 e2
      split at h
      · cases h; exact ⟨_, _, _, e, e2, rfl⟩
      · cases h; exact ⟨_, _, _, e, e2, rfl⟩
    · cases h
  · cases h
theorem wipe_none {own : List Nat} {env : Env} : ∀ j ∈ own, slot (wipeE env own) j = none := fun j hj => by rw [slot_wipe, if_pos hj]
theorem tgIn_ok {own : List Nat} {t : CT} (h : tgIn own t = true) : ∀ j ∈ t.slots, j ∈ own := by
  cases t with
  | name i =>
    intro j hj
    have : j = i := by simpa [CT.slots] using hj
    subst this
    simpa [tgIn] using h
  | tup l =>
    intro j hj
    unfold tgIn at h
    rw [List.all_eq_true] at h
    simpa using h j hj
theorem wipeO_ok {own : List Nat} {r o : Option D} {e env3 : Env} (h : wipeO own r e = some (.ok o env3)) : own.all (frOk e) = true ∧ o = r ∧ env3 = wipeE e own := by
  unfold wipeO at h
  split at h
  · rename_i hw; cases h; exact ⟨hw, rfl, rfl⟩
  · cases h
theorem comp_ok {X : Cx} {W : WX} {own : List Nat} {t : CT} {src : CI} {cond : CB} {elt : CE} {el tg it : Expr} {ifs : List Expr} {scope : Scope} (ok : CtxOk c X W N sc fn) (hi : SI c N sc fn tg it src) (he : SE c N (relS scope sc) (fnB scope) el elt) (hc : SBs c N (relS scope sc) (fnB scope) ifs cond)
    {env : Env} {σ : L2.St} {H : Hp} {G : Addr → Prop} {fps : Fs} {out : Out P} {Q : VK} (E : EnvR c.K env σ H G fps) (hev : evalE c.Γ (.comp own t src cond elt) env = some out) (hq : GE c W σ H G fps (noeff (.comp own t src cond elt)) Q out) :
    tLc (tI X tg it) (gT X.K t) (cT X scope ifs) (cE X scope el) own σ H Q := by
  simp only [evalE_comp] at hev
  rcases bnd_ways hev with ⟨items, env1, e1, hev⟩ | ⟨y, env1, e1, rfl⟩
  rotate_left
  · exact hi X W ok env σ H G fps _ _ E e1 fun cls d H1 G1 fps1 a1 x1 => hq cls d H1 G1 fps1 a1 x1
  split at hev
  rotate_left
  · cases hev
  rename_i hg
  simp only [Bool.and_eq_true, decide_eq_true_eq] at hg
  obtain ⟨⟨hg1, hg2⟩, hg3⟩ := hg
  split at hev
  rotate_left
  · cases hev
  rename_i ds env2 hcl
  cases hev
  refine hi X W ok env σ H G fps _ _ E e1 fun J H1 G1 fps1 a1 src1 s1 => ?_
  obtain ⟨R0, r0, rst, rd⟩ := src1
  intro b hb
  have nG : ¬ G1 b := fun g => by obtain ⟨u, e⟩ := a1.E.gh b g; rw [hb] at e; cases e
  have nF : ¬ FF fps1 b := fun f => by obtain ⟨_, u, e⟩ := a1.E.held f; rw [hb] at e; cases e
  refine ⟨fun i m H' => m = items.length - i ∧ i ≤ items.length ∧ CompI c.K own σ (compTurn own (setT t) (evalT c.Γ cond) (evalE c.Γ elt)) items ds env2 R0 b H1 G1 fps1 (noeffb cond && noeff elt) i H', ⟨items.length, (Nat.sub_zero _).symm, Nat.zero_le _, ?_⟩, ?_⟩
  · have sm : Same H1 (upd H1 b (.lst [])) := same_upd hb
    exact ⟨_, G1, fps1, [], [], ds, (a1.E.wipe hg2).same sm, Same.stepF sm, upd_same, nG, nF, .nil, hcl, rfl, Nat.le_refl _, rst _ _ F0 _ _ F0 (Same.step sm) (fun _ _ f => f) r0, wipe_none, fun _ => sm⟩
  rintro i m H' ⟨rfl, hile, env', G', fps', acc, accv, rest, E', S', hbl, nG', nF', rA, hcl', hds, hal, r0', hno, hsm⟩
  by_cases hil : i < items.length
  rotate_left
  · -- the end
    have e : i = items.length := by omega
    subst e
    rw [List.drop_length] at hcl'
    cases hcl'
    rw [List.append_nil] at hds
    subst hds
    refine .inl ⟨(rd _ H' G' r0').2 (Nat.le_refl _), ?_⟩
    refine hq _ H' G' fps' [b] ⟨a1.E.back E' S' hg2 hno, a1.S.trans S', fun x hx => ?_, fun x hx => ?_⟩ ⟨b, accv, rfl, rfl, nG', hbl, rA⟩ fun hn => ?_
    · have : x = b := by simpa using hx
      subst this
      exact (a1.S.none_of hb).symm
    · have : x = b := by simpa using hx
      subst this
      exact nF'
    · simp only [noeff_comp, Bool.and_eq_true] at hn
      exact (s1 hn.1.1).trans (hsm (by simp [hn.1.2, hn.2]))
  · -- a turn
    rw [List.drop_eq_getElem_cons hil] at hcl'
    obtain ⟨o, env3, r, ht, hcl3, hrest⟩ := compL_cons hcl'
    obtain ⟨go, yl⟩ := (rd i H' G' r0').1 items[i] (List.getElem?_eq_getElem hil)
    refine .inr ⟨go, CompI c.K own σ (compTurn own (setT t) (evalT c.Γ cond) (evalE c.Γ elt)) items ds env2 R0 b H1 G1 fps1 (noeffb cond && noeff elt) (i + 1), fun H2 n2 => ⟨items.length - (i + 1), by omega, rfl, hil, n2⟩, fun x H2 y => ?_⟩
    obtain ⟨sm2, rx⟩ := yl x H2 y
    unfold compTurn at ht
    split at ht
    rotate_left
    · cases ht
    rename_i ea hea
    have hb2 : H2 b = some (.lst accv) := sm2 _ _ hbl
    rw [ok.eK]
    refine gT_ok (E'.same sm2) rx hea fun σ2 fps2 E2 hf2 hσ2 hl2 => ?_
    have hw : L2.wipe σ2 own = L2.wipe σ own := by
      have := wipe_ext (σ := L2.wipe σ own) (σ2 := σ2) (own := own) hl2 fun j hj => hσ2 j fun hm => hj (tgIn_ok hg1 j hm)
      rw [this]
      exact wipe_ext (wipe_length σ own) fun j hj => by rw [wipe_get, if_neg hj]
    refine ⟨hw, ?_⟩
    have S2 : Step H1 G1 (FF fps1) H2 G' (FF fps2) := by
      have z := S'.trans (Same.stepF sm2 (G := G') (F := FF fps'))
      exact ⟨z.keep, z.tups, z.frzs, z.gsub, z.gnew, fun x hx => z.fnew x (hf2 x hx)⟩
    have nF2 : ¬ FF fps2 b := fun f => nF' (hf2 b f)
    have rA2 : RpA c.K H2 G' accv acc := dpAll_mono (same_sub sm2) _ _ rA
    have r02 : R0 H2 G' := rst _ _ F0 _ _ F0 (Same.step sm2) (fun _ _ f => f) r0'
    -- behind the turn's work
    have fin : ∀ {ed : Env} {H4 : Hp} {G4 : Addr → Prop} {fps4 : Fs}, Aft c.K σ2 H2 G' fps2 ed H4 G4 fps4 [] → own.all (frOk ed) = true → env3 = wipeE ed own →
        (EnvR c.K env3 (L2.wipe σ own) H4 G4 fps4 ∧ Step H1 G1 (FF fps1) H4 G4 (FF fps4) ∧ H4 b = some (.lst accv) ∧ ¬ G4 b ∧ ¬ FF fps4 b ∧ RpA c.K H4 G4 accv acc ∧ R0 H4 G4) := fun {ed H4 G4 fps4} a4 hfr e3 => by
      subst e3
      have z := a4.E.wipe hfr
      rw [hw] at z
      refine ⟨z, S2.trans a4.S, a4.S.keep b _ hb2 nF2, fun g => ?_, fun f => ?_, dpAll_mono (a4.S.sub E2.gf) _ _ rA2, rst _ _ _ _ _ _ a4.S E2.gf r02⟩
      · rcases a4.S.gnew b g with z | z | z
        · exact nG' z
        · exact nF2 z
        · rw [hb2] at z; cases z
      · rcases a4.S.fnew b f with z | z
        · exact nF2 z
        · rw [hb2] at z; cases z
    intro s0 H00 C cl fp
    have okb := ok.blk scope s0 H00 C cl fp
    rcases bnd_ways ht with ⟨cb, eb, e4, ht⟩ | ⟨z, eb, e4, ht⟩
    rotate_left
    · cases ht
    refine hc _ _ okb ea σ2 H2 G' fps2 _ _ E2 e4 fun H3 G3 fps3 a3 s3 => ?_
    cases cb with
    | false =>
      rw [if_neg Bool.false_ne_true] at ht ⊢
      obtain ⟨hfr, ho, he3⟩ := wipeO_ok ht
      subst ho
      obtain ⟨f1, f2, f3, f4, f5, f6, f7⟩ := fin a3 hfr he3
      refine ⟨env3, G3, fps3, acc, accv, r, f1, f2, f3, f4, f5, f6, hcl3, ?_, Nat.le_succ_of_le hal, f7, by rw [he3]; exact wipe_none, fun hn => ?_⟩
      · rw [hds, hrest]; rfl
      · have hn' := hn
        rw [Bool.and_eq_true] at hn'
        exact (hsm hn).trans (sm2.trans (s3 hn'.1))
    | true =>
      rw [if_pos rfl] at ht ⊢
      rcases bnd_ways ht with ⟨p, ec, e5, ht⟩ | ⟨z, ec, e5, ht⟩
      rotate_left
      · cases ht
      rcases bnd_ways ht with ⟨yd, ed, e6, ht⟩ | ⟨z, ed, e6, ht⟩
      rotate_left
      · cases ht
      obtain ⟨hfr, ho, he3⟩ := wipeO_ok ht
      subst ho
      intro s01 H01 C1 cl1 fp1
      refine he _ _ (ok.blk scope s01 H01 C1 cl1 fp1) eb σ2 H3 G3 fps3 _ _ a3.E e5 fun v H4 G4 fps4 fpt4 a4 r4 s4 => ?_
      obtain ⟨G5, fps5, a5, r5⟩ := frz_ok a4 r4 e6
      obtain ⟨f1, f2, f3, f4, f5, f6, f7⟩ := fin (a3.next a5) hfr he3
      have hst : Step H4 G5 (· = b) (upd H4 b (.lst (accv ++ [v]))) G5 (· = b) := step_at ⟨accv, .inl f3⟩
      have dG : ∀ x, G5 x → ¬ x = b := fun x g e => by rw [e] at g; exact f4 g
      have dF : ∀ x, FF fps5 x → ¬ x = b := fun x g e => by rw [e] at g; exact f5 g
      refine ⟨accv, f3, ?_, ?_⟩
      · rw [dpAll_length rA, ← lim_eq]; omega
      refine ⟨env3, G5, fps5, acc ++ [yd], accv ++ [v], r, f1.step hst dF dG (gheld_upd f1.gh), f2.updNew hb, upd_same, f4, f5, dpAll_append (dpAll_mono (hst.sub dG) _ _ f6) (.cons (dp_mono (hst.sub dG) _ _ r5) .nil), hcl3, ?_, ?_, rst _ _ _ _ _ _ hst dG f7, by rw [he3]; exact wipe_none, fun hn => ?_⟩
      · rw [hds, hrest]; simp
      · rw [List.length_append]; show acc.length + 1 ≤ i + 1; omega
      · have hn' := hn
        rw [Bool.and_eq_true] at hn'
        exact Same.updNew ((hsm hn).trans (sm2.trans ((s3 hn'.1).trans (s4 hn'.2)))) hb
theorem ownP_snd (own : List Nat) : (ownP N own).map (·.2) = own := by
  unfold ownP
  rw [List.map_map]
  exact List.map_id' own
theorem se_comp {own : List Nat} {t : CT} {src : CI} {cond : CB} {elt : CE} {el tg it : Expr} {ifs : List Expr} {scope : Scope} {pos : Pos} (hb : blkC N sc scope (ownP N own) = true) (hset : isSet it = false) (hi : SI c N sc fn tg it src) (ht : mT N (relS scope sc) (fnB scope) t tg = true)
    (he : SE c N (relS scope sc) (fnB scope) el elt) (hc : SBs c N (relS scope sc) (fnB scope) ifs cond) : SE c N sc fn (.ListComp el [⟨tg, it, ifs, 0⟩] scope pos) (.comp own t src cond elt) := by
  intro X W ok env σ H G fps out Q E hev hq
  have hbk : BlkOk X.N X.env.scope scope (ownP N own) := by
    rw [ok.eN, ok.eS]; exact blkOk_by hb
  have := pe_lc (X := X) (pos := pos) (wi := tI X tg it) (g := gT X.K t) (tt := cT X scope ifs) (te := cE X scope el) (elt := el) ok.calm (by rw [ok.eN]; exact ok.nd) (piS X tg it) hbk
    (fun s H C cl fp => pg_T (ok.blk scope s H C cl fp) ht) (fun s H C cl fp => ⟨fun pins s' σ H' Q I h => h s H C cl fp pins s' I⟩) (fun s H C cl fp => ⟨fun pins s' σ H' Q I h => h s H C cl fp pins s' I⟩) (fun x => notSet_ok hset X.env x)
  rw [ownP_snd] at this
  exact tE_of this (comp_ok ok hi he hc E hev hq)
end
end NW
end
section
set_option linter.all false
set_option maxRecDepth 100000
set_option maxHeartbeats 1000000
/-! NWl: displays of dicts; all expressions -/
namespace NW
open PySem L2 PyProof.Rows
section
variable {K : PySem.W.Frag} {σ : L2.St} {H H' : Hp} {G G' F F' : Addr → Prop} {fps fps' : Fs} {env env2 : Env}
theorem FldR.step (s : Step H G F H' G' F') (dis : ∀ b, G b → ¬ F b) : ∀ {fs : List Fld} {vs : List V} {fp : List Addr}, (∀ b ∈ fp, ¬ F b) → FldR K H G fs vs fp → FldR K H' G' fs vs fp
  | [], [], fp, _, h => h
  | f :: r, v :: rv, fp, hf, h => by
    obtain ⟨fp1, fp2, rfl, dj, h1, h2⟩ := h
    exact ⟨fp1, fp2, rfl, dj, h1.step s dis fun b hb => hf b (List.mem_append_left _ hb), FldR.step s dis (fun b hb => hf b (List.mem_append_right _ hb)) h2⟩
  | [], _ :: _, _, _, h => h.elim
  | _ :: _, [], _, _, h => h.elim
theorem FldR.fields : ∀ {ks : List Str} {fs : List Fld} {vs : List V} {fp : List Addr}, ks.length = fs.length → FldR K H G fs vs fp → OwFs K H G ((ks.map Sum.inr).zip fs) (((ks.map Sum.inr : List Key)).zip vs) fp ∧ vs.length = fs.length
  | [], [], [], fp, _, h => ⟨h, rfl⟩
  | k :: ks, f :: fs, v :: vs, fp, hl, h => by
    obtain ⟨fp1, fp2, rfl, dj, h1, h2⟩ := h
    obtain ⟨q1, q2⟩ := FldR.fields (ks := ks) (Nat.succ.inj hl) h2
    exact ⟨⟨rfl, fp1, fp2, rfl, dj, h1, q1⟩, by rw [List.length_cons, List.length_cons, q2]⟩
  | [], _ :: _, _, _, hl, _ => by cases hl
  | _ :: _, [], _, _, hl, _ => by cases hl
  | [], [], _ :: _, _, _, h => h.elim
  | _ :: _, _ :: _, [], _, _, h => h.elim
theorem FldR.held : ∀ {fs : List Fld} {vs : List V} {fp : List Addr}, FldR K H G fs vs fp → ∀ b ∈ fp, ∃ u, H b = some u
  | [], [], fp, h => by
    intro b hb
    have e : fp = [] := h
    rw [e] at hb; cases hb
  | f :: r, v :: rv, fp, h => by
    obtain ⟨fp1, fp2, rfl, dj, h1, h2⟩ := h
    intro b hb
    rcases List.mem_append.mp hb with z | z
    · exact (h1.held b z).2
    · exact FldR.held h2 b z
  | [], _ :: _, _, h => h.elim
  | _ :: _, [], _, h => h.elim
end
theorem valV_zip {k : Key} : ∀ {ks : List Key} {vs : List V}, k ∉ ks → valV (ks.zip vs) k = none
  | [], _, _ => rfl
  | _ :: _, [], _ => rfl
  | k' :: ks, v :: vs, h => by
    rw [List.mem_cons, not_or] at h
    rw [List.zip_cons_cons, valV_neg (Ne.symm h.1)]
    exact valV_zip h.2
theorem mergeK_zip : ∀ (ks : List Key) (vs : List V) (ks0 : List Key) (vs0 : List V), ks.length = vs.length → ks0.length = vs0.length → (ks0 ++ ks).Nodup → mergeK (ks0.zip vs0) (ks.zip vs) = (ks0 ++ ks).zip (vs0 ++ vs)
  | [], [], ks0, vs0, _, _, _ => by simp [mergeK]
  | k :: ks, v :: vs, ks0, vs0, h1, h2, hn => by
    have hk : k ∉ ks0 := fun hm => by
      rw [List.nodup_append] at hn
      exact hn.2.2 k hm k List.mem_cons_self rfl
    show mergeK (putK (ks0.zip vs0) k v) (ks.zip vs) = _
    rw [putK_new v (valV_zip hk)]
    have e : ks0.zip vs0 ++ [(k, v)] = (ks0 ++ [k]).zip (vs0 ++ [v]) := by rw [List.zip_append h2]; rfl
    rw [e, mergeK_zip ks vs (ks0 ++ [k]) (vs0 ++ [v]) (Nat.succ.inj h1) (by simp [h2]) (by simpa using hn)]
    simp
  | [], _ :: _, _, _, h, _, _ => by cases h
  | _ :: _, [], _, _, h, _, _ => by cases h
def trsD (X : Cx) : List Str → List Expr → List (TE × TE)
  | k :: ks, e :: es => (tC (.str k), tE X e) :: trsD X ks es
  | _, _ => []
section
variable (c : Ct) (N : List Str)
def SFs (sc : Scope) (fn : Str → Bool) (l : List Expr) (a : CEs) : Prop := ∀ X W, CtxOk c X W N sc fn → ∀ (ks : List Str) env σ H G fps out Q, ks.length = l.length → EnvR c.K env σ H G fps → evalFs c.Γ a env = some out →
  GF c W σ H G fps (noeffs a) (fun vs H' => Q ((ks.map V.str).zip vs) H') out → tPairs (trsD X ks l) σ H Q
end
section
variable {c : Ct} {N : List Str} {sc : Scope} {fn : Str → Bool}
theorem sfs_nil : SFs c N sc fn [] .nil := by
  intro X W ok ks env σ H G fps out Q hl E he hq
  simp only [evalFs_nil] at he
  cases he
  cases ks with
  | cons k ks => cases hl
  | nil => exact hq [] H G fps [] (Aft.refl E) rfl fun _ => same_refl H
theorem fld_of {K : PySem.W.Frag} {H : Hp} {G : Addr → Prop} {d : D} {v : V} {fp : List Addr} (h : Ow K H G (.fz d) v fp) : OwF K H G (.fz d) v fp := h
theorem fld_ls {K : PySem.W.Frag} {H : Hp} {G : Addr → Prop} {d : List D} {v : V} {fp : List Addr} (h : Ow K H G (.lst d) v fp) : OwF K H G (.ls d) v fp := h
theorem sfs_cons {e : Expr} {l : List Expr} {a : CE} {as : CEs} (h1 : SE c N sc fn e a) (h2 : SFs c N sc fn l as) : SFs c N sc fn (e :: l) (.cons a as) := by
  intro X W ok ks env σ H G fps out Q hl E he hq
  simp only [evalFs_cons] at he
  cases ks with
  | nil => cases hl
  | cons k ks =>
  have hl' : ks.length = l.length := Nat.succ.inj hl
  show tE X e σ H fun y H2 => tPairs (trsD X ks l) σ H2 fun ps H3 => Q ((V.str k, y) :: ps) H3
  rcases bnd_ways he with ⟨p, env1, e1, he⟩ | ⟨y, env1, e1, rfl⟩
  · refine h1 X W ok env σ H G fps _ _ E e1 fun v H1 G1 fps1 fpt1 a1 r1 s1 => ?_
    rcases bnd_ways he with ⟨o, env2, e2, he⟩ | ⟨y, env2, e2, rfl⟩
    · obtain ⟨G2, fps2, fpt2, a2, r2⟩ := mv_ok a1 r1 e2
      have main : ∀ (f : Fld), (∀ {H : Hp} {G : Addr → Prop}, Ow c.K H G o v fpt2 → OwF c.K H G f v fpt2) → (bnd (evalFs c.Γ as env2) fun fs env => some (Out.ok (f :: fs) env)) = some out → tPairs (trsD X ks l) σ H1 fun ps H3 => Q ((V.str k, v) :: ps) H3 := fun f hf he => by
        rcases bnd_ways he with ⟨fs, env3, e3, he⟩ | ⟨y, env3, e3, rfl⟩
        · cases he
          refine h2 X W ok ks env2 σ H1 G2 fps2 _ _ hl' a2.E e3 fun vs H3 G3 fps3 fpt3 a3 r3 s3 => ?_
          obtain ⟨r2', a2'⟩ := PR.next (p := .val o) (ne := false) a2 r2 a3 rfl (fun z => nomatch z)
          · refine hq (v :: vs) H3 G3 fps3 (fpt2 ++ fpt3) (a2'.app (a2.next a3)) ⟨fpt2, fpt3, rfl, fun b hb hb' => ?_, hf r2', r3⟩ fun hn => ?_
            · rcases a3.new b hb' with z | z
              · exact a2.off b hb z
              · obtain ⟨_, u, e⟩ := r2.held b hb
                rw [e] at z; cases z
            · simp only [noeffs_cons, Bool.and_eq_true] at hn
              exact (s1 hn.1).trans (s3 hn.2)
        · exact h2 X W ok ks env2 σ H1 G2 fps2 _ _ hl' a2.E e3 fun cls d H3 G3 fps3 a3 x3 => hq cls d H3 G3 fps3 (a2.next a3) x3
      split at he
      · exact main _ (fun h => fld_of h) he
      · exact main _ (fun h => fld_ls h) he
      · cases he
    · exact (mv_not e2).elim
  · exact h1 X W ok env σ H G fps _ _ E e1 fun cls d H1 G1 fps1 a1 x1 => hq cls d H1 G1 fps1 a1 x1
theorem pps_of {X : Cx} {pos : Pos} : ∀ {ks : List Str} {keys : List (Option Expr)} {vals : List Expr}, mKeys ks keys = true → ks.length = vals.length → PPs X pos keys vals (trsD X ks vals)
  | [], [], [], _, _ => pps_nil
  | k :: ks, some (.Constant (.str x) j p) :: keys, e :: vals, h, hl => by
    simp only [mKeys, Bool.and_eq_true, decide_eq_true_eq] at h
    obtain ⟨rfl, h⟩ := h
    exact pps_cons pe_str (peS X e) (pps_of h (Nat.succ.inj hl))
  | [], [], _ :: _, _, hl => by cases hl
  | [], _ :: _, _, h, _ => by cases h
  | _ :: _, _, [], _, hl => by cases hl
  | _ :: _, [], _ :: _, h, _ => by cases h
theorem keys_of : ∀ {ks : List Str} {keys : List (Option Expr)}, mKeys ks keys = true → keys.all (·.isSome) = true ∧ keys.length = ks.length
  | [], [], _ => ⟨rfl, rfl⟩
  | k :: ks, some (.Constant (.str x) j p) :: keys, h => by
    simp only [mKeys, Bool.and_eq_true, decide_eq_true_eq] at h
    obtain ⟨h1, h2⟩ := keys_of h.2
    exact ⟨by simp [h1], by simp [h2]⟩
  | [], _ :: _, h => by cases h
  | _ :: _, [], h => by cases h
theorem zip_kV : ∀ (ks : List Str) (vs : List V), (ks.map V.str).zip vs = ((ks.map Sum.inr : List Key).zip vs).map fun kv => (kV kv.1, kv.2)
  | [], _ => rfl
  | _ :: _, [] => rfl
  | k :: ks, v :: vs => by
    show (V.str k, v) :: (ks.map V.str).zip vs = _
    rw [zip_kV ks vs]; rfl
theorem nodup_inr {ks : List Str} (h : ks.Nodup) : (ks.map Sum.inr : List Key).Nodup := by
  refine List.pairwise_map.mpr (h.imp fun hne e => hne (Sum.inr.inj e))
theorem se_dct {ks : List Str} {as : CEs} {keys : List (Option Expr)} {vals : List Expr} {pos : Pos} (hne : ks ≠ []) (h15 : ks.length ≤ 15) (hk : mKeys ks keys = true) (hl : ks.length = vals.length) (h : SFs c N sc fn vals as) : SE c N sc fn (.Dict keys vals pos) (.dct ks as) := by
  intro X W ok env σ H G fps out Q E he hq
  simp only [evalE_dct] at he
  obtain ⟨hall, hlk⟩ := keys_of hk
  refine tE_of (pe_disp (pps_of hk hl) hall (by rw [hlk, hl]) (fun z => hne (by
    rw [z] at hlk
    exact List.eq_nil_of_length_eq_zero hlk.symm)) (by rw [hlk]; exact h15)) ?_
  intro p hp
  have sm : Same H (upd H p (.dK [])) := same_upd hp
  have nG : ¬ G p := fun g => by obtain ⟨u, e⟩ := E.gh p g; rw [hp] at e; cases e
  have nF : ¬ FF fps p := fun f => by obtain ⟨_, u, e⟩ := E.held f; rw [hp] at e; cases e
  have a0 : Aft c.K σ H G fps env (upd H p (.dK [])) G fps [] := ⟨E.same sm, Same.stepF sm, (fun b hb => nomatch hb), (fun b hb => nomatch hb)⟩
  rcases bnd_ways he with ⟨fs, env1, e1, he⟩ | ⟨y, env1, e1, rfl⟩
  · split at he
    · rename_i hz
      obtain ⟨z1, z2, z3, z4⟩ := hz
      cases he
      refine h X W ok ks env σ _ G fps _ (fun ps H2 => H2 p = some (.dK []) ∧ ∃ kvs : List (Key × V), ps = kvs.map (fun kv => (kV kv.1, kv.2)) ∧ kvs.length ≤ 15 ∧ Q (.ref p) (upd H2 p (.dK (mergeK [] kvs)))) hl a0.E e1 fun vs H2 G2 fps2 fpt2 a2 r2 s2 => ?_
      have h2 : H2 p = some (.dK []) := a2.S.keep p _ upd_same nF
      have nG2 : ¬ G2 p := fun g => by
        rcases a2.S.gnew p g with z | z | z
        · exact nG z
        · exact nF z
        · rw [upd_same] at z; cases z
      have nF2 : ¬ FF fps2 p := fun f => by
        rcases a2.S.fnew p f with z | z
        · exact nF z
        · rw [upd_same] at z; cases z
      have nT2 : ∀ b ∈ fpt2, ¬ b = p := fun b hb e => by
        subst e
        rcases a2.new b hb with z | z
        · exact nF z
        · rw [upd_same] at z; cases z
      obtain ⟨of, hvl⟩ := r2.fields z1
      have hvl' : vs.length = ks.length := by rw [hvl, z1]
      refine ⟨h2, (ks.map Sum.inr : List Key).zip vs, zip_kV ks vs, by rw [List.length_zip, List.length_map, hvl']; omega, ?_⟩
      have em : mergeK [] ((ks.map Sum.inr : List Key).zip vs) = (ks.map Sum.inr : List Key).zip vs := by
        have := mergeK_zip (ks.map Sum.inr) vs [] [] (by rw [List.length_map, hvl']) rfl (by rw [List.nil_append]; exact nodup_inr z4)
        rw [List.zip_nil_left, List.nil_append, List.nil_append] at this
        exact this
      rw [em]
      have hst : Step H2 G2 (· = p) (upd H2 p (.dK ((ks.map Sum.inr : List Key).zip vs))) G2 (· = p) := step_at ⟨[], .inr ⟨_, h2⟩⟩
      have dG : ∀ x, G2 x → ¬ x = p := fun x g e => by rw [e] at g; exact nG2 g
      have dF : ∀ x, FF fps2 x → ¬ x = p := fun x g e => by rw [e] at g; exact nF2 g
      have S2 : Step H G (FF fps) (upd H2 p (.dK ((ks.map Sum.inr : List Key).zip vs))) G2 (FF fps2) := (a0.S.trans a2.S).updNew hp
      refine hq (.ref p) _ G2 fps2 (p :: fpt2) ⟨a2.E.step hst dF dG (gheld_upd a2.E.gh), S2, fun b hb => ?_, fun b hb => ?_⟩ ⟨p, _, fpt2, rfl, rfl, fun hm => nT2 p hm rfl, nG2, upd_same, ?_⟩ fun hn => ?_
      · rcases List.mem_cons.mp hb with rfl | hb
        · exact .inr hp
        · rcases a2.new b hb with z | z
          · exact .inl z
          · rw [upd_ne (nT2 b hb)] at z; exact .inr z
      · rcases List.mem_cons.mp hb with rfl | hb
        · exact nF2
        · exact a2.off b hb
      · exact of.step hst dG nT2
      · exact Same.updNew (sm.trans (s2 hn)) hp
    · cases he
  · exact h X W ok ks env σ _ G fps _ (fun ps H2 => H2 p = some (.dK []) ∧ ∃ kvs : List (Key × V), ps = kvs.map (fun kv => (kV kv.1, kv.2)) ∧ kvs.length ≤ 15 ∧ Q (.ref p) (upd H2 p (.dK (mergeK [] kvs)))) hl a0.E e1 fun cls d H3 G3 fps3 a3 x3 => hq cls d H3 G3 fps3 (a0.next a3) x3
end
end NW
end
section
set_option linter.all false
set_option maxRecDepth 100000
set_option maxHeartbeats 2000000
/-! NWm: all expressions -/
namespace NW
open PySem L2 PyProof.Rows
def isCmp : CE → Bool
  | .cmp _ _ _ | .chain _ _ _ _ _ | .isN _ | .notN _ => true
  | _ => false
section
variable {c : Ct} {N : List Str}
theorem mE_compare {a : CE} (h : isCmp a = false) {sc : Scope} {fn : Str → Bool} {l : Expr} {ops : List CmpOp} {rs : List Expr} {p : Pos} : mE N a sc fn (.Compare l ops rs p) = false := by
  cases a
  case lit d => cases d <;> rw [mE_lit]
  case var => rw [mE_var]
  case glob => rw [mE_glob]
  case tup => rw [mE_tup]
  case lst => rw [mE_lst]
  case dct => rw [mE_dct]
  case bin => rw [mE_bin]
  case and => rw [mE_and]
  case or => rw [mE_or]
  case not => rw [mE_not]
  case neg => rw [mE_neg]
  case ite => rw [mE_ite]
  case ix => rw [mE_ix]
  case fld => rw [mE_fld]
  case sl => rw [mE_sl]
  case bi => rw [mE_bi]
  case isi => rw [mE_isi]
  case call => rw [mE_call]
  case cio => rw [mE_cio]
  case comp => rw [mE_comp]
  all_goals cases h
theorem mB_plain {a : CE} (h : isCmp a = false) {sc : Scope} {fn : Str → Bool} {x : Expr} (m : mB N (.of a) sc fn x = true) : mE N a sc fn x = true ∧ ∀ env whole, isTrue x env whole = (do let v ← whole; standAt x.pos; holding [v] (truthy v)) := by
  rw [mB_of] at m
  cases x
  case UnaryOp o y p =>
    cases o
    case Not => cases m
    all_goals exact ⟨m, fun _ _ => rfl⟩
  case BoolOp => cases m
  case IfExp => cases m
  case Compare l o r p =>
    have m' : mE N a sc fn (.Compare l o r p) = true := m
    rw [mE_compare h] at m'; cases m'
  all_goals exact ⟨m, fun _ _ => rfl⟩
theorem mB_cmp {a : CE} (h : isCmp a = true) {sc : Scope} {fn : Str → Bool} {x : Expr} (m : mB N (.of a) sc fn x = true) : mE N a sc fn x = true := by
  rw [mB_of] at m
  split at m
  · cases m
  · cases m
  · cases m
  · exact m
theorem one3 {α : Type} {p q : Bool} (h : (p && q) = true) : p = true ∧ q = true := by simpa using h
mutual
theorem snd_E : ∀ (a : CE) (sc : Scope) (fn : Str → Bool) (e : Expr), mE N a sc fn e = true → SE c N sc fn e a
  | .lit d, sc, fn, e, h => se_lit h
  | .var i, sc, fn, e, h => se_var h
  | .glob x, sc, fn, e, h => se_glob h
  | .tup es, sc, fn, e, h => by
    rw [mE_tup] at h
    split at h
    · exact se_tup (snd_Ds es sc fn _ h)
    · cases h
  | .lst es, sc, fn, e, h => by
    rw [mE_lst] at h
    split at h
    · exact se_lst (snd_Ds es sc fn _ h)
    · cases h
  | .dct ks es, sc, fn, e, h => by
    rw [mE_dct] at h
    split at h
    · simp only [Bool.and_eq_true, decide_eq_true_eq] at h
      obtain ⟨⟨⟨⟨h1, h2⟩, h3⟩, h4⟩, h5⟩ := h
      exact se_dct h4 h5 h1 h3 (snd_Fs es sc fn _ h2)
    · cases h
  | .bin k a b, sc, fn, e, h => by
    rw [mE_bin] at h
    split at h
    · simp only [Bool.and_eq_true, decide_eq_true_eq] at h
      obtain ⟨⟨rfl, h2⟩, h3⟩ := h
      exact se_bin (snd_E a sc fn _ h2) (snd_E b sc fn _ h3)
    · cases h
  | .cmp k a b, sc, fn, e, h => by
    rw [mE_cmp] at h
    split at h
    · simp only [Bool.and_eq_true, decide_eq_true_eq, Bool.not_eq_true'] at h
      obtain ⟨⟨⟨rfl, h1⟩, h2⟩, h3⟩ := h
      exact se_cmp h1 (snd_E a sc fn _ h2) (snd_E b sc fn _ h3)
    · cases h
  | .chain k l a b d, sc, fn, e, h => by
    rw [mE_chain] at h
    split at h
    · simp only [Bool.and_eq_true, decide_eq_true_eq] at h
      obtain ⟨⟨⟨⟨⟨⟨⟨⟨rfl, rfl⟩, h3⟩, h4⟩, h5⟩, h6⟩, h7⟩, h8⟩, h9⟩ := h
      exact se_chain h5 h6 (snd_E a sc fn _ h7) (snd_E b sc fn _ h8) (snd_E d sc fn _ h9)
    · cases h
  | .isN a, sc, fn, e, h => by
    rw [mE_isN] at h
    split at h
    · exact se_isN (snd_E a sc fn _ h)
    · cases h
  | .notN a, sc, fn, e, h => by
    rw [mE_notN] at h
    split at h
    · exact se_notN (snd_E a sc fn _ h)
    · cases h
  | .and a b, sc, fn, e, h => by
    rw [mE_and] at h
    split at h
    · obtain ⟨h1, h2⟩ := one3 (α := Nat) h
      exact se_and1 (snd_E a sc fn _ h1) (snd_E b sc fn _ h2)
    · obtain ⟨h1, h2⟩ := one3 (α := Nat) h
      exact se_and2 (snd_E a sc fn _ h1) (snd_E b sc fn _ h2)
    · cases h
  | .or a b, sc, fn, e, h => by
    rw [mE_or] at h
    split at h
    · obtain ⟨h1, h2⟩ := one3 (α := Nat) h
      exact se_or1 (snd_E a sc fn _ h1) (snd_E b sc fn _ h2)
    · obtain ⟨h1, h2⟩ := one3 (α := Nat) h
      exact se_or2 (snd_E a sc fn _ h1) (snd_E b sc fn _ h2)
    · cases h
  | .not a, sc, fn, e, h => by
    rw [mE_not] at h
    split at h
    · exact se_not (snd_E a sc fn _ h)
    · cases h
  | .neg a, sc, fn, e, h => by
    rw [mE_neg] at h
    split at h
    · exact se_neg (snd_E a sc fn _ h)
    · cases h
  | .ite t a b, sc, fn, e, h => by
    rw [mE_ite] at h
    split at h
    · simp only [Bool.and_eq_true] at h
      obtain ⟨⟨h1, h2⟩, h3⟩ := h
      exact se_ite (snd_B t sc fn _ h1) (snd_E a sc fn _ h2) (snd_E b sc fn _ h3)
    · cases h
  | .ix a i, sc, fn, e, h => by
    rw [mE_ix] at h
    split at h
    · simp only [Bool.and_eq_true, Bool.not_eq_true'] at h
      obtain ⟨⟨h1, h2⟩, h3⟩ := h
      exact se_ix h1 (snd_E a sc fn _ h2) (snd_E i sc fn _ h3)
    · cases h
  | .fld i k, sc, fn, e, h => by
    rw [mE_fld] at h
    split at h
    · obtain ⟨h1, h2⟩ := one3 (α := Nat) h
      rw [decide_eq_true_eq] at h2
      subst h2
      exact se_fld h1
    · cases h
  | .sl a lo hi, sc, fn, e, h => by
    rw [mE_sl] at h
    split at h
    · simp only [Bool.and_eq_true] at h
      obtain ⟨⟨h1, h2⟩, h3⟩ := h
      exact se_sl (snd_E a sc fn _ h1) (snd_O lo sc fn _ h2) (snd_O hi sc fn _ h3)
    · cases h
  | .bi b es, sc, fn, e, h => by
    rw [mE_bi] at h
    split at h
    · simp only [Bool.and_eq_true, decide_eq_true_eq] at h
      obtain ⟨⟨h1, h2⟩, h3⟩ := h
      exact se_bi h1 h2 h3 (snd_Ps es sc fn _ h3)
    · cases h
  | .isi a T, sc, fn, e, h => by
    rw [mE_isi] at h
    split at h
    · simp only [Bool.and_eq_true, decide_eq_true_eq, Bool.not_eq_true'] at h
      obtain ⟨⟨⟨⟨⟨rfl, h2⟩, rfl⟩, h4⟩, h5⟩, h6⟩ := h
      exact se_isi h2 h4 h6 (snd_E a sc fn _ h5)
    · cases h
  | .call f es, sc, fn, e, h => by
    rw [mE_call] at h
    split at h
    · simp only [Bool.and_eq_true, decide_eq_true_eq] at h
      obtain ⟨⟨rfl, h2⟩, h3⟩ := h
      exact se_call h2 h3 (snd_Ds es sc fn _ h3)
    · cases h
  | .cio f i es, sc, fn, e, h => by
    rw [mE_cio] at h
    split at h
    · obtain ⟨h, h6⟩ := one3 (α := Nat) h
      obtain ⟨h, h5⟩ := one3 (α := Nat) h
      obtain ⟨h, h4⟩ := one3 (α := Nat) h
      obtain ⟨h, h3⟩ := one3 (α := Nat) h
      obtain ⟨h1, h2⟩ := one3 (α := Nat) h
      rw [decide_eq_true_eq] at h1
      subst h1
      exact se_cio h2 (by rw [h3, h4, h5]; rfl) h6 (snd_Ds es sc fn _ h6)
    · cases h
  | .comp own t src cond elt, sc, fn, e, h => by
    rw [mE_comp] at h
    split at h
    · rename_i el tg it ifs scope pos
      obtain ⟨h, h6⟩ := one3 (α := Nat) h
      simp only [Bool.and_eq_true, Bool.not_eq_true'] at h
      obtain ⟨⟨⟨⟨h1, h2⟩, h3⟩, h4⟩, h5⟩ := h
      refine se_comp h1 h2 (snd_I src sc fn _ _ h3) h4 (snd_E elt _ _ _ h5) ?_
      split at h6
      · split at h6
        · exact sbs_nil
        · cases h6
      · exact sbs_one (snd_B cond _ _ _ h6)
      · cases h6
    · cases h
theorem snd_B : ∀ (a : CB) (sc : Scope) (fn : Str → Bool) (e : Expr), mB N a sc fn e = true → SB c N sc fn e a
  | .yes, sc, fn, e, h => by rw [mB_yes] at h; cases h
  | .and a b, sc, fn, e, h => by
    rw [mB_and] at h
    split at h
    · obtain ⟨h1, h2⟩ := one3 (α := Nat) h
      exact sb_and1 (snd_B a sc fn _ h1) (snd_B b sc fn _ h2)
    · obtain ⟨h1, h2⟩ := one3 (α := Nat) h
      exact sb_and2 (snd_B a sc fn _ h1) (snd_B b sc fn _ h2)
    · cases h
  | .or a b, sc, fn, e, h => by
    rw [mB_or] at h
    split at h
    · obtain ⟨h1, h2⟩ := one3 (α := Nat) h
      exact sb_or1 (snd_B a sc fn _ h1) (snd_B b sc fn _ h2)
    · obtain ⟨h1, h2⟩ := one3 (α := Nat) h
      exact sb_or2 (snd_B a sc fn _ h1) (snd_B b sc fn _ h2)
    · cases h
  | .not a, sc, fn, e, h => by
    rw [mB_not] at h
    split at h
    · exact sb_not (snd_B a sc fn _ h)
    · cases h
  | .of (.cmp k a b), sc, fn, e, h => by
    replace h := mB_cmp rfl h
    rw [mE_cmp] at h
    split at h
    · simp only [Bool.and_eq_true, decide_eq_true_eq, Bool.not_eq_true'] at h
      obtain ⟨⟨⟨rfl, h1⟩, h2⟩, h3⟩ := h
      exact sb_cmp h1 (snd_E a sc fn _ h2) (snd_E b sc fn _ h3)
    · cases h
  | .of (.chain k l a b d), sc, fn, e, h => by
    replace h := mB_cmp rfl h
    rw [mE_chain] at h
    split at h
    · simp only [Bool.and_eq_true, decide_eq_true_eq] at h
      obtain ⟨⟨⟨⟨⟨⟨⟨⟨rfl, rfl⟩, h3⟩, h4⟩, h5⟩, h6⟩, h7⟩, h8⟩, h9⟩ := h
      exact sb_chain h5 h6 (snd_E a sc fn _ h7) (snd_E b sc fn _ h8) (snd_E d sc fn _ h9)
    · cases h
  | .of (.isN a), sc, fn, e, h => by
    replace h := mB_cmp rfl h
    rw [mE_isN] at h
    split at h
    · exact sb_isN (snd_E a sc fn _ h)
    · cases h
  | .of (.notN a), sc, fn, e, h => by
    replace h := mB_cmp rfl h
    rw [mE_notN] at h
    split at h
    · exact sb_notN (snd_E a sc fn _ h)
    · cases h
  | .of (.lit d), sc, fn, e, h => let ⟨h1, h2⟩ := mB_plain rfl h; sb_plain h2 (snd_E (.lit d) sc fn _ h1)
  | .of (.var i), sc, fn, e, h => let ⟨h1, h2⟩ := mB_plain rfl h; sb_plain h2 (snd_E (.var i) sc fn _ h1)
  | .of (.glob x), sc, fn, e, h => let ⟨h1, h2⟩ := mB_plain rfl h; sb_plain h2 (snd_E (.glob x) sc fn _ h1)
  | .of (.tup es), sc, fn, e, h => let ⟨h1, h2⟩ := mB_plain rfl h; sb_plain h2 (snd_E (.tup es) sc fn _ h1)
  | .of (.lst es), sc, fn, e, h => let ⟨h1, h2⟩ := mB_plain rfl h; sb_plain h2 (snd_E (.lst es) sc fn _ h1)
  | .of (.dct ks es), sc, fn, e, h => let ⟨h1, h2⟩ := mB_plain rfl h; sb_plain h2 (snd_E (.dct ks es) sc fn _ h1)
  | .of (.bin k a b), sc, fn, e, h => let ⟨h1, h2⟩ := mB_plain rfl h; sb_plain h2 (snd_E (.bin k a b) sc fn _ h1)
  | .of (.and a b), sc, fn, e, h => let ⟨h1, h2⟩ := mB_plain rfl h; sb_plain h2 (snd_E (.and a b) sc fn _ h1)
  | .of (.or a b), sc, fn, e, h => let ⟨h1, h2⟩ := mB_plain rfl h; sb_plain h2 (snd_E (.or a b) sc fn _ h1)
  | .of (.not a), sc, fn, e, h => let ⟨h1, h2⟩ := mB_plain rfl h; sb_plain h2 (snd_E (.not a) sc fn _ h1)
  | .of (.neg a), sc, fn, e, h => let ⟨h1, h2⟩ := mB_plain rfl h; sb_plain h2 (snd_E (.neg a) sc fn _ h1)
  | .of (.ite t a b), sc, fn, e, h => let ⟨h1, h2⟩ := mB_plain rfl h; sb_plain h2 (snd_E (.ite t a b) sc fn _ h1)
  | .of (.ix a i), sc, fn, e, h => let ⟨h1, h2⟩ := mB_plain rfl h; sb_plain h2 (snd_E (.ix a i) sc fn _ h1)
  | .of (.fld i k), sc, fn, e, h => let ⟨h1, h2⟩ := mB_plain rfl h; sb_plain h2 (snd_E (.fld i k) sc fn _ h1)
  | .of (.sl a lo hi), sc, fn, e, h => let ⟨h1, h2⟩ := mB_plain rfl h; sb_plain h2 (snd_E (.sl a lo hi) sc fn _ h1)
  | .of (.bi b es), sc, fn, e, h => let ⟨h1, h2⟩ := mB_plain rfl h; sb_plain h2 (snd_E (.bi b es) sc fn _ h1)
  | .of (.isi a T), sc, fn, e, h => let ⟨h1, h2⟩ := mB_plain rfl h; sb_plain h2 (snd_E (.isi a T) sc fn _ h1)
  | .of (.call f es), sc, fn, e, h => let ⟨h1, h2⟩ := mB_plain rfl h; sb_plain h2 (snd_E (.call f es) sc fn _ h1)
  | .of (.cio f i es), sc, fn, e, h => let ⟨h1, h2⟩ := mB_plain rfl h; sb_plain h2 (snd_E (.cio f i es) sc fn _ h1)
  | .of (.comp own t src cond elt), sc, fn, e, h => let ⟨h1, h2⟩ := mB_plain rfl h; sb_plain h2 (snd_E (.comp own t src cond elt) sc fn _ h1)
theorem snd_Ds : ∀ (as : CEs) (sc : Scope) (fn : Str → Bool) (l : List Expr), mEs N as sc fn l = true → SDs c N sc fn l as
  | .nil, sc, fn, l, h => by
    cases l with
    | nil => exact sds_nil
    | cons e l => simp [mEs_nil] at h
  | .cons a as, sc, fn, l, h => by
    cases l with
    | nil => simp [mEs_cons] at h
    | cons e l =>
      simp only [mEs_cons, Bool.and_eq_true, Bool.not_eq_true'] at h
      exact sds_cons h.1.1 (snd_E a sc fn _ h.1.2) (snd_Ds as sc fn _ h.2)
theorem snd_Ps : ∀ (as : CEs) (sc : Scope) (fn : Str → Bool) (l : List Expr), mEs N as sc fn l = true → SPs c N sc fn l as
  | .nil, sc, fn, l, h => by
    cases l with
    | nil => exact sps_nil
    | cons e l => simp [mEs_nil] at h
  | .cons a as, sc, fn, l, h => by
    cases l with
    | nil => simp [mEs_cons] at h
    | cons e l =>
      simp only [mEs_cons, Bool.and_eq_true, Bool.not_eq_true'] at h
      exact sps_cons h.1.1 (snd_E a sc fn _ h.1.2) (snd_Ps as sc fn _ h.2)
theorem snd_Fs : ∀ (as : CEs) (sc : Scope) (fn : Str → Bool) (l : List Expr), mEs N as sc fn l = true → SFs c N sc fn l as
  | .nil, sc, fn, l, h => by
    cases l with
    | nil => exact sfs_nil
    | cons e l => simp [mEs_nil] at h
  | .cons a as, sc, fn, l, h => by
    cases l with
    | nil => simp [mEs_cons] at h
    | cons e l =>
      simp only [mEs_cons, Bool.and_eq_true, Bool.not_eq_true'] at h
      exact sfs_cons (snd_E a sc fn _ h.1.2) (snd_Fs as sc fn _ h.2)
theorem snd_O : ∀ (a : CEo) (sc : Scope) (fn : Str → Bool) (l : Option Expr), mO N a sc fn l = true → SO_ c N sc fn l a
  | .none, sc, fn, l, h => by
    cases l with
    | none => exact so_none
    | some e => simp [mO_none] at h
  | .some a, sc, fn, l, h => by
    cases l with
    | none => simp [mO_some] at h
    | some e => exact so_some (snd_E a sc fn _ (by rw [mO_some] at h; exact h))
theorem snd_I : ∀ (a : CI) (sc : Scope) (fn : Str → Bool) (tg e : Expr), mI N a sc fn tg e = true → SI c N sc fn tg e a
  | .of a, sc, fn, tg, e, h => by
    rw [mI_of] at h
    exact si_of (snd_E a sc fn _ h)
  | .rng a, sc, fn, tg, e, h => by
    rw [mI_rng] at h
    split at h
    · simp only [Bool.and_eq_true, decide_eq_true_eq, Bool.not_eq_true'] at h
      obtain ⟨⟨⟨rfl, h2⟩, h3⟩, h4⟩ := h
      exact si_rng h2 h3 (snd_E a sc fn _ h4)
    · cases h
  | .rng2 a b, sc, fn, tg, e, h => by
    rw [mI_rng2] at h
    split at h
    · simp only [Bool.and_eq_true, decide_eq_true_eq, Bool.not_eq_true'] at h
      obtain ⟨⟨⟨⟨⟨rfl, h2⟩, h3⟩, h4⟩, h5⟩, h6⟩ := h
      exact si_rng2 h2 h3 h4 (snd_E a sc fn _ h5) (snd_E b sc fn _ h6)
    · cases h
  | .enum a, sc, fn, tg, e, h => by
    rw [mI_enum] at h
    split at h
    · simp only [Bool.and_eq_true, decide_eq_true_eq, Bool.not_eq_true'] at h
      obtain ⟨⟨⟨rfl, h2⟩, h3⟩, h4⟩ := h
      exact si_enum h2 h3 (snd_E a sc fn _ h4)
    · cases h
  | .zip a b, sc, fn, tg, e, h => by
    rw [mI_zip] at h
    split at h
    · simp only [Bool.and_eq_true, decide_eq_true_eq, Bool.not_eq_true'] at h
      obtain ⟨⟨⟨⟨⟨rfl, h2⟩, h3⟩, h4⟩, h5⟩, h6⟩ := h
      exact si_zip h2 h3 h4 (snd_E a sc fn _ h5) (snd_E b sc fn _ h6)
    · cases h
end
end
end NW
end
section
set_option linter.all false
set_option maxRecDepth 100000
set_option maxHeartbeats 2000000
/-! NWn: statements: matching, goals, cases -/
namespace NW
open PySem L2 PyProof.Rows
/-! ### matching -/
def swB (sc : Scope) (y : Str) (py : Pos) : Expr → Bool
  | .ListComp _ _ scope pos => sc.names.lookup y == some .local && py.line == pos.line && !(scope.names.any fun (n, k) => n == y && (k == .local || k == .cell))
  | _ => false
def isComp : Expr → Bool
  | .ListComp .. | .SetComp .. | .DictComp .. => true
  | _ => false
def isTupE : Expr → Bool
  | .Tuple .. => true
  | _ => false
/-- what PySem.swappedStores answers in a def's body -/
def swR (sc : Scope) (ts vs : List Expr) : Option (Option (List Str)) :=
  if !(ts.length == 2 || ts.length == 3) || vs.length != ts.length then some none
  else if vs.any (fun | .Starred .. => true | _ => false) then some none
  else
    let line := (ts.head?.map (·.pos.line)).getD 0
    let names := ts.filterMap fun
      | .Name id pos => if sc.names.lookup id == some .local && pos.line == line then some id else none
      | _ => none
    if names.length != ts.length || names.eraseDups.length != names.length then some none
    else if vs.all (foldedForSure 8) then some none
    else if vs.all (constantsAlone 8) then none
    else some (some names)
theorem sw_R {env : PySem.Env} (hk : env.scope.kind = .function) {ts vs : List Expr} {k1 k2 : Nat} {p1 p2 : Pos} {r : Option (List Str)} (h : swR env.scope ts vs = some r) : swappedStores [.Tuple ts k1 p1] (.Tuple vs k2 p2) env = pure r := by
  have hb : env.blockKind = .function := by unfold Env.blockKind; rw [hk]; rfl
  unfold swR at h
  unfold swappedStores
  simp only [hb]
  have e0 : (ScopeKind.function != ScopeKind.function) = false := rfl
  simp only [e0, Bool.or_false]
  split at h
  · rename_i h1
    cases h
    exact if_pos h1
  rename_i h1
  refine (if_neg h1).trans ?_
  split at h
  · rename_i h2
    cases h
    exact if_pos h2
  rename_i h2
  refine (if_neg h2).trans ?_
  simp only at h
  split at h
  · rename_i h3
    cases h
    exact if_pos h3
  rename_i h3
  refine (if_neg h3).trans ?_
  split at h
  · rename_i h4
    cases h
    exact if_pos h4
  rename_i h4
  refine (if_neg h4).trans ?_
  split at h
  · cases h
  rename_i h5
  cases h
  exact if_neg h5

theorem sw_B {env : PySem.Env} (hk : env.scope.kind = .function) {y : Str} {py : Pos} {v : Expr} {l : Nat} (hv : ∀ e gs s p, v ≠ .SetComp e gs s p) (hd : ∀ k e gs s p, v ≠ .DictComp k e gs s p) : swapsWith v (some (.Name y py)) l env = pure (swB env.scope y py v) := by
  have hb : env.blockKind = .function := by unfold Env.blockKind; rw [hk]; rfl
  cases v
  case ListComp e gs s p =>
    unfold swapsWith
    simp only [hb]
    rfl
  case SetComp e gs s p => exact absurd rfl (hv _ _ _ _)
  case DictComp k e gs s p => exact absurd rfl (hd _ _ _ _ _)
  all_goals rfl
theorem sw_sub {v o i : Expr} {p : Pos} {l : Nat} {env : PySem.Env} : swapsWith v (some (.Subscript o i p)) l env = pure false := by cases v <;> rfl
theorem sw_tup {v : Expr} {es : List Expr} {k : Nat} {p : Pos} {l : Nat} {env : PySem.Env} : swapsWithSole [.Tuple es k p] v l env = pure false := by cases v <;> rfl
theorem sw_none {v : Expr} {l : Nat} {env : PySem.Env} (h : isComp v = false) : swapsWith v none l env = pure false := by cases v <;> first | rfl | cases h
theorem ss_none {v : Expr} {es : List Expr} {k : Nat} {p : Pos} {env : PySem.Env} (h : isTupE v = false) : swappedStores [.Tuple es k p] v env = pure none := by cases v <;> first | rfl | cases h
theorem mE_set {N : List Str} {sc : Scope} {fn : Str → Bool} {a : CE} {v : Expr} (m : mE N a sc fn v = true) : (∀ e gs s p, v ≠ .SetComp e gs s p) ∧ ∀ k e gs s p, v ≠ .DictComp k e gs s p := by
  constructor
  · rintro e gs s p rfl
    cases a
    case lit d => cases d <;> simp [mE_lit] at m
    all_goals simp [mE_var, mE_glob, mE_tup, mE_lst, mE_dct, mE_bin, mE_cmp, mE_chain, mE_isN, mE_notN, mE_and, mE_or, mE_not, mE_neg, mE_ite, mE_ix, mE_fld, mE_sl, mE_bi, mE_isi, mE_call, mE_cio, mE_comp] at m
  · rintro k e gs s p rfl
    cases a
    case lit d => cases d <;> simp [mE_lit] at m
    all_goals simp [mE_var, mE_glob, mE_tup, mE_lst, mE_dct, mE_bin, mE_cmp, mE_chain, mE_isN, mE_notN, mE_and, mE_or, mE_not, mE_neg, mE_ite, mE_ix, mE_fld, mE_sl, mE_bi, mE_isi, mE_call, mE_cio, mE_comp] at m
def nmOk (N : List Str) (sc : Scope) (i : Nat) (y : Str) : Bool := decide (N[i]? = some y) && visB sc y && nmB y
mutual
def mS (N : List Str) : CS → Scope → (Str → Bool) → Stmt → Bool
  | .asg t e, sc, fn, s => match s with
    | .Assign [tg] v _ => mT N sc fn t tg && mE N e sc fn v && (match t with
      | .name _ => true
      | .tup _ => !(isTupE v))
    | _ => false
  | .par l es, sc, fn, s => match s with
    | .Assign [.Tuple ts _ _] (.Tuple vs _ _) _ => mNames N sc fn l ts && mEs N es sc fn vs && decide (ts.length = vs.length) && decide (l.length ≤ 100) && (swR sc ts vs).isSome
    | _ => false
  | .aug i k e, sc, fn, s => match s with
    | .AugAssign (.Name y _) op v _ => decide (N[i]? = some y) && tgB sc fn y && mE N e sc fn v && (match k, op with
      | .add, .Add => true
      | .sub, .Sub => true
      | _, _ => false)
    | _ => false
  | .put i k e, sc, fn, s => match s with
    | .Assign [.Subscript (.Name y _) kx _] v _ => nmOk N sc i y && !(isSlice kx) && mE N k sc fn kx && mE N e sc fn v
    | _ => false
  | .putf i f k e, sc, fn, s => match s with
    | .Assign [.Subscript (.Subscript (.Name y _) (.Constant (.str g) _ _) _) kx _] v _ => nmOk N sc i y && decide (f = g) && !(isSlice kx) && mE N k sc fn kx && mE N e sc fn v
    | _ => false
  | .append i e, sc, fn, s => match s with
    | .Expr (.Call (.Attribute (.Name y _) m apos) [x] [] cpos) _ => nmOk N sc i y && decide (m = "append") && (apos.endLine == cpos.line) && !(isStar x) && mE N e sc fn x
    | _ => false
  | .expr e, sc, fn, s => match s with
    | .Expr v _ => mE N e sc fn v && !(isComp v)
    | _ => false
  | .ret e, sc, fn, s => match s with
    | .Return (some v) _ => mE N e sc fn v
    | _ => false
  | .retN, _, _, s => match s with
    | .Return none _ => true
    | _ => false
  | .ite t a b, sc, fn, s => match s with
    | .If c x y _ => mB N t sc fn c && mSs N a sc fn x && mSs N b sc fn y
    | _ => false
  | .for_ t src body, sc, fn, s => match s with
    | .For tg it b [] _ => !(isSet it) && mI N src sc fn tg it && mT N sc fn t tg && mSs N body sc fn b
    | _ => false
  | .while_ t body, sc, fn, s => match s with
    | .While c b [] _ => mB N t sc fn c && mSs N body sc fn b
    | _ => false
  | .never, _, _, _ => true
  | .pass, _, _, s => match s with
    | .Pass _ => true
    | _ => false
  | .brk, _, _, s => match s with
    | .Break _ => true
    | _ => false
  | .cnt, _, _, s => match s with
    | .Continue _ => true
    | _ => false
def mSs (N : List Str) : CSs → Scope → (Str → Bool) → List Stmt → Bool
  | .nil, _, _, l => match l with
    | [] => true
    | _ => false
  | .cons s r, sc, fn, l => match l with
    | x :: l => mS N s sc fn x && mSs N r sc fn l
    | _ => false
end
/-! ### goals -/
def Pin (pn : Nat) (σ σ' : L2.St) : Prop := ∀ j, j < pn → σ'[j]? = σ[j]?
def GS (c : Ct) (W : WX) (pn : Nat) (σ : L2.St) (H : Hp) (G : Addr → Prop) (fps : Fs) (D : Ends) : SO → Prop
  | .nx e => ∀ σ' H' G' fps', Aft c.K σ' H G fps e H' G' fps' [] → Pin pn σ σ' → D.nx σ' H'
  | .brk e => ∀ σ' H' G' fps', Aft c.K σ' H G fps e H' G' fps' [] → Pin pn σ σ' → D.bk σ' H'
  | .cnt e => ∀ σ' H' G' fps', Aft c.K σ' H G fps e H' G' fps' [] → Pin pn σ σ' → D.ct σ' H'
  | .ret o e => ∀ v σ' H' G' fps' fpt, Aft c.K σ' H G fps e H' G' fps' fpt → Pin pn σ σ' → Ow c.K H' G' o v fpt → D.rt v H'
  | .exc x e => ∀ cls d σ' H' G' fps', Aft c.K σ' H G fps e H' G' fps' [] → Pin pn σ σ' → c.xr x cls d H' → W cls d σ' H'
structure CtxS (c : Ct) (X : Cx) (W : WX) (N : List Str) (sc : Scope) (fn : Str → Bool) : Prop where
  ok : CtxOk c X W N sc fn
  po : PassesOwn (model X.prog X.w) X.A X.env X.xe
  kd : sc.kind = .function
section
variable (c : Ct) (N : List Str) (pn : Nat)
def SS (sc : Scope) (fn : Str → Bool) (s : Stmt) (a : CS) : Prop := ∀ X W, CtxS c X W N sc fn → ∀ env σ H G fps out D, EnvR c.K env σ H G fps → evalS c.Γ pn a env = some out → GS c W pn σ H G fps D out → tS X s D σ H
def SSs (sc : Scope) (fn : Str → Bool) (l : List Stmt) (a : CSs) : Prop := ∀ X W, CtxS c X W N sc fn → ∀ env σ H G fps out D, EnvR c.K env σ H G fps → evalSs c.Γ pn a env = some out → GS c W pn σ H G fps D out → tSs X l D σ H
end
theorem sbnd_ways {α : Type} {x : Option (Out α)} {f : α → Env → Option SO} {out : SO} (h : sbnd x f = some out) : (∃ a e, x = some (.ok a e) ∧ f a e = some out) ∨ ∃ y e, x = some (.exc y e) ∧ out = .exc y e := by
  cases x with
  | none => cases h
  | some o =>
    cases o with
    | ok a e => exact .inl ⟨a, e, rfl, h⟩
    | exc y e => cases h; exact .inr ⟨y, e, rfl, rfl⟩
theorem Pin.refl {pn : Nat} {σ : L2.St} : Pin pn σ σ := fun _ _ => rfl
theorem Pin.trans {pn : Nat} {σ σ' σ2 : L2.St} (a : Pin pn σ σ') (b : Pin pn σ' σ2) : Pin pn σ σ2 := fun j hj => (b j hj).trans (a j hj)
theorem Pin.set {pn i : Nat} {σ : L2.St} {v : Option V} (h : pn ≤ i) : Pin pn σ (σ.set i v) := fun j hj => List.getElem?_set_ne (by omega)
section
variable {c : Ct} {N : List Str} {sc : Scope} {fn : Str → Bool} {pn : Nat}
/-- steps one behind another, the names stored to between -/
theorem Aft.nextS {K : PySem.W.Frag} {σ σ2 : L2.St} {H0 H1 H2 : Hp} {G0 G1 G2 : Addr → Prop} {fps0 fps1 fps2 : Fs} {env1 env2 : Env} {fpt1 fpt2 : List Addr} (a : Aft K σ H0 G0 fps0 env1 H1 G1 fps1 fpt1) (b : Aft K σ2 H1 G1 fps1 env2 H2 G2 fps2 fpt2) : Aft K σ2 H0 G0 fps0 env2 H2 G2 fps2 fpt2 :=
  ⟨b.E, a.S.trans b.S, fun c hc => by
    rcases b.new c hc with z | z
    · exact a.S.fnew c z
    · exact (a.S.none_of z).symm, b.off⟩
/-- a goal, seen from a later state -/
theorem GS.later {W : WX} {σ σ1 : L2.St} {H H1 : Hp} {G G1 : Addr → Prop} {fps fps1 : Fs} {D : Ends} {out : SO} {env1 : Env} {fpt : List Addr} (a : Aft c.K σ1 H G fps env1 H1 G1 fps1 fpt) (hp : Pin pn σ σ1) (h : GS c W pn σ H G fps D out) : GS c W pn σ1 H1 G1 fps1 D out := by
  cases out with
  | nx e => exact fun σ' H' G' fps' b q => h σ' H' G' fps' (a.nextS b) (hp.trans q)
  | brk e => exact fun σ' H' G' fps' b q => h σ' H' G' fps' (a.nextS b) (hp.trans q)
  | cnt e => exact fun σ' H' G' fps' b q => h σ' H' G' fps' (a.nextS b) (hp.trans q)
  | ret o e => exact fun v σ' H' G' fps' fpt b q r => h v σ' H' G' fps' fpt (a.nextS b) (hp.trans q) r
  | exc x e => exact fun cls d σ' H' G' fps' b q r => h cls d σ' H' G' fps' (a.nextS b) (hp.trans q) r
theorem ss_never {s : Stmt} : SS c N pn sc fn s .never := by
  intro X W ok env σ H G fps out D E he hq
  simp only [evalS_never] at he
  cases he
theorem ss_pass {p : Pos} : SS c N pn sc fn (.Pass p) .pass := by
  intro X W ok env σ H G fps out D E he hq
  simp only [evalS_pass] at he
  cases he
  exact tS_of ps_pass (hq σ H G fps (Aft.refl E) Pin.refl)
theorem ss_brk {p : Pos} : SS c N pn sc fn (.Break p) .brk := by
  intro X W ok env σ H G fps out D E he hq
  simp only [evalS_brk] at he
  cases he
  exact tS_of ps_break (hq σ H G fps (Aft.refl E) Pin.refl)
theorem ss_cnt {p : Pos} : SS c N pn sc fn (.Continue p) .cnt := by
  intro X W ok env σ H G fps out D E he hq
  simp only [evalS_cnt] at he
  cases he
  exact tS_of ps_continue (hq σ H G fps (Aft.refl E) Pin.refl)
theorem ss_retN {p : Pos} : SS c N pn sc fn (.Return none p) .retN := by
  intro X W ok env σ H G fps out D E he hq
  simp only [evalS_retN] at he
  cases he
  exact tS_of ps_retN (hq .non σ H G fps [] (Aft.refl E) Pin.refl ⟨rfl, .non⟩)
theorem ss_ret {a : CE} {e : Expr} {p : Pos} (h : SE c N sc fn e a) : SS c N pn sc fn (.Return (some e) p) (.ret a) := by
  intro X W ok env σ H G fps out D E he hq
  simp only [evalS_ret] at he
  refine tS_of (ps_ret (peS X e)) ?_
  rcases sbnd_ways he with ⟨p1, env1, e1, he⟩ | ⟨y, env1, e1, rfl⟩
  · refine h X W ok.ok env σ H G fps _ _ E e1 fun v H1 G1 fps1 fpt1 a1 r1 s1 => ?_
    rcases sbnd_ways he with ⟨o, env2, e2, he⟩ | ⟨y, env2, e2, rfl⟩
    · cases he
      obtain ⟨G2, fps2, fpt2, a2, r2⟩ := mv_ok a1 r1 e2
      exact hq v σ H1 G2 fps2 fpt2 a2 Pin.refl r2
    · exact (mv_not e2).elim
  · exact h X W ok.ok env σ H G fps _ _ E e1 fun cls d H1 G1 fps1 a1 x1 => hq cls d σ H1 G1 fps1 a1 Pin.refl x1
theorem ss_expr {a : CE} {e : Expr} {p : Pos} (hc : isComp e = false) (h : SE c N sc fn e a) : SS c N pn sc fn (.Expr e p) (.expr a) := by
  intro X W ok env σ H G fps out D E he hq
  simp only [evalS_expr] at he
  refine tS_of (ps_expr (peS X e) (sw_none hc)) ?_
  rcases sbnd_ways he with ⟨p1, env1, e1, he⟩ | ⟨y, env1, e1, rfl⟩
  · cases he
    exact h X W ok.ok env σ H G fps _ _ E e1 fun v H1 G1 fps1 fpt1 a1 r1 s1 => hq σ H1 G1 fps1 a1.drop Pin.refl
  · exact h X W ok.ok env σ H G fps _ _ E e1 fun cls d H1 G1 fps1 a1 x1 => hq cls d σ H1 G1 fps1 a1 Pin.refl x1
theorem ss_ite {t : CB} {a b : CSs} {x : Expr} {y z : List Stmt} {p : Pos} (h0 : SB c N sc fn x t) (h1 : SSs c N pn sc fn y a) (h2 : SSs c N pn sc fn z b) : SS c N pn sc fn (.If x y z p) (.ite t a b) := by
  intro X W ok env σ H G fps out D E he hq
  simp only [evalS_ite] at he
  refine tS_of (ps_if (ptS X x) (pssS X y) (pssS X z)) ?_
  rcases sbnd_ways he with ⟨b1, env1, e1, he⟩ | ⟨y, env1, e1, rfl⟩
  · refine h0 X W ok.ok env σ H G fps _ _ E e1 fun H1 G1 fps1 a1 s1 => ?_
    cases b1 with
    | true =>
      rw [if_pos rfl] at he ⊢
      exact h1 X W ok env1 σ H1 G1 fps1 out D a1.E he (hq.later a1 Pin.refl)
    | false =>
      rw [if_neg Bool.false_ne_true] at he ⊢
      exact h2 X W ok env1 σ H1 G1 fps1 out D a1.E he (hq.later a1 Pin.refl)
  · exact h0 X W ok.ok env σ H G fps _ _ E e1 fun cls d H1 G1 fps1 a1 x1 => hq cls d σ H1 G1 fps1 a1 Pin.refl x1
theorem sss_nil : SSs c N pn sc fn [] .nil := by
  intro X W ok env σ H G fps out D E he hq
  simp only [evalSs_nil] at he
  cases he
  exact tSs_of pss_nil (hq σ H G fps (Aft.refl E) Pin.refl)
theorem sss_cons {s : Stmt} {l : List Stmt} {a : CS} {as : CSs} (h1 : SS c N pn sc fn s a) (h2 : SSs c N pn sc fn l as) : SSs c N pn sc fn (s :: l) (.cons a as) := by
  intro X W ok env σ H G fps out D E he hq
  simp only [evalSs_cons] at he
  refine tSs_of (pss_cons (psS X s) (pssS X l)) ?_
  cases q : evalS c.Γ pn a env with
  | none => rw [q] at he; cases he
  | some o =>
    rw [q] at he
    refine h1 X W ok env σ H G fps o _ E q ?_
    cases o with
    | nx e1 => exact fun σ1 H1 G1 fps1 a1 p1 => h2 X W ok e1 σ1 H1 G1 fps1 out D a1.E he (hq.later a1 p1)
    | ret o e1 => cases he; exact hq
    | brk e1 => cases he; exact hq
    | cnt e1 => cases he; exact hq
    | exc x e1 => cases he; exact hq
end
end NW
end
section
set_option linter.all false
set_option maxRecDepth 100000
set_option maxHeartbeats 2000000
/-! NWo: statements that store; loops -/
namespace NW
open PySem L2 PyProof.Rows
section
variable {c : Ct} {N : List Str} {sc : Scope} {fn : Str → Bool} {pn : Nat}
theorem nm_pe {X : Cx} {W : WX} (ok : CtxOk c X W N sc fn) {i : Nat} {y : Str} {p : Pos} {t : CT} (h : mT N sc fn (.name i) (.Name y p) = true) : X.N.Nodup ∧ X.N[i]? = some y ∧ L2.Loc X.env.scope y ∧ (X.fn y = true ∨ X.env.scope.names.lookup y = some .local) := by
  simp only [mT, Bool.and_eq_true, decide_eq_true_eq] at h
  obtain ⟨h1, h2⟩ := tgB_ok h.2
  exact ⟨by rw [ok.eN]; exact ok.nd, by rw [ok.eN]; exact h.1, by rw [ok.eS]; exact h1, by rw [ok.eF, ok.eS]; exact h2⟩
/-- the reading of name = e from that of e -/
theorem asg_name {te : TE} {i : Nat} {a : CE} {D : Ends} {env : Env} {σ : L2.St} {H : Hp} {G : Addr → Prop} {fps : Fs} {out : SO} {W : WX}
    (hte : ∀ out1 Q, evalE c.Γ a env = some out1 → GE c W σ H G fps (noeff a) Q out1 → te σ H Q) (he : evalS c.Γ pn (.asg (.name i) a) env = some out) (hq : GS c W pn σ H G fps D out) : tAsg te (gName i) D σ H := by
  simp only [evalS_asg] at he
  split at he
  · rename_i hpn
    rcases sbnd_ways he with ⟨p1, env1, e1, he⟩ | ⟨y, env1, e1, rfl⟩
    · refine hte _ _ e1 fun v H1 G1 fps1 fpt1 a1 r1 s1 => ?_
      rcases sbnd_ways he with ⟨o, env2, e2, he⟩ | ⟨y, env2, e2, rfl⟩
      · cases he
        obtain ⟨G2, fps2, fpt2, a2, r2⟩ := share_ok a1 r1 e2
        obtain ⟨fps3, E3, S3⟩ := a2.put (i := i) r2
        exact hq _ H1 G2 fps3 ⟨E3, S3, (fun b hb => nomatch hb), (fun b hb => nomatch hb)⟩ (Pin.set hpn)
      · exact (share_not e2).elim
    · exact hte _ _ e1 fun cls d H1 G1 fps1 a1 x1 => hq cls d σ H1 G1 fps1 a1 Pin.refl x1
  · cases he
theorem swB_comp {y : Str} {py : Pos} {v : Expr} (h : swB sc y py v = true) : ∃ e gs s p, v = .ListComp e gs s p := by
  cases v <;> first | exact ⟨_, _, _, _, rfl⟩ | cases h
theorem ss_name {i : Nat} {a : CE} {y : Str} {py p : Pos} {v : Expr} (ht : mT N sc fn (.name i) (.Name y py) = true) (hv : mE N a sc fn v = true) : SS c N pn sc fn (.Assign [.Name y py] v p) (.asg (.name i) a) := by
  intro X W ok env σ H G fps out D E he hq
  obtain ⟨n1, n2, n3, n4⟩ := nm_pe (t := .name i) ok.ok ht
  have hk : X.env.scope.kind = .function := by rw [ok.ok.eS]; exact ok.kd
  obtain ⟨m1, m2⟩ := mE_set hv
  have hsw := sw_B (l := p.line) (y := y) (py := py) hk m1 m2
  cases hb : swB X.env.scope y py v with
  | false =>
    rw [hb] at hsw
    exact tS_of (ps_set n1 n2 n3 (peS X v) hsw n4) (asg_name (fun out1 Q e1 q1 => snd_E a sc fn v hv X W ok.ok env σ H G fps out1 Q E e1 q1) he hq)
  | true =>
    rw [hb] at hsw
    obtain ⟨el0, gs, scope0, pos0, rfl⟩ := swB_comp hb
    have hloc : X.env.scope.names.lookup y = some .local := by
      simp only [swB, Bool.and_eq_true, beq_iff_eq] at hb
      exact hb.1.1
    -- the core text is a comprehension
    cases a
    case comp own t src cond elt =>
      have h := hv
      rw [mE_comp] at h
      split at h
      · rename_i z1 el tg it ifs scope pos hz
        injection hz with hz1 hz2 hz3 hz4
        subst hz1 hz2 hz3 hz4
        obtain ⟨h, h6⟩ := one3 (α := Nat) h
        simp only [Bool.and_eq_true, Bool.not_eq_true'] at h
        obtain ⟨⟨⟨⟨h1, h2⟩, h3⟩, h4⟩, h5⟩ := h
        have hcnd : SBs c N (relS scope0 sc) (fnB scope0) ifs cond := by
          split at h6
          · split at h6
            · exact sbs_nil
            · cases h6
          · exact sbs_one (snd_B cond _ _ _ h6)
          · cases h6
        have hbk : BlkOk X.N X.env.scope scope0 (ownP N own) := by
          rw [ok.ok.eN, ok.ok.eS]; exact blkOk_by h1
        have := ps_setLc (X := X) (pos := pos0) (spos := p) (py := py) (wi := tI X tg it) (g := gT X.K t) (tt := cT X scope0 ifs) (te := cE X scope0 el0) (elt := el0) ok.ok.calm n1 n2 hloc hsw (piS X tg it) hbk
          (fun s H C cl fp => pg_T (ok.ok.blk scope0 s H C cl fp) h4) (fun s H C cl fp => ⟨fun pins s' σ H' Q I h => h s H C cl fp pins s' I⟩) (fun s H C cl fp => ⟨fun pins s' σ H' Q I h => h s H C cl fp pins s' I⟩) (fun x => notSet_ok h2 X.env x)
        rw [ownP_snd] at this
        exact tS_of this (asg_name (fun out1 Q e1 q1 => comp_ok ok.ok (snd_I src sc fn _ _ h3) (snd_E elt _ _ _ h5) hcnd E e1 q1) he hq)
      · cases h
    case lit d => exfalso; cases d <;> simp [mE_lit] at hv
    all_goals (exfalso; simp [mE_var, mE_glob, mE_tup, mE_lst, mE_dct, mE_bin, mE_cmp, mE_chain, mE_isN, mE_notN, mE_and, mE_or, mE_not, mE_neg, mE_ite, mE_ix, mE_fld, mE_sl, mE_bi, mE_isi, mE_call, mE_cio] at hv)
theorem gT_pin {t : CT} {σ σ2 : L2.St} (ht : targets pn t = true) (h : ∀ j, j ∉ t.slots → σ2[j]? = σ[j]?) : Pin pn σ σ2 := fun j hj => h j fun hm => by
  cases t with
  | name i =>
    have : j = i := by simpa [CT.slots] using hm
    simp only [targets, decide_eq_true_eq] at ht
    omega
  | tup l =>
    unfold targets at ht
    rw [List.all_eq_true] at ht
    have := ht j hm
    simp only [decide_eq_true_eq] at this
    omega
theorem ss_tup {l : List Nat} {a : CE} {es : List Expr} {kk : Nat} {tp p : Pos} {v : Expr} (ht : mT N sc fn (.tup l) (.Tuple es kk tp) = true) (hv : isTupE v = false) (h : SE c N sc fn v a) : SS c N pn sc fn (.Assign [.Tuple es kk tp] v p) (.asg (.tup l) a) := by
  intro X W ok env σ H G fps out D E he hq
  simp only [evalS_asg_2] at he
  split at he
  · rename_i hpn
    refine tS_of (ps_asg (peS X v) (pg_T ok.ok ht) sw_tup (ss_none hv) rfl) ?_
    rcases sbnd_ways he with ⟨p1, env1, e1, he⟩ | ⟨y, env1, e1, rfl⟩
    · refine h X W ok.ok env σ H G fps _ _ E e1 fun v H1 G1 fps1 fpt1 a1 r1 s1 => ?_
      rcases sbnd_ways he with ⟨d, env2, e2, he⟩ | ⟨y, env2, e2, rfl⟩
      · obtain ⟨G2, fps2, a2, r2⟩ := frz_ok a1 r1 e2
        split at he
        · rename_i env3 e3
          cases he
          rw [ok.ok.eK]
          refine gT_ok a2.E r2 e3 fun σ3 fps3 E3 f3 h3 l3 => ?_
          exact hq σ3 H1 G2 fps3 ⟨E3, ⟨a2.S.keep, a2.S.tups, a2.S.frzs, a2.S.gsub, a2.S.gnew, fun b hb => a2.S.fnew b (f3 b hb)⟩, (fun b hb => nomatch hb), (fun b hb => nomatch hb)⟩ (gT_pin (t := .tup l) hpn h3)
        · cases he
      · exact (frz_not e2).elim
    · exact h X W ok.ok env σ H G fps _ _ E e1 fun cls d H1 G1 fps1 a1 x1 => hq cls d σ H1 G1 fps1 a1 Pin.refl x1
  · cases he
/-! ### op= -/
theorem ss_aug {i : Nat} {k : BinK} {a : CE} {y : Str} {py p : Pos} {op : Operator} {v : Expr} (hk : k = .add ∧ op = .Add ∨ k = .sub ∧ op = .Sub) (ht : mT N sc fn (.name i) (.Name y py) = true) (h : SE c N sc fn v a) : SS c N pn sc fn (.AugAssign (.Name y py) op v p) (.aug i k a) := by
  intro X W ok env σ H G fps out D E he hq
  simp only [evalS_aug] at he
  obtain ⟨n1, n2, n3, n4⟩ := nm_pe (t := .name i) ok.ok ht
  split at he
  · rename_i hpn
    split at he
    · rename_i x hx
      obtain ⟨u, hu, ru⟩ := E.rep i _ hx
      have main : ∀ {f : Int → Int → Int}, (∀ y d, augO k x y = some d → ∃ a b, x = .int a ∧ y = .int b ∧ d = .int (f a b)) → tAug i (tE X v) (ipI f) D σ H := fun {f} hf => by
        refine ⟨u, hu, ?_⟩
        rcases sbnd_ways he with ⟨p1, env1, e1, he⟩ | ⟨z, env1, e1, rfl⟩
        · refine h X W ok.ok env σ H G fps _ _ E e1 fun w H1 G1 fps1 fpt1 a1 r1 s1 => ?_
          split at he
          · rename_i d hd
            cases he
            cases hb : flatP p1 env1 with
            | none => rw [hb] at hd; cases hd
            | some y =>
              rw [hb] at hd
              obtain ⟨ai, bi, rfl, rfl, rfl⟩ := hf y d hd
              have z1 := rint ru.2
              have z2 := rint (pr_flat a1.E r1 hb)
              subst z1 z2
              refine ⟨ai, bi, rfl, rfl, ?_⟩
              obtain ⟨fps3, E3, S3⟩ := a1.drop.put (i := i) (o := .fz (.int (f ai bi))) (v := .int (f ai bi)) ⟨rfl, .int _⟩
              exact hq _ H1 G1 fps3 ⟨E3, S3, (fun b hb => nomatch hb), (fun b hb => nomatch hb)⟩ (Pin.set hpn)
          · cases he
        · exact h X W ok.ok env σ H G fps _ _ E e1 fun cls d H1 G1 fps1 a1 x1 => hq cls d σ H1 G1 fps1 a1 Pin.refl x1
      rcases hk with ⟨rfl, rfl⟩ | ⟨rfl, rfl⟩
      · refine tS_of (ps_aug n1 n2 n3 (peS X v) ip_add n4) (main fun y d e => ?_)
        cases x <;> cases y <;> cases e
        exact ⟨_, _, rfl, rfl, rfl⟩
      · refine tS_of (ps_aug n1 n2 n3 (peS X v) ip_sub n4) (main fun y d e => ?_)
        cases x <;> cases y <;> cases e
        exact ⟨_, _, rfl, rfl, rfl⟩
    · cases he
  · cases he
/-! ### a place of a name's thing is written -/
theorem Aft.write {K : PySem.W.Frag} {σ : L2.St} {H0 H H' : Hp} {G0 G : Addr → Prop} {fps0 fps : Fs} {env : Env} {fpt fp' : List Addr} {i : Nat} {o o' : O} {v : V} {a : Addr} (A : Aft K σ H0 G0 fps0 env H G fps fpt) (hs : slot env i = some o) (hv : σ[i]? = some (some v)) (ha : a ∈ fps i)
    (st : Step H G (· = a) H' G (· = a)) (g : GHeld H' G) (r : Ow K H' G o' v fp') (hfp : ∀ b ∈ fp', b ∈ fps i ∨ b ∈ fpt) : Aft K σ H0 G0 fps0 (env.set i (some o')) H' G (updF fps i fp') [] := by
  have hi := slot_lt hs
  have dG : ∀ x, G x → ¬ x = a := fun x g e => by subst e; exact A.E.gf x g ⟨i, ha⟩
  have a0 : FF fps0 a ∨ H0 a = none := A.S.fnew a ⟨i, ha⟩
  refine ⟨⟨g, by rw [List.length_set]; exact A.E.len, fun j o2 hj => ?_, fun j hj => ?_, fun j k b hb hb' => ?_⟩, ⟨fun b u e nf => ?_, fun b xs e => st.tups b xs (A.S.tups b xs e), fun b o u e => st.frzs b o u (A.S.frzs b o u e), A.S.gsub, A.S.gnew, fun b ⟨j, hj⟩ => ?_⟩, (fun b hb => nomatch hb), (fun b hb => nomatch hb)⟩
  · rw [slot_set hi] at hj
    by_cases e : j = i
    · subst e
      rw [if_pos rfl] at hj
      cases hj
      exact ⟨v, hv, by rw [updF_same]; exact r⟩
    · rw [if_neg e] at hj
      obtain ⟨w, hw, q⟩ := A.E.rep j o2 hj
      rw [updF_ne e]
      exact ⟨w, hw, q.step st dG fun b hb z => by subst z; exact e (A.E.dis j i b hb ha)⟩
  · rw [slot_set hi] at hj
    by_cases e : j = i
    · rw [if_pos e] at hj; cases hj
    · rw [if_neg e] at hj
      rw [updF_ne e]; exact A.E.emp j hj
  · unfold updF at hb hb'
    split at hb
    · rename_i e
      split at hb'
      · rename_i e'; rw [e, e']
      · rename_i e'
        rcases hfp b hb with z | z
        · exact (e' (A.E.dis k i b hb' z)).elim
        · exact (A.off b z ⟨k, hb'⟩).elim
    · rename_i e
      split at hb'
      · rcases hfp b hb' with z | z
        · exact (e (A.E.dis j i b hb z)).elim
        · exact (A.off b z ⟨j, hb⟩).elim
      · exact A.E.dis j k b hb hb'
  · refine st.keep b u (A.S.keep b u e nf) fun z => ?_
    subst z
    rcases a0 with z | z
    · exact nf z
    · rw [e] at z; cases z
  · unfold updF at hj
    split at hj
    · rcases hfp b hj with z | z
      · exact A.S.fnew b ⟨i, z⟩
      · exact A.new b z
    · exact A.S.fnew b ⟨j, hj⟩
/-- a field stored -/
theorem OwFs.putF {K : PySem.W.Frag} {H : Hp} {G : Addr → Prop} {k : Key} {f : Fld} {v : V} {fpf : List Addr} (hf : OwF K H G f v fpf) : ∀ {kvs : List (Key × Fld)} {rv : List (Key × V)} {fp : List Addr}, OwFs K H G kvs rv fp → (∀ b ∈ fpf, b ∉ fp) → (kvs.map (·.1)).Nodup →
    ∃ fp', OwFs K H G (NW.putF kvs k f) (putK rv k v) fp' ∧ ∀ b ∈ fp', b ∈ fp ∨ b ∈ fpf := by
  have neg : ∀ {kvs : List (Key × Fld)} {rv : List (Key × V)} {fp : List Addr}, OwFs K H G kvs rv fp → k ∉ kvs.map (·.1) → kvs.map (fun kv => if kv.1 = k then (kv.1, f) else kv) = kvs ∧ rv.map (fun kv => if kv.1 = k then (kv.1, v) else kv) = rv ∧ kvs.any (fun kv => decide (kv.1 = k)) = false ∧ rv.any (fun kv => decide (kv.1 = k)) = false := by
    intro kvs
    induction kvs with
    | nil =>
      intro rv fp h hn
      cases rv with
      | nil => exact ⟨rfl, rfl, rfl, rfl⟩
      | cons _ _ => exact h.elim
    | cons kf r ih =>
      intro rv fp h hn
      obtain ⟨k0, f0⟩ := kf
      cases rv with
      | nil => exact h.elim
      | cons kv rv =>
        obtain ⟨k', v'⟩ := kv
        obtain ⟨rfl, fp1, fp2, _, _, _, h2⟩ := h
        rw [List.map_cons, List.mem_cons, not_or] at hn
        obtain ⟨i1, i2, i3, i4⟩ := ih h2 hn.2
        have hk : k0 ≠ k := Ne.symm hn.1
        refine ⟨?_, ?_, ?_, ?_⟩
        · rw [List.map_cons, if_neg hk, i1]
        · rw [List.map_cons, if_neg hk, i2]
        · rw [List.any_cons, i3]; simp [hk]
        · rw [List.any_cons, i4]; simp [hk]
  intro kvs
  induction kvs with
  | nil =>
    intro rv fp h dj hn
    cases rv with
    | nil =>
      have : fp = [] := h
      subst this
      exact ⟨fpf, ⟨rfl, fpf, [], (List.append_nil _).symm, (fun b hb hb' => nomatch hb'), hf, rfl⟩, fun b hb => .inr hb⟩
    | cons _ _ => exact h.elim
  | cons kf r ih =>
    intro rv fp h dj hn
    obtain ⟨k0, f0⟩ := kf
    cases rv with
    | nil => exact h.elim
    | cons kv rv =>
      obtain ⟨k', v'⟩ := kv
      obtain ⟨rfl, fp1, fp2, rfl, dj2, h1, h2⟩ := h
      rw [List.map_cons, List.nodup_cons] at hn
      by_cases hk : k0 = k
      · subst hk
        obtain ⟨i1, i2, i3, i4⟩ := neg h2 hn.1
        refine ⟨fpf ++ fp2, ?_, fun b hb => ?_⟩
        · have e1 : NW.putF ((k0, f0) :: r) k0 f = (k0, f) :: r := by
            unfold NW.putF
            rw [if_pos (by simp), List.map_cons, if_pos rfl, i1]
          have e2 : putK ((k0, v') :: rv) k0 v = (k0, v) :: rv := by
            unfold putK
            rw [if_pos (by simp), List.map_cons, if_pos rfl, i2]
          rw [e1, e2]
          exact ⟨rfl, fpf, fp2, rfl, fun b hb hb' => dj b hb (List.mem_append_right _ hb'), hf, h2⟩
        · rcases List.mem_append.mp hb with z | z
          · exact .inr z
          · exact .inl (List.mem_append_right _ z)
      · obtain ⟨fp', q1, q2⟩ := ih h2 (fun b hb hb' => dj b hb (List.mem_append_right _ hb')) hn.2
        have e1 : NW.putF ((k0, f0) :: r) k f = (k0, f0) :: NW.putF r k f := by
          unfold NW.putF
          by_cases ha : (r.any fun kv => decide (kv.1 = k)) = true
          · rw [if_pos ha, if_pos (by rw [List.any_cons, ha]; simp), List.map_cons, if_neg hk]
          · rw [if_neg ha, if_neg (by rw [List.any_cons]; simpa [hk] using ha)]; rfl
        have e2 : putK ((k0, v') :: rv) k v = (k0, v') :: putK rv k v := by
          unfold putK
          by_cases ha : (rv.any fun kv => decide (kv.1 = k)) = true
          · rw [if_pos ha, if_pos (by rw [List.any_cons, ha]; simp), List.map_cons, if_neg hk]
          · rw [if_neg ha, if_neg (by rw [List.any_cons]; simpa [hk] using ha)]; rfl
        rw [e1, e2]
        refine ⟨fp1 ++ fp', ⟨rfl, fp1, fp', rfl, fun b hb hb' => ?_, h1, q1⟩, fun b hb => ?_⟩
        · rcases q2 b hb' with z | z
          · exact dj2 b hb z
          · exact dj b z (List.mem_append_left _ hb)
        · rcases List.mem_append.mp hb with z | z
          · exact .inl (List.mem_append_left _ z)
          · rcases q2 b z with y | y
            · exact .inl (List.mem_append_right _ y)
            · exact .inr y
end
end NW
end
section
set_option linter.all false
set_option maxRecDepth 100000
set_option maxHeartbeats 2000000
/-! NWp: places written, parallel stores, loops -/
namespace NW
open PySem L2 PyProof.Rows
section
variable {c : Ct} {N : List Str} {sc : Scope} {fn : Str → Bool} {pn : Nat}
theorem setAny {X : Cx} : PSet X (fun o i v H Q => ∃ r, PSet X r ∧ r o i v H Q) := fun pins s σ H o i v ov iv u Q I ro ri rv ⟨r, hr, q⟩ => hr pins s σ H o i v ov iv u Q I ro ri rv q
theorem setAtI_ok {ds ds' : List D} {j : Int} {d : D} (h : setAtI ds j d = some ds') : ∃ n, ixN ds.length j = some n ∧ ds' = ds.set n d := by
  unfold setAtI at h
  cases q : ixN ds.length j with
  | none => rw [q] at h; cases h
  | some n => rw [q] at h; cases h; exact ⟨n, rfl, rfl⟩
theorem keyOf_ok {K : PySem.W.Frag} {H : Hp} {G : Addr → Prop} {v : V} {q : D} {k : Key} (r : RpS K H G v q) (h : keyOf q = some k) : v = kV k := by
  cases q <;> cases h
  · have := rint r; subst this; rfl
  · have := rstr r; subst this; rfl
theorem OwFs.len {K : PySem.W.Frag} {H : Hp} {G : Addr → Prop} : ∀ {kvs : List (Key × Fld)} {rv : List (Key × V)} {fp : List Addr}, OwFs K H G kvs rv fp → rv.length = kvs.length
  | [], [], _, _ => rfl
  | (k, f) :: r, (k', v) :: rv, fp, h => by
    obtain ⟨_, _, _, _, _, _, h2⟩ := h
    rw [List.length_cons, List.length_cons, OwFs.len h2]
  | [], _ :: _, _, h => h.elim
  | _ :: _, [], _, h => h.elim
theorem putO_ok {X : Cx} (hu : X.A.units + 64 < cLine) {K : PySem.W.Frag} (hK : X.K = K) {H : Hp} {G : Addr → Prop} {q : D} {x x' o : O} {xv yv v : V} {fpx fpt : List Addr} {Q : Hp → Prop} (rx : Ow K H G x xv fpx) (ry : RpS K H G yv q) (ro : Ow K H G o v fpt) (dj : ∀ b ∈ fpt, b ∉ fpx) (gh : GHeld H G) (e : putO q x o = some x')
    (hQ : ∀ H' fp' a, a ∈ fpx → Step H G (· = a) H' G (· = a) → GHeld H' G → Ow K H' G x' xv fp' → (∀ b ∈ fp', b ∈ fpx ∨ b ∈ fpt) → Q H') : ∃ r, PSet X r ∧ r xv yv v H Q := by
  unfold putO at e
  split at e
  · rename_i ds
    split at e
    · rename_i j d
      cases hs : setAtI ds j d with
      | none => rw [hs] at e; cases e
      | some ds' =>
        rw [hs] at e
        cases e
        obtain ⟨n, hn, rfl⟩ := setAtI_ok hs
        obtain ⟨a, xs, rfl, rfl, ng, hl, hr⟩ := rx
        have := rint ry
        subst this
        refine ⟨_, set_list, a, xs, j, n, rfl, rfl, hl, by rw [dpAll_length hr]; exact hn, ?_⟩
        have st : Step H G (· = a) (upd H a (.lst (xs.set n v))) G (· = a) := step_at ⟨xs, .inl hl⟩
        have dG : ∀ b, G b → ¬ b = a := fun b g z => by subst z; exact ng g
        exact hQ _ [a] a (by simp) st (gheld_upd gh) ⟨a, _, rfl, rfl, ng, upd_same, dpAll_set (dp_mono (st.sub dG) _ _ ro.2) n (dpAll_mono (st.sub dG) _ _ hr)⟩ fun b hb => .inl hb
    · cases e
  · rename_i kvs
    split at e
    · rename_i k hk
      split at e
      · rename_i hc
        simp only [Bool.and_eq_true, decide_eq_true_eq] at hc
        obtain ⟨hlen, hnd⟩ := hc
        have hnd := of_decide_eq_true hnd
        obtain ⟨a, rv, fpr, rfl, rfl, na, ng, hl, hr⟩ := rx
        have := keyOf_ok ry hk
        subst this
        have dG : ∀ b, G b → ¬ b = a := fun b g z => by subst z; exact ng g
        have main : ∀ f, OwF K H G f v fpt → Q (upd H a (.dK (putK rv k v))) ∨ True → (∀ H' fp', Step H G (· = a) H' G (· = a) → GHeld H' G → Ow K H' G (.dct (NW.putF kvs k f)) (.ref a) fp' → (∀ b ∈ fp', b ∈ a :: fpr ∨ b ∈ fpt) → Q H') → Q (upd H a (.dK (putK rv k v))) := fun f hf _ hQ => by
          have st : Step H G (· = a) (upd H a (.dK (putK rv k v))) G (· = a) := step_at ⟨[], .inr ⟨rv, hl⟩⟩
          have hf' : OwF K (upd H a (.dK (putK rv k v))) G f v fpt := hf.step st dG fun b hb z => by subst z; exact dj b hb List.mem_cons_self
          have hr' : OwFs K (upd H a (.dK (putK rv k v))) G kvs rv fpr := hr.step st dG fun b hb z => by subst z; exact na hb
          obtain ⟨fp', q1, q2⟩ := hr'.putF hf' (fun b hb hb' => dj b hb (List.mem_cons_of_mem _ hb')) hnd (k := k)
          refine hQ _ (a :: fp') st (gheld_upd gh) ⟨a, _, fp', rfl, rfl, fun hm => ?_, ng, upd_same, q1⟩ fun b hb => ?_
          · rcases q2 a hm with z | z
            · exact na z
            · exact dj a z List.mem_cons_self
          · rcases List.mem_cons.mp hb with rfl | hb
            · exact .inl List.mem_cons_self
            · rcases q2 b hb with z | z
              · exact .inl (List.mem_cons_of_mem _ z)
              · exact .inr z
        have hput : ∀ {Q' : Hp → Prop}, Q' (upd H a (.dK (putK rv k v))) → rSetD (.ref a) (kV k) v H Q' := fun {Q'} h => ⟨a, _, rfl, DPut.k hl (by rw [hr.len, ← lim_eq]; exact hlen), h⟩
        split at e
        · cases e
          exact ⟨_, set_dict (by omega), hput (main _ (fld_of ro) (.inr trivial) fun H' fp' st g r hs => hQ H' fp' a List.mem_cons_self st g r hs)⟩
        · cases e
          exact ⟨_, set_dict (by omega), hput (main _ (fld_ls ro) (.inr trivial) fun H' fp' st g r hs => hQ H' fp' a List.mem_cons_self st g r hs)⟩
        · cases e
      · cases e
    · cases e
  · cases e
theorem sub_assign {X : Cx} {o i : Expr} {p : Pos} (h : isSlice i = false) (v : Value) : assign (.Subscript o i p) X.env v = (do
      let ov ← holding [v] (eval o X.env)
      let iv ← holding [v, ov] (eval i X.env)
      standAt p
      holding [v, ov, iv] (setItem ov iv v)
      release [v, ov, iv] []) := by
  cases i <;> first | rfl | cases h
theorem sole_sub {v o i : Expr} {p : Pos} {l : Nat} {env : PySem.Env} : swapsWithSole [.Subscript o i p] v l env = pure false := by cases v <;> rfl
theorem ss_sub {v o i : Expr} {p : Pos} {env : PySem.Env} : swappedStores [.Subscript o i p] v env = pure none := by cases v <;> rfl
theorem ss_put {i : Nat} {k a : CE} {y : Str} {py pp p : Pos} {kx v : Expr} (hy : nmOk N sc i y = true) (hs : isSlice kx = false) (h1 : SE c N sc fn kx k) (h2 : SE c N sc fn v a) : SS c N pn sc fn (.Assign [.Subscript (.Name y py) kx pp] v p) (.put i k a) := by
  intro X W ok env σ H G fps out D E he hq
  simp only [evalS_put] at he
  refine tS_of (ps_asg (peS X v) (pg_sub (peS X (.Name y py)) (peS X kx) setAny (sub_assign hs)) sole_sub ss_sub rfl) ?_
  rcases sbnd_ways he with ⟨p1, env1, e1, he⟩ | ⟨y, env1, e1, rfl⟩
  · refine h2 X W ok.ok env σ H G fps _ _ E e1 fun v H1 G1 fps1 fpt1 a1 r1 s1 => ?_
    rcases sbnd_ways he with ⟨o, env2, e2, he⟩ | ⟨y, env2, e2, rfl⟩
    · obtain ⟨G2, fps2, fpt2, a2, r2⟩ := share_ok a1 r1 e2
      -- the place
      split at he
      rotate_left
      · cases he
      rename_i hsv
      obtain ⟨x0, hx0⟩ := Option.isSome_iff_exists.mp hsv
      obtain ⟨u, hu, _⟩ := a2.E.rep i x0 hx0
      refine tE_var ok.ok hy hu ?_
      rcases sbnd_ways he with ⟨p3, env3, e3, he⟩ | ⟨y, env3, e3, rfl⟩
      · refine h1 X W ok.ok env2 σ H1 G2 fps2 _ _ a2.E e3 fun w H3 G3 fps3 fpt3 a3 r3 s3 => ?_
        obtain ⟨r2', a2'⟩ := PR.next (p := .val o) (ne := false) a2 r2 a3 rfl (fun z => nomatch z)
        split at he
        · rename_i yd x f1 f2
          split at he
          · rename_i x' hx'
            cases he
            obtain ⟨u', hu', ox⟩ := a3.E.rep i x f2
            rw [hu] at hu'
            cases hu'
            refine putO_ok ok.ok.hu ok.ok.eK ox (pr_flat a3.E r3 f1) r2' (fun b hb hb' => a2'.off b hb ⟨i, hb'⟩) a3.E.gh hx' fun H' fp' ad ha st g r hs => ?_
            exact hq σ H' G3 _ (a2'.write f2 hu ha st g r hs) Pin.refl
          · cases he
        · cases he
      · exact h1 X W ok.ok env2 σ H1 G2 fps2 _ _ a2.E e3 fun cls d H3 G3 fps3 a3 x3 => hq cls d σ H3 G3 fps3 (a2.next a3) Pin.refl x3
    · exact (share_not e2).elim
  · exact h2 X W ok.ok env σ H G fps _ _ E e1 fun cls d H1 G1 fps1 a1 x1 => hq cls d σ H1 G1 fps1 a1 Pin.refl x1
/-! ### x[f][k] = d -/
theorem OwFs.write {K : PySem.W.Frag} {H : Hp} {G : Addr → Prop} {k : Key} {a : Addr} {xs : List V} {ds ds' : List D} (hl : H a = some (.lst xs)) {xs' : List V} (st : Step H G (· = a) (upd H a (.lst xs')) G (· = a)) (dG : ∀ b, G b → ¬ b = a) (hr : RpA K (upd H a (.lst xs')) G xs' ds') :
    ∀ {kvs : List (Key × Fld)} {rv : List (Key × V)} {fp : List Addr}, OwFs K H G kvs rv fp → look kvs k = some (.ls ds) → valV rv k = some (.ref a) → (kvs.map (·.1)).Nodup → OwFs K (upd H a (.lst xs')) G (NW.putF kvs k (.ls ds')) rv fp ∧ a ∈ fp
  | [], [], fp, h, e, _, _ => by cases e
  | (k0, f0) :: r, (k', v) :: rv, fp, h, e, hv, hn => by
    obtain ⟨rfl, fp1, fp2, rfl, dj, h1, h2⟩ := h
    rw [List.map_cons, List.nodup_cons] at hn
    by_cases hk : k0 = k
    · subst hk
      have e' : f0 = .ls ds := by
        unfold look at e
        rw [List.find?_cons_of_pos (by simp)] at e
        simpa using e
      subst e'
      rw [valV_pos rfl] at hv
      cases hv
      obtain ⟨a', ys, e1, rfl, ng, hl', hr'⟩ := h1
      cases e1
      have hnone : ∀ {r : List (Key × Fld)}, k0 ∉ r.map (·.1) → r.map (fun kv => if kv.1 = k0 then (kv.1, Fld.ls ds') else kv) = r := by
        intro r
        induction r with
        | nil => intro _; rfl
        | cons x r ih =>
          intro h
          rw [List.map_cons, List.mem_cons, not_or] at h
          rw [List.map_cons, ih h.2, if_neg (Ne.symm h.1)]
      have e1 : NW.putF ((k0, Fld.ls ds) :: r) k0 (.ls ds') = (k0, .ls ds') :: r := by
        unfold NW.putF
        rw [if_pos (by simp), List.map_cons, if_pos rfl, hnone hn.1]
      rw [e1]
      exact ⟨⟨rfl, [a], fp2, rfl, dj, ⟨a, xs', rfl, rfl, ng, upd_same, hr⟩, h2.step st dG fun b hb z => by subst z; exact dj b (by simp) hb⟩, by simp⟩
    · have e' : look r k = some (.ls ds) := by
        unfold look at e ⊢
        rw [List.find?_cons_of_neg (by simpa using hk)] at e
        exact e
      rw [valV_neg hk] at hv
      obtain ⟨q1, q2⟩ := OwFs.write hl st dG hr h2 e' hv hn.2
      have e1 : NW.putF ((k0, f0) :: r) k (.ls ds') = (k0, f0) :: NW.putF r k (.ls ds') := by
        unfold NW.putF
        by_cases ha : (r.any fun kv => decide (kv.1 = k)) = true
        · rw [if_pos ha, if_pos (by rw [List.any_cons, ha]; simp), List.map_cons, if_neg hk]
        · rw [if_neg ha, if_neg (by rw [List.any_cons]; simpa [hk] using ha)]; rfl
      rw [e1]
      exact ⟨⟨rfl, fp1, fp2, rfl, dj, h1.step st dG fun b hb z => by subst z; exact dj b hb q2, q1⟩, List.mem_append_right _ q2⟩
  | [], _ :: _, _, h, _, _, _ => h.elim
  | _ :: _, [], _, h, _, _, _ => h.elim
theorem putfO_ok {X : Cx} {K : PySem.W.Frag} (hK : X.K = K) {H : Hp} {G : Addr → Prop} {q d : D} {x x' : O} {k : Key} {xa : Addr} {rv0 : List (Key × V)} {yv v fv : V} {fpx : List Addr} {Q : Hp → Prop} (rx : Ow K H G x (.ref xa) fpx) (hxa : H xa = some (.dK rv0)) (hfv : valV rv0 k = some fv) (ry : RpS K H G yv q) (ro : Rp K H G v d) (gh : GHeld H G) (e : putfO q x k d = some x')
    (hQ : ∀ H' a, a ∈ fpx → Step H G (· = a) H' G (· = a) → GHeld H' G → Ow K H' G x' (.ref xa) fpx → Q H') : ∃ r, PSet X r ∧ r fv yv v H Q := by
  unfold putfO at e
  split at e
  · rename_i kvs
    split at e
    · rename_i ds j hlk
      split at e
      · rename_i hnd
        have hnd := of_decide_eq_true hnd
        cases hs : setAtI ds j d with
        | none => rw [hs] at e; cases e
        | some ds' =>
          rw [hs] at e
          cases e
          obtain ⟨n, hn, rfl⟩ := setAtI_ok hs
          obtain ⟨a, rv, fpr, e1, rfl, na, ng, hl, hr⟩ := rx
          cases e1
          rw [hxa] at hl
          cases hl
          obtain ⟨w, fp1, w1, w2, w3⟩ := look_val hr hlk
          rw [hfv] at w1
          cases w1
          obtain ⟨b, xs, rfl, rfl, ngb, hlb, hrb⟩ := w2
          have := rint ry
          subst this
          refine ⟨_, set_list, b, xs, j, n, rfl, rfl, hlb, by rw [dpAll_length hrb]; exact hn, ?_⟩
          have st : Step H G (· = b) (upd H b (.lst (xs.set n v))) G (· = b) := step_at ⟨xs, .inl hlb⟩
          have dG : ∀ z, G z → ¬ z = b := fun z g e => by subst e; exact ngb g
          have hba : xa ≠ b := fun e => by subst e; rw [hxa] at hlb; cases hlb
          obtain ⟨q1, q2⟩ := OwFs.write hlb st dG (dpAll_set (dp_mono (st.sub dG) _ _ ro) n (dpAll_mono (st.sub dG) _ _ hrb)) hr hlk hfv hnd
          exact hQ _ b (List.mem_cons_of_mem _ q2) st (gheld_upd gh) ⟨xa, rv0, fpr, rfl, rfl, na, ng, by rw [upd_ne hba]; exact hxa, q1⟩
      · cases e
    · cases e
  · cases e
theorem ss_putf {i : Nat} {f : Str} {k a : CE} {y : Str} {j : Nat} {py p1 p2 pp p : Pos} {kx v : Expr} (hy : nmOk N sc i y = true) (hs : isSlice kx = false) (h1 : SE c N sc fn kx k) (h2 : SE c N sc fn v a) : SS c N pn sc fn (.Assign [.Subscript (.Subscript (.Name y py) (.Constant (.str f) j p1) p2) kx pp] v p) (.putf i f k a) := by
  intro X W ok env σ H G fps out D E he hq
  simp only [evalS_putf] at he
  refine tS_of (ps_asg (peS X v) (pg_sub (peS X (.Subscript (.Name y py) (.Constant (.str f) j p1) p2)) (peS X kx) setAny (sub_assign hs)) sole_sub ss_sub rfl) ?_
  have hf : SE c N sc fn (.Subscript (.Name y py) (.Constant (.str f) j p1) p2) (.fld i f) := se_fld hy
  rcases sbnd_ways he with ⟨p1, env1, e1, he⟩ | ⟨y, env1, e1, rfl⟩
  · refine h2 X W ok.ok env σ H G fps _ _ E e1 fun v H1 G1 fps1 fpt1 a1 r1 s1 => ?_
    rcases sbnd_ways he with ⟨d, env2, e2, he⟩ | ⟨y, env2, e2, rfl⟩
    · obtain ⟨G2, fps2, a2, r2⟩ := frz_ok a1 r1 e2
      rcases sbnd_ways he with ⟨pr, env3, e3, he⟩ | ⟨y, env3, e3, rfl⟩
      · refine hf X W ok.ok env2 σ H1 G2 fps2 _ _ a2.E e3 fun fv H3 G3 fps3 fpt3 a3 r3 s3 => ?_
        rcases sbnd_ways he with ⟨q, env4, e4, he⟩ | ⟨y, env4, e4, rfl⟩
        · refine h1 X W ok.ok env3 σ H3 G3 fps3 _ _ a3.E e4 fun w H4 G4 fps4 fpt4 a4 r4 s4 => ?_
          split at he
          · rename_i hst
            rw [Bool.and_eq_true] at hst
            obtain ⟨r3', a3'⟩ := r3.next a3 a4 hst.2 s4
            have hat := a2.next (a3.next a4)
            have rd := (a2.next a3).frame a4 (a2.frame a3 r2)
            split at he
            · rename_i yd x f1 f2
              split at he
              · rename_i x' hx'
                cases he
                -- the field's place
                simp only [evalE_fld] at e3
                split at e3
                · rename_i kvs hk
                  split at e3
                  · cases e3; cases hst.1
                  · cases e3
                    obtain ⟨_, xa, rv, g1, g2, g3⟩ := r3'
                    obtain ⟨u', hu', ox⟩ := a4.E.rep i x f2
                    rw [g1] at hu'
                    cases hu'
                    refine putfO_ok ok.ok.eK ox g2 g3 (pr_flat a4.E r4 f1) rd a4.E.gh hx' fun H' ad ha st g r => ?_
                    exact hq σ H' G4 _ (hat.drop.write f2 g1 ha st g r fun b hb => .inl hb) Pin.refl
                  · cases e3
                · cases e3
              · cases he
            · cases he
          · cases he
        · exact h1 X W ok.ok env3 σ H3 G3 fps3 _ _ a3.E e4 fun cls d H4 G4 fps4 a4 x4 => hq cls d σ H4 G4 fps4 ((a2.next a3).next a4) Pin.refl x4
      · exact hf X W ok.ok env2 σ H1 G2 fps2 _ _ a2.E e3 fun cls d H3 G3 fps3 a3 x3 => hq cls d σ H3 G3 fps3 (a2.next a3) Pin.refl x3
    · exact (frz_not e2).elim
  · exact h2 X W ok.ok env σ H G fps _ _ E e1 fun cls d H1 G1 fps1 a1 x1 => hq cls d σ H1 G1 fps1 a1 Pin.refl x1
/-! ### append -/
theorem ss_append {i : Nat} {a : CE} {y : Str} {py ap cp p : Pos} {x : Expr} (hy : nmOk N sc i y = true) (hline : (ap.endLine == cp.line) = true) (hs : isStar x = false) (h : SE c N sc fn x a) : SS c N pn sc fn (.Expr (.Call (.Attribute (.Name y py) "append" ap) [x] [] cp) p) (.append i a) := by
  intro X W ok env σ H G fps out D E he hq
  simp only [evalS_append] at he
  split at he
  · rename_i hisl
    have hst := star_ok hs [] X.env
    refine tS_of (ps_expr (pe_bm PySem.F.plainAttrs_list PySem.F.slot_list_append PySem.F.type_list_append mt_append (peS X (.Name y py)) (pa_cons (peS X x) pa_nil hst) rfl (by rw [hst]; rfl) hline hst rfl) (sw_none rfl)) ?_
    cases hsl : slot env i with
    | none => rw [hsl] at hisl; cases hisl
    | some o =>
      rw [hsl] at hisl
      cases o with
      | fz d => cases hisl
      | dct kvs => cases hisl
      | lst ds0 =>
        obtain ⟨u, hu, ou⟩ := E.rep i _ hsl
        refine tE_var ok.ok hy hu ?_
        obtain ⟨ua, xs0, rfl, hfp, ng0, hl0, hr0⟩ := ou
        refine ⟨.inl ⟨rfl, xs0, SqL.of hl0⟩, ?_⟩
        rcases sbnd_ways he with ⟨p1, env1, e1, he⟩ | ⟨z, env1, e1, rfl⟩
        · refine h X W ok.ok env σ H G fps _ _ E e1 fun v H1 G1 fps1 fpt1 a1 r1 s1 => ?_
          rcases sbnd_ways he with ⟨d, env2, e2, he⟩ | ⟨z, env2, e2, rfl⟩
          · obtain ⟨G2, fps2, a2, r2⟩ := frz_ok a1 r1 e2
            split at he
            · rename_i xo hxo
              split at he
              · rename_i x' hx'
                cases he
                unfold appO at hx'
                split at hx'
                · rename_i ds
                  split at hx'
                  · rename_i hlen
                    cases hx'
                    obtain ⟨u', hu', ox⟩ := a2.E.rep i _ hxo
                    rw [hu] at hu'
                    cases hu'
                    obtain ⟨ua', xs, e1', hfp', ng, hl, hr⟩ := ox
                    cases e1'
                    refine ⟨ua, xs, v, rfl, rfl, hl, by rw [dpAll_length hr, ← lim_eq]; exact hlen, ?_⟩
                    have st : Step H1 G2 (· = ua) (upd H1 ua (.lst (xs ++ [v]))) G2 (· = ua) := step_at ⟨xs, .inl hl⟩
                    have dG : ∀ z, G2 z → ¬ z = ua := fun z g e => by subst e; exact ng g
                    have := a2.write (o' := .lst (ds ++ [d])) (fp' := [ua]) hxo hu (by rw [hfp']; simp) st (gheld_upd a2.E.gh) ⟨ua, _, rfl, rfl, ng, upd_same, dpAll_append (dpAll_mono (st.sub dG) _ _ hr) (.cons (dp_mono (st.sub dG) _ _ r2) .nil)⟩ fun b hb => .inl (by rw [hfp']; exact hb)
                    exact hq σ _ G2 _ this Pin.refl
                  · cases hx'
                · cases hx'
              · cases he
            · cases he
          · exact (frz_not e2).elim
        · exact h X W ok.ok env σ H G fps _ _ E e1 fun cls d H1 G1 fps1 a1 x1 => hq cls d σ H1 G1 fps1 a1 Pin.refl x1
  · cases he
end
end NW
end
section
set_option linter.all false
set_option maxRecDepth 100000
set_option maxHeartbeats 2000000
/-! NWq: parallel stores, loops, all statements -/
namespace NW
open PySem L2 PyProof.Rows
theorem swR_len {sc : Scope} {ts vs : List Expr} {names : List Str} (h : swR sc ts vs = some (some names)) : (ts.length = 2 ∨ ts.length = 3) ∧ ∃ L : Nat, names = (ts.filterMap fun
      | .Name id pos => if sc.names.lookup id == some .local && pos.line == L then some id else none
      | _ => none) ∧ names.length = ts.length := by
  unfold swR at h
  split at h
  · cases h
  · rename_i h1
    split at h
    · cases h
    · simp only at h
      split at h
      · cases h
      · rename_i h3
        split at h
        · cases h
        · split at h
          · cases h
          · cases h
            refine ⟨?_, (Option.map (fun x => x.pos.line) ts.head?).getD 0, rfl, ?_⟩
            · simp only [Bool.or_eq_true, Bool.not_eq_true', not_or, Bool.not_eq_false, bne_iff_ne, beq_iff_eq, ne_eq, Decidable.not_not] at h1
              exact h1.1
            · simp only [Bool.or_eq_true, not_or, bne_iff_ne, ne_eq, Decidable.not_not] at h3
              exact h3.1
theorem fm_all {α β : Type} {f : α → Option β} : ∀ ts : List α, (ts.filterMap f).length = ts.length → ts.map f = (ts.filterMap f).map some
  | [], _ => rfl
  | a :: ts, h => by
    cases e : f a with
    | none =>
      rw [List.filterMap_cons_none e, List.length_cons] at h
      have := List.length_filterMap_le f ts
      omega
    | some b =>
      rw [List.filterMap_cons_some e, List.length_cons, List.length_cons] at h
      rw [List.filterMap_cons_some e, List.map_cons, List.map_cons, e, fm_all ts (by omega)]
theorem nm_loc {sc : Scope} {x z : Str} {px : Pos} {L : Nat} (h : (if sc.names.lookup x == some .local && px.line == L then some x else none) = some z) : z = x ∧ sc.names.lookup x = some .local := by
  split at h
  · rename_i hx
    rw [Bool.and_eq_true, beq_iff_eq] at hx
    cases h
    exact ⟨rfl, hx.1⟩
  · cases h
theorem swR_2 {sc : Scope} {x y : Str} {px py : Pos} {vs : List Expr} {names : List Str} (h : swR sc [.Name x px, .Name y py] vs = some (some names)) : names = [x, y] ∧ sc.names.lookup x = some .local ∧ sc.names.lookup y = some .local := by
  obtain ⟨_, L, e, hl⟩ := swR_len h
  rw [e] at hl
  have := fm_all _ hl
  rw [← e] at this hl
  match names, hl with
  | [a, b], _ =>
    simp only [List.map_cons, List.map_nil] at this
    injection this with h1 h2
    injection h2 with h2 _
    obtain ⟨rfl, q1⟩ := nm_loc h1
    obtain ⟨rfl, q2⟩ := nm_loc h2
    exact ⟨rfl, q1, q2⟩
theorem swR_3 {sc : Scope} {x y z : Str} {px py pz : Pos} {vs : List Expr} {names : List Str} (h : swR sc [.Name x px, .Name y py, .Name z pz] vs = some (some names)) : names = [x, y, z] ∧ sc.names.lookup x = some .local ∧ sc.names.lookup y = some .local ∧ sc.names.lookup z = some .local := by
  obtain ⟨_, L, e, hl⟩ := swR_len h
  rw [e] at hl
  have := fm_all _ hl
  rw [← e] at this hl
  match names, hl with
  | [a, b, d], _ =>
    simp only [List.map_cons, List.map_nil] at this
    injection this with h1 h2
    injection h2 with h2 h3
    injection h3 with h3 _
    obtain ⟨rfl, q1⟩ := nm_loc h1
    obtain ⟨rfl, q2⟩ := nm_loc h2
    obtain ⟨rfl, q3⟩ := nm_loc h3
    exact ⟨rfl, q1, q2, q3⟩
/-- things at hand -/
def OwL (K : PySem.W.Frag) (H : Hp) (G : Addr → Prop) : List O → List V → List Addr → Prop
  | [], [], fp => fp = []
  | o :: r, v :: rv, fp => ∃ fp1 fp2, fp = fp1 ++ fp2 ∧ (∀ a ∈ fp1, a ∉ fp2) ∧ Ow K H G o v fp1 ∧ OwL K H G r rv fp2
  | _, _, _ => False
theorem OwL.same {K : PySem.W.Frag} {H H' : Hp} {G : Addr → Prop} (s : Same H H') : ∀ {os : List O} {vs : List V} {fp : List Addr}, OwL K H G os vs fp → OwL K H' G os vs fp
  | [], [], fp, h => h
  | o :: r, v :: rv, fp, h => by
    obtain ⟨fp1, fp2, rfl, dj, h1, h2⟩ := h
    exact ⟨fp1, fp2, rfl, dj, h1.same s, OwL.same s h2⟩
  | [], _ :: _, _, h => h.elim
  | _ :: _, [], _, h => h.elim
theorem OwL.len {K : PySem.W.Frag} {H : Hp} {G : Addr → Prop} : ∀ {os : List O} {vs : List V} {fp : List Addr}, OwL K H G os vs fp → vs.length = os.length
  | [], [], fp, h => rfl
  | o :: r, v :: rv, fp, h => by
    obtain ⟨fp1, fp2, rfl, dj, h1, h2⟩ := h
    rw [List.length_cons, List.length_cons, OwL.len h2]
  | [], _ :: _, _, h => h.elim
  | _ :: _, [], _, h => h.elim
def GOs (c : Ct) (W : WX) (σ : L2.St) (H : Hp) (G : Addr → Prop) (fps : Fs) (Q : List V → Hp → Prop) : Out (List O) → Prop
  | .ok os env' => ∀ vs H' G' fps' fpt, Aft c.K σ H G fps env' H' G' fps' fpt → OwL c.K H' G' os vs fpt → Q vs H'
  | .exc x env' => ∀ cls d H' G' fps', Aft c.K σ H G fps env' H' G' fps' [] → c.xr x cls d H' → W cls d σ H'
def SOs (c : Ct) (N : List Str) (sc : Scope) (fn : Str → Bool) (l : List Expr) (a : CEs) : Prop := ∀ X W, CtxOk c X W N sc fn → ∀ env σ H G fps out Q, EnvR c.K env σ H G fps → evalOs c.Γ a env = some out → GOs c W σ H G fps Q out → tA X l σ H Q
section
variable {c : Ct} {N : List Str} {sc : Scope} {fn : Str → Bool} {pn : Nat}
theorem snd_Os : ∀ (as : CEs) (l : List Expr), mEs N as sc fn l = true → SOs c N sc fn l as
  | .nil, [], _ => by
    intro X W ok env σ H G fps out Q E he hq
    simp only [evalOs_nil] at he
    cases he
    exact tA_of pa_nil (hq [] H G fps [] (Aft.refl E) rfl)
  | .cons a as, e :: l, hm => by
    intro X W ok env σ H G fps out Q E he hq
    simp only [mEs_cons, Bool.and_eq_true, Bool.not_eq_true'] at hm
    simp only [evalOs_cons] at he
    refine tA_of (pa_cons (peS X e) (paS X l) (star_ok hm.1.1 l X.env)) ?_
    rcases bnd_ways he with ⟨p, env1, e1, he⟩ | ⟨y, env1, e1, rfl⟩
    · refine snd_E a sc fn e hm.1.2 X W ok env σ H G fps _ _ E e1 fun v H1 G1 fps1 fpt1 a1 r1 s1 => ?_
      rcases bnd_ways he with ⟨o, env2, e2, he⟩ | ⟨y, env2, e2, rfl⟩
      · obtain ⟨G2, fps2, fpt2, a2, r2⟩ := share_ok a1 r1 e2
        rcases bnd_ways he with ⟨os, env3, e3, he⟩ | ⟨y, env3, e3, rfl⟩
        · cases he
          refine snd_Os as l hm.2 X W ok env2 σ H1 G2 fps2 _ _ a2.E e3 fun vs H3 G3 fps3 fpt3 a3 r3 => ?_
          obtain ⟨r2', a2'⟩ := PR.next (p := .val o) (ne := false) a2 r2 a3 rfl (fun z => nomatch z)
          refine hq (v :: vs) H3 G3 fps3 (fpt2 ++ fpt3) (a2'.app (a2.next a3)) ⟨fpt2, fpt3, rfl, fun b hb hb' => ?_, r2', r3⟩
          rcases a3.new b hb' with z | z
          · exact a2.off b hb z
          · obtain ⟨_, u, e⟩ := r2.held b hb
            rw [e] at z; cases z
        · exact snd_Os as l hm.2 X W ok env2 σ H1 G2 fps2 _ _ a2.E e3 fun cls d H3 G3 fps3 a3 x3 => hq cls d H3 G3 fps3 (a2.next a3) x3
      · exact (share_not e2).elim
    · exact snd_E a sc fn e hm.1.2 X W ok env σ H G fps _ _ E e1 fun cls d H1 G1 fps1 a1 x1 => hq cls d H1 G1 fps1 a1 x1
  | .nil, _ :: _, h => by simp [mEs_nil] at h
  | .cons _ _, [], h => by simp [mEs_cons] at h
/-- things stored to names, one behind another -/
def setVs : L2.St → List Nat → List V → L2.St
  | σ, i :: is, v :: vs => setVs (σ.set i (some v)) is vs
  | σ, _, _ => σ
theorem put_all {K : PySem.W.Frag} {H : Hp} {G : Addr → Prop} : ∀ {l : List Nat} {os : List O} {vs : List V} {fp : List Addr} {env env2 : Env} {σ : L2.St} {fps : Fs}, EnvR K env σ H G fps → OwL K H G os vs fp → (∀ b ∈ fp, ¬ FF fps b) → setOs env l os = some env2 →
    ∃ fps', EnvR K env2 (setVs σ l vs) H G fps' ∧ ∀ b, FF fps' b → FF fps b ∨ b ∈ fp
  | [], [], [], fp, env, env2, σ, fps, E, r, off, e => by
    cases e
    exact ⟨fps, E, fun b h => .inl h⟩
  | i :: l, o :: os, v :: vs, fp, env, env2, σ, fps, E, r, off, e => by
    obtain ⟨fp1, fp2, rfl, dj, h1, h2⟩ := r
    obtain ⟨fps1, E1, f1⟩ := E.put (i := i) h1 fun b hb => off b (List.mem_append_left _ hb)
    obtain ⟨fps2, E2, f2⟩ := put_all (l := l) E1 h2 (fun b hb z => by
      rcases f1 b z with y | y
      · exact off b (List.mem_append_right _ hb) y
      · exact dj b y hb) e
    refine ⟨fps2, E2, fun b hb => ?_⟩
    rcases f2 b hb with z | z
    · rcases f1 b z with y | y
      · exact .inl y
      · exact .inr (List.mem_append_left _ y)
    · exact .inr (List.mem_append_right _ z)
  | [], _ :: _, _, _, _, _, _, _, _, _, _, e => by cases e
  | _ :: _, [], _, _, _, _, _, _, _, _, _, e => by cases e
  | _ :: _, _ :: _, [], _, _, _, _, _, _, r, _, _ => r.elim
  | [], [], _ :: _, _, _, _, _, _, _, r, _, _ => r.elim
theorem setOs_len : ∀ {l : List Nat} {os : List O} {env env2 : Env}, setOs env l os = some env2 → os.length = l.length
  | [], [], _, _, _ => rfl
  | _ :: l, _ :: os, env, env2, e => by rw [List.length_cons, List.length_cons, setOs_len (l := l) e]
  | [], _ :: _, _, _, e => by cases e
  | _ :: _, [], _, _, e => by cases e
theorem gsT_vs {Q : L2.St → Hp → Prop} {H : Hp} : ∀ {l : List Nat} {vs : List V} {σ : L2.St}, vs.length = l.length → Q (setVs σ l vs) H → gsT l vs σ H Q
  | [], [], σ, _, q => ⟨rfl, q⟩
  | i :: l, v :: vs, σ, h, q => ⟨v, vs, rfl, gsT_vs (Nat.succ.inj h) q⟩
  | [], _ :: _, _, h, _ => by cases h
  | _ :: _, [], _, h, _ => by cases h
theorem setVs_pin : ∀ {l : List Nat} {vs : List V} {σ : L2.St}, (∀ i ∈ l, pn ≤ i) → Pin pn σ (setVs σ l vs)
  | [], _, σ, _ => Pin.refl
  | i :: l, [], σ, _ => Pin.refl
  | i :: l, v :: vs, σ, h => (Pin.set (h i List.mem_cons_self)).trans (setVs_pin fun j hj => h j (List.mem_cons_of_mem _ hj))
theorem len_two {α : Type} {l : List α} (h : l.length = 2) : ∃ a b, l = [a, b] := by
  match l, h with
  | [a, b], _ => exact ⟨a, b, rfl⟩
theorem len_three {α : Type} {l : List α} (h : l.length = 3) : ∃ a b c, l = [a, b, c] := by
  match l, h with
  | [a, b, c], _ => exact ⟨a, b, c, rfl⟩
theorem names_cons {l : List Nat} {e : Expr} {ts : List Expr} (h : mNames N sc fn l (e :: ts) = true) : ∃ i l' x px, l = i :: l' ∧ e = .Name x px ∧ N[i]? = some x ∧ mNames N sc fn l' ts = true := by
  cases l with
  | nil => cases h
  | cons i l =>
    cases e
    case Name x px =>
      simp only [mNames, Bool.and_eq_true, decide_eq_true_eq] at h
      exact ⟨i, l, x, px, rfl, rfl, h.1.1, h.2⟩
    all_goals cases h
theorem names_nil {l : List Nat} (h : mNames N sc fn l [] = true) : l = [] := by
  cases l with
  | nil => rfl
  | cons i l => cases h
theorem names_two {l : List Nat} {ts : List Expr} (h : mNames N sc fn l ts = true) (h2 : ts.length = 2) : ∃ i j x px y py, l = [i, j] ∧ ts = [.Name x px, .Name y py] ∧ N[i]? = some x ∧ N[j]? = some y := by
  obtain ⟨a, b, rfl⟩ := len_two h2
  obtain ⟨i, l, x, px, rfl, rfl, n1, h⟩ := names_cons h
  obtain ⟨j, l, y, py, rfl, rfl, n2, h⟩ := names_cons h
  have := names_nil h
  subst this
  exact ⟨i, j, x, px, y, py, rfl, rfl, n1, n2⟩
theorem names_three {l : List Nat} {ts : List Expr} (h : mNames N sc fn l ts = true) (h2 : ts.length = 3) : ∃ i j k x px y py z pz, l = [i, j, k] ∧ ts = [.Name x px, .Name y py, .Name z pz] ∧ N[i]? = some x ∧ N[j]? = some y ∧ N[k]? = some z := by
  obtain ⟨a, b, d, rfl⟩ := len_three h2
  obtain ⟨i, l, x, px, rfl, rfl, n1, h⟩ := names_cons h
  obtain ⟨j, l, y, py, rfl, rfl, n2, h⟩ := names_cons h
  obtain ⟨k, l, z, pz, rfl, rfl, n3, h⟩ := names_cons h
  have := names_nil h
  subst this
  exact ⟨i, j, k, x, px, y, py, z, pz, rfl, rfl, n1, n2, n3⟩
theorem ss_par {l : List Nat} {es : CEs} {ts vs : List Expr} {k1 k2 : Nat} {p1 p2 p : Pos} (ht : mNames N sc fn l ts = true) (hv : mEs N es sc fn vs = true) (hl : ts.length = vs.length) (h100 : l.length ≤ 100) (hsw : (swR sc ts vs).isSome = true) : SS c N pn sc fn (.Assign [.Tuple ts k1 p1] (.Tuple vs k2 p2) p) (.par l es) := by
  intro X W ok env σ H G fps out D E he hq
  simp only [evalS_par] at he
  split at he
  rotate_left
  · cases he
  rename_i hc
  rw [Bool.and_eq_true] at hc
  obtain ⟨hpn, hnd⟩ := hc
  have hnd := of_decide_eq_true hnd
  rw [List.all_eq_true] at hpn
  have hpn : ∀ i ∈ l, pn ≤ i := fun i hi => of_decide_eq_true (hpn i hi)
  have hk : X.env.scope.kind = .function := by rw [ok.ok.eS]; exact ok.kd
  obtain ⟨r, hr⟩ := Option.isSome_iff_exists.mp hsw
  have hR := sw_R (k1 := k1) (k2 := k2) (p1 := p1) (p2 := p2) hk (by rw [ok.ok.eS]; exact hr)
  obtain ⟨hte, htl⟩ := each_names X.env ht
  -- behind the values
  have rest : ∀ {Q : List V → Hp → Prop}, (∀ vs' H1, vs'.length = l.length → (∀ H2, Same H1 H2 → H1 = H2 ∨ (∃ q xs, H1 q = none ∧ H2 = upd H1 q (.tup xs)) → D.nx (setVs σ l vs') H2) → Q vs' H1) → tA X vs σ H Q := fun {Q} hQ => by
    rcases sbnd_ways he with ⟨os, env1, e1, he⟩ | ⟨y, env1, e1, rfl⟩
    · refine snd_Os es vs hv X W ok.ok env σ H G fps _ _ E e1 fun vs' H1 G1 fps1 fpt1 a1 r1 => ?_
      split at he
      · rename_i env2 e2
        cases he
        refine hQ vs' H1 (by rw [r1.len, setOs_len e2]) fun H2 sm _ => ?_
        have E2 := a1.E.same sm
        obtain ⟨fps3, E3, f3⟩ := put_all E2 (r1.same sm) a1.off e2
        have S2 := a1.S.trans (Same.stepF sm (G := G1) (F := FF fps1))
        refine hq _ H2 G1 fps3 ⟨E3, ⟨S2.keep, S2.tups, S2.frzs, S2.gsub, S2.gnew, fun b hb => ?_⟩, (fun b hb => nomatch hb), (fun b hb => nomatch hb)⟩ (setVs_pin hpn)
        rcases f3 b hb with z | z
        · exact S2.fnew b z
        · exact a1.new b z
      · cases he
    · exact snd_Os es vs hv X W ok.ok env σ H G fps _ _ E e1 fun cls d H1 G1 fps1 a1 x1 => hq cls d σ H1 G1 fps1 a1 Pin.refl x1
  cases r with
  | none =>
    refine tS_of (ps_asg (pe_tup (paS X vs)) (pg_tup (n := l.length) ok.ok.calm (pgs_names ok.ok ht) (by rw [hte, List.length_map, htl]) (by rw [hte]; exact findIdx_none _ _)) sw_tup hR rfl) ?_
    refine rest fun vs' H1 hlen h => ⟨?_, fun q hq' => ?_⟩
    · rw [hlen, sizeLine_eq]; omega
    · refine ⟨q, vs', rfl, SqT.of upd_same, hlen, gsT_vs hlen (h _ (same_upd hq') (.inr ⟨q, vs', hq', rfl⟩))⟩
  | some names =>
    obtain ⟨h23, _⟩ := swR_len hr
    rcases h23 with h2 | h3
    · obtain ⟨i, j, x, px, y, py, rfl, rfl, n1, n2⟩ := names_two ht h2
      obtain ⟨a, b, rfl⟩ := len_two (hl.symm.trans h2)
      obtain ⟨rfl, q1, q2⟩ := swR_2 hr
      have hij : i ≠ j := fun e => by subst e; simp at hnd
      refine tS_of (ps_par (X := X) (i := i) (j := j) ok.ok.calm (by rw [ok.ok.eN]; exact ok.ok.nd) (by rw [ok.ok.eN]; exact n1) (by rw [ok.ok.eN]; exact n2) hij (by rw [ok.ok.eS]; exact q1) (by rw [ok.ok.eS]; exact q2) (paS X [a, b]) hR sw_tup) ?_
      refine rest fun vs' H1 hlen h => ?_
      obtain ⟨v, w, rfl⟩ := len_two hlen
      exact ⟨v, w, rfl, h H1 (same_refl H1) (.inl rfl)⟩
    · obtain ⟨i, j, k, x, px, y, py, z, pz, rfl, rfl, n1, n2, n3⟩ := names_three ht h3
      obtain ⟨a, b, d, rfl⟩ := len_three (hl.symm.trans h3)
      obtain ⟨rfl, q1, q2, q3⟩ := swR_3 hr
      have hij : i ≠ j := fun e => by subst e; simp at hnd
      have hik : i ≠ k := fun e => by subst e; simp at hnd
      have hjk : j ≠ k := fun e => by subst e; simp at hnd
      refine tS_of (ps_par3 (X := X) (i := i) (j := j) (l := k) ok.ok.calm (by rw [ok.ok.eN]; exact ok.ok.nd) (by rw [ok.ok.eN]; exact n1) (by rw [ok.ok.eN]; exact n2) (by rw [ok.ok.eN]; exact n3) hij hik hjk (by rw [ok.ok.eS]; exact q1) (by rw [ok.ok.eS]; exact q2) (by rw [ok.ok.eS]; exact q3) (paS X [a, b, d]) hR sw_tup) ?_
      refine rest fun vs' H1 hlen h => ?_
      obtain ⟨u, v, w, rfl⟩ := len_three hlen
      exact ⟨u, v, w, rfl, h H1 (same_refl H1) (.inl rfl)⟩
/-! ### loops -/
theorem forL_cons {body : D → Env → Option SO} {d : D} {ds : List D} {env : Env} {out : SO} (h : forL body (d :: ds) env = some out) :
    ∃ o, body d env = some o ∧ match o with
      | .nx e => forL body ds e = some out
      | .cnt e => forL body ds e = some out
      | .brk e => out = .nx e
      | .ret a e => out = .ret a e
      | .exc x e => out = .exc x e := by
  unfold forL at h
  split at h
  · rename_i e q; exact ⟨_, q, h⟩
  · rename_i e q; exact ⟨_, q, h⟩
  · rename_i e q; cases h; exact ⟨_, q, rfl⟩
  · rename_i h1 h2 h3
    cases q : body d env with
    | none => rw [q] at h; cases h
    | some o =>
      rw [q] at h
      cases h
      cases out with
      | nx e => exact (h1 e q).elim
      | cnt e => exact (h2 e q).elim
      | brk e => exact (h3 e q).elim
      | ret a e => exact ⟨_, rfl, rfl⟩
      | exc x e => exact ⟨_, rfl, rfl⟩
theorem ss_for {t : CT} {src : CI} {body : CSs} {tg it : Expr} {b : List Stmt} {p : Pos} (hset : isSet it = false) (hi : SI c N sc fn tg it src) (ht : mT N sc fn t tg = true) (hb : SSs c N pn sc fn b body) : SS c N pn sc fn (.For tg it b [] p) (.for_ t src body) := by
  intro X W ok env σ H G fps out Z E he hq
  simp only [evalS_for] at he
  split at he
  rotate_left
  · cases he
  rename_i hpn
  refine tS_of (ps_for ok.po ok.ok.calm (piS X tg it) (pg_T ok.ok ht) (pssS X b) (fun x => notSet_ok hset X.env x)) ?_
  rcases sbnd_ways he with ⟨items, env1, e1, he⟩ | ⟨y, env1, e1, rfl⟩
  rotate_left
  · exact hi X W ok.ok env σ H G fps _ _ E e1 fun cls d H1 G1 fps1 a1 x1 => hq cls d σ H1 G1 fps1 a1 Pin.refl x1
  refine hi X W ok.ok env σ H G fps _ _ E e1 fun J H1 G1 fps1 a1 src1 s1 => ?_
  obtain ⟨R0, r0, rst, rd⟩ := src1
  let bf : D → Env → Option SO := bodyF (setT t) (evalSs c.Γ pn body)
  have he : forL bf items env1 = some out := he
  refine ⟨fun i m σ' H' => m = items.length - i ∧ i ≤ items.length ∧ ∃ env' G' fps', Aft c.K σ' H G fps env' H' G' fps' [] ∧ Pin pn σ σ' ∧ R0 H' G' ∧ forL bf (items.drop i) env' = some out, ⟨items.length, (Nat.sub_zero _).symm, Nat.zero_le _, env1, G1, fps1, a1, Pin.refl, r0, he⟩, ?_⟩
  rintro i m σ' H' ⟨rfl, hile, env', G', fps', a', hp', r', hf⟩
  by_cases hil : i < items.length
  rotate_left
  · have e : i = items.length := by omega
    subst e
    rw [List.drop_length] at hf
    cases hf
    exact .inl ⟨(rd _ H' G' r').2 (Nat.le_refl _), hq σ' H' G' fps' a' hp'⟩
  rw [List.drop_eq_getElem_cons hil] at hf
  obtain ⟨o, hbo, hrest⟩ := forL_cons hf
  obtain ⟨go, yl⟩ := (rd i H' G' r').1 items[i] (List.getElem?_eq_getElem hil)
  refine .inr ⟨go, fun σ2 H2 => ∃ env' G' fps', Aft c.K σ2 H G fps env' H2 G' fps' [] ∧ Pin pn σ σ2 ∧ R0 H2 G' ∧ forL bf (items.drop (i + 1)) env' = some out, fun σ2 H2 n2 => ⟨items.length - (i + 1), by omega, rfl, hil, n2⟩, fun x H2 y => ?_⟩
  obtain ⟨sm2, rx⟩ := yl x H2 y
  have hbo' : (match setT t items[i] env' with
      | some env => evalSs c.Γ pn body env
      | none => none) = some o := hbo
  split at hbo'
  rotate_left
  · cases hbo'
  rename_i ea hea
  rw [ok.ok.eK]
  refine gT_ok (a'.E.same sm2) rx hea fun σ3 fps3 E3 hf3 hσ3 hl3 => ?_
  have a3 : Aft c.K σ3 H G fps ea H2 G' fps3 [] := by
    have z := a'.S.trans (Same.stepF sm2 (G := G') (F := FF fps'))
    exact ⟨E3, ⟨z.keep, z.tups, z.frzs, z.gsub, z.gnew, fun b hb => z.fnew b (hf3 b hb)⟩, (fun b hb => nomatch hb), (fun b hb => nomatch hb)⟩
  have p3 : Pin pn σ σ3 := hp'.trans (gT_pin hpn hσ3)
  have r3 : R0 H2 G' := rst _ _ F0 _ _ F0 (Same.step sm2) (fun _ _ f => f) r'
  refine hb X W ok ea σ3 H2 G' fps3 o _ E3 hbo' ?_
  cases o with
  | nx e => exact fun σ4 H4 G4 fps4 a4 p4 => ⟨e, G4, fps4, a3.nextS a4, p3.trans p4, rst _ _ _ _ _ _ a4.S E3.gf r3, hrest⟩
  | cnt e => exact fun σ4 H4 G4 fps4 a4 p4 => ⟨e, G4, fps4, a3.nextS a4, p3.trans p4, rst _ _ _ _ _ _ a4.S E3.gf r3, hrest⟩
  | brk e =>
    have hrest : out = .nx e := hrest
    subst hrest
    exact fun σ4 H4 G4 fps4 a4 p4 => hq σ4 H4 G4 fps4 (a3.nextS a4) (p3.trans p4)
  | ret v e =>
    have hrest : out = .ret v e := hrest
    subst hrest
    exact fun u σ4 H4 G4 fps4 fpt4 a4 p4 r4 => hq u σ4 H4 G4 fps4 fpt4 (a3.nextS a4) (p3.trans p4) r4
  | exc v e =>
    have hrest : out = .exc v e := hrest
    subst hrest
    exact fun cls d σ4 H4 G4 fps4 a4 p4 x4 => hq cls d σ4 H4 G4 fps4 (a3.nextS a4) (p3.trans p4) x4
theorem ss_while {t : CB} {body : CSs} {x : Expr} {b : List Stmt} {p : Pos} (ht : SB c N sc fn x t) (hb : SSs c N pn sc fn b body) : SS c N pn sc fn (.While x b [] p) (.while_ t body) := by
  intro X W ok env σ H G fps out D E he hq
  simp only [evalS_while] at he
  refine tS_of (ps_while ok.po (ptS X x) (pssS X b)) ?_
  refine ⟨fun m σ' H' => ∃ env' G' fps', Aft c.K σ' H G fps env' H' G' fps' [] ∧ Pin pn σ σ' ∧ whileL (evalT c.Γ t) (evalSs c.Γ pn body) m env' = some out, ⟨_, env, G, fps, Aft.refl E, Pin.refl, he⟩, ?_⟩
  rintro m σ' H' ⟨env', G', fps', a', p', hw⟩
  cases m with
  | zero => cases hw
  | succ m =>
    unfold whileL at hw
    rcases sbnd_ways hw with ⟨b1, env1, e1, hw⟩ | ⟨y, env1, e1, rfl⟩
    rotate_left
    · exact ht X W ok.ok env' σ' H' G' fps' _ _ a'.E e1 fun cls d H1 G1 fps1 a1 x1 => hq cls d σ' H1 G1 fps1 (a'.nextS a1) p' x1
    refine ht X W ok.ok env' σ' H' G' fps' _ _ a'.E e1 fun H1 G1 fps1 a1 s1 => ?_
    cases b1 with
    | false =>
      rw [if_neg Bool.false_ne_true] at hw ⊢
      cases hw
      exact hq σ' H1 G1 fps1 (a'.nextS a1) p'
    | true =>
      rw [if_pos rfl] at hw ⊢
      have aa := a'.nextS a1
      refine ⟨fun σ2 H2 => ∃ env' G' fps', Aft c.K σ2 H G fps env' H2 G' fps' [] ∧ Pin pn σ σ2 ∧ whileL (evalT c.Γ t) (evalSs c.Γ pn body) m env' = some out, fun σ2 H2 n2 => ⟨m, Nat.lt_succ_self m, n2⟩, ?_⟩
      cases q : evalSs c.Γ pn body env1 with
      | none => rw [q] at hw; cases hw
      | some o =>
        rw [q] at hw
        refine hb X W ok env1 σ' H1 G1 fps1 o _ aa.E q ?_
        cases o with
        | nx e => exact fun σ4 H4 G4 fps4 a4 p4 => ⟨e, G4, fps4, aa.nextS a4, p'.trans p4, hw⟩
        | cnt e => exact fun σ4 H4 G4 fps4 a4 p4 => ⟨e, G4, fps4, aa.nextS a4, p'.trans p4, hw⟩
        | brk e =>
          cases hw
          exact fun σ4 H4 G4 fps4 a4 p4 => hq σ4 H4 G4 fps4 (aa.nextS a4) (p'.trans p4)
        | ret v e =>
          cases hw
          exact fun u σ4 H4 G4 fps4 fpt4 a4 p4 r4 => hq u σ4 H4 G4 fps4 fpt4 (aa.nextS a4) (p'.trans p4) r4
        | exc v e =>
          cases hw
          exact fun cls d σ4 H4 G4 fps4 a4 p4 x4 => hq cls d σ4 H4 G4 fps4 (aa.nextS a4) (p'.trans p4) x4
end
end NW
end
section
set_option linter.all false
set_option maxRecDepth 100000
set_option maxHeartbeats 2000000
/-! NWr: all statements; defs -/
namespace NW
open PySem L2 PyProof.Rows
section
variable {c : Ct} {N : List Str} {pn : Nat}
theorem mT_name {sc : Scope} {fn : Str → Bool} {i : Nat} {tg : Expr} (h : mT N sc fn (.name i) tg = true) : ∃ y py, tg = .Name y py := by
  cases tg <;> first | exact ⟨_, _, rfl⟩ | cases h
theorem mT_tup {sc : Scope} {fn : Str → Bool} {i : List Nat} {tg : Expr} (h : mT N sc fn (.tup i) tg = true) : ∃ es k p, tg = .Tuple es k p := by
  cases tg <;> first | exact ⟨_, _, _, rfl⟩ | cases h
mutual
theorem snd_S : ∀ (a : CS) (sc : Scope) (fn : Str → Bool) (s : Stmt), mS N a sc fn s = true → SS c N pn sc fn s a
  | .asg t e, sc, fn, s, h => by
    unfold mS at h
    split at h
    · obtain ⟨h, h3⟩ := one3 (α := Nat) h
      obtain ⟨h1, h2⟩ := one3 (α := Nat) h
      cases t with
      | name i =>
        obtain ⟨y, py, rfl⟩ := mT_name h1
        exact ss_name h1 h2
      | tup l =>
        obtain ⟨es, kk, tp, rfl⟩ := mT_tup h1
        exact ss_tup h1 (by simpa using h3) (snd_E e sc fn _ h2)
    · cases h
  | .par l es, sc, fn, s, h => by
    unfold mS at h
    split at h
    · simp only [Bool.and_eq_true, decide_eq_true_eq] at h
      obtain ⟨⟨⟨⟨h1, h2⟩, h3⟩, h4⟩, h5⟩ := h
      exact ss_par h1 h2 h3 h4 h5
    · cases h
  | .aug i k e, sc, fn, s, h => by
    unfold mS at h
    split at h
    · obtain ⟨h, h4⟩ := one3 (α := Nat) h
      obtain ⟨h, h3⟩ := one3 (α := Nat) h
      refine ss_aug ?_ (by unfold mT; exact h) (snd_E e sc fn _ h3)
      split at h4
      · exact .inl ⟨rfl, rfl⟩
      · exact .inr ⟨rfl, rfl⟩
      · cases h4
    · cases h
  | .put i k e, sc, fn, s, h => by
    unfold mS at h
    split at h
    · obtain ⟨h, h4⟩ := one3 (α := Nat) h
      obtain ⟨h, h3⟩ := one3 (α := Nat) h
      obtain ⟨h1, h2⟩ := one3 (α := Nat) h
      exact ss_put h1 (by simpa using h2) (snd_E k sc fn _ h3) (snd_E e sc fn _ h4)
    · cases h
  | .putf i f k e, sc, fn, s, h => by
    unfold mS at h
    split at h
    · obtain ⟨h, h4⟩ := one3 (α := Nat) h
      obtain ⟨h, h3⟩ := one3 (α := Nat) h
      obtain ⟨h, h2⟩ := one3 (α := Nat) h
      obtain ⟨h1, h0⟩ := one3 (α := Nat) h
      rw [decide_eq_true_eq] at h0
      subst h0
      exact ss_putf h1 (by simpa using h2) (snd_E k sc fn _ h3) (snd_E e sc fn _ h4)
    · cases h
  | .append i e, sc, fn, s, h => by
    unfold mS at h
    split at h
    · obtain ⟨h, h4⟩ := one3 (α := Nat) h
      obtain ⟨h, h3⟩ := one3 (α := Nat) h
      obtain ⟨h, h2⟩ := one3 (α := Nat) h
      obtain ⟨h1, h0⟩ := one3 (α := Nat) h
      rw [decide_eq_true_eq] at h0
      subst h0
      exact ss_append h1 h2 (by simpa using h3) (snd_E e sc fn _ h4)
    · cases h
  | .expr e, sc, fn, s, h => by
    unfold mS at h
    split at h
    · obtain ⟨h1, h2⟩ := one3 (α := Nat) h
      exact ss_expr (by simpa using h2) (snd_E e sc fn _ h1)
    · cases h
  | .ret e, sc, fn, s, h => by
    unfold mS at h
    split at h
    · exact ss_ret (snd_E e sc fn _ h)
    · cases h
  | .retN, sc, fn, s, h => by
    unfold mS at h
    split at h
    · exact ss_retN
    · cases h
  | .ite t a b, sc, fn, s, h => by
    unfold mS at h
    split at h
    · obtain ⟨h, h3⟩ := one3 (α := Nat) h
      obtain ⟨h1, h2⟩ := one3 (α := Nat) h
      exact ss_ite (snd_B t sc fn _ h1) (snd_Ss a sc fn _ h2) (snd_Ss b sc fn _ h3)
    · cases h
  | .for_ t src body, sc, fn, s, h => by
    unfold mS at h
    split at h
    · obtain ⟨h, h4⟩ := one3 (α := Nat) h
      obtain ⟨h, h3⟩ := one3 (α := Nat) h
      obtain ⟨h1, h2⟩ := one3 (α := Nat) h
      exact ss_for (by simpa using h1) (snd_I src sc fn _ _ h2) h3 (snd_Ss body sc fn _ h4)
    · cases h
  | .while_ t body, sc, fn, s, h => by
    unfold mS at h
    split at h
    · obtain ⟨h1, h2⟩ := one3 (α := Nat) h
      exact ss_while (snd_B t sc fn _ h1) (snd_Ss body sc fn _ h2)
    · cases h
  | .never, sc, fn, s, h => ss_never
  | .pass, sc, fn, s, h => by
    unfold mS at h
    split at h
    · exact ss_pass
    · cases h
  | .brk, sc, fn, s, h => by
    unfold mS at h
    split at h
    · exact ss_brk
    · cases h
  | .cnt, sc, fn, s, h => by
    unfold mS at h
    split at h
    · exact ss_cnt
    · cases h
theorem snd_Ss : ∀ (a : CSs) (sc : Scope) (fn : Str → Bool) (l : List Stmt), mSs N a sc fn l = true → SSs c N pn sc fn l a
  | .nil, sc, fn, l, h => by
    unfold mSs at h
    split at h
    · exact sss_nil
    · cases h
  | .cons a as, sc, fn, l, h => by
    unfold mSs at h
    split at h
    · obtain ⟨h1, h2⟩ := one3 (α := Nat) h
      exact sss_cons (snd_S a sc fn _ h1) (snd_Ss as sc fn _ h2)
    · cases h
end
end

/-! ### defs -/
/-- what may be called, and how deep it goes -/
def Lv (c : Ct) (P : Program) (w : World) (base : Heap) (k : Nat) : Prop := ∀ f m, c.Γ.fn f = some m → ∃ (fa : Addr) (fd : FuncData) (ps : List Str) (j : Nat), FnOk P w c.K c.mg base (L2.CX P w) j fa fd ps (spOf c m) ∧ j ≤ k ∧ c.mg f = some (.ref fa) ∧ PySem.W.keepIn c.K (.ref fa) = true ∧ Binds c.K fd ps [] ∧ (f == ("__debug__" : Str)) = false
structure Mod (c : Ct) : Prop where
  blt : ∀ x ∈ bltNames, c.mg x = none
  glob : ∀ x d, c.Γ.const x = some d → (x == ("__debug__" : Str)) = false ∧ ∃ u v, c.mg x = some u ∧ RelV v u ∧ ∀ H G, Rp c.K H G v d
theorem slot_start {n : Nat} {os : List O} {i : Nat} {o : O} (h : slot (startE n os) i = some o) : os[i]? = some o := by
  unfold slot startE at h
  by_cases hi : i < os.length
  · rw [List.getElem?_append_left (by rw [List.length_map]; exact hi), List.getElem?_map, List.getElem?_eq_getElem hi] at h
    rw [List.getElem?_eq_getElem hi]
    exact h
  · rw [List.getElem?_append_right (by rw [List.length_map]; omega), List.getElem?_replicate] at h
    split at h <;> cases h
theorem start_get {N : List Str} {vs : List V} {i : Nat} {v : V} (h : vs[i]? = some v) : (L2.start N vs)[i]? = some (some v) := by
  unfold L2.start
  have hi : i < vs.length := (List.getElem?_eq_some_iff.mp h).1
  rw [List.getElem?_append_left (by rw [List.length_map]; exact hi), List.getElem?_map, h]
  rfl
theorem start_len {N : List Str} {vs : List V} {os : List O} (h : vs.length = os.length) : (startE N.length os).length = (L2.start N vs).length := by
  unfold startE L2.start
  rw [List.length_append, List.length_append, List.length_map, List.length_map, List.length_replicate, List.length_replicate, h]
def fps0 : Fs := fun _ => []
theorem start_fz {K : PySem.W.Frag} {N : List Str} {vs : List V} {ds : List D} {H : Hp} {G : Addr → Prop} (gh : GHeld H G) (r : RpA K H G vs ds) : EnvR K (startE N.length (ds.map .fz)) (L2.start N vs) H G fps0 := by
  refine ⟨gh, start_len (by rw [List.length_map, dpAll_length r]), fun i o h => ?_, fun _ _ => rfl, fun i j a ha => nomatch ha⟩
  have h := slot_start h
  rw [List.getElem?_map] at h
  cases hd : ds[i]? with
  | none => rw [hd] at h; cases h
  | some d =>
    rw [hd] at h
    cases h
    obtain ⟨v, hv, rv⟩ := dpAll_get r hd
    exact ⟨v, start_get hv, rfl, rv⟩
theorem ff0 {b : Addr} (h : FF fps0 b) : False := by obtain ⟨_, h⟩ := h; cases h
theorem step_f0 {H H' : Hp} {G G' F' : Addr → Prop} (s : Step H G (FF fps0) H' G' F') : Step H G F0 H' G' F0 :=
  ⟨fun b u e _ => s.keep b u e fun f => ff0 f, s.tups, s.frzs, s.gsub, fun b g => (s.gnew b g).elim .inl fun z => z.elim (fun f => (ff0 f).elim) fun z => .inr (.inr z), fun b f => f.elim⟩
section
variable {c : Ct} {P : Program} {w : World} {base : Heap} {k : Nat} {N ps : List Str}
theorem ctx_s (L : Lv c P w base k) (M : Mod c) {qual : Str} {st : Stmt} (S : FnScope N ps (defScope st)) (f : Addr) (cdv : Value) (A : Around) (outer : List PySem.Env) (s : Shared) (H : Hp) (E : XK) (hr : Room k (A.deeper (envOfC qual (defScope st) s.heap.objs.size f cdv))) :
    CtxS c (cxOf (L2.CX P w) P w c.K c.mg base N qual (defScope st) f cdv A outer s H E) (fun cls d _ H => E cls d H) N (defScope st) (fun _ => true) where
  ok := { eK := rfl, eM := rfl, eN := rfl, eS := rfl, eF := rfl, nd := S.nd, calm := rfl, tk := takes_of rfl rfl rfl rfl, rm := hr.mono (Nat.zero_le _), fns := fun f m h => by
            obtain ⟨fa, fd, ps, j, F, hj, h1, h2, h3, h4⟩ := L f m h
            exact ⟨fa, fd, ps, j, F, hr.mono hj, h1, h2, h3, h4⟩
          blt := M.blt, glob := M.glob }
  po := passes_of rfl
  kd := S.kind
variable {x qual : Str} {st : Stmt} {f : Addr} {fd : FuncData} {body : CSs}
theorem fn_pure {m : List D → Option (Except Exn D)} (F : Fun c.K x qual st f fd) (S : FnScope N ps (defScope st)) (L : Lv c P w base k) (M : Mod c) (hm : mSs N body (defScope st) (fun _ => true) (defBody st) = true)
    (hev : ∀ ds r, ds.length = ps.length → m ds = some r → runPure c.Γ N.length body ds = some r) : FnOk P w c.K c.mg base (L2.CX P w) (k + 1) f fd ps (spPure c ps.length m) := by
  refine F.okX S (fun vs H Q E h => ?_) (fun cdv A outer s H vs Q E hr h => ⟨_, pssS _ _, ?_⟩)
  · obtain ⟨G, ds, r, gh, rA, hl, _⟩ := h
    rw [dpAll_length rA, hl]
  · obtain ⟨G, ds, r, gh, rA, hl, hmd, post⟩ := h
    have cs := ctx_s (qual := qual) L M S f cdv A outer s H E hr
    have he := hev ds r hl hmd
    unfold runPure at he
    cases q : evalSs c.Γ 0 body (startE N.length (ds.map .fz)) with
    | none => rw [q] at he; cases he
    | some out =>
      rw [q] at he
      refine snd_Ss (pn := 0) body _ _ _ hm _ _ cs _ _ H G fps0 out _ (start_fz gh rA) q ?_
      cases out with
      | nx e =>
        cases he
        exact fun σ' H' G' fps' a p => post .non H' G' (step_f0 a.S) a.E.gh .non
      | ret o e =>
        have he' : (match o.flat with
          | some d => some (Except.ok d)
          | none => none) = some r := he
        split at he'
        · rename_i d hd
          cases he'
          intro v σ' H' G' fps' fpt a p ro
          obtain ⟨G2, a2, r2⟩ := freeze_ok a ro hd
          exact post v H' G2 (step_f0 a2.S) a2.E.gh r2
        · cases he'
      | brk e => cases he
      | cnt e => cases he
      | exc y e =>
        cases he
        exact fun cls d σ' H' G' fps' a p x => post cls d H' G' (step_f0 a.S) a.E.gh x
theorem fn_mk {m : List D → Option O} (F : Fun c.K x qual st f fd) (S : FnScope N ps (defScope st)) (L : Lv c P w base k) (M : Mod c) (hm : mSs N body (defScope st) (fun _ => true) (defBody st) = true)
    (hev : ∀ ds r, ds.length = ps.length → m ds = some r → runMk c.Γ N.length body ds = some r) : FnOk P w c.K c.mg base (L2.CX P w) (k + 1) f fd ps (spMk c ps.length m) := by
  refine F.okX S (fun vs H Q E h => ?_) (fun cdv A outer s H vs Q E hr h => ⟨_, pssS _ _, ?_⟩)
  · obtain ⟨G, ds, r, gh, rA, hl, _⟩ := h
    rw [dpAll_length rA, hl]
  · obtain ⟨G, ds, r, gh, rA, hl, hmd, post⟩ := h
    have cs := ctx_s (qual := qual) L M S f cdv A outer s H E hr
    have he := hev ds r hl hmd
    unfold runMk at he
    cases q : evalSs c.Γ 0 body (startE N.length (ds.map .fz)) with
    | none => rw [q] at he; cases he
    | some out =>
      rw [q] at he
      refine snd_Ss (pn := 0) body _ _ _ hm _ _ cs _ _ H G fps0 out _ (start_fz gh rA) q ?_
      cases out with
      | nx e =>
        cases he
        exact fun σ' H' G' fps' a p => post .non H' G' [] (step_f0 a.S) a.E.gh ⟨rfl, .non⟩ (fun b hb => nomatch hb)
      | ret o e =>
        cases he
        intro v σ' H' G' fps' fpt a p ro
        exact post v H' G' fpt (step_f0 a.S) a.E.gh ro fun b hb => (a.new b hb).elim (fun f => (ff0 f).elim) id
      | brk e => cases he
      | cnt e => cases he
      | exc y e => cases he
def fpsI (fp : List Addr) : Fs := fun i => if i = 0 then fp else []
theorem ffI {fp : List Addr} {b : Addr} : FF (fpsI fp) b ↔ b ∈ fp := by
  constructor
  · rintro ⟨i, h⟩
    unfold fpsI at h
    split at h
    · exact h
    · cases h
  · exact fun h => ⟨0, by unfold fpsI; rw [if_pos rfl]; exact h⟩
theorem start_io {K : PySem.W.Frag} {N : List Str} {vs : List V} {ds : List D} {H : Hp} {G : Addr → Prop} {o : O} {v : V} {fp : List Addr} (gh : GHeld H G) (ro : Ow K H G o v fp) (r : RpA K H G vs ds) (hN : 0 < N.length) : EnvR K (startE N.length (o :: ds.map .fz)) (L2.start N (v :: vs)) H G (fpsI fp) := by
  refine ⟨gh, start_len (by rw [List.length_cons, List.length_cons, List.length_map, dpAll_length r]), fun i o' h => ?_, fun i h => ?_, fun i j a ha hb => ?_⟩
  · have h := slot_start h
    cases i with
    | zero =>
      cases h
      exact ⟨v, start_get rfl, by unfold fpsI; rw [if_pos rfl]; exact ro⟩
    | succ i =>
      rw [List.getElem?_cons_succ, List.getElem?_map] at h
      cases hd : ds[i]? with
      | none => rw [hd] at h; cases h
      | some d =>
        rw [hd] at h
        cases h
        obtain ⟨u, hu, ru⟩ := dpAll_get r hd
        exact ⟨u, start_get (by rw [List.getElem?_cons_succ]; exact hu), by unfold fpsI; rw [if_neg (Nat.succ_ne_zero _)], ru⟩
  · cases i with
    | zero =>
      exfalso
      unfold slot startE at h
      cases h
    | succ i => unfold fpsI; rw [if_neg (Nat.succ_ne_zero _)]
  · unfold fpsI at ha hb
    split at ha
    · split at hb
      · rename_i e1 e2; rw [e1, e2]
      · cases hb
    · cases ha
theorem fn_io {n : Nat} {m : O → List D → Option (Except Exn D × O)} (F : Fun c.K x qual st f fd) (S : FnScope N ps (defScope st)) (L : Lv c P w base k) (M : Mod c) (hm : mSs N body (defScope st) (fun _ => true) (defBody st) = true) (hn : ps.length = n + 1)
    (hev : ∀ o ds r, ds.length = n → m o ds = some r → runIo c.Γ N.length body o ds = some r) : FnOk P w c.K c.mg base (L2.CX P w) (k + 1) f fd ps (spIo c n m) := by
  refine F.okX S (fun vs H Q E h => ?_) (fun cdv A outer s H vs Q E hr h => ⟨_, pssS _ _, ?_⟩)
  · obtain ⟨G, o, o', v0, ws, fp, ds, r, gh, rfl, ro, rA, hl, _⟩ := h
    rw [List.length_cons, dpAll_length rA, hl, hn]
  · obtain ⟨G, o, o', v0, ws, fp, ds, r, gh, rfl, ro, rA, hl, hmd, post⟩ := h
    have cs := ctx_s (qual := qual) L M S f cdv A outer s H E hr
    have hN : 0 < N.length := by
      have := congrArg List.length S.pre
      rw [List.length_take] at this
      omega
    have he := hev o ds (r, o') hl hmd
    unfold runIo at he
    have h0 : (L2.start N (v0 :: ws))[0]? = some (some v0) := start_get rfl
    have lift : ∀ {H' : Hp} {G' : Addr → Prop} {fps' : Fs}, Step H G (FF (fpsI fp)) H' G' (FF fps') → Step H G (· ∈ fp) H' G' (· ∈ fps' 0) := fun {H' G' fps'} s =>
      ⟨fun b u e nf => s.keep b u e fun z => nf (ffI.mp z), s.tups, s.frzs, s.gsub, fun b g => (s.gnew b g).elim .inl fun z => z.elim (fun f => .inr (.inl (ffI.mp f))) fun z => .inr (.inr z), fun b hb => (s.fnew b ⟨0, hb⟩).elim (fun f => .inl (ffI.mp f)) .inr⟩
    cases q : evalSs c.Γ 1 body (startE N.length (o :: ds.map .fz)) with
    | none => rw [q] at he; cases he
    | some out =>
      rw [q] at he
      refine snd_Ss (pn := 1) body _ _ _ hm _ _ cs _ _ H G (fpsI fp) out _ (start_io gh ro rA hN) q ?_
      cases out with
      | nx e =>
        have he' : (match slot e 0 with
          | some o' => some (Except.ok PyData.none, o')
          | none => none) = some (r, o') := by
          rw [← he]
          show _ = (match some PyData.none, slot e 0 with
            | some d, some o' => some (Except.ok d, o')
            | _, _ => none)
          cases slot e 0 <;> rfl
        split at he'
        · rename_i o2 ho2
          cases he'
          intro σ' H' G' fps' a p
          obtain ⟨v', hv', ro'⟩ := a.E.rep 0 _ ho2
          rw [p 0 Nat.zero_lt_one, h0] at hv'
          cases hv'
          exact post .non H' G' (fps' 0) (lift a.S) a.E.gh ro' .non
        · cases he'
      | ret rv e =>
        have he' : (match rv.flat, slot e 0 with
          | some d, some o' => some (Except.ok d, o')
          | _, _ => none) = some (r, o') := he
        split at he'
        · rename_i d o2 hd ho2
          cases he'
          intro v σ' H' G' fps' fpt a p rr
          obtain ⟨G2, a2, r2⟩ := freeze_ok a rr hd
          obtain ⟨v', hv', ro'⟩ := a2.E.rep 0 _ ho2
          rw [p 0 Nat.zero_lt_one, h0] at hv'
          cases hv'
          exact post v H' G2 (fps' 0) (lift a2.S) a2.E.gh ro' r2
        · cases he'
      | brk e => cases he
      | cnt e => cases he
      | exc y e =>
        have he' : (match slot e 0 with
          | some o' => some (Except.error (α := D) y, o')
          | none => none) = some (r, o') := he
        split at he'
        · rename_i o2 ho2
          cases he'
          intro cls d σ' H' G' fps' a p x
          obtain ⟨v', hv', ro'⟩ := a.E.rep 0 _ ho2
          rw [p 0 Nat.zero_lt_one, h0] at hv'
          cases hv'
          exact post cls d H' G' (fps' 0) (lift a.S) a.E.gh ro' x
        · cases he'
end
end NW
end
section
set_option Elab.async false
set_option linter.all false
set_option maxRecDepth 100000
set_option maxHeartbeats 2000000
/-! NWs: the chain of defs, the law's end -/
namespace NW
open PySem L2 PyProof.Rows
def Gof (cs : List (Str × D)) (l : List (Str × Mean)) : Gam := ⟨fun x => cs.lookup x, fun x => l.lookup x, 1000⟩
def ctOf (K : PySem.W.Frag) (mg : Str → Option Value) (cs : List (Str × D)) (l : List (Str × Mean)) : Ct := ⟨K, mg, Gof cs l, fun _ _ _ _ => False⟩
section
variable {K : PySem.W.Frag} {mg : Str → Option Value} {cs : List (Str × D)} {l : List (Str × Mean)} {P : Program} {w : World} {base : Heap} {k : Nat}
theorem Lv.nil : Lv (ctOf K mg cs []) P w base 0 := fun f m h => by cases h
theorem Lv.add {x : Str} {m : Mean} {fa : Addr} {fd : FuncData} {ps : List Str} (L : Lv (ctOf K mg cs l) P w base k) (F : FnOk P w K mg base (L2.CX P w) (k + 1) fa fd ps (spOf (ctOf K mg cs l) m)) (h1 : mg x = some (.ref fa)) (h2 : PySem.W.keepIn K (.ref fa) = true) (h3 : Binds K fd ps []) (h4 : (x == ("__debug__" : Str)) = false) :
    Lv (ctOf K mg cs ((x, m) :: l)) P w base (k + 1) := fun f m' h => by
  have h : ((x, m) :: l).lookup f = some m' := h
  rw [List.lookup_cons] at h
  cases hx : f == x with
  | true =>
    rw [hx] at h
    cases h
    have e := eq_of_beq hx
    subst e
    exact ⟨fa, fd, ps, k + 1, F, Nat.le_refl _, h1, h2, h3, h4⟩
  | false =>
    rw [hx] at h
    obtain ⟨fa', fd', ps', j, F', hj, q⟩ := L f m' h
    exact ⟨fa', fd', ps', j, F', Nat.le_succ_of_le hj, q⟩
/-- a value of the module that a def reads -/
def ConOk (K : PySem.W.Frag) (mg : Str → Option Value) (x : Str) (d : D) : Prop := (x == ("__debug__" : Str)) = false ∧ ∃ u v, mg x = some u ∧ RelV v u ∧ ∀ H G, Rp K H G v d
theorem con_int {x : Str} {i : Int} {t : Tok} (h0 : (x == ("__debug__" : Str)) = false) (h : mg x = some (.int i t)) : ConOk K mg x (.int i) := ⟨h0, _, .int i, h, ⟨_, rfl⟩, fun _ _ => .int i⟩
theorem con_str {x : Str} {i : Str} {t : Tok} (h0 : (x == ("__debug__" : Str)) = false) (h : mg x = some (.str i t)) : ConOk K mg x (.str i) := ⟨h0, _, .str i, h, ⟨_, rfl⟩, fun _ _ => .str i⟩
theorem Mod.mk' {l : List (Str × Mean)} (hb : ∀ x ∈ bltNames, mg x = none) (hc : ∀ p ∈ cs, ConOk K mg p.1 p.2) : Mod (ctOf K mg cs l) where
  blt := hb
  glob := fun x d h => by
    have h : cs.lookup x = some d := h
    exact hc (x, d) (PySem.mem_of_lookup h)
theorem forall_nil {α : Type} {p : α → Prop} : ∀ x ∈ ([] : List α), p x := fun _ h => nomatch h
theorem forall_cons {α : Type} {p : α → Prop} {a : α} {l : List α} (h : p a) (t : ∀ x ∈ l, p x) : ∀ x ∈ a :: l, p x := fun x hx => by
  rcases List.mem_cons.mp hx with rfl | hx
  · exact h
  · exact t x hx
end
def scB (N P : List Str) (sc : Scope) : Bool :=
  decide (sc.kind = .function) && !sc.isCoroutine && !sc.isGenerator && decide N.Nodup && decide (N.take P.length = P) && P.all (fun x => decide (sc.names.lookup x = some .local) || decide (sc.names.lookup x = some .cell)) && sc.names.all (fun y => !decide (y.2 = .free))
theorem scope_by {N P : List Str} {sc : Scope} (h : scB N P sc = true) : FnScope N P sc := by
  unfold scB at h
  simp only [Bool.and_eq_true, Bool.not_eq_true', decide_eq_true_eq, List.all_eq_true, Bool.or_eq_true, decide_eq_false_iff_not] at h
  obtain ⟨⟨⟨⟨⟨⟨h1, h2⟩, h3⟩, h4⟩, h5⟩, h6⟩, h7⟩ := h
  exact ⟨h1, h2, h3, h4, h5, h6, h7⟩
/-- the law's end -/
theorem walk_end {l : PySem.W.OpenLaw} {k : Nat} {q : Program} {loose : List Str} {XP : (Str → Option Value) → Heap → Prop} {YP : World → Heap → Prop} {d : DefRec} {K : Params → PySem.W.Frag} {cs : List (Str × D)} {fs : List (Str × Mean)} {m : List D → Option (Except Exn D)} {x : Str}
    (hn : l.most = some 63) (hdf : d.params.defaults = []) (hr : Room k callerA)
    (hY : ∀ (w : World) (h : Heap), YP w h → (K w.params).In h)
    (hm : ∀ ns : List Int, ns.length ≤ 63 → m [.list (ns.map .int)] = some (.ok (.bool true)))
    (F : ∀ (w : World) (mg : Str → Option Value) (fa : Addr) (h : Heap), (K w.params).In h → h.Ns mainGlobals mg → mg d.name = some (.ref fa) →
      ∃ fd : FuncData, (∀ (s : Shared) (u : Value), BindsTo s fd ⟨[u], []⟩ [(x, u)]) ∧
        ∀ base : Heap, (K w.params).In base → base.Ns mainGlobals mg → FnOk l.prog w (K w.params) mg base (L2.CX l.prog w) k fa fd [x] (spPure (ctOf (K w.params) mg cs fs) 1 m)) :
    PySem.W.WalkO q loose XP YP l.row.toRowW d [] (fun f vs => PySem.call f vs) := by
  refine L2.walk_of (n := 63) (k := k) (x := x) (CX := fun w => L2.CX l.prog w) (sp := fun w vs H Q E => ∀ mg, spPure (ctOf (K w.params) mg cs fs) 1 m vs H Q E) hn (by decide) hdf hr hY (fun w mg fa h KX G hmg => ?_) (fun w H a ns hl hO hS => fun mg => ?_) fun w H s e s' z => ?_
  · obtain ⟨fd, hb, hF⟩ := F w mg fa h KX G hmg
    exact ⟨fd, hb, fun base h1 h2 => (hF base h1 h2).imp fun vs H Q E z => z mg⟩
  · refine ⟨fun b => ∃ u, H b = some u, [.list (ns.map .int)], .ok (.bool true), fun b h => h, .cons ?_ .nil, rfl, hm ns hl, fun v H' G' st gh r => rbool r⟩
    have hi : ∀ (ns : List Int) (H : Hp), DpAll (K w.params) H (ns.map V.int) (ns.map PyData.int) := fun ns H => by
      induction ns with
      | nil => exact .nil
      | cons n ns ih => exact .cons (.int n) ih
    refine .lst (xs := ns.map V.int) ?_ (hi ns _)
    rcases hS with (h | ⟨o, h⟩) | h
    · exact .inl (.inl (HG_lst.mpr ⟨h, _, h⟩))
    · exact .inl (.inr ⟨o, HG_frz.mpr h⟩)
    · exact .inr h
  · obtain ⟨_, _, _, _, _, _, _, _, _, _, _, _, z⟩ := z
    exact z
end NW
end
section
set_option Elab.async false
set_option linter.all false
set_option maxRecDepth 100000
set_option maxHeartbeats 2000000
/-! NWt: plain lemmas about the evaluator -/
namespace NW
open PySem L2
abbrev tup (xs : List Int) : D := .tuple (xs.map .int)
@[simp] theorem intsOf_map (xs : List Int) : intsOf (xs.map .int) = some xs := by
  induction xs with
  | nil => rfl
  | cons x xs ih => simp [intsOf, ih]
@[simp] theorem boolsOf_map (xs : List Bool) : boolsOf (xs.map .bool) = some xs := by
  induction xs with
  | nil => rfl
  | cons x xs ih => simp [boolsOf, ih]
@[simp] theorem boolsOf_rep (n : Nat) (b : Bool) : boolsOf (List.replicate n (PyData.bool b)) = some (List.replicate n b) := by
  induction n with
  | zero => rfl
  | succ n ih => simp [List.replicate_succ, boolsOf, ih]
@[simp] theorem eqD_int (a b : Int) : eqD (.int a) (.int b) = some (decide (a = b)) := by
  simp [eqD, SeqAt.shaped, shaped, PyData.canLay0, PyData.depth, PyData.eqv]
  rfl
@[simp] theorem eqD_bool (a b : Bool) : eqD (.bool a) (.bool b) = some (decide (a = b)) := by
  simp [eqD, SeqAt.shaped, shaped, PyData.canLay0, PyData.depth, PyData.eqv]
  cases a <;> cases b <;> rfl
@[simp] theorem eqD_nn : eqD (.list []) (.list []) = some true := by decide +kernel
theorem lay_ints (xs : List Int) : PyData.canLayAll0 (xs.map .int) = true := by
  induction xs with
  | nil => rfl
  | cons x xs ih => simp [PyData.canLayAll0, PyData.canLay0, ih]
theorem depth_ints (xs : List Int) : PyData.depthAll (xs.map .int) ≤ 1 := by
  induction xs with
  | nil => simp [PyData.depthAll]
  | cons x xs ih =>
    simp [PyData.depthAll, PyData.depth]
    omega
theorem eqv_ints : ∀ xs ys : List Int, PyData.eqvAll (xs.map .int) (ys.map .int) = decide (xs = ys)
  | [], [] => rfl
  | [], _ :: _ => rfl
  | _ :: _, [] => rfl
  | x :: xs, y :: ys => by
    rw [List.map_cons, List.map_cons, PyData.eqvAll, eqv_ints xs ys]
    simp only [PyData.eqv, List.cons.injEq]
    rw [Bool.decide_and]
    rfl
@[simp] theorem eqD_ints (xs ys : List Int) : eqD (.list (xs.map .int)) (.list (ys.map .int)) = some (decide (xs = ys)) := by
  have h1 := depth_ints xs
  have h2 := depth_ints ys
  have d1 : PyData.depth (.list (xs.map .int)) ≤ 64 := by simp only [PyData.depth]; omega
  have d2 : PyData.depth (.list (ys.map .int)) ≤ 64 := by simp only [PyData.depth]; omega
  have c1 : PyData.canLay0 (.list (xs.map .int)) = true := by simp only [PyData.canLay0]; exact lay_ints xs
  have c2 : PyData.canLay0 (.list (ys.map .int)) = true := by simp only [PyData.canLay0]; exact lay_ints ys
  unfold eqD shaped SeqAt.shaped
  rw [c1, c2, decide_eq_true d1, decide_eq_true d2]
  simp only [PyData.eqv, Bool.and_self, if_true]
  rw [eqv_ints]
@[simp] theorem eqD_nil (xs : List Int) : eqD (.list (xs.map .int)) (.list []) = some (decide (xs = [])) := eqD_ints xs []
@[simp] theorem at0 {x : D} {xs : List D} : atI (x :: xs) 0 = some x := by
  have h : (0 : Int) < ((x :: xs).length : Int) := by rw [List.length_cons]; omega
  unfold atI ixN
  rw [if_pos (Int.le_refl 0), if_pos h]
  rfl
@[simp] theorem at1 {x y : D} {xs : List D} : atI (x :: y :: xs) 1 = some y := by
  have h : (1 : Int) < ((x :: y :: xs).length : Int) := by rw [List.length_cons, List.length_cons]; omega
  unfold atI ixN
  rw [if_pos (by omega), if_pos h]
  rfl
@[simp] theorem at2 {x y z : D} {xs : List D} : atI (x :: y :: z :: xs) 2 = some z := by
  have h : (2 : Int) < ((x :: y :: z :: xs).length : Int) := by rw [List.length_cons, List.length_cons, List.length_cons]; omega
  unfold atI ixN
  rw [if_pos (by omega), if_pos h]
  rfl
def getI (xs : List Int) (i : Int) : Int := xs.getD i.toNat 0
theorem atI_ints {xs : List Int} {i : Int} (h0 : 0 ≤ i) (h1 : i < xs.length) : atI (xs.map PyData.int) i = some (.int (getI xs i)) := by
  unfold atI ixN
  rw [if_pos h0, List.length_map, if_pos h1]
  show (xs.map PyData.int)[i.toNat]? = _
  have : i.toNat < xs.length := by omega
  rw [List.getElem?_map, List.getElem?_eq_getElem this]
  unfold getI
  rw [List.getD_eq_getElem?_getD, List.getElem?_eq_getElem this]
  rfl
theorem compL_none {turn : D → Env → Option (Out (Option D))} {env : Env} : ∀ {items : List D}, (∀ d ∈ items, turn d env = some (.ok none env)) → compL turn items env = some (.ok [] env)
  | [], _ => rfl
  | d :: ds, h => by
    unfold compL
    rw [h d List.mem_cons_self]
    simp only
    rw [compL_none fun x hx => h x (List.mem_cons_of_mem _ hx)]
theorem cut_take (xs : List D) (k : Nat) : cutD xs none (some (k : Int)) = xs.take k := by
  unfold cutD
  rw [HT.sIx_nat, HT.sIx_none, List.drop_zero, Nat.sub_zero]
  rw [← List.take_eq_take_min]
@[simp] theorem eqD_cn (x : Int) (xs : List Int) : eqD (.list (.int x :: xs.map .int)) (.list []) = some false := eqD_ints (x :: xs) []
theorem compL_map {turn : D → Env → Option (Out (Option D))} {env : Env} (f : D → D) : ∀ {items : List D}, (∀ d ∈ items, turn d env = some (.ok (some (f d)) env)) → compL turn items env = some (.ok (items.map f) env)
  | [], _ => rfl
  | d :: ds, h => by
    unfold compL
    rw [h d List.mem_cons_self]
    simp only
    rw [compL_map f fun x hx => h x (List.mem_cons_of_mem _ hx)]
    rfl
theorem compL_filter {turn : D → Env → Option (Out (Option D))} {env : Env} (p : D → Bool) : ∀ {items : List D}, (∀ d ∈ items, turn d env = some (.ok (if p d then some d else none) env)) → compL turn items env = some (.ok (items.filter p) env)
  | [], _ => rfl
  | d :: ds, h => by
    unfold compL
    rw [h d List.mem_cons_self]
    simp only
    rw [compL_filter p fun x hx => h x (List.mem_cons_of_mem _ hx)]
    cases hp : p d with
    | true => simp [List.filter_cons, hp]
    | false => simp [List.filter_cons, hp]
theorem compL_ind {turn : D → Env → Option (Out (Option D))} (I : Nat → List D → Env → Prop) : ∀ {items : List D} {n : Nat} {acc : List D} {env : Env}, (∀ i d ac e, items[i]? = some d → I (n + i) ac e → ∃ y e', turn d e = some (.ok (some y) e') ∧ I (n + i + 1) (ac ++ [y]) e') → I n acc env →
    ∃ ds e', compL turn items env = some (.ok ds e') ∧ I (n + items.length) (acc ++ ds) e'
  | [], n, acc, env, _, h0 => ⟨[], env, rfl, by simpa using h0⟩
  | d :: ds, n, acc, env, st, h0 => by
    obtain ⟨y, e', h1, h2⟩ := st 0 d acc env rfl h0
    obtain ⟨r, e2, h3, h4⟩ := compL_ind I (items := ds) (n := n + 1) (acc := acc ++ [y]) (env := e') (fun i d' ac e hi hI => by
      have := st (i + 1) d' ac e (by simpa using hi) (by rw [show n + (i + 1) = n + 1 + i by omega]; exact hI)
      rw [show n + (i + 1) + 1 = n + 1 + i + 1 by omega] at this
      exact this) h2
    refine ⟨y :: r, e2, ?_, ?_⟩
    · unfold compL
      rw [h1]
      simp only
      rw [h3]
    · rw [List.length_cons, show n + (ds.length + 1) = n + 1 + ds.length by omega]
      simpa using h4
/-- a loop whose turns all go on -/
theorem forL_ind {body : D → Env → Option SO} (I : Nat → Env → Prop) : ∀ {items : List D} {n : Nat} {env : Env}, (∀ i d e, items[i]? = some d → I (n + i) e → ∃ e', (body d e = some (.nx e') ∨ body d e = some (.cnt e')) ∧ I (n + i + 1) e') → I n env →
    ∃ e', forL body items env = some (.nx e') ∧ I (n + items.length) e'
  | [], n, env, _, h0 => ⟨env, rfl, h0⟩
  | d :: ds, n, env, st, h0 => by
    obtain ⟨e', h1, h2⟩ := st 0 d env rfl h0
    obtain ⟨e2, h3, h4⟩ := forL_ind I (items := ds) (n := n + 1) (env := e') (fun i d' e hi hI => by
      have := st (i + 1) d' e (by simpa using hi) (by rw [show n + (i + 1) = n + 1 + i by omega]; exact hI)
      rw [show n + (i + 1) + 1 = n + 1 + i + 1 by omega] at this
      exact this) h2
    refine ⟨e2, ?_, ?_⟩
    · unfold forL
      rcases h1 with h1 | h1 <;> (rw [h1]; exact h3)
    · rw [List.length_cons, show n + (ds.length + 1) = n + 1 + ds.length by omega]
      exact h4
theorem seq_nx {Γ : Gam} {pn : Nat} {s : CS} {r : CSs} {env env' : Env} (h : evalS Γ pn s env = some (.nx env')) : evalSs Γ pn (.cons s r) env = evalSs Γ pn r env' := by rw [evalSs_cons, h]
theorem seq_ret {Γ : Gam} {pn : Nat} {s : CS} {r : CSs} {env env' : Env} {o : O} (h : evalS Γ pn s env = some (.ret o env')) : evalSs Γ pn (.cons s r) env = some (.ret o env') := by rw [evalSs_cons, h]
theorem for_nx {Γ : Gam} {pn : Nat} {t : CT} {src : CI} {body : CSs} {env env1 : Env} {items : List D} {out : SO} (ht : targets pn t = true) (hi : evalI Γ src env = some (.ok items env1)) (hl : forL (bodyF (setT t) (evalSs Γ pn body)) items env1 = some out) : evalS Γ pn (.for_ t src body) env = some out := by
  rw [evalS_for, if_pos ht, hi, sbnd_ok, hl]
theorem rng_of {Γ : Gam} {e : CE} {env env1 : Env} {p : P} {n : Nat} (he : evalE Γ e env = some (.ok p env1)) (hf : flatP p env1 = some (.int (n : Int))) (hr : rngOk (n : Int) = true) : evalI Γ (.rng e) env = some (.ok (rangeD 0 n) env1) := by
  rw [evalI_rng, he, bnd_ok, hf]
  exact (if_pos hr).trans (by rw [Int.toNat_natCast])
theorem rangeD_eq : ∀ (n : Nat) (lo : Int), rangeD lo n = (List.range n).map fun (i : Nat) => PyData.int (lo + (i : Int))
  | 0, _ => rfl
  | n + 1, lo => by
    rw [rangeD, rangeD_eq n, List.range_succ_eq_map, List.map_cons, List.map_map]
    congr 1
    · simp
    · refine List.map_congr_left fun i _ => ?_
      show PyData.int _ = PyData.int _
      congr 1
      simp only [Nat.succ_eq_add_one]
      omega
theorem rp_ret {Γ : Gam} {n : Nat} {b : CSs} {ds : List D} {e : Env} {o : O} {d : D} (h : evalSs Γ 0 b (startE n (ds.map .fz)) = some (.ret o e)) (hd : o.flat = some d) : runPure Γ n b ds = some (.ok d) := by
  unfold runPure
  rw [h]
  show (match o.flat with | some d => some (Except.ok d) | none => none) = _
  rw [hd]
end NW
end
section
set_option Elab.async false
set_option linter.all false
set_option maxRecDepth 100000
set_option maxHeartbeats 2000000
noncomputable section
namespace NW
open PySem L2
def n__law_begun : List Str := ["_law_script", "_law_cell", "_law_great"]
def p__law_begun_1 : CB := (.of (.cmp .ge (.var 1) (.bin .pow (.lit (.int 10)) (.lit (.int 18)))))
def p__law_begun_2 : CE := (.var 1)
def b__law_begun : CSs := (.cons (.asg (.name 2) (.comp [1] (.name 1) (.of (.var 0)) p__law_begun_1 p__law_begun_2))
  (.cons (.ret (.dct ["cells", "great", "spot"] (.cons (.bi .list (.cons (.var 0) .nil)) (.cons (.var 2) (.cons (.lit (.int 0)) .nil)))))
  .nil))
def n__law_next : List Str := ["_law_m", "_law_total", "_law_rest", "_law_k", "_law_cell", "_law_mixed"]
def p__law_next_1 : CSs := (.cons (.put 0 (.lit (.str "great")) (.sl (.fld 0 "great") (.some (.lit (.int 1))) .none))
  .nil)
def p__law_next_2 : CS := (.while_ (.and (.of (.cmp .ne (.fld 0 "great") (.lst .nil))) (.of (.cmp .eq (.ix (.fld 0 "great") (.lit (.int 0))) (.lit (.int 0))))) p__law_next_1)
def p__law_next_3 : CS := (.ite (.of (.cmp .ne (.fld 0 "great") (.lst .nil))) (.cons (.asg (.name 2) (.bi .int (.cons (.ix (.fld 0 "great") (.lit (.int 0))) .nil)))
  (.cons (.putf 0 "great" (.lit (.int 0)) (.bin .fdiv (.var 2) (.var 1)))
  (.cons (.ret (.bin .mod (.var 2) (.var 1)))
  .nil))) .nil)
def p__law_next_4 : CS := (.asg (.name 3) (.bin .add (.fld 0 "spot") (.lit (.int 1))))
def p__law_next_5 : CS := (.put 0 (.lit (.str "spot")) (.var 3))
def p__law_next_6 : CS := (.asg (.name 4) (.ite (.of (.cmp .ne (.fld 0 "cells") (.lst .nil))) (.ix (.fld 0 "cells") (.bin .mod (.bi .int (.cons (.var 3) .nil)) (.bi .len (.cons (.fld 0 "cells") .nil)))) (.lit (.int 61))))
def p__law_next_7 : CS := (.asg (.name 5) (.bin .mul (.bi .int (.cons (.bin .add (.bin .add (.bin .mod (.bi .int (.cons (.var 4) .nil)) (.lit (.int 2147483563))) (.bin .mul (.lit (.int 6089)) (.var 3))) (.bin .mul (.bin .mul (.lit (.int 71)) (.var 3)) (.var 3))) .nil)) (.lit (.int 40014))))
def p__law_next_8 : CS := (.asg (.name 5) (.bin .mul (.bi .int (.cons (.bin .add (.bin .mod (.bi .int (.cons (.var 5) .nil)) (.lit (.int 2147483563))) (.bin .mul (.lit (.int 89017)) (.var 3))) .nil)) (.lit (.int 742938285))))
def p__law_next_9 : CS := (.ret (.bin .mod (.bi .int (.cons (.bin .fdiv (.bin .mod (.bi .int (.cons (.var 5) .nil)) (.lit (.int 2147483549))) (.lit (.int 17))) .nil)) (.var 1)))
def b__law_next : CSs := (.cons p__law_next_2 (.cons p__law_next_3 (.cons p__law_next_4 (.cons p__law_next_5 (.cons p__law_next_6 (.cons p__law_next_7 (.cons p__law_next_8 (.cons p__law_next_9 .nil))))))))
def n__law_loads : List Str := ["_law_m", "_law_most", "_law_k", "_law_ahead"]
def p__law_loads_1 : CE := (.cio "_law_next" 0 (.cons (.var 1) .nil))
def p__law_loads_2 : CE := (.cio "_law_next" 0 (.cons (.var 1) .nil))
def b__law_loads : CSs := (.cons (.asg (.name 3) (.bi .tuple (.cons (.comp [2] (.name 2) (.rng (.cio "_law_next" 0 (.cons (.lit (.int 5)) .nil))) .yes p__law_loads_2) .nil)))
  (.cons (.ret (.tup (.cons (.var 3) (.cons (.bi .tuple (.cons (.comp [2] (.name 2) (.rng (.bin .add (.lit (.int 1)) (.cio "_law_next" 0 (.cons (.lit (.int 5)) .nil)))) .yes p__law_loads_1) .nil)) .nil))))
  .nil))
def n_is_whole : List Str := ["thing", "least", "most"]
def b_is_whole : CSs := (.cons (.ite (.or (.not (.of (.isi (.var 0) .int))) (.or (.of (.isi (.var 0) .bool)) (.of (.cmp .lt (.var 0) (.var 1))))) (.cons (.ret (.lit (.bool false)))
  .nil) .nil)
  (.cons (.ret (.or (.isN (.var 2)) (.cmp .le (.var 0) (.var 2))))
  .nil))
def n_are_loads : List Str := ["thing", "least", "one"]
def p_are_loads_1 : CE := (.call "is_whole" (.cons (.var 2) (.cons (.lit (.int 0)) (.cons (.glob "MOST_LOAD") .nil))))
def b_are_loads : CSs := (.cons (.ite (.or (.not (.of (.isi (.var 0) .tuple))) (.not (.of (.chain .le .le (.var 1) (.bi .len (.cons (.var 0) .nil)) (.glob "MOST_ROW"))))) (.cons (.ret (.lit (.bool false)))
  .nil) .nil)
  (.cons (.ret (.bi .all (.cons (.comp [2] (.name 2) (.of (.var 0)) .yes p_are_loads_1) .nil)))
  .nil))
def n_need_loads : List Str := ["loads"]
def b_need_loads : CSs := (.cons (.ite (.or (.not (.of (.isi (.var 0) .tuple))) (.or (.of (.cmp .ne (.bi .len (.cons (.var 0) .nil)) (.lit (.int 2)))) (.or (.not (.of (.call "are_loads" (.cons (.ix (.var 0) (.lit (.int 0))) (.cons (.lit (.int 0)) .nil))))) (.not (.of (.call "are_loads" (.cons (.ix (.var 0) (.lit (.int 1))) (.cons (.lit (.int 1)) .nil)))))))) (.cons .never
  .nil) .nil)
  .nil)
def n_need_pace : List Str := ["loads", "pace"]
def b_need_pace : CSs := (.cons (.expr (.call "need_loads" (.cons (.var 0) .nil)))
  (.cons (.ite (.not (.of (.call "is_whole" (.cons (.var 1) (.cons (.lit (.int 0)) (.cons (.glob "MOST_LOAD") .nil)))))) (.cons .never
  .nil) .nil)
  .nil))
def n_need_number : List Str := ["thing"]
def b_need_number : CSs := (.cons (.ite (.not (.of (.call "is_whole" (.cons (.var 0) (.cons (.lit (.int 0)) (.cons (.glob "MOST_BEAT") .nil)))))) (.cons .never
  .nil) .nil)
  .nil)
def n_film_of : List Str := ["row", "pace", "waiting", "found", "load"]
def p_film_of_1 : CSs := (.cons (.asg (.name 2) (.bi .max (.cons (.lit (.int 0)) (.cons (.bin .sub (.bin .add (.var 2) (.var 4)) (.var 1)) .nil))))
  (.cons (.append 3 (.var 2))
  .nil))
def b_film_of : CSs := (.cons (.asg (.name 3) (.lst .nil))
  (.cons (.for_ (.name 4) (.of (.var 0)) p_film_of_1)
  (.cons (.ret (.var 3))
  .nil)))
def n_long_film : List Str := ["loads", "pace"]
def b_long_film : CSs := (.cons (.ret (.call "film_of" (.cons (.bin .add (.bin .add (.ix (.var 0) (.lit (.int 0))) (.ix (.var 0) (.lit (.int 1)))) (.ix (.var 0) (.lit (.int 1)))) (.cons (.var 1) (.cons (.lit (.int 0)) .nil)))))
  .nil)
def n_growth : List Str := ["loads", "pace"]
def b_growth : CSs := (.cons (.ret (.bin .sub (.bi .sum (.cons (.ix (.var 0) (.lit (.int 1))) .nil)) (.bin .mul (.var 1) (.bi .len (.cons (.ix (.var 0) (.lit (.int 1))) .nil)))))
  .nil)
def n_end_of : List Str := ["row", "pace", "waiting"]
def b_end_of : CSs := (.cons (.ret (.ix (.bin .add (.lst (.cons (.var 2) .nil)) (.call "film_of" (.cons (.var 0) (.cons (.var 1) (.cons (.var 2) .nil))))) (.neg (.lit (.int 1)))))
  .nil)
def n_before_ring : List Str := ["loads", "pace", "number", "first", "more", "least"]
def b_before_ring : CSs := (.cons (.asg (.name 3) (.call "end_of" (.cons (.ix (.var 0) (.lit (.int 0))) (.cons (.var 1) (.cons (.lit (.int 0)) .nil)))))
  (.cons (.ite (.of (.cmp .eq (.var 2) (.lit (.int 0)))) (.cons (.ret (.var 3))
  .nil) .nil)
  (.cons (.par [4, 5] (.cons (.call "growth" (.cons (.var 0) (.cons (.var 1) .nil))) (.cons (.call "end_of" (.cons (.ix (.var 0) (.lit (.int 1))) (.cons (.var 1) (.cons (.lit (.int 0)) .nil)))) .nil)))
  (.cons (.ret (.bi .max (.cons (.bin .add (.var 3) (.bin .mul (.var 2) (.var 4))) (.cons (.bin .add (.var 5) (.bi .max (.cons (.lit (.int 0)) (.cons (.bin .mul (.bin .sub (.var 2) (.lit (.int 1))) (.var 4)) .nil)))) .nil))))
  .nil))))
def n_first_late : List Str := ["loads", "pace", "many", "film", "beat", "waiting", "some", "more", "begin", "ring", "found", "spot", "short", "number"]
def p_first_late_1 : CS := (.expr (.call "need_pace" (.cons (.var 0) (.cons (.var 1) .nil))))
def p_first_late_2 : CS := (.expr (.call "need_number" (.cons (.var 2) .nil)))
def p_first_late_3 : CS := (.asg (.name 3) (.call "long_film" (.cons (.var 0) (.cons (.var 1) .nil))))
def p_first_late_4 : CB := (.of (.cmp .gt (.var 5) (.var 2)))
def p_first_late_5 : CE := (.var 4)
def p_first_late_6 : CS := (.asg (.name 6) (.comp [4, 5] (.tup [4, 5]) (.enum (.var 3)) p_first_late_4 p_first_late_5))
def p_first_late_7 : CS := (.ite (.of (.cmp .ne (.var 6) (.lst .nil))) (.cons (.ret (.ix (.var 6) (.lit (.int 0))))
  .nil) .nil)
def p_first_late_8 : CS := (.par [7, 8, 9] (.cons (.call "growth" (.cons (.var 0) (.cons (.var 1) .nil))) (.cons (.call "before_ring" (.cons (.var 0) (.cons (.var 1) (.cons (.lit (.int 1)) .nil)))) (.cons (.bi .len (.cons (.ix (.var 0) (.lit (.int 1))) .nil)) .nil))))
def p_first_late_9 : CS := (.ite (.of (.cmp .le (.var 7) (.lit (.int 0)))) (.cons (.ret (.lit .none))
  .nil) .nil)
def p_first_late_10 : CS := (.asg (.name 10) (.lst .nil))
def p_first_late_11 : CSs := (.cons (.asg (.name 12) (.bin .sub (.bin .sub (.bin .add (.var 2) (.lit (.int 1))) (.var 8)) (.bin .sub (.bi .sum (.cons (.sl (.ix (.var 0) (.lit (.int 1))) .none (.some (.bin .add (.var 11) (.lit (.int 1))))) .nil)) (.bin .mul (.var 1) (.bin .add (.var 11) (.lit (.int 1)))))))
  (.cons (.asg (.name 13) (.bin .add (.lit (.int 1)) (.bi .max (.cons (.lit (.int 0)) (.cons (.bin .sub (.lit (.int 0)) (.bin .fdiv (.bin .sub (.lit (.int 0)) (.var 12)) (.var 7))) .nil)))))
  (.cons (.append 10 (.bin .add (.bin .add (.bi .len (.cons (.ix (.var 0) (.lit (.int 0))) .nil)) (.bin .mul (.var 13) (.var 9))) (.var 11)))
  .nil)))
def p_first_late_12 : CS := (.for_ (.name 11) (.rng (.var 9)) p_first_late_11)
def p_first_late_13 : CS := (.ret (.bi .min (.cons (.var 10) .nil)))
def b_first_late : CSs := (.cons p_first_late_1 (.cons p_first_late_2 (.cons p_first_late_3 (.cons p_first_late_6 (.cons p_first_late_7 (.cons p_first_late_8 (.cons p_first_late_9 (.cons p_first_late_10 (.cons p_first_late_12 (.cons p_first_late_13 .nil))))))))))
def n_late_at : List Str := ["loads", "pace", "beat", "number", "spot"]
def b_late_at : CSs := (.cons (.ite (.of (.cmp .lt (.var 2) (.bi .len (.cons (.ix (.var 0) (.lit (.int 0))) .nil)))) (.cons (.ret (.ix (.call "film_of" (.cons (.ix (.var 0) (.lit (.int 0))) (.cons (.var 1) (.cons (.lit (.int 0)) .nil)))) (.var 2)))
  .nil) .nil)
  (.cons (.asg (.tup [3, 4]) (.bi .divmod (.cons (.bin .sub (.var 2) (.bi .len (.cons (.ix (.var 0) (.lit (.int 0))) .nil))) (.cons (.bi .len (.cons (.ix (.var 0) (.lit (.int 1))) .nil)) .nil))))
  (.cons (.ret (.ix (.call "film_of" (.cons (.ix (.var 0) (.lit (.int 1))) (.cons (.var 1) (.cons (.call "before_ring" (.cons (.var 0) (.cons (.var 1) (.cons (.var 3) .nil)))) .nil)))) (.var 4)))
  .nil)))
def n_late : List Str := ["loads", "pace", "beat"]
def b_late : CSs := (.cons (.expr (.call "need_pace" (.cons (.var 0) (.cons (.var 1) .nil))))
  (.cons (.expr (.call "need_number" (.cons (.var 2) .nil)))
  (.cons (.ret (.call "late_at" (.cons (.var 0) (.cons (.var 1) (.cons (.var 2) .nil)))))
  .nil)))
def n__law_of : List Str := ["_law_m", "_law_some"]
def b__law_of : CSs := (.cons (.ret (.ix (.var 1) (.cio "_law_next" 0 (.cons (.bi .len (.cons (.var 1) .nil)) .nil))))
  .nil)
def n__law_load : List Str := ["_law_loads_here", "_law_beat", "_law_ahead", "_law_ring"]
def b__law_load : CSs := (.cons (.asg (.tup [2, 3]) (.var 0))
  (.cons (.ite (.of (.cmp .lt (.var 1) (.bi .len (.cons (.var 2) .nil)))) (.cons (.ret (.ix (.var 2) (.var 1)))
  .nil) .nil)
  (.cons (.ret (.ix (.var 3) (.bin .mod (.bi .int (.cons (.bin .sub (.var 1) (.bi .len (.cons (.var 2) .nil))) .nil)) (.bi .len (.cons (.var 3) .nil)))))
  .nil)))
def n__law_film : List Str := ["_law_loads_here", "_law_pace", "_law_many", "_law_found", "_law_waits", "_law_beat"]
def p__law_film_1 : CSs := (.cons (.asg (.name 4) (.bi .max (.cons (.lit (.int 0)) (.cons (.bin .sub (.bin .add (.var 4) (.call "_law_load" (.cons (.var 0) (.cons (.var 5) .nil)))) (.var 1)) .nil))))
  (.cons (.append 3 (.var 4))
  .nil))
def b__law_film : CSs := (.cons (.par [3, 4] (.cons (.lst .nil) (.cons (.lit (.int 0)) .nil)))
  (.cons (.for_ (.name 5) (.rng (.var 2)) p__law_film_1)
  (.cons (.ret (.var 3))
  .nil)))
def n__law_is_growing : List Str := ["_law_loads_here", "_law_pace"]
def b__law_is_growing : CSs := (.cons (.ret (.cmp .gt (.bi .sum (.cons (.ix (.var 0) (.lit (.int 1))) .nil)) (.bin .mul (.var 1) (.bi .len (.cons (.ix (.var 0) (.lit (.int 1))) .nil)))))
  .nil)
def n__law_far : List Str := ["_law_loads_here", "_law_pace", "_law_beat", "_law_ahead", "_law_ring", "_law_first", "_law_rounds", "_law_spot", "_law_film_here", "_law_more", "_law_near"]
def p__law_far_1 : CS := (.asg (.tup [3, 4]) (.var 0))
def p__law_far_2 : CS := (.asg (.name 5) (.bin .add (.bi .len (.cons (.var 3) .nil)) (.bin .mul (.lit (.int 4)) (.bi .len (.cons (.var 4) .nil)))))
def p__law_far_3 : CS := (.ite (.of (.cmp .lt (.var 2) (.var 5))) (.cons (.ret (.ix (.call "_law_film" (.cons (.var 0) (.cons (.var 1) (.cons (.bin .add (.var 2) (.lit (.int 1))) .nil)))) (.neg (.lit (.int 1)))))
  .nil) .nil)
def p__law_far_4 : CS := (.par [6, 7] (.cons (.bin .fdiv (.bin .sub (.var 2) (.var 5)) (.bi .len (.cons (.var 4) .nil))) (.cons (.bin .mod (.bi .int (.cons (.bin .sub (.var 2) (.var 5)) .nil)) (.bi .len (.cons (.var 4) .nil))) .nil)))
def p__law_far_5 : CS := (.asg (.name 8) (.call "_law_film" (.cons (.var 0) (.cons (.var 1) (.cons (.bin .add (.var 5) (.bin .mul (.lit (.int 250)) (.bi .len (.cons (.var 4) .nil)))) .nil)))))
def p__law_far_6 : CS := (.ite (.not (.of (.call "_law_is_growing" (.cons (.var 0) (.cons (.var 1) .nil))))) (.cons (.ret (.ix (.var 8) (.bin .add (.bin .add (.var 5) (.var 7)) (.bin .mul (.bi .min (.cons (.var 6) (.cons (.lit (.int 249)) .nil))) (.bi .len (.cons (.var 4) .nil))))))
  .nil) .nil)
def p__law_far_7 : CS := (.asg (.name 9) (.bin .sub (.bi .sum (.cons (.var 4) .nil)) (.bin .mul (.var 1) (.bi .len (.cons (.var 4) .nil)))))
def p__law_far_8 : CS := (.asg (.name 10) (.ix (.var 8) (.bin .add (.var 5) (.var 7))))
def p__law_far_9 : CS := (.ret (.bin .add (.var 10) (.bin .mul (.var 6) (.var 9))))
def b__law_far : CSs := (.cons p__law_far_1 (.cons p__law_far_2 (.cons p__law_far_3 (.cons p__law_far_4 (.cons p__law_far_5 (.cons p__law_far_6 (.cons p__law_far_7 (.cons p__law_far_8 (.cons p__law_far_9 .nil)))))))))
def n_worst_in : List Str := ["loads", "pace"]
def b_worst_in : CSs := (.cons (.ret (.ite (.of (.cmp .gt (.call "growth" (.cons (.var 0) (.cons (.var 1) .nil))) (.lit (.int 0)))) (.lit .none) (.bi .max (.cons (.call "long_film" (.cons (.var 0) (.cons (.var 1) .nil))) .nil))))
  .nil)
def n_worst : List Str := ["loads", "pace"]
def b_worst : CSs := (.cons (.expr (.call "need_pace" (.cons (.var 0) (.cons (.var 1) .nil))))
  (.cons (.ret (.call "worst_in" (.cons (.var 0) (.cons (.var 1) .nil))))
  .nil))
def n_law : List Str := ["_law_script", "_law_m", "_law_turn", "_law_loads_here", "_law_mean", "_law_pace", "_law_beats", "_law_beat", "_law_number", "_law_most", "_law_k", "_law_told"]
def p_law_1 : CSs := (.cons (.ite (.of (.cmp .gt (.bin .sub (.var 7) (.var 10)) (.bin .pow (.lit (.int 10)) (.lit (.int 30))))) (.cons .cnt
  .nil) .nil)
  (.cons (.ite (.of (.cmp .ne (.cmp .gt (.call "late" (.cons (.var 3) (.cons (.var 5) (.cons (.bin .sub (.var 7) (.var 10)) .nil)))) (.var 8)) (.cmp .eq (.var 10) (.lit (.int 0))))) (.cons (.ret (.lit (.bool false)))
  .nil) .nil)
  .nil))
def p_law_2 : CSs := (.cons (.par [7, 9] (.cons (.call "first_late" (.cons (.var 3) (.cons (.var 5) (.cons (.var 8) .nil)))) (.cons (.call "worst" (.cons (.var 3) (.cons (.var 5) .nil))) .nil)))
  (.cons (.ite (.of (.cmp .ne (.isN (.var 7)) (.notN (.var 9)))) (.cons (.ret (.lit (.bool false)))
  .nil) .nil)
  (.cons (.ite (.of (.isN (.var 7))) (.cons (.ite (.of (.cmp .gt (.var 9) (.var 8))) (.cons (.ret (.lit (.bool false)))
  .nil) .nil)
  (.cons .cnt
  .nil)) .nil)
  (.cons (.for_ (.name 10) (.rng (.bin .add (.bin .mul (.lit (.int 2)) (.bi .len (.cons (.ix (.var 3) (.lit (.int 1))) .nil))) (.lit (.int 1)))) p_law_1)
  .nil))))
def p_law_3 : CSs := (.cons (.ite (.of (.cmp .ne (.call "late" (.cons (.var 3) (.cons (.var 5) (.cons (.var 7) .nil)))) (.call "_law_far" (.cons (.var 3) (.cons (.var 5) (.cons (.var 7) .nil)))))) (.cons (.ret (.lit (.bool false)))
  .nil) .nil)
  .nil)
def p_law_4 : CSs := (.cons (.asg (.name 6) (.lst (.cons (.bin .pow (.lit (.int 10)) (.lit (.int 30))) (.cons (.bin .sub (.bin .pow (.lit (.int 10)) (.lit (.int 30))) (.cio "_law_next" 1 (.cons (.lit (.int 99)) .nil))) (.cons (.bin .add (.bin .pow (.lit (.int 10)) (.lit (.int 18))) (.cio "_law_next" 1 (.cons (.lit (.int 1000)) .nil))) .nil)))))
  (.cons (.for_ (.name 7) (.of (.bin .add (.var 6) (.lst (.cons (.cio "_law_next" 1 (.cons (.lit (.int 5000)) .nil)) .nil)))) p_law_3)
  (.cons (.for_ (.name 8) (.of (.tup (.cons (.bin .pow (.lit (.int 10)) (.lit (.int 30))) (.cons (.bin .add (.bin .pow (.lit (.int 10)) (.lit (.int 29))) (.cio "_law_next" 1 (.cons (.lit (.int 1000)) .nil))) (.cons (.bin .add (.bin .pow (.lit (.int 10)) (.lit (.int 6))) (.cio "_law_next" 1 (.cons (.lit (.int 999)) .nil))) .nil))))) p_law_2)
  .nil)))
def p_law_5 : CSs := (.cons (.asg (.name 3) (.cio "_law_loads" 1 (.cons (.cio "_law_of" 1 (.cons (.lst (.cons (.lit (.int 3)) (.cons (.lit (.int 8)) (.cons (.lit (.int 30)) .nil)))) .nil)) .nil)))
  (.cons (.asg (.name 4) (.bin .fdiv (.bi .sum (.cons (.ix (.var 3) (.lit (.int 1))) .nil)) (.bi .len (.cons (.ix (.var 3) (.lit (.int 1))) .nil))))
  (.cons (.for_ (.name 5) (.of (.tup (.cons (.var 4) (.cons (.bi .max (.cons (.lit (.int 0)) (.cons (.bin .sub (.var 4) (.lit (.int 1))) .nil))) (.cons (.bin .add (.var 4) (.lit (.int 1))) .nil))))) p_law_4)
  .nil)))
def b_law : CSs := (.cons (.asg (.name 1) (.call "_law_begun" (.cons (.var 0) .nil)))
  (.cons (.for_ (.name 2) (.rng (.bin .add (.lit (.int 4)) (.bi .min (.cons (.bi .len (.cons (.var 0) .nil)) (.cons (.lit (.int 9)) .nil))))) p_law_5)
  (.cons (.asg (.name 11) (.lst (.cons (.call "first_late" (.cons (.tup (.cons (.tup .nil) (.cons (.tup (.cons (.lit (.int 3)) (.cons (.lit (.int 0)) .nil))) .nil))) (.cons (.lit (.int 1)) (.cons (.bin .pow (.lit (.int 10)) (.lit (.int 30))) .nil)))) (.cons (.call "late" (.cons (.tup (.cons (.tup .nil) (.cons (.tup (.cons (.lit (.int 3)) (.cons (.lit (.int 0)) .nil))) .nil))) (.cons (.lit (.int 1)) (.cons (.bin .pow (.lit (.int 10)) (.lit (.int 30))) .nil)))) (.cons (.call "late" (.cons (.tup (.cons (.tup (.cons (.lit (.int 7)) .nil)) (.cons (.tup (.cons (.lit (.int 0)) .nil)) .nil))) (.cons (.lit (.int 0)) (.cons (.bin .pow (.lit (.int 10)) (.lit (.int 30))) .nil)))) .nil)))))
  (.cons (.ret (.cmp .eq (.var 11) (.lst (.cons (.bin .mul (.lit (.int 2)) (.bin .sub (.bin .pow (.lit (.int 10)) (.lit (.int 30))) (.lit (.int 1)))) (.cons (.bin .add (.bin .fdiv (.bin .pow (.lit (.int 10)) (.lit (.int 30))) (.lit (.int 2))) (.lit (.int 2))) (.cons (.lit (.int 7)) .nil))))))
  .nil))))
def csts : List (Str × D) := [("MOST_ROW", (.int 30)), ("MOST_LOAD", (.int 1000)), ("MOST_BEAT", (.int 1000000000000000000000000000000))]
def fs0 : List (Str × Mean) := []
def G__law_begun : Gam := Gof csts fs0
def M__law_begun : List D → Option O := runMk G__law_begun 3 b__law_begun
def fs1 : List (Str × Mean) := ("_law_begun", .mk 1 M__law_begun) :: fs0
def G__law_next : Gam := Gof csts fs1
def M__law_next : O → List D → Option (Except Exn D × O) := runIo G__law_next 6 b__law_next
def fs2 : List (Str × Mean) := ("_law_next", .io 1 M__law_next) :: fs1
def G__law_loads : Gam := Gof csts fs2
def M__law_loads : O → List D → Option (Except Exn D × O) := runIo G__law_loads 4 b__law_loads
def fs3 : List (Str × Mean) := ("_law_loads", .io 1 M__law_loads) :: fs2
theorem f__law_loads___law_next : G__law_loads.fn "_law_next" = some (.io 1 M__law_next) := rfl
def G_is_whole : Gam := Gof csts fs3
def M_is_whole : List D → Option (Except Exn D) := runPure G_is_whole 3 b_is_whole
def fs4 : List (Str × Mean) := ("is_whole", .pure 3 M_is_whole) :: fs3
def G_are_loads : Gam := Gof csts fs4
def M_are_loads : List D → Option (Except Exn D) := runPure G_are_loads 3 b_are_loads
def fs5 : List (Str × Mean) := ("are_loads", .pure 2 M_are_loads) :: fs4
theorem f_are_loads__MOST_ROW : G_are_loads.const "MOST_ROW" = some (.int 30) := rfl
theorem f_are_loads__is_whole : G_are_loads.fn "is_whole" = some (.pure 3 M_is_whole) := rfl
theorem f_are_loads__MOST_LOAD : G_are_loads.const "MOST_LOAD" = some (.int 1000) := rfl
def G_need_loads : Gam := Gof csts fs5
def M_need_loads : List D → Option (Except Exn D) := runPure G_need_loads 1 b_need_loads
def fs6 : List (Str × Mean) := ("need_loads", .pure 1 M_need_loads) :: fs5
theorem f_need_loads__are_loads : G_need_loads.fn "are_loads" = some (.pure 2 M_are_loads) := rfl
def G_need_pace : Gam := Gof csts fs6
def M_need_pace : List D → Option (Except Exn D) := runPure G_need_pace 2 b_need_pace
def fs7 : List (Str × Mean) := ("need_pace", .pure 2 M_need_pace) :: fs6
theorem f_need_pace__need_loads : G_need_pace.fn "need_loads" = some (.pure 1 M_need_loads) := rfl
theorem f_need_pace__is_whole : G_need_pace.fn "is_whole" = some (.pure 3 M_is_whole) := rfl
theorem f_need_pace__MOST_LOAD : G_need_pace.const "MOST_LOAD" = some (.int 1000) := rfl
def G_need_number : Gam := Gof csts fs7
def M_need_number : List D → Option (Except Exn D) := runPure G_need_number 1 b_need_number
def fs8 : List (Str × Mean) := ("need_number", .pure 1 M_need_number) :: fs7
theorem f_need_number__is_whole : G_need_number.fn "is_whole" = some (.pure 3 M_is_whole) := rfl
theorem f_need_number__MOST_BEAT : G_need_number.const "MOST_BEAT" = some (.int 1000000000000000000000000000000) := rfl
def G_film_of : Gam := Gof csts fs8
def M_film_of : List D → Option (Except Exn D) := runPure G_film_of 5 b_film_of
def fs9 : List (Str × Mean) := ("film_of", .pure 3 M_film_of) :: fs8
def G_long_film : Gam := Gof csts fs9
def M_long_film : List D → Option (Except Exn D) := runPure G_long_film 2 b_long_film
def fs10 : List (Str × Mean) := ("long_film", .pure 2 M_long_film) :: fs9
theorem f_long_film__film_of : G_long_film.fn "film_of" = some (.pure 3 M_film_of) := rfl
def G_growth : Gam := Gof csts fs10
def M_growth : List D → Option (Except Exn D) := runPure G_growth 2 b_growth
def fs11 : List (Str × Mean) := ("growth", .pure 2 M_growth) :: fs10
def G_end_of : Gam := Gof csts fs11
def M_end_of : List D → Option (Except Exn D) := runPure G_end_of 3 b_end_of
def fs12 : List (Str × Mean) := ("end_of", .pure 3 M_end_of) :: fs11
theorem f_end_of__film_of : G_end_of.fn "film_of" = some (.pure 3 M_film_of) := rfl
def G_before_ring : Gam := Gof csts fs12
def M_before_ring : List D → Option (Except Exn D) := runPure G_before_ring 6 b_before_ring
def fs13 : List (Str × Mean) := ("before_ring", .pure 3 M_before_ring) :: fs12
theorem f_before_ring__end_of : G_before_ring.fn "end_of" = some (.pure 3 M_end_of) := rfl
theorem f_before_ring__growth : G_before_ring.fn "growth" = some (.pure 2 M_growth) := rfl
def G_first_late : Gam := Gof csts fs13
def M_first_late : List D → Option (Except Exn D) := runPure G_first_late 14 b_first_late
def fs14 : List (Str × Mean) := ("first_late", .pure 3 M_first_late) :: fs13
theorem f_first_late__need_pace : G_first_late.fn "need_pace" = some (.pure 2 M_need_pace) := rfl
theorem f_first_late__need_number : G_first_late.fn "need_number" = some (.pure 1 M_need_number) := rfl
theorem f_first_late__long_film : G_first_late.fn "long_film" = some (.pure 2 M_long_film) := rfl
theorem f_first_late__growth : G_first_late.fn "growth" = some (.pure 2 M_growth) := rfl
theorem f_first_late__before_ring : G_first_late.fn "before_ring" = some (.pure 3 M_before_ring) := rfl
def G_late_at : Gam := Gof csts fs14
def M_late_at : List D → Option (Except Exn D) := runPure G_late_at 5 b_late_at
def fs15 : List (Str × Mean) := ("late_at", .pure 3 M_late_at) :: fs14
theorem f_late_at__film_of : G_late_at.fn "film_of" = some (.pure 3 M_film_of) := rfl
theorem f_late_at__before_ring : G_late_at.fn "before_ring" = some (.pure 3 M_before_ring) := rfl
def G_late : Gam := Gof csts fs15
def M_late : List D → Option (Except Exn D) := runPure G_late 3 b_late
def fs16 : List (Str × Mean) := ("late", .pure 3 M_late) :: fs15
theorem f_late__need_pace : G_late.fn "need_pace" = some (.pure 2 M_need_pace) := rfl
theorem f_late__need_number : G_late.fn "need_number" = some (.pure 1 M_need_number) := rfl
theorem f_late__late_at : G_late.fn "late_at" = some (.pure 3 M_late_at) := rfl
def G__law_of : Gam := Gof csts fs16
def M__law_of : O → List D → Option (Except Exn D × O) := runIo G__law_of 2 b__law_of
def fs17 : List (Str × Mean) := ("_law_of", .io 1 M__law_of) :: fs16
theorem f__law_of___law_next : G__law_of.fn "_law_next" = some (.io 1 M__law_next) := rfl
def G__law_load : Gam := Gof csts fs17
def M__law_load : List D → Option (Except Exn D) := runPure G__law_load 4 b__law_load
def fs18 : List (Str × Mean) := ("_law_load", .pure 2 M__law_load) :: fs17
def G__law_film : Gam := Gof csts fs18
def M__law_film : List D → Option (Except Exn D) := runPure G__law_film 6 b__law_film
def fs19 : List (Str × Mean) := ("_law_film", .pure 3 M__law_film) :: fs18
theorem f__law_film___law_load : G__law_film.fn "_law_load" = some (.pure 2 M__law_load) := rfl
def G__law_is_growing : Gam := Gof csts fs19
def M__law_is_growing : List D → Option (Except Exn D) := runPure G__law_is_growing 2 b__law_is_growing
def fs20 : List (Str × Mean) := ("_law_is_growing", .pure 2 M__law_is_growing) :: fs19
def G__law_far : Gam := Gof csts fs20
def M__law_far : List D → Option (Except Exn D) := runPure G__law_far 11 b__law_far
def fs21 : List (Str × Mean) := ("_law_far", .pure 3 M__law_far) :: fs20
theorem f__law_far___law_film : G__law_far.fn "_law_film" = some (.pure 3 M__law_film) := rfl
theorem f__law_far___law_is_growing : G__law_far.fn "_law_is_growing" = some (.pure 2 M__law_is_growing) := rfl
def G_worst_in : Gam := Gof csts fs21
def M_worst_in : List D → Option (Except Exn D) := runPure G_worst_in 2 b_worst_in
def fs22 : List (Str × Mean) := ("worst_in", .pure 2 M_worst_in) :: fs21
theorem f_worst_in__growth : G_worst_in.fn "growth" = some (.pure 2 M_growth) := rfl
theorem f_worst_in__long_film : G_worst_in.fn "long_film" = some (.pure 2 M_long_film) := rfl
def G_worst : Gam := Gof csts fs22
def M_worst : List D → Option (Except Exn D) := runPure G_worst 2 b_worst
def fs23 : List (Str × Mean) := ("worst", .pure 2 M_worst) :: fs22
theorem f_worst__need_pace : G_worst.fn "need_pace" = some (.pure 2 M_need_pace) := rfl
theorem f_worst__worst_in : G_worst.fn "worst_in" = some (.pure 2 M_worst_in) := rfl
def G_law : Gam := Gof csts fs23
def M_law : List D → Option (Except Exn D) := runPure G_law 12 b_law
def fs24 : List (Str × Mean) := ("law", .pure 1 M_law) :: fs23
theorem f_law___law_begun : G_law.fn "_law_begun" = some (.mk 1 M__law_begun) := rfl
theorem f_law___law_loads : G_law.fn "_law_loads" = some (.io 1 M__law_loads) := rfl
theorem f_law__first_late : G_law.fn "first_late" = some (.pure 3 M_first_late) := rfl
theorem f_law__late : G_law.fn "late" = some (.pure 3 M_late) := rfl
theorem f_law___law_of : G_law.fn "_law_of" = some (.io 1 M__law_of) := rfl
theorem f_law___law_next : G_law.fn "_law_next" = some (.io 1 M__law_next) := rfl
theorem f_law___law_far : G_law.fn "_law_far" = some (.pure 3 M__law_far) := rfl
theorem f_law__worst : G_law.fn "worst" = some (.pure 2 M_worst) := rfl
end NW
end
end
section
set_option Elab.async false
set_option linter.all false
set_option maxRecDepth 100000
set_option maxHeartbeats 2000000
namespace NW
open PySem L2
theorem ev_is_whole (x l h : Int) : M_is_whole [.int x, .int l, .int h] = some (.ok (.bool (decide (l ≤ x) && decide (x ≤ h)))) := by
  unfold M_is_whole
  by_cases h1 : x < l
  · have : ¬ l ≤ x := by omega
    simp [runPure, b_is_whole, mv, setOs, lim, targets, flats, tup, startE, slot, flatP, O.flat, share, frz, truthD, isiD, endO, isNone, ixD, slO, cmpO, binO, biO, intsOf, boolsOf, setT, setAll, rowOf, P.still, callD, callI, h1, this]
  · have : l ≤ x := by omega
    simp [runPure, b_is_whole, mv, setOs, lim, targets, flats, tup, startE, slot, flatP, O.flat, share, frz, truthD, isiD, endO, isNone, ixD, slO, cmpO, binO, biO, intsOf, boolsOf, setT, setAll, rowOf, P.still, callD, callI, h1, this]
def goodRow (xs : List Int) : Prop := ∀ x ∈ xs, 0 ≤ x ∧ x ≤ 1000
theorem ev_are_loads {xs : List Int} {l : Int} (h0 : l ≤ xs.length) (h1 : xs.length ≤ 30) (hx : goodRow xs) : M_are_loads [tup xs, .int l] = some (.ok (.bool true)) := by
  unfold M_are_loads
  have hc : compL (compTurn [2] (setT (.name 2)) (evalT G_are_loads .yes) (evalE G_are_loads p_are_loads_1)) (xs.map PyData.int) [some (.fz (tup xs)), some (.fz (.int l)), none] = some (.ok ((xs.map PyData.int).map fun _ => PyData.bool true) [some (.fz (tup xs)), some (.fz (.int l)), none]) := by
    refine compL_map _ fun d hd => ?_
    obtain ⟨x, hx', rfl⟩ := List.mem_map.mp hd
    have := hx x hx'
    simp [compTurn, p_are_loads_1, mv, setOs, lim, targets, flats, tup, startE, slot, flatP, O.flat, share, frz, truthD, isiD, endO, isNone, ixD, slO, cmpO, binO, biO, intsOf, boolsOf, setT, setAll, rowOf, P.still, callD, callI, f_are_loads__is_whole, f_are_loads__MOST_LOAD, ev_is_whole, wipeO, frOk, wipeE, this]
  have e2 : ((xs.map PyData.int).map fun _ => PyData.bool true) = (List.replicate xs.length true).map .bool := by
    rw [List.map_map, List.map_replicate]
    exact List.map_const' ..
  have h2 : (xs.length : Int) ≤ 30 := by omega
  have h3 : xs.length ≤ lim := Nat.le_trans h1 (by decide)
  simp [runPure, b_are_loads, mv, setOs, lim, targets, flats, tup, startE, slot, flatP, O.flat, share, frz, truthD, isiD, endO, isNone, ixD, slO, cmpO, binO, biO, intsOf, boolsOf, setT, setAll, rowOf, P.still, callD, callI, f_are_loads__MOST_ROW, h0, h2, tgIn, frOk, wipeE, hc, e2, backE, h3]

abbrev lds (a r : List Int) : D := .tuple [tup a, tup r]
structure Good (a r : List Int) : Prop where
  al : a.length ≤ 30
  rl : r.length ≤ 30
  r1 : 1 ≤ r.length
  ag : goodRow a
  rg : goodRow r
theorem ev_need_loads {a r : List Int} (g : Good a r) : M_need_loads [lds a r] = some (.ok .none) := by
  have h1 := ev_are_loads (xs := a) (l := 0) (by omega) g.al g.ag
  have h2 := ev_are_loads (xs := r) (l := 1) (by have := g.r1; omega) g.rl g.rg
  unfold tup at h1 h2
  unfold M_need_loads
  simp [runPure, b_need_loads, mv, setOs, lim, targets, flats, tup, startE, slot, flatP, O.flat, share, frz, truthD, isiD, endO, isNone, ixD, slO, cmpO, binO, biO, intsOf, boolsOf, setT, setAll, rowOf, P.still, callD, callI, f_need_loads__are_loads, h1, h2]
theorem ev_need_pace {a r : List Int} (g : Good a r) {p : Int} (h0 : 0 ≤ p) (h1 : p ≤ 1000) : M_need_pace [lds a r, .int p] = some (.ok .none) := by
  have h2 := ev_need_loads g
  unfold lds tup at h2
  unfold M_need_pace
  simp [runPure, b_need_pace, mv, setOs, lim, targets, flats, tup, startE, slot, flatP, O.flat, share, frz, truthD, isiD, endO, isNone, ixD, slO, cmpO, binO, biO, intsOf, boolsOf, setT, setAll, rowOf, P.still, callD, callI, f_need_pace__need_loads, f_need_pace__is_whole, f_need_pace__MOST_LOAD, h2, ev_is_whole, h0, h1]
theorem ev_need_number {p : Int} (h0 : 0 ≤ p) (h1 : p ≤ 10 ^ 30) : M_need_number [.int p] = some (.ok .none) := by
  unfold M_need_number
  have h1 : p ≤ 1000000000000000000000000000000 := h1
  simp [runPure, b_need_number, mv, setOs, lim, targets, flats, tup, startE, slot, flatP, O.flat, share, frz, truthD, isiD, endO, isNone, ixD, slO, cmpO, binO, biO, intsOf, boolsOf, setT, setAll, rowOf, P.still, callD, callI, f_need_number__is_whole, f_need_number__MOST_BEAT, ev_is_whole, h0, h1]
/-- what waits behind each beat -/
def film : List Int → Int → Int → List Int
  | [], _, _ => []
  | l :: r, p, w => (if 0 < w + l - p then w + l - p else 0) :: film r p (if 0 < w + l - p then w + l - p else 0)
theorem film_loop (Γ : Gam) (R : D) (p : Int) : ∀ (row fd : List Int) (w : Int) (lo : Option O), fd.length + row.length ≤ lim → ∃ w' lo', forL (bodyF (setT (.name 4)) (evalSs Γ 0 p_film_of_1)) (row.map PyData.int) [some (.fz R), some (.fz (.int p)), some (.fz (.int w)), some (.lst (fd.map .int)), lo] =
    some (.nx [some (.fz R), some (.fz (.int p)), some (.fz (.int w')), some (.lst ((fd ++ film row p w).map .int)), lo'])
  | [], fd, w, lo, _ => ⟨w, lo, by simp [forL, film]⟩
  | l :: r, fd, w, lo, h => by
    rw [List.length_cons] at h
    obtain ⟨w', lo', e⟩ := film_loop Γ R p r (fd ++ [if 0 < w + l - p then w + l - p else 0]) (if 0 < w + l - p then w + l - p else 0) (some (.fz (.int l))) (by rw [List.length_append, List.length_singleton]; omega)
    refine ⟨w', lo', ?_⟩
    have hl : fd.length < lim := by omega
    rw [List.map_cons]
    unfold forL
    have hb : bodyF (setT (.name 4)) (evalSs Γ 0 p_film_of_1) (.int l) [some (.fz R), some (.fz (.int p)), some (.fz (.int w)), some (.lst (fd.map .int)), lo] =
        some (.nx [some (.fz R), some (.fz (.int p)), some (.fz (.int (if 0 < w + l - p then w + l - p else 0))), some (.lst ((fd ++ [if 0 < w + l - p then w + l - p else 0]).map .int)), some (.fz (.int l))]) := by
      simp [bodyF, p_film_of_1, mv, setOs, lim, targets, flats, tup, startE, slot, flatP, O.flat, share, frz, truthD, isiD, endO, isNone, ixD, slO, cmpO, binO, biO, intsOf, boolsOf, setT, setAll, rowOf, P.still, callD, callI, isLst, appO, hl]
    rw [hb]
    simp only
    rw [e]
    simp [film]
theorem ev_film_of {row : List Int} {p w : Int} (h : row.length ≤ lim) : M_film_of [tup row, .int p, .int w] = some (.ok (.list ((film row p w).map .int))) := by
  unfold M_film_of
  obtain ⟨w', lo', e⟩ := film_loop G_film_of (tup row) p row [] w none (by simpa using h)
  simp only [tup, List.map_nil, List.nil_append] at e
  simp [runPure, b_film_of, mv, setOs, lim, targets, flats, tup, startE, slot, flatP, O.flat, share, frz, truthD, isiD, endO, isNone, ixD, slO, cmpO, binO, biO, intsOf, boolsOf, setT, setAll, rowOf, P.still, callD, callI, e]
end NW
end
section
set_option Elab.async false
set_option linter.all false
set_option maxRecDepth 100000
set_option maxHeartbeats 2000000
namespace NW
open PySem L2
theorem film_len : ∀ (row : List Int) (p w : Int), (film row p w).length = row.length
  | [], _, _ => rfl
  | l :: r, p, w => by rw [film, List.length_cons, List.length_cons, film_len r]
theorem ev_long_film {a r : List Int} (ha : a.length ≤ 30) (hr : r.length ≤ 30) (p : Int) : M_long_film [lds a r, .int p] = some (.ok (.list ((film (a ++ r ++ r) p 0).map .int))) := by
  have h := ev_film_of (row := a ++ r ++ r) (p := p) (w := 0) (by rw [List.length_append, List.length_append]; show _ ≤ 16777216; omega)
  simp only [tup, List.map_append, List.append_assoc] at h
  have h1 : a.length + r.length ≤ lim := by show _ ≤ 16777216; omega
  have h2 : a.length + r.length + r.length ≤ lim := by show _ ≤ 16777216; omega
  unfold M_long_film
  simp [runPure, b_long_film, mv, setOs, lim, targets, flats, tup, startE, slot, flatP, O.flat, share, frz, truthD, isiD, endO, isNone, ixD, slO, cmpO, binO, biO, intsOf, boolsOf, setT, setAll, rowOf, P.still, callD, callI, f_long_film__film_of, h1, h2, h]
def gr (row : List Int) (p : Int) : Int := row.sum - p * (row.length : Int)
theorem ev_growth {a r : List Int} (hr : r.length ≤ 30) (p : Int) : M_growth [lds a r, .int p] = some (.ok (.int (gr r p))) := by
  have h1 := smallI_nat (n := r.length) (by omega)
  unfold M_growth
  simp [runPure, b_growth, mv, setOs, lim, targets, flats, tup, startE, slot, flatP, O.flat, share, frz, truthD, isiD, endO, isNone, ixD, slO, cmpO, binO, biO, intsOf, boolsOf, setT, setAll, rowOf, P.still, callD, callI, h1, gr]
def fin : List Int → Int → Int → Int
  | [], _, w => w
  | l :: r, p, w => fin r p (if 0 < w + l - p then w + l - p else 0)
theorem last_film : ∀ (row : List Int) (p w : Int), (w :: film row p w)[row.length]? = some (fin row p w)
  | [], _, _ => rfl
  | l :: r, p, w => by
    rw [List.length_cons, List.getElem?_cons_succ, film]
    exact last_film r p _
theorem ev_end_of {row : List Int} (h : row.length ≤ 100) (p w : Int) : M_end_of [tup row, .int p, .int w] = some (.ok (.int (fin row p w))) := by
  have h0 := ev_film_of (row := row) (p := p) (w := w) (Nat.le_trans h (by decide))
  simp only [tup] at h0
  have hl : (film row p w).length + 1 ≤ lim := by rw [film_len]; exact Nat.le_trans (Nat.succ_le_succ h) (by decide)
  have hl' : 1 + (film row p w).length ≤ lim := by rw [Nat.add_comm]; exact hl
  have hat : atI (PyData.int w :: (film row p w).map PyData.int) (-1) = some (.int (fin row p w)) := by
    have e : (PyData.int w :: (film row p w).map PyData.int) = (w :: film row p w).map .int := rfl
    rw [e]
    unfold atI
    have : ixN ((w :: film row p w).map PyData.int).length (-1) = some row.length := by
      rw [List.length_map, List.length_cons, film_len]
      unfold ixN
      simp
      omega
    rw [this]
    show ((w :: film row p w).map PyData.int)[row.length]? = _
    rw [List.getElem?_map, last_film]
    rfl
  unfold M_end_of
  simp [runPure, b_end_of, mv, setOs, lim, targets, flats, tup, startE, slot, flatP, O.flat, share, frz, truthD, isiD, endO, isNone, ixD, slO, cmpO, binO, biO, intsOf, boolsOf, setT, setAll, rowOf, P.still, callD, callI, f_end_of__film_of, h0, hl', hat]
end NW
end
section
set_option Elab.async false
set_option linter.all false
set_option maxRecDepth 100000
set_option maxHeartbeats 2000000
namespace NW
open PySem L2
def bef (a r : List Int) (p n : Int) : Int := if n = 0 then fin a p 0 else if fin a p 0 + n * gr r p < fin r p 0 + (if 0 < (n - 1) * gr r p then (n - 1) * gr r p else 0) then fin r p 0 + (if 0 < (n - 1) * gr r p then (n - 1) * gr r p else 0) else fin a p 0 + n * gr r p
theorem ev_before_ring {a r : List Int} (ha : a.length ≤ 30) (hr : r.length ≤ 30) {p : Int} (hg : smallI (gr r p) = true) (n : Int) : M_before_ring [lds a r, .int p, .int n] = some (.ok (.int (bef a r p n))) := by
  have h1 := ev_end_of (row := a) (by omega) p 0
  have h2 := ev_end_of (row := r) (by omega) p 0
  have h3 := ev_growth (a := a) hr p
  simp only [tup, lds] at h1 h2 h3
  unfold M_before_ring bef
  by_cases hn : n = 0
  · simp [runPure, b_before_ring, mv, setOs, lim, targets, flats, tup, startE, slot, flatP, O.flat, share, frz, truthD, isiD, endO, isNone, ixD, slO, cmpO, binO, biO, intsOf, boolsOf, setT, setAll, rowOf, P.still, callD, callI, f_before_ring__end_of, f_before_ring__growth, h1, h2, h3, hn]
  · simp [runPure, b_before_ring, mv, setOs, lim, targets, flats, tup, startE, slot, flatP, O.flat, share, frz, truthD, isiD, endO, isNone, ixD, slO, cmpO, binO, biO, intsOf, boolsOf, setT, setAll, rowOf, P.still, callD, callI, f_before_ring__end_of, f_before_ring__growth, h1, h2, h3, hn, hg]
def lateAt (a r : List Int) (p b : Int) : Int := if b < a.length then getI (film a p 0) b else getI (film r p (bef a r p ((b - a.length) / r.length))) ((b - a.length) % r.length)
theorem ev_late_at {a r : List Int} (ha : a.length ≤ 30) (hr : r.length ≤ 30) (r1 : 1 ≤ r.length) {p : Int} (hg : smallI (gr r p) = true) {b : Int} (hb : 0 ≤ b) : M_late_at [lds a r, .int p, .int b] = some (.ok (.int (lateAt a r p b))) := by
  have h1 := ev_film_of (row := a) (p := p) (w := 0) (Nat.le_trans ha (by decide))
  have h2 := ev_film_of (row := r) (p := p) (w := bef a r p ((b - a.length) / r.length)) (Nat.le_trans hr (by decide))
  have h3 := ev_before_ring ha hr hg ((b - a.length) / r.length)
  simp only [tup, lds] at h1 h2 h3
  have c1 : (0 : Int) < r.length := by omega
  have c2 : (r.length : Int) < 1073741824 := by omega
  have c3 : 0 < r.length := by omega
  have c4 : r.length < 1073741824 := by omega
  have dk : divOk (r.length : Int) = true := divOk_nat (by omega) (by omega)
  unfold M_late_at lateAt
  by_cases hn : b < a.length
  · have h4 := atI_ints (xs := film a p 0) hb (by rw [film_len]; exact hn)
    simp [runPure, b_late_at, mv, setOs, lim, targets, flats, tup, startE, slot, flatP, O.flat, share, frz, truthD, isiD, endO, isNone, ixD, slO, cmpO, binO, biO, intsOf, boolsOf, setT, setAll, rowOf, P.still, callD, callI, f_late_at__film_of, f_late_at__before_ring, h1, h2, h3, hn, h4]
  · have h4 := atI_ints (xs := film r p (bef a r p ((b - a.length) / r.length))) (i := (b - a.length) % r.length) (Int.emod_nonneg _ (by omega)) (by rw [film_len]; exact Int.emod_lt_of_pos _ c1)
    simp [runPure, b_late_at, mv, setOs, lim, targets, flats, tup, startE, slot, flatP, O.flat, share, frz, truthD, isiD, endO, isNone, ixD, slO, cmpO, binO, biO, intsOf, boolsOf, setT, setAll, rowOf, P.still, callD, callI, f_late_at__film_of, f_late_at__before_ring, h1, h2, h3, hn, dk, h4]
theorem ev_late {a r : List Int} (g : Good a r) {p : Int} (p0 : 0 ≤ p) (p1 : p ≤ 1000) (hg : smallI (gr r p) = true) {b : Int} (hb : 0 ≤ b) (hb1 : b ≤ 10 ^ 30) : M_late [lds a r, .int p, .int b] = some (.ok (.int (lateAt a r p b))) := by
  have h1 := ev_need_pace g p0 p1
  have h2 := ev_need_number hb hb1
  have h3 := ev_late_at g.al g.rl g.r1 hg hb
  simp only [tup, lds] at h1 h2 h3
  unfold M_late
  simp [runPure, b_late, mv, setOs, lim, targets, flats, tup, startE, slot, flatP, O.flat, share, frz, truthD, isiD, endO, isNone, ixD, slO, cmpO, binO, biO, intsOf, boolsOf, setT, setAll, rowOf, P.still, callD, callI, f_late__need_pace, f_late__need_number, f_late__late_at, h1, h2, h3]
def worstIn (a r : List Int) (p : Int) : D := if 0 < gr r p then .none else .int (maxI (film (a ++ r ++ r) p 0))
theorem ev_worst {a r : List Int} (g : Good a r) {p : Int} (p0 : 0 ≤ p) (p1 : p ≤ 1000) : M_worst [lds a r, .int p] = some (.ok (worstIn a r p)) := by
  have h1 := ev_need_pace g p0 p1
  have h2 := ev_growth (a := a) g.rl p
  have h3 := ev_long_film g.al g.rl p
  have h4 : M_worst_in [lds a r, .int p] = some (.ok (worstIn a r p)) := by
    have hl : 0 < (film (a ++ r ++ r) p 0).length := by
      rw [film_len, List.length_append, List.length_append]
      have := g.r1
      omega
    simp only [tup, lds, List.append_assoc] at h2 h3 hl ⊢
    unfold M_worst_in worstIn
    by_cases hn : 0 < gr r p
    · simp [runPure, b_worst_in, mv, setOs, lim, targets, flats, tup, startE, slot, flatP, O.flat, share, frz, truthD, isiD, endO, isNone, ixD, slO, cmpO, binO, biO, intsOf, boolsOf, setT, setAll, rowOf, P.still, callD, callI, f_worst_in__growth, f_worst_in__long_film, h2, h3, hn]
    · simp [runPure, b_worst_in, mv, setOs, lim, targets, flats, tup, startE, slot, flatP, O.flat, share, frz, truthD, isiD, endO, isNone, ixD, slO, cmpO, binO, biO, intsOf, boolsOf, setT, setAll, rowOf, P.still, callD, callI, f_worst_in__growth, f_worst_in__long_film, h2, h3, hn, hl]
  simp only [tup, lds] at h1 h4
  unfold M_worst
  simp [runPure, b_worst, mv, setOs, lim, targets, flats, tup, startE, slot, flatP, O.flat, share, frz, truthD, isiD, endO, isNone, ixD, slO, cmpO, binO, biO, intsOf, boolsOf, setT, setAll, rowOf, P.still, callD, callI, f_worst__need_pace, f_worst__worst_in, h1, h4]
end NW
end
section
set_option Elab.async false
set_option linter.all false
set_option maxRecDepth 100000
set_option maxHeartbeats 2000000
namespace NW
open PySem L2
def shortOf (r : List Int) (p many begin : Int) (s : Nat) : Int := many + 1 - begin - ((r.take (s + 1)).sum - p * ((s : Int) + 1))
def numOf (r : List Int) (p many begin : Int) (s : Nat) : Int := 1 + (if 0 < 0 - (0 - shortOf r p many begin s) / gr r p then 0 - (0 - shortOf r p many begin s) / gr r p else 0)
def foundOf (a r : List Int) (p many begin : Int) (s : Nat) : Int := a.length + numOf r p many begin s * r.length + s
theorem first_loop {a r : List Int} (hr : r.length ≤ 30) (r1 : 1 ≤ r.length) {p many bg : Int} (g0 : 0 < gr r p) (g1 : gr r p < 1073741824) (x4 x5 x6 x11 x12 x13 : Option O) (F : O) :
    ∃ y11 y12 y13, forL (bodyF (setT (.name 11)) (evalSs G_first_late 0 p_first_late_11)) (rangeD 0 r.length) [some (.fz (lds a r)), some (.fz (.int p)), some (.fz (.int many)), some F, x4, x5, x6, some (.fz (.int (gr r p))), some (.fz (.int bg)), some (.fz (.int r.length)), some (.lst []), x11, x12, x13] =
      some (.nx [some (.fz (lds a r)), some (.fz (.int p)), some (.fz (.int many)), some F, x4, x5, x6, some (.fz (.int (gr r p))), some (.fz (.int bg)), some (.fz (.int r.length)), some (.lst (((List.range r.length).map (foundOf a r p many bg)).map .int)), y11, y12, y13]) := by
  let I : Nat → Env → Prop := (fun i e => ∃ y11 y12 y13, e = [some (.fz (lds a r)), some (.fz (.int p)), some (.fz (.int many)), some F, x4, x5, x6, some (.fz (.int (gr r p))), some (.fz (.int bg)), some (.fz (.int r.length)), some (.lst (((List.range i).map (foundOf a r p many bg)).map .int)), y11, y12, y13])
  have st : ∀ i d e, (rangeD 0 r.length)[i]? = some d → I (0 + i) e → ∃ e', (bodyF (setT (.name 11)) (evalSs G_first_late 0 p_first_late_11) d e = some (.nx e') ∨ bodyF (setT (.name 11)) (evalSs G_first_late 0 p_first_late_11) d e = some (.cnt e')) ∧ I (0 + i + 1) e' := by
    rintro i d e hi ⟨y11, y12, y13, he⟩
    obtain ⟨hlt, rfl⟩ := rangeD_get _ _ _ _ hi
    rw [Nat.zero_add] at he ⊢
    subst he
    have hs : smallI ((i : Int) + 1) = true := by
      have := smallI_nat (n := i + 1) (by omega)
      simpa using this
    have hs2 : smallI (r.length : Int) = true := smallI_nat (by omega)
    have hcut : cutD (r.map PyData.int) none (some ((i : Int) + 1)) = (r.take (i + 1)).map .int := by
      have := cut_take (r.map PyData.int) (i + 1)
      rw [show ((i + 1 : Nat) : Int) = (i : Int) + 1 by omega] at this
      rw [this, List.map_take]
    have hl : i < 16777216 := by omega
    have hi2 : intsOf (List.take (i + 1) (List.map PyData.int r)) = some (r.take (i + 1)) := by rw [← List.map_take]; exact intsOf_map _
    refine ⟨_, .inl (?_ : _ = some (SO.nx [some (.fz (lds a r)), some (.fz (.int p)), some (.fz (.int many)), some F, x4, x5, x6, some (.fz (.int (gr r p))), some (.fz (.int bg)), some (.fz (.int r.length)), some (.lst (((List.range (i + 1)).map (foundOf a r p many bg)).map .int)), some (.fz (.int i)), some (.fz (.int (shortOf r p many bg i))), some (.fz (.int (numOf r p many bg i)))])), ⟨_, _, _, rfl⟩⟩
    have dk : divOk (gr r p) = true := divOk_of g0 g1
    simp [bodyF, p_first_late_11, mv, setOs, lim, targets, flats, tup, startE, slot, flatP, O.flat, share, frz, truthD, isiD, endO, isNone, ixD, slO, cmpO, binO, biO, intsOf, boolsOf, setT, setAll, rowOf, P.still, callD, callI, isLst, appO, hs, hs2, hcut, hi2, hl, dk, List.range_succ, foundOf, numOf, shortOf]
  obtain ⟨e', h1, y11, y12, y13, h2⟩ := forL_ind I st ⟨x11, x12, x13, rfl⟩
  rw [rangeD_length, Nat.zero_add] at h2
  rw [h2] at h1
  exact ⟨y11, y12, y13, h1⟩
abbrev envF (a r : List Int) (p many : Int) (x3 x6 x7 x8 x9 x10 x11 x12 x13 : Option O) : Env := [some (.fz (lds a r)), some (.fz (.int p)), some (.fz (.int many)), x3, none, none, x6, x7, x8, x9, x10, x11, x12, x13]
section
variable {a r : List Int} {p many : Int} (g : Good a r) (p0 : 0 ≤ p) (p1 : p ≤ 1000) (hg : smallI (gr r p) = true) (hg2 : gr r p < 1073741824) (m0 : 0 ≤ many) (m1 : many ≤ 10 ^ 30) (hf : ∀ w ∈ film (a ++ r ++ r) p 0, w ≤ many) (x3 x6 x7 x8 x9 x10 x11 x12 x13 : Option O)
include g p0 p1 in
theorem fl1 : evalS G_first_late 0 p_first_late_1 (envF a r p many x3 x6 x7 x8 x9 x10 x11 x12 x13) = some (.nx (envF a r p many x3 x6 x7 x8 x9 x10 x11 x12 x13)) := by
  have h1 := ev_need_pace g p0 p1
  simp only [tup, lds] at h1
  simp [p_first_late_1, mv, setOs, lim, targets, flats, tup, startE, slot, flatP, O.flat, share, frz, truthD, isiD, endO, isNone, ixD, slO, cmpO, binO, biO, intsOf, boolsOf, setT, setAll, rowOf, P.still, callD, callI, f_first_late__need_pace, h1]
include m0 m1 in
theorem fl2 : evalS G_first_late 0 p_first_late_2 (envF a r p many x3 x6 x7 x8 x9 x10 x11 x12 x13) = some (.nx (envF a r p many x3 x6 x7 x8 x9 x10 x11 x12 x13)) := by
  have h1 := ev_need_number m0 m1
  simp [p_first_late_2, mv, setOs, lim, targets, flats, tup, startE, slot, flatP, O.flat, share, frz, truthD, isiD, endO, isNone, ixD, slO, cmpO, binO, biO, intsOf, boolsOf, setT, setAll, rowOf, P.still, callD, callI, f_first_late__need_number, h1]
def flmO (a r : List Int) (p : Int) : O := .fz (.list ((film (a ++ r ++ r) p 0).map .int))
include g in
theorem fl3 : evalS G_first_late 0 p_first_late_3 (envF a r p many x3 x6 x7 x8 x9 x10 x11 x12 x13) = some (.nx (envF a r p many (some (flmO a r p)) x6 x7 x8 x9 x10 x11 x12 x13)) := by
  have h3 := ev_long_film g.al g.rl p
  simp only [tup, lds] at h3
  simp [p_first_late_3, mv, setOs, lim, targets, flats, tup, startE, slot, flatP, O.flat, share, frz, truthD, isiD, endO, isNone, ixD, slO, cmpO, binO, biO, intsOf, boolsOf, setT, setAll, rowOf, P.still, callD, callI, f_first_late__long_film, h3, flmO]
include g hf in
theorem fl6 : evalS G_first_late 0 p_first_late_6 (envF a r p many (some (flmO a r p)) x6 x7 x8 x9 x10 x11 x12 x13) = some (.nx (envF a r p many (some (flmO a r p)) (some (.lst [])) x7 x8 x9 x10 x11 x12 x13)) := by
  have hlen : (film (a ++ r ++ r) p 0).length ≤ 16777216 := by
    rw [film_len, List.length_append, List.length_append]
    have := g.al
    have := g.rl
    omega
  have hc : compL (compTurn [4, 5] (setT (.tup [4, 5])) (evalT G_first_late p_first_late_4) (evalE G_first_late p_first_late_5)) (enumFrom 0 ((film (a ++ r ++ r) p 0).map PyData.int)) (envF a r p many (some (flmO a r p)) x6 x7 x8 x9 x10 x11 x12 x13) =
      some (.ok [] (envF a r p many (some (flmO a r p)) x6 x7 x8 x9 x10 x11 x12 x13)) := by
    refine compL_none fun d hd => ?_
    obtain ⟨i, hi⟩ := List.getElem?_of_mem hd
    obtain ⟨e, he, rfl⟩ := enumFrom_get _ _ _ _ hi
    rw [List.getElem?_map] at he
    cases hw : (film (a ++ r ++ r) p 0)[i]? with
    | none => rw [hw] at he; cases he
    | some w =>
      rw [hw] at he
      cases he
      have := hf w (List.mem_of_getElem? hw)
      have hn : ¬ many < w := by omega
      simp [compTurn, p_first_late_4, flmO, mv, setOs, lim, targets, flats, tup, startE, slot, flatP, O.flat, share, frz, truthD, isiD, endO, isNone, ixD, slO, cmpO, binO, biO, intsOf, boolsOf, setT, setAll, rowOf, P.still, callD, callI, wipeO, frOk, wipeE, hn]
  simp only [envF, flmO, tup, lds, List.append_assoc] at hc hlen ⊢
  simp [p_first_late_6, mv, setOs, lim, targets, flats, tup, startE, slot, flatP, O.flat, share, frz, truthD, isiD, endO, isNone, ixD, slO, cmpO, binO, biO, intsOf, boolsOf, setT, setAll, rowOf, P.still, callD, callI, tgIn, frOk, wipeE, hc, backE, enumFrom_length, hlen]
theorem fl7 : evalS G_first_late 0 p_first_late_7 (envF a r p many x3 (some (.lst [])) x7 x8 x9 x10 x11 x12 x13) = some (.nx (envF a r p many x3 (some (.lst [])) x7 x8 x9 x10 x11 x12 x13)) := by
  simp [p_first_late_7, mv, setOs, lim, targets, flats, tup, startE, slot, flatP, O.flat, share, frz, truthD, isiD, endO, isNone, ixD, slO, cmpO, binO, biO, intsOf, boolsOf, setT, setAll, rowOf, P.still, callD, callI]
include g hg in
theorem fl8 : evalS G_first_late 0 p_first_late_8 (envF a r p many x3 x6 x7 x8 x9 x10 x11 x12 x13) = some (.nx (envF a r p many x3 x6 (some (.fz (.int (gr r p)))) (some (.fz (.int (bef a r p 1)))) (some (.fz (.int r.length))) x10 x11 x12 x13)) := by
  have h4 := ev_growth (a := a) g.rl p
  have h5 := ev_before_ring g.al g.rl hg 1
  simp only [tup, lds] at h4 h5
  simp [p_first_late_8, mv, setOs, lim, targets, flats, tup, startE, slot, flatP, O.flat, share, frz, truthD, isiD, endO, isNone, ixD, slO, cmpO, binO, biO, intsOf, boolsOf, setT, setAll, rowOf, P.still, callD, callI, f_first_late__growth, f_first_late__before_ring, h4, h5]
theorem fl9a (hn : gr r p ≤ 0) : evalS G_first_late 0 p_first_late_9 (envF a r p many x3 x6 (some (.fz (.int (gr r p)))) x8 x9 x10 x11 x12 x13) = some (.ret (.fz .none) (envF a r p many x3 x6 (some (.fz (.int (gr r p)))) x8 x9 x10 x11 x12 x13)) := by
  simp [p_first_late_9, mv, setOs, lim, targets, flats, tup, startE, slot, flatP, O.flat, share, frz, truthD, isiD, endO, isNone, ixD, slO, cmpO, binO, biO, intsOf, boolsOf, setT, setAll, rowOf, P.still, callD, callI, hn]
theorem fl9b (hn : ¬ gr r p ≤ 0) : evalS G_first_late 0 p_first_late_9 (envF a r p many x3 x6 (some (.fz (.int (gr r p)))) x8 x9 x10 x11 x12 x13) = some (.nx (envF a r p many x3 x6 (some (.fz (.int (gr r p)))) x8 x9 x10 x11 x12 x13)) := by
  simp [p_first_late_9, mv, setOs, lim, targets, flats, tup, startE, slot, flatP, O.flat, share, frz, truthD, isiD, endO, isNone, ixD, slO, cmpO, binO, biO, intsOf, boolsOf, setT, setAll, rowOf, P.still, callD, callI, hn]
theorem fl10 : evalS G_first_late 0 p_first_late_10 (envF a r p many x3 x6 x7 x8 x9 x10 x11 x12 x13) = some (.nx (envF a r p many x3 x6 x7 x8 x9 (some (.lst [])) x11 x12 x13)) := by
  simp [p_first_late_10, mv, setOs, lim, targets, flats, tup, startE, slot, flatP, O.flat, share, frz, truthD, isiD, endO, isNone, ixD, slO, cmpO, binO, biO, intsOf, boolsOf, setT, setAll, rowOf, P.still, callD, callI]
include g hg2 in
theorem fl12 (hn : ¬ gr r p ≤ 0) (F : O) (bg : Int) : ∃ y11 y12 y13, evalS G_first_late 0 p_first_late_12 (envF a r p many (some F) x6 (some (.fz (.int (gr r p)))) (some (.fz (.int bg))) (some (.fz (.int r.length))) (some (.lst [])) x11 x12 x13) =
    some (.nx (envF a r p many (some F) x6 (some (.fz (.int (gr r p)))) (some (.fz (.int bg))) (some (.fz (.int r.length))) (some (.lst (((List.range r.length).map (foundOf a r p many bg)).map .int))) y11 y12 y13)) := by
  obtain ⟨y11, y12, y13, hloop⟩ := first_loop (a := a) g.rl g.r1 (p := p) (many := many) (bg := bg) (by omega) hg2 none none x6 x11 x12 x13 F
  have c1 : rngOk (r.length : Int) = true := rngOk_nat (by have := g.rl; omega)
  refine ⟨y11, y12, y13, ?_⟩
  exact for_nx rfl (rng_of (p := .plc 9) (n := r.length) (by simp only [evalE_var, slot]; rfl) rfl c1) hloop
include g in
theorem fl13 (ns : List Int) (h : 0 < ns.length) : evalS G_first_late 0 p_first_late_13 (envF a r p many x3 x6 x7 x8 x9 (some (.lst (ns.map .int))) x11 x12 x13) = some (.ret (.fz (.int (minI ns))) (envF a r p many x3 x6 x7 x8 x9 (some (.lst (ns.map .int))) x11 x12 x13)) := by
  simp [p_first_late_13, mv, setOs, lim, targets, flats, tup, startE, slot, flatP, O.flat, share, frz, truthD, isiD, endO, isNone, ixD, slO, cmpO, binO, biO, intsOf, boolsOf, setT, setAll, rowOf, P.still, callD, callI, h]
end
end NW
end
section
set_option Elab.async false
set_option linter.all false
set_option maxRecDepth 100000
set_option maxHeartbeats 2000000
namespace NW
open PySem L2
section
variable {a r : List Int} {p many : Int} (g : Good a r) (p0 : 0 ≤ p) (p1 : p ≤ 1000) (hg : smallI (gr r p) = true) (hg2 : gr r p < 1073741824) (m0 : 0 ≤ many) (m1 : many ≤ 10 ^ 30) (hf : ∀ w ∈ film (a ++ r ++ r) p 0, w ≤ many) (x3 x6 x7 x8 x9 x10 x11 x12 x13 : Option O)
include g p0 p1 hg hg2 m0 m1 hf in
theorem ev_first_late : M_first_late [lds a r, .int p, .int many] = some (.ok (if gr r p ≤ 0 then .none else .int (minI ((List.range r.length).map (foundOf a r p many (bef a r p 1)))))) := by
  unfold M_first_late runPure b_first_late
  rw [show startE 14 (List.map O.fz [lds a r, PyData.int p, PyData.int many]) = envF a r p many none none none none none none none none none from rfl]
  by_cases hn : gr r p ≤ 0
  · rw [seq_nx (fl1 g p0 p1 ..), seq_nx (fl2 m0 m1 ..), seq_nx (fl3 g ..), seq_nx (fl6 g hf ..), seq_nx (fl7 ..), seq_nx (fl8 g hg ..), seq_ret (fl9a _ _ _ _ _ _ _ _ hn), if_pos hn]
    rfl
  · obtain ⟨y11, y12, y13, h12⟩ := fl12 (many := many) g hg2 (some (.lst [])) none none none hn (flmO a r p) (bef a r p 1)
    have hl : 0 < ((List.range r.length).map (foundOf a r p many (bef a r p 1))).length := by
      rw [List.length_map, List.length_range]; exact g.r1
    have e := (seq_nx (r := .cons p_first_late_13 .nil) h12).trans (seq_ret (fl13 g _ _ _ _ _ _ _ _ _ hl))
    have e2 := (seq_nx (r := .cons p_first_late_12 (.cons p_first_late_13 .nil)) (fl10 (a := a) (r := r) (p := p) (many := many) (some (flmO a r p)) (some (.lst [])) (some (.fz (.int (gr r p)))) (some (.fz (.int (bef a r p 1)))) (some (.fz (.int r.length))) none none none none)).trans e
    rw [seq_nx (fl1 g p0 p1 ..), seq_nx (fl2 m0 m1 ..), seq_nx (fl3 g ..), seq_nx (fl6 g hf ..), seq_nx (fl7 ..), seq_nx (fl8 g hg ..), seq_nx (fl9b _ _ _ _ _ _ _ _ hn), e2, if_neg hn]
    rfl
end
end NW
end
section
set_option Elab.async false
set_option linter.all false
set_option maxRecDepth 100000
set_option maxHeartbeats 2000000
namespace NW
open PySem L2
/-- the drawing machine: cells, great ones left, place -/
def stK (c g : List Int) (s : Int) : List (Key × Fld) := [(.inr "cells", .ls (c.map .int)), (.inr "great", .ls (g.map .int)), (.inr "spot", .fz (.int s))]
theorem lk_cells (c g : List Int) (s : Int) : look (stK c g s) (.inr "cells") = some (.ls (c.map .int)) := rfl
theorem lk_great (c g : List Int) (s : Int) : look (stK c g s) (.inr "great") = some (.ls (g.map .int)) := rfl
theorem lk_spot (c g : List Int) (s : Int) : look (stK c g s) (.inr "spot") = some (.fz (.int s)) := rfl
theorem pf_great (c g g' : List Int) (s : Int) : putF (stK c g s) (.inr "great") (.ls (g'.map .int)) = stK c g' s := rfl
theorem pf_spot (c g : List Int) (s s' : Int) : putF (stK c g s) (.inr "spot") (.fz (.int s')) = stK c g s' := rfl
theorem ko_st (c g : List Int) (s : Int) : keysOk (stK c g s) = true := by
  show decide ([Sum.inr "cells", Sum.inr "great", Sum.inr "spot"] : List Key).Nodup = true
  decide +kernel
theorem len_st (c g : List Int) (s : Int) : (stK c g s).length = 3 := rfl
def isGreat : D → Bool
  | .int x => decide (10 ^ 18 ≤ x)
  | _ => false
@[simp] theorem eqD_cn' (x : Int) (xs : List Int) : eqD (.list (.int x :: xs.map .int)) (.list []) = some false := eqD_ints (x :: xs) []
theorem ev_begun (ns : List Int) (h : ns.length ≤ 63) : M__law_begun [.list (ns.map .int)] = some (.dct (stK ns (ns.filter fun x => decide (10 ^ 18 ≤ x)) 0)) := by
  have hc : compL (compTurn [1] (setT (.name 1)) (evalT G__law_begun p__law_begun_1) (evalE G__law_begun p__law_begun_2)) (ns.map PyData.int) [some (.fz (.list (ns.map .int))), none, none] = some (.ok ((ns.map PyData.int).filter isGreat) [some (.fz (.list (ns.map .int))), none, none]) := by
    refine compL_filter _ fun d hd => ?_
    obtain ⟨x, _, rfl⟩ := List.mem_map.mp hd
    by_cases hx : (10 : Int) ^ 18 ≤ x
    · have hx' : (1000000000000000000 : Int) ≤ x := hx
      simp [compTurn, p__law_begun_1, p__law_begun_2, mv, setOs, lim, targets, flats, tup, startE, slot, flatP, O.flat, share, frz, truthD, isiD, endO, isNone, ixD, slO, cmpO, binO, biO, intsOf, boolsOf, setT, setAll, rowOf, P.still, callD, callI, wipeO, frOk, wipeE, isGreat, hx']
    · have hx' : ¬ (1000000000000000000 : Int) ≤ x := hx
      simp [compTurn, p__law_begun_1, p__law_begun_2, mv, setOs, lim, targets, flats, tup, startE, slot, flatP, O.flat, share, frz, truthD, isiD, endO, isNone, ixD, slO, cmpO, binO, biO, intsOf, boolsOf, setT, setAll, rowOf, P.still, callD, callI, wipeO, frOk, wipeE, isGreat, hx']
  have hf : ((ns.map PyData.int).filter isGreat) = (ns.filter fun x => decide (10 ^ 18 ≤ x)).map PyData.int := by
    rw [List.filter_map]; rfl
  rw [hf] at hc
  have hl : ns.length ≤ 16777216 := by omega
  generalize ns.filter (fun x => decide (10 ^ 18 ≤ x)) = gs at hc ⊢
  unfold M__law_begun
  simp [runMk, b__law_begun, mv, setOs, lim, targets, flats, tup, startE, slot, flatP, O.flat, share, frz, truthD, isiD, endO, isNone, ixD, slO, cmpO, binO, biO, intsOf, boolsOf, setT, setAll, rowOf, P.still, callD, callI, tgIn, frOk, wipeE, hc, backE, hl]
  first | rfl | exact ⟨rfl, by decide +kernel⟩ | skip
theorem next_loop (c : List Int) (s : Int) (x1 x2 x3 x4 x5 : Option O) : ∀ (n : Nat) (g : List Int), g.length < n → ∃ g', g'.length ≤ g.length ∧ (g' = [] ∨ ∃ y r, g' = y :: r) ∧
    whileL (evalT G__law_next (.and (.of (.cmp .ne (.fld 0 "great") (.lst .nil))) (.of (.cmp .eq (.ix (.fld 0 "great") (.lit (.int 0))) (.lit (.int 0)))))) (evalSs G__law_next 1 (.cons (.put 0 (.lit (.str "great")) (.sl (.fld 0 "great") (.some (.lit (.int 1))) .none)) .nil)) n [some (.dct (stK c g s)), x1, x2, x3, x4, x5] = some (.nx [some (.dct (stK c g' s)), x1, x2, x3, x4, x5]) := by
  intro n
  induction n with
  | zero => intro g h; omega
  | succ n ih =>
    intro g h
    cases g with
    | nil =>
      refine ⟨[], Nat.le_refl _, .inl rfl, ?_⟩
      unfold whileL
      simp [mv, setOs, lim, targets, flats, tup, startE, slot, flatP, O.flat, share, frz, truthD, isiD, endO, isNone, ixD, slO, cmpO, binO, biO, intsOf, boolsOf, setT, setAll, rowOf, P.still, callD, callI, lk_great]
    | cons y r =>
      by_cases hy : y = 0
      · subst hy
        obtain ⟨g', h1, h2, h3⟩ := ih r (by rw [List.length_cons] at h; omega)
        refine ⟨g', by rw [List.length_cons]; omega, h2, ?_⟩
        have hcut : cutD (PyData.int 0 :: r.map PyData.int) (some 1) none = r.map PyData.int := by
          unfold cutD
          have e1 : HT.sIx (PyData.int 0 :: r.map PyData.int).length 0 (some 1) = 1 := by
            have := HT.sIx_nat (PyData.int 0 :: r.map PyData.int).length 0 1
            rw [List.length_cons] at this ⊢
            rw [show ((1 : Nat) : Int) = 1 from rfl] at this
            omega
          rw [e1, HT.sIx_none, List.length_cons, List.drop_one, List.tail_cons, Nat.add_sub_cancel, List.take_of_length_le (Nat.le_refl _)]
        unfold whileL
        rw [← h3]
        simp [mv, setOs, lim, targets, flats, tup, startE, slot, flatP, O.flat, share, frz, truthD, isiD, endO, isNone, ixD, slO, cmpO, binO, biO, intsOf, boolsOf, setT, setAll, rowOf, P.still, callD, callI, lk_great, hcut, putO, keyOf, ko_st, len_st, pf_great]
      · refine ⟨y :: r, Nat.le_refl _, .inr ⟨y, r, rfl⟩, ?_⟩
        unfold whileL
        simp [mv, setOs, lim, targets, flats, tup, startE, slot, flatP, O.flat, share, frz, truthD, isiD, endO, isNone, ixD, slO, cmpO, binO, biO, intsOf, boolsOf, setT, setAll, rowOf, P.still, callD, callI, lk_great, hy]
end NW
end
section
set_option Elab.async false
set_option linter.all false
set_option maxRecDepth 100000
set_option maxHeartbeats 2000000
namespace NW
open PySem L2
abbrev envN (c g : List Int) (s t : Int) (x2 x3 x4 x5 : Option O) : Env := [some (.dct (stK c g s)), some (.fz (.int t)), x2, x3, x4, x5]
section
variable (c g : List Int) (s t : Int) (x2 x3 x4 x5 : Option O)
theorem nx2 (hg : g.length < 1000) : ∃ g', g'.length ≤ g.length ∧ (g' = [] ∨ ∃ y r, g' = y :: r) ∧ evalS G__law_next 1 p__law_next_2 (envN c g s t x2 x3 x4 x5) = some (.nx (envN c g' s t x2 x3 x4 x5)) :=
  next_loop c s (some (.fz (.int t))) x2 x3 x4 x5 1000 g hg
theorem nx3n : evalS G__law_next 1 p__law_next_3 (envN c [] s t x2 x3 x4 x5) = some (.nx (envN c [] s t x2 x3 x4 x5)) := by
  simp [p__law_next_3, mv, setOs, lim, targets, flats, tup, startE, slot, flatP, O.flat, share, frz, truthD, isiD, endO, isNone, ixD, slO, cmpO, binO, biO, intsOf, boolsOf, setT, setAll, rowOf, P.still, callD, callI, lk_great]
theorem nx3c (y : Int) (r : List Int) (h0 : 0 < t) (h1 : t < 1073741824) : evalS G__law_next 1 p__law_next_3 (envN c (y :: r) s t x2 x3 x4 x5) = some (.ret (.fz (.int (y % t))) (envN c (y / t :: r) s t (some (.fz (.int y))) x3 x4 x5)) := by
  have hset : setAtI (PyData.int y :: r.map PyData.int) 0 (.int (y / t)) = some (PyData.int (y / t) :: r.map PyData.int) := by
    unfold setAtI ixN
    rw [if_pos (Int.le_refl 0), if_pos (by rw [List.length_cons]; omega)]
    rfl
  have hp := pf_great c (y :: r) (y / t :: r) s
  simp only [List.map_cons] at hp
  have dk : divOk t = true := divOk_of h0 h1
  simp [p__law_next_3, mv, setOs, lim, targets, flats, tup, startE, slot, flatP, O.flat, share, frz, truthD, isiD, endO, isNone, ixD, slO, cmpO, binO, biO, intsOf, boolsOf, setT, setAll, rowOf, P.still, callD, callI, lk_great, h0, dk, isPlf, putfO, ko_st, hset, hp]
theorem nx4 : evalS G__law_next 1 p__law_next_4 (envN c g s t x2 x3 x4 x5) = some (.nx (envN c g s t x2 (some (.fz (.int (s + 1)))) x4 x5)) := by
  simp [p__law_next_4, mv, setOs, lim, targets, flats, tup, startE, slot, flatP, O.flat, share, frz, truthD, isiD, endO, isNone, ixD, slO, cmpO, binO, biO, intsOf, boolsOf, setT, setAll, rowOf, P.still, callD, callI, lk_spot]
theorem nx5 (k : Int) : evalS G__law_next 1 p__law_next_5 (envN c g s t x2 (some (.fz (.int k))) x4 x5) = some (.nx (envN c g k t x2 (some (.fz (.int k))) x4 x5)) := by
  simp [p__law_next_5, mv, setOs, lim, targets, flats, tup, startE, slot, flatP, O.flat, share, frz, truthD, isiD, endO, isNone, ixD, slO, cmpO, binO, biO, intsOf, boolsOf, setT, setAll, rowOf, P.still, callD, callI, putO, keyOf, ko_st, len_st, pf_spot]
theorem nx6 (k : Int) (hk : 0 ≤ k) (hc : c.length ≤ 63) : ∃ v, evalS G__law_next 1 p__law_next_6 (envN c g s t x2 (some (.fz (.int k))) x4 x5) = some (.nx (envN c g s t x2 (some (.fz (.int k))) (some (.fz (.int v))) x5)) := by
  cases c with
  | nil => exact ⟨61, by simp [p__law_next_6, mv, setOs, lim, targets, flats, tup, startE, slot, flatP, O.flat, share, frz, truthD, isiD, endO, isNone, ixD, slO, cmpO, binO, biO, intsOf, boolsOf, setT, setAll, rowOf, P.still, callD, callI, lk_cells]⟩
  | cons y r =>
    have hl : (0 : Int) < ((y :: r).length : Int) := by rw [List.length_cons]; omega
    have hat := atI_ints (xs := y :: r) (i := k % ((y :: r).length : Int)) (Int.emod_nonneg _ (by omega)) (Int.emod_lt_of_pos _ hl)
    refine ⟨getI (y :: r) (k % ((y :: r).length : Int)), ?_⟩
    simp only [List.map_cons, List.length_cons] at hat hl
    simp at hat hl
    simp [p__law_next_6, mv, setOs, lim, targets, flats, tup, startE, slot, flatP, O.flat, share, frz, truthD, isiD, endO, isNone, ixD, slO, cmpO, binO, biO, intsOf, boolsOf, setT, setAll, rowOf, P.still, callD, callI, lk_cells, hl, hat]
theorem nx7 (k v : Int) (h0 : 0 ≤ k) (h1 : k ≤ 1000000) : ∃ m, evalS G__law_next 1 p__law_next_7 (envN c g s t x2 (some (.fz (.int k))) (some (.fz (.int v))) x5) = some (.nx (envN c g s t x2 (some (.fz (.int k))) (some (.fz (.int v))) (some (.fz (.int m))))) := by
  have s1 : smallI 6089 = true := smallI_of (by omega) (by omega)
  have s2 : smallI 71 = true := smallI_of (by omega) (by omega)
  have s3 : smallI k = true := smallI_of (by omega) (by omega)
  have s4 : smallI 40014 = true := smallI_of (by omega) (by omega)
  exact ⟨_, by simp [p__law_next_7, mv, setOs, lim, targets, flats, tup, startE, slot, flatP, O.flat, share, frz, truthD, isiD, endO, isNone, ixD, slO, cmpO, binO, biO, intsOf, boolsOf, setT, setAll, rowOf, P.still, callD, callI, s1, s2, s3, s4]; rfl⟩
theorem nx8 (k v m : Int) (h0 : 0 ≤ k) (h1 : k ≤ 1000000) : ∃ m', evalS G__law_next 1 p__law_next_8 (envN c g s t x2 (some (.fz (.int k))) x4 (some (.fz (.int m)))) = some (.nx (envN c g s t x2 (some (.fz (.int k))) x4 (some (.fz (.int m'))))) := by
  have s1 : smallI 89017 = true := smallI_of (by omega) (by omega)
  have s4 : smallI 742938285 = true := smallI_of (by omega) (by omega)
  exact ⟨_, by simp [p__law_next_8, mv, setOs, lim, targets, flats, tup, startE, slot, flatP, O.flat, share, frz, truthD, isiD, endO, isNone, ixD, slO, cmpO, binO, biO, intsOf, boolsOf, setT, setAll, rowOf, P.still, callD, callI, s1, s4]; rfl⟩
theorem nx9 (m : Int) (h0 : 0 < t) : ∃ d, 0 ≤ d ∧ d < t ∧ evalS G__law_next 1 p__law_next_9 (envN c g s t x2 x3 x4 (some (.fz (.int m)))) = some (.ret (.fz (.int d)) (envN c g s t x2 x3 x4 (some (.fz (.int m))))) := by
  exact ⟨m % 2147483549 / 17 % t, Int.emod_nonneg _ (by omega), Int.emod_lt_of_pos _ h0, by
    have dk : divOk 17 = true := divOk_of (by omega) (by omega)
    simp [p__law_next_9, mv, setOs, lim, targets, flats, tup, startE, slot, flatP, O.flat, share, frz, truthD, isiD, endO, isNone, ixD, slO, cmpO, binO, biO, intsOf, boolsOf, setT, setAll, rowOf, P.still, callD, callI, h0, dk]⟩
end
/-- a draw -/
theorem ev_next (c g : List Int) (s t : Int) (hc : c.length ≤ 63) (hg : g.length ≤ 63) (s0 : 0 ≤ s) (s1 : s < 1000000) (t0 : 0 < t) (t1 : t < 1073741824) :
    ∃ d g' s', 0 ≤ d ∧ d < t ∧ g'.length ≤ g.length ∧ s ≤ s' ∧ s' ≤ s + 1 ∧ M__law_next (.dct (stK c g s)) [.int t] = some (.ok (.int d), .dct (stK c g' s')) := by
  obtain ⟨g', hl, hg', h2⟩ := nx2 c g s t none none none none (by omega)
  unfold M__law_next runIo b__law_next
  rw [show startE 6 (O.dct (stK c g s) :: [PyData.int t].map O.fz) = envN c g s t none none none none from rfl]
  rcases hg' with rfl | ⟨y, r, rfl⟩
  · obtain ⟨v, h6⟩ := nx6 c [] (s + 1) t none none none (s + 1) (by omega) hc
    obtain ⟨m, h7⟩ := nx7 c [] (s + 1) t none none (s + 1) v (by omega) (by omega)
    obtain ⟨m', h8⟩ := nx8 c [] (s + 1) t none (some (.fz (.int v))) (s + 1) v m (by omega) (by omega)
    obtain ⟨d, d0, d1, h9⟩ := nx9 c [] (s + 1) t none (some (.fz (.int (s + 1)))) (some (.fz (.int v))) m' t0
    refine ⟨d, [], s + 1, d0, d1, hl, by omega, by omega, ?_⟩
    rw [seq_nx h2, seq_nx (nx3n ..), seq_nx (nx4 ..), seq_nx (nx5 ..), seq_nx h6, seq_nx h7, seq_nx h8, seq_ret h9]
    rfl
  · refine ⟨y % t, y / t :: r, s, Int.emod_nonneg _ (by omega), Int.emod_lt_of_pos _ t0, hl, Int.le_refl _, by omega, ?_⟩
    rw [seq_nx h2, seq_ret (nx3c c s t none none none none y r t0 t1)]
    rfl
end NW
end
section
set_option Elab.async false
set_option linter.all false
set_option maxRecDepth 100000
set_option maxHeartbeats 2000000
namespace NW
open PySem L2
/-- the machine at k draws or less -/
structure Mach (k : Int) (c g : List Int) (s : Int) : Prop where
  cl : c.length ≤ 63
  gl : g.length ≤ 63
  s0 : 0 ≤ s
  s1 : s ≤ k
theorem Mach.draw {k : Int} {c g : List Int} {s t : Int} (h : Mach k c g s) (hk : k < 1000000) (t0 : 0 < t) (t1 : t < 1073741824) :
    ∃ d g' s', 0 ≤ d ∧ d < t ∧ Mach (k + 1) c g' s' ∧ M__law_next (.dct (stK c g s)) [.int t] = some (.ok (.int d), .dct (stK c g' s')) := by
  obtain ⟨d, g', s', d0, d1, hl, h1, h2, e⟩ := ev_next c g s t h.cl h.gl h.s0 (by have := h.s1; omega) t0 t1
  exact ⟨d, g', s', d0, d1, ⟨h.cl, Nat.le_trans hl h.gl, by have := h.s0; omega, by have := h.s1; omega⟩, e⟩
theorem ev_of {k : Int} {c g : List Int} {s : Int} (h : Mach k c g s) (hk : k < 1000000) {xs : List Int} (h0 : 0 < xs.length) (h1 : xs.length < 1073741824) :
    ∃ x ∈ xs, ∃ g' s', Mach (k + 1) c g' s' ∧ M__law_of (.dct (stK c g s)) [.list (xs.map .int)] = some (.ok (.int x), .dct (stK c g' s')) := by
  obtain ⟨d, g', s', d0, d1, hm, e⟩ := h.draw hk (t := xs.length) (by omega) (by omega)
  have hat := atI_ints (xs := xs) d0 d1
  refine ⟨getI xs d, ?_, g', s', hm, ?_⟩
  · have : d.toNat < xs.length := by omega
    unfold getI
    rw [List.getD_eq_getElem?_getD, List.getElem?_eq_getElem this]
    exact List.getElem_mem this
  · unfold M__law_of
    simp [runIo, b__law_of, mv, setOs, lim, targets, flats, tup, startE, slot, flatP, O.flat, share, frz, truthD, isiD, endO, isNone, ixD, slO, cmpO, binO, biO, intsOf, boolsOf, setT, setAll, rowOf, P.still, callD, callI, f__law_of___law_next, e, hat]
end NW
end
section
set_option Elab.async false
set_option linter.all false
set_option maxRecDepth 100000
set_option maxHeartbeats 2000000
namespace NW
open PySem L2
/-! ## the mathematics -/
theorem gr_nil (p : Int) : gr [] p = 0 := by simp [gr]
theorem gr_cons (l : Int) (r : List Int) (p : Int) : gr (l :: r) p = l - p + gr r p := by
  simp only [gr, List.sum_cons, List.length_cons]
  rw [show ((r.length + 1 : Nat) : Int) = (r.length : Int) + 1 by omega, Int.mul_add, Int.mul_one]
  omega
theorem fin_nn : ∀ (r : List Int) (p w : Int), 0 ≤ w → 0 ≤ fin r p w
  | [], _, _, h => h
  | l :: r, p, w, h => by
    rw [fin]; apply fin_nn; split <;> omega
theorem fin_max : ∀ (r : List Int) (p w : Int), 0 ≤ w → fin r p w = max (w + gr r p) (fin r p 0)
  | [], p, w, h => by simp only [fin, gr_nil]; omega
  | l :: r, p, w, h => by
    have h1 := fin_max r p (if 0 < w + l - p then w + l - p else 0) (by split <;> omega)
    have h2 := fin_max r p (if 0 < 0 + l - p then 0 + l - p else 0) (by split <;> omega)
    rw [fin, fin, h1, h2, gr_cons]
    split <;> split <;> omega
theorem fin_ge (r : List Int) (p w : Int) (h : 0 ≤ w) : fin r p 0 ≤ fin r p w := by rw [fin_max r p w h]; omega
theorem fin_app : ∀ (a b : List Int) (p w : Int), fin (a ++ b) p w = fin b p (fin a p w)
  | [], _, _, _ => rfl
  | l :: a, b, p, w => by rw [List.cons_append, fin, fin, fin_app a]
theorem film_get : ∀ (row : List Int) (p w : Int) (i : Nat), i < row.length → (film row p w).getD i 0 = fin (row.take (i + 1)) p w
  | [], _, _, i, h => by simp at h
  | l :: r, p, w, 0, h => by simp [film, fin]
  | l :: r, p, w, i + 1, h => by
    rw [film, List.getD_cons_succ, List.take_succ_cons, fin]
    exact film_get r p _ i (by simpa using h)
/-- the load of a beat -/
def ldf (a r : List Int) (n : Nat) : Int := if n < a.length then a.getD n 0 else r.getD ((n - a.length) % r.length) 0
/-- what waits behind n beats -/
def wt (a r : List Int) (p : Int) : Nat → Int
  | 0 => 0
  | n + 1 => max 0 (wt a r p n + ldf a r n - p)
/-- the loads of n beats from k on -/
def lw (a r : List Int) (k : Nat) : Nat → List Int
  | 0 => []
  | n + 1 => ldf a r k :: lw a r (k + 1) n
theorem wt_nn (a r : List Int) (p : Int) : ∀ n, 0 ≤ wt a r p n
  | 0 => Int.le_refl _
  | n + 1 => by rw [wt]; omega
theorem ifmax (x : Int) : (if 0 < x then x else 0) = max 0 x := by split <;> omega
theorem lw_len (a r : List Int) : ∀ n k, (lw a r k n).length = n
  | 0, _ => rfl
  | n + 1, k => by rw [lw, List.length_cons, lw_len a r n]
theorem wt_lw (a r : List Int) (p : Int) : ∀ n k, wt a r p (k + n) = fin (lw a r k n) p (wt a r p k)
  | 0, k => rfl
  | n + 1, k => by
    rw [lw, fin, ifmax, show k + (n + 1) = (k + 1) + n by omega, wt_lw a r p n (k + 1), wt]
theorem lw_get (a r : List Int) : ∀ n k i, i < n → (lw a r k n)[i]? = some (ldf a r (k + i))
  | 0, _, i, h => by omega
  | n + 1, k, 0, h => rfl
  | n + 1, k, i + 1, h => by
    rw [lw, List.getElem?_cons_succ, lw_get a r n (k + 1) i (by omega), show k + 1 + i = k + (i + 1) by omega]
theorem ldf_per {a r : List Int} (n : Nat) (h : a.length ≤ n) : ldf a r (n + r.length) = ldf a r n := by
  unfold ldf
  rw [if_neg (by omega), if_neg (by omega), show n + r.length - a.length = (n - a.length) + r.length by omega, Nat.add_mod_right]
theorem ldf_perk {a r : List Int} (n : Nat) (h : a.length ≤ n) : ∀ k, ldf a r (n + k * r.length) = ldf a r n
  | 0 => by simp
  | k + 1 => by rw [Nat.succ_mul, ← Nat.add_assoc, ldf_per _ (by omega), ldf_perk n h k]
theorem lw_per {a r : List Int} (h : Nat) : ∀ n k, a.length ≤ k → lw a r (k + h * r.length) n = lw a r k n
  | 0, _, _ => rfl
  | n + 1, k, hk => by
    rw [lw, lw, ldf_perk k hk, show k + h * r.length + 1 = (k + 1) + h * r.length by omega, lw_per h n (k + 1) (by omega)]
theorem lw_head (a r : List Int) (n : Nat) (h : n ≤ a.length) : lw a r 0 n = a.take n := by
  apply List.ext_getElem?
  intro i
  by_cases hi : i < n
  · rw [lw_get _ _ _ _ _ hi, List.getElem?_take_of_lt hi, Nat.zero_add]
    unfold ldf
    rw [if_pos (by omega), List.getD_eq_getElem?_getD, List.getElem?_eq_getElem (by omega)]; rfl
  · rw [List.getElem?_eq_none (by rw [lw_len]; omega), List.getElem?_eq_none (by rw [List.length_take]; omega)]
theorem lw_ring (a r : List Int) (k n : Nat) (h : n ≤ r.length) : lw a r (a.length + k * r.length) n = r.take n := by
  rw [lw_per k _ _ (Nat.le_refl _)]
  apply List.ext_getElem?
  intro i
  by_cases hi : i < n
  · rw [lw_get _ _ _ _ _ hi, List.getElem?_take_of_lt hi]
    unfold ldf
    rw [if_neg (by omega), Nat.add_sub_cancel_left, Nat.mod_eq_of_lt (by omega), List.getD_eq_getElem?_getD, List.getElem?_eq_getElem (by omega)]; rfl
  · rw [List.getElem?_eq_none (by rw [lw_len]; omega), List.getElem?_eq_none (by rw [List.length_take]; omega)]
theorem gr_app (x y : List Int) (p : Int) : gr (x ++ y) p = gr x p + gr y p := by
  induction x with
  | nil => rw [gr_nil, List.nil_append]; omega
  | cons l x ih => rw [List.cons_append, gr_cons, gr_cons, ih]; omega
/-- a round's sum is the same wherever it begins -/
theorem lw_snoc (a r : List Int) : ∀ n k, lw a r k (n + 1) = lw a r k n ++ [ldf a r (k + n)]
  | 0, k => rfl
  | n + 1, k => by
    rw [lw, lw_snoc a r n (k + 1), lw, List.cons_append, show k + 1 + n = k + (n + 1) by omega]
theorem gr_round {a r : List Int} (p : Int) (k : Nat) (h : a.length ≤ k) : gr (lw a r k r.length) p = gr r p := by
  obtain ⟨d, rfl⟩ : ∃ d, k = a.length + d := ⟨k - a.length, by omega⟩
  clear h
  induction d with
  | zero =>
    have := lw_ring a r 0 r.length (Nat.le_refl _)
    rw [Nat.zero_mul] at this
    rw [this, List.take_length]
  | succ d ih =>
    rw [← ih]
    have h1 := lw_snoc a r r.length (a.length + d)
    have h2 : lw a r (a.length + d) (r.length + 1) = ldf a r (a.length + d) :: lw a r (a.length + (d + 1)) r.length := rfl
    have h3 : gr (lw a r (a.length + d) (r.length + 1)) p = gr (lw a r (a.length + d) (r.length + 1)) p := rfl
    conv at h3 => lhs; rw [h1]
    rw [h2, gr_app, gr_cons, gr_cons, gr_nil, ldf_per _ (by omega)] at h3
    omega
/-- k rounds on -/
theorem wt_step {a r : List Int} (p : Int) (n : Nat) (h : a.length ≤ n) : wt a r p (n + r.length) = max (wt a r p n + gr r p) (fin (lw a r n r.length) p 0) := by
  rw [wt_lw, fin_max _ _ _ (wt_nn a r p n), gr_round p n h]
theorem wt_rounds {a r : List Int} (p : Int) (n : Nat) (h : a.length ≤ n) : ∀ k : Nat, wt a r p (n + (k + 1) * r.length) = max (wt a r p n + ((k : Int) + 1) * gr r p) (fin (lw a r n r.length) p 0 + max 0 ((k : Int) * gr r p))
  | 0 => by
    rw [show (((0 : Nat) : Int) + 1) * gr r p = gr r p by simp, show ((0 : Nat) : Int) * gr r p = 0 by simp, show n + (0 + 1) * r.length = n + r.length by omega, wt_step p n h]
    omega
  | k + 1 => by
    rw [show n + (k + 1 + 1) * r.length = (n + (k + 1) * r.length) + r.length by rw [Nat.succ_mul (k + 1)]; omega, wt_step p _ (by omega), wt_rounds p n h k, lw_per _ _ _ h]
    have e1 : (((k + 1 : Nat) : Int) + 1) * gr r p = (k : Int) * gr r p + gr r p + gr r p := by
      rw [show ((k + 1 : Nat) : Int) = (k : Int) + 1 by omega, Int.add_mul, Int.add_mul, Int.one_mul]
    have e2 : ((k + 1 : Nat) : Int) * gr r p = (k : Int) * gr r p + gr r p := by
      rw [show ((k + 1 : Nat) : Int) = (k : Int) + 1 by omega, Int.add_mul, Int.one_mul]
    have e3 : ((k : Int) + 1) * gr r p = (k : Int) * gr r p + gr r p := by rw [Int.add_mul, Int.one_mul]
    rw [e1, e2, e3]
    have hs : 0 ≤ gr r p → 0 ≤ (k : Int) * gr r p := fun hh => Int.mul_nonneg (by omega) hh
    have hs2 : gr r p ≤ 0 → (k : Int) * gr r p ≤ 0 := fun hh => Int.mul_nonpos_of_nonneg_of_nonpos (by omega) hh
    omega
/-- from a round on it goes on evenly -/
theorem wt_even {a r : List Int} (p : Int) (n : Nat) (h : a.length + r.length ≤ n) (k : Nat) : wt a r p (n + k * r.length) = max (wt a r p n + (k : Int) * gr r p) (fin (lw a r n r.length) p 0) := by
  have h0 : fin (lw a r n r.length) p 0 ≤ wt a r p n := by
    have e := wt_lw a r p r.length (n - r.length)
    rw [show n - r.length + r.length = n by omega] at e
    rw [e]
    have e2 := lw_per (a := a) (r := r) 1 r.length (n - r.length) (by omega)
    rw [Nat.one_mul, show n - r.length + r.length = n by omega] at e2
    rw [e2]
    exact fin_ge _ _ _ (wt_nn a r p _)
  cases k with
  | zero => simp only [Nat.zero_mul, Nat.add_zero]; simp; omega
  | succ k =>
    rw [wt_rounds p n (by omega)]
    have e2 : ((k + 1 : Nat) : Int) * gr r p = (k : Int) * gr r p + gr r p := by
      rw [show ((k + 1 : Nat) : Int) = (k : Int) + 1 by omega, Int.add_mul, Int.one_mul]
    have e3 : ((k : Int) + 1) * gr r p = (k : Int) * gr r p + gr r p := by rw [Int.add_mul, Int.one_mul]
    rw [e2, e3]
    have hs : 0 ≤ gr r p → 0 ≤ (k : Int) * gr r p := fun hh => Int.mul_nonneg (by omega) hh
    have hs2 : gr r p ≤ 0 → (k : Int) * gr r p ≤ 0 := fun hh => Int.mul_nonpos_of_nonneg_of_nonpos (by omega) hh
    omega
/-- what the program tells before a round -/
theorem bef_wt (a r : List Int) (p : Int) (n : Nat) : bef a r p n = wt a r p (a.length + n * r.length) := by
  have h0 : wt a r p a.length = fin a p 0 := by
    have := wt_lw a r p a.length 0
    rw [Nat.zero_add, lw_head a r _ (Nat.le_refl _), List.take_length] at this
    exact this
  cases n with
  | zero => unfold bef; simp [h0]
  | succ n =>
    rw [wt_rounds p _ (Nat.le_refl _), h0]
    have h1 : lw a r a.length r.length = r := by
      have := lw_ring a r 0 r.length (Nat.le_refl _)
      rw [Nat.zero_mul] at this
      rw [Nat.add_zero] at this
      rw [this, List.take_length]
    rw [h1]
    unfold bef
    rw [if_neg (by omega), show ((n + 1 : Nat) : Int) - 1 = n by omega, show ((n + 1 : Nat) : Int) = (n : Int) + 1 by omega]
    generalize (n : Int) * gr r p = x
    generalize ((n : Int) + 1) * gr r p = y
    split <;> split <;> omega
theorem lateAt_wt {a r : List Int} (r1 : 1 ≤ r.length) (p : Int) (b : Nat) : lateAt a r p b = wt a r p (b + 1) := by
  unfold lateAt
  by_cases hb : b < a.length
  · rw [if_pos (by omega)]
    have := wt_lw a r p (b + 1) 0
    rw [Nat.zero_add] at this
    rw [this, lw_head a r _ (by omega)]
    unfold getI
    rw [Int.toNat_natCast, film_get _ _ _ _ hb]
    rfl
  · rw [if_neg (by omega)]
    have e1 : ((b : Int) - a.length) / r.length = (((b - a.length) / r.length : Nat) : Int) := by
      rw [Int.natCast_ediv]; congr 1; omega
    have e2 : ((b : Int) - a.length) % r.length = (((b - a.length) % r.length : Nat) : Int) := by
      rw [Int.natCast_emod]; congr 1; omega
    rw [e1, e2, bef_wt]
    unfold getI
    have hs : (b - a.length) % r.length < r.length := Nat.mod_lt _ (by omega)
    rw [Int.toNat_natCast, film_get _ _ _ _ hs, ← lw_ring a r ((b - a.length) / r.length) _ (by omega), ← wt_lw]
    congr 1
    have := Nat.div_add_mod (b - a.length) r.length
    rw [Nat.mul_comm] at this
    omega
theorem wt_le {a r : List Int} {p M : Int} (hM : ∀ n, ldf a r n - p ≤ M) (h0 : 0 ≤ M) : ∀ n : Nat, wt a r p n ≤ (n : Int) * M
  | 0 => by simp [wt]
  | n + 1 => by
    have := wt_le hM h0 n
    have h := hM n
    have e : ((n + 1 : Nat) : Int) * M = (n : Int) * M + M := by rw [show ((n + 1 : Nat) : Int) = (n : Int) + 1 by omega, Int.add_mul, Int.one_mul]
    have : 0 ≤ (n : Int) * M := Int.mul_nonneg (by omega) h0
    rw [wt, e]
    omega
theorem ldf_le {a r : List Int} {M : Int} (h0 : 0 ≤ M) (ha : ∀ x ∈ a, x ≤ M) (hr : ∀ x ∈ r, x ≤ M) (n : Nat) : ldf a r n ≤ M := by
  have go : ∀ (l : List Int) (i : Nat), (∀ x ∈ l, x ≤ M) → l.getD i 0 ≤ M := fun l i h => by
    rw [List.getD_eq_getElem?_getD]
    cases e : l[i]? with
    | none => exact h0
    | some x => exact h x (List.mem_of_getElem? e)
  unfold ldf
  split
  · exact go _ _ ha
  · exact go _ _ hr
theorem sum_nn : ∀ (r : List Int), (∀ x ∈ r, 0 ≤ x) → 0 ≤ r.sum
  | [], _ => Int.le_refl _
  | x :: r, h => by
    rw [List.sum_cons]
    have := sum_nn r fun y hy => h y (List.mem_cons_of_mem _ hy)
    have := h x List.mem_cons_self
    omega
/-- the law's reckoning of whole rounds -/
def farOf (a r : List Int) (p : Int) (b : Nat) : Int :=
  let first := a.length + 4 * r.length
  if b < first then wt a r p (b + 1)
  else if gr r p ≤ 0 then wt a r p (first + (b - first) % r.length + min ((b - first) / r.length) 249 * r.length + 1)
  else wt a r p (first + (b - first) % r.length + 1) + (((b - first) / r.length : Nat) : Int) * gr r p
theorem far_wt {a r : List Int} {p : Int} (r1 : 1 ≤ r.length) (al : a.length ≤ 4) (rl : r.length ≤ 5) (ha : ∀ x ∈ a, x ≤ 29) (hr : ∀ x ∈ r, 0 ≤ x ∧ x ≤ 29) (p0 : 0 ≤ p) (b : Nat) : farOf a r p b = wt a r p (b + 1) := by
  unfold farOf
  simp only
  split
  · rfl
  · rename_i hb
    generalize hN : (b - (a.length + 4 * r.length)) / r.length = N
    generalize hs : (b - (a.length + 4 * r.length)) % r.length = s
    have hsl : s < r.length := by rw [← hs]; exact Nat.mod_lt _ (by omega)
    have hbe : b + 1 = (a.length + 4 * r.length + s + 1) + N * r.length := by
      have := Nat.div_add_mod (b - (a.length + 4 * r.length)) r.length
      rw [hN, hs, Nat.mul_comm] at this
      omega
    rw [hbe]
    have e := wt_even (a := a) (r := r) p (a.length + 4 * r.length + s + 1) (by omega)
    have e0 := e 0
    simp only [Nat.zero_mul, Nat.add_zero] at e0
    simp at e0
    split
    · rename_i hg
      rw [show a.length + 4 * r.length + s + min N 249 * r.length + 1 = a.length + 4 * r.length + s + 1 + min N 249 * r.length by omega, e, e]
      by_cases hN2 : N ≤ 249
      · rw [Nat.min_eq_left hN2]
      · rw [Nat.min_eq_right (by omega)]
        by_cases hg0 : gr r p = 0
        · rw [hg0]; simp
        · have hp : 1 ≤ p := by
            rcases Int.lt_or_eq_of_le p0 with h | h
            · omega
            · exfalso
              subst h
              have := sum_nn r fun x hx => (hr x hx).1
              simp only [gr, Int.zero_mul] at hg hg0
              omega
          have q := wt_rounds (a := a) (r := r) p (a.length + s + 1) (by omega) 3
          rw [show a.length + s + 1 + (3 + 1) * r.length = a.length + 4 * r.length + s + 1 by omega] at q
          have hb := wt_le (a := a) (r := r) (p := p) (M := 28) (fun n => by
            have := ldf_le (a := a) (r := r) (M := 29) (by omega) ha (fun x hx => (hr x hx).2) n
            omega) (by omega) (a.length + s + 1)
          have hF : fin (lw a r (a.length + s + 1) r.length) p 0 = fin (lw a r (a.length + 4 * r.length + s + 1) r.length) p 0 := by
            have := lw_per (a := a) (r := r) 4 r.length (a.length + s + 1) (by omega)
            rw [← this, show a.length + s + 1 + 4 * r.length = a.length + 4 * r.length + s + 1 by omega]
          rw [hF] at q
          have hF0 := fin_nn (lw a r (a.length + 4 * r.length + s + 1) r.length) p 0 (Int.le_refl _)
          have m1 : (N : Int) * gr r p ≤ 249 * gr r p := by
            have : (249 - (N : Int)) * gr r p ≥ 0 := Int.mul_nonneg_of_nonpos_of_nonpos (by omega) (by omega)
            rw [Int.sub_mul] at this
            omega
          omega
    · rename_i hg
      rw [e]
      have : 0 ≤ (N : Int) * gr r p := Int.mul_nonneg (by omega) (by omega)
      omega
/-- the film, in one -/
theorem film_lw (a r : List Int) (p : Int) : ∀ n k, film (lw a r k n) p (wt a r p k) = (List.range n).map fun i => wt a r p (k + i + 1)
  | 0, _ => rfl
  | n + 1, k => by
    rw [lw, film, List.range_succ_eq_map, List.map_cons, List.map_map, ifmax]
    have e : max 0 (wt a r p k + ldf a r k - p) = wt a r p (k + 1) := rfl
    rw [e, film_lw a r p n (k + 1)]
    congr 1
    refine List.map_congr_left fun i _ => ?_
    show _ = wt a r p (k + (i + 1) + 1)
    congr 1; omega
theorem lw_add (a r : List Int) : ∀ m n k, lw a r k (m + n) = lw a r k m ++ lw a r (k + m) n
  | 0, n, k => by rw [Nat.zero_add]; rfl
  | m + 1, n, k => by
    rw [show m + 1 + n = (m + n) + 1 by omega, lw, lw_add a r m n (k + 1), lw, List.cons_append, show k + 1 + m = k + (m + 1) by omega]
theorem lw_arr (a r : List Int) : lw a r 0 (a.length + r.length + r.length) = a ++ r ++ r := by
  have h1 := lw_ring a r 0 r.length (Nat.le_refl _)
  have h2 := lw_ring a r 1 r.length (Nat.le_refl _)
  rw [Nat.zero_mul, Nat.add_zero, List.take_length] at h1
  rw [Nat.one_mul, List.take_length] at h2
  rw [lw_add, lw_add, lw_head a r _ (Nat.le_refl _), List.take_length, Nat.zero_add, Nat.zero_add, h1, h2]
theorem film_arr (a r : List Int) (p : Int) : film (a ++ r ++ r) p 0 = (List.range (a.length + r.length + r.length)).map fun i => wt a r p (i + 1) := by
  have := film_lw a r p (a.length + r.length + r.length) 0
  rw [lw_arr] at this
  rw [show wt a r p 0 = 0 from rfl] at this
  rw [this]
  refine List.map_congr_left fun i _ => ?_
  congr 1; omega
/-! ### the first beat that is later -/
theorem minI_memS : ∀ l : List Int, l ≠ [] → minI l ∈ l ∧ ∀ x ∈ l, minI l ≤ x
  | [], h => absurd rfl h
  | [x], _ => by simp [minI]
  | x :: y :: r, _ => by
    have ih := minI_memS (y :: r) (by simp)
    rw [minI]
    · show (if minI (y :: r) < x then minI (y :: r) else x) ∈ _ ∧ ∀ z ∈ _, (if minI (y :: r) < x then minI (y :: r) else x) ≤ z
      split
      · refine ⟨List.mem_cons_of_mem _ ih.1, fun z hz => ?_⟩
        rcases List.mem_cons.mp hz with rfl | hz
        · omega
        · exact ih.2 z hz
      · refine ⟨List.mem_cons_self, fun z hz => ?_⟩
        rcases List.mem_cons.mp hz with rfl | hz
        · omega
        · have := ih.2 z hz; omega
    · simp
theorem wt_spot {a r : List Int} {p : Int} (hg : 0 < gr r p) {s c : Nat} (hs : s < r.length) : wt a r p (a.length + (1 + c) * r.length + s + 1) = bef a r p 1 + gr (r.take (s + 1)) p + (c : Int) * gr r p := by
  have e := wt_even (a := a) (r := r) p (a.length + r.length + s + 1) (by omega)
  have e0 := e 0
  simp only [Nat.zero_mul, Nat.add_zero] at e0
  simp at e0
  have e1 := e c
  rw [show a.length + r.length + s + 1 + c * r.length = a.length + (1 + c) * r.length + s + 1 by rw [Nat.add_mul]; omega] at e1
  rw [e1]
  have hc : 0 ≤ (c : Int) * gr r p := Int.mul_nonneg (by omega) (by omega)
  have h1 : wt a r p (a.length + 1 * r.length + (s + 1)) = max (bef a r p 1 + gr (r.take (s + 1)) p) (fin (r.take (s + 1)) p 0) := by
    have hb := bef_wt a r p 1
    rw [show ((1 : Nat) : Int) = 1 from rfl] at hb
    rw [wt_lw, lw_ring a r 1 _ (by omega), fin_max _ _ _ (wt_nn ..), hb]
  have h2 : wt a r p (a.length + 0 * r.length + (s + 1)) ≥ fin (r.take (s + 1)) p 0 := by
    rw [wt_lw, lw_ring a r 0 _ (by omega)]
    exact fin_ge _ _ _ (wt_nn ..)
  have h3 := wt_step (a := a) (r := r) p (a.length + 0 * r.length + (s + 1)) (by omega)
  rw [show a.length + 0 * r.length + (s + 1) + r.length = a.length + r.length + s + 1 by omega] at h3
  rw [show a.length + 1 * r.length + (s + 1) = a.length + r.length + s + 1 by omega] at h1
  omega
theorem take_gr {r : List Int} {p : Int} {s : Nat} (hs : s < r.length) : gr (r.take (s + 1)) p = (r.take (s + 1)).sum - p * ((s : Int) + 1) := by
  unfold gr
  rw [List.length_take, Nat.min_eq_left (by omega)]
  push_cast
  rfl
theorem first_is {a r : List Int} {p many : Int} (r1 : 1 ≤ r.length) (hg : 0 < gr r p) (hf : ∀ w ∈ film (a ++ r ++ r) p 0, w ≤ many) :
    ∃ B : Nat, minI ((List.range r.length).map (foundOf a r p many (bef a r p 1))) = (B : Int) ∧ many < wt a r p (B + 1) ∧ ∀ b, b < B → wt a r p (b + 1) ≤ many := by
  have hne : (List.range r.length).map (foundOf a r p many (bef a r p 1)) ≠ [] := by
    intro h
    have := congrArg List.length h
    simp at this
    rw [this] at r1
    simp at r1
  obtain ⟨hm, hall⟩ := minI_memS _ hne
  -- the number of a spot
  have num : ∀ s, s < r.length → ∃ c : Nat, foundOf a r p many (bef a r p 1) s = ((a.length + (1 + c) * r.length + s : Nat) : Int) ∧ many < wt a r p (a.length + (1 + c) * r.length + s + 1) ∧ ∀ d : Nat, many < wt a r p (a.length + (1 + d) * r.length + s + 1) → c ≤ d := by
    intro s hs
    generalize hsh : shortOf r p many (bef a r p 1) s = sh
    have hsh' : sh = many + 1 - bef a r p 1 - gr (r.take (s + 1)) p := by
      rw [take_gr hs, ← hsh]; rfl
    have hw := fun c : Nat => wt_spot (a := a) hg (c := c) hs
    refine ⟨(0 - (0 - sh) / gr r p).toNat, ?_, ?_, ?_⟩
    · unfold foundOf numOf
      rw [hsh]
      push_cast
      have : (if 0 < 0 - (0 - sh) / gr r p then 0 - (0 - sh) / gr r p else 0) = max (0 - (0 - sh) / gr r p) 0 := by split <;> omega
      rw [this]
      have h2 : (((0 - (0 - sh) / gr r p).toNat : Nat) : Int) = max (0 - (0 - sh) / gr r p) 0 := by omega
      rw [h2]
    · rw [hw]
      have h1 := Int.emod_add_mul_ediv (0 - sh) (gr r p)
      have h2 := Int.emod_nonneg (0 - sh) (Int.ne_of_gt hg)
      have h3 : (0 - (0 - sh) / gr r p) * gr r p ≤ (((0 - (0 - sh) / gr r p).toNat : Nat) : Int) * gr r p := Int.mul_le_mul_of_nonneg_right (by omega) (by omega)
      have h4 : (0 - (0 - sh) / gr r p) * gr r p = 0 - gr r p * ((0 - sh) / gr r p) := by rw [Int.sub_mul, Int.zero_mul, Int.mul_comm (gr r p)]
      omega
    · intro d hd
      rw [hw] at hd
      have h1 : sh ≤ (d : Int) * gr r p := by omega
      have h2 : -(d : Int) ≤ (0 - sh) / gr r p := by
        rw [Int.le_ediv_iff_mul_le hg, Int.neg_mul]
        omega
      omega
  obtain ⟨s, hs, hse⟩ := List.mem_map.mp hm
  rw [List.mem_range] at hs
  obtain ⟨c, hc1, hc2, hc3⟩ := num s hs
  rw [hse] at hc1
  refine ⟨_, hc1, hc2, fun b hb => ?_⟩
  refine Int.not_lt.mp fun hlt => ?_
  by_cases hb2 : b < a.length + r.length
  · have := hf (wt a r p (b + 1)) (by
      rw [film_arr]
      exact List.mem_map.mpr ⟨b, List.mem_range.mpr (by omega), rfl⟩)
    omega
  · have hs2 : (b - (a.length + r.length)) % r.length < r.length := Nat.mod_lt _ (by omega)
    obtain ⟨c2, g1, g2, g3⟩ := num _ hs2
    have hbe : b = a.length + (1 + (b - (a.length + r.length)) / r.length) * r.length + (b - (a.length + r.length)) % r.length := by
      have := Nat.div_add_mod (b - (a.length + r.length)) r.length
      rw [Nat.mul_comm] at this
      rw [Nat.add_mul]
      omega
    have := g3 ((b - (a.length + r.length)) / r.length) (by rw [← hbe]; exact hlt)
    have h5 : foundOf a r p many (bef a r p 1) ((b - (a.length + r.length)) % r.length) ≤ (b : Int) := by
      rw [g1]
      have : (1 + c2) * r.length ≤ (1 + (b - (a.length + r.length)) / r.length) * r.length := Nat.mul_le_mul_right _ (by omega)
      omega
    have h6 := hall _ (List.mem_map.mpr ⟨_, List.mem_range.mpr hs2, rfl⟩)
    omega
end NW
end
section
set_option Elab.async false
set_option linter.all false
set_option maxRecDepth 100000
set_option maxHeartbeats 2000000
namespace NW
open PySem L2
def rowIn (n : Nat) (t : Int) (xs : List Int) : Prop := xs.length = n ∧ ∀ x ∈ xs, 0 ≤ x ∧ x < t
theorem loads_comp {c : List Int} {t : Int} (t0 : 0 < t) (t1 : t < 1073741824) (x3 : Option O) (items : List D) : ∀ {k : Int} {g : List Int} {s : Int}, Mach k c g s → k + items.length < 1000000 →
    ∃ xs g' s', rowIn items.length t xs ∧ Mach (k + items.length) c g' s' ∧
    compL (compTurn [2] (setT (.name 2)) (evalT G__law_loads .yes) (evalE G__law_loads p__law_loads_1)) items [some (.dct (stK c g s)), some (.fz (.int t)), none, x3] = some (.ok (xs.map .int) [some (.dct (stK c g' s')), some (.fz (.int t)), none, x3]) := by
  induction items with
  | nil =>
    intro k g s h hk
    exact ⟨[], g, s, ⟨rfl, fun x hx => nomatch hx⟩, by simpa using h, rfl⟩
  | cons d ds ih =>
    intro k g s h hk
    rw [List.length_cons] at hk
    push_cast at hk
    obtain ⟨x, g1, s1, x0, x1, h1, e⟩ := h.draw (by omega) t0 t1
    obtain ⟨xs, g', s', ⟨r1, r2⟩, h2, e2⟩ := ih h1 (by omega)
    refine ⟨x :: xs, g', s', ⟨by rw [List.length_cons, List.length_cons, r1], fun y hy => ?_⟩, ?_, ?_⟩
    · rcases List.mem_cons.mp hy with rfl | hy
      · exact ⟨x0, x1⟩
      · exact r2 y hy
    · rw [List.length_cons, show k + ((ds.length + 1 : Nat) : Int) = k + 1 + ds.length by omega]
      exact h2
    · have ht : compTurn [2] (setT (.name 2)) (evalT G__law_loads .yes) (evalE G__law_loads p__law_loads_1) d [some (.dct (stK c g s)), some (.fz (.int t)), none, x3] = some (.ok (some (.int x)) [some (.dct (stK c g1 s1)), some (.fz (.int t)), none, x3]) := by
        simp [compTurn, p__law_loads_1, mv, setOs, lim, targets, flats, tup, startE, slot, flatP, O.flat, share, frz, truthD, isiD, endO, isNone, ixD, slO, cmpO, binO, biO, intsOf, boolsOf, setT, setAll, rowOf, P.still, callD, callI, f__law_loads___law_next, e, wipeO, frOk, wipeE]
      unfold compL
      rw [ht]
      simp only
      rw [e2]
      rfl
theorem ev_loads {k : Int} {c g : List Int} {s : Int} (h : Mach k c g s) (hk : k + 100 < 1000000) {t : Int} (t0 : 0 < t) (t1 : t ≤ 30) :
    ∃ a r g' s', a.length ≤ 4 ∧ r.length ≤ 5 ∧ 1 ≤ r.length ∧ (∀ x ∈ a, 0 ≤ x ∧ x ≤ 29) ∧ (∀ x ∈ r, 0 ≤ x ∧ x ≤ 29) ∧ Mach (k + 12) c g' s' ∧
    M__law_loads (.dct (stK c g s)) [.int t] = some (.ok (lds a r), .dct (stK c g' s')) := by
  obtain ⟨n, g1, s1, n0, n1, h1, e1⟩ := h.draw (t := 5) (by omega) (by omega) (by omega)
  obtain ⟨a, g2, s2, ⟨ra1, ra2⟩, h2, e2⟩ := loads_comp t0 (by omega) none (rangeD 0 n.toNat) h1 (by rw [rangeD_length]; omega)
  obtain ⟨m, g3, s3, m0, m1, h3, e3⟩ := h2.draw (t := 5) (by rw [rangeD_length]; omega) (by omega) (by omega)
  obtain ⟨r, g4, s4, ⟨rr1, rr2⟩, h4, e4⟩ := loads_comp t0 (by omega) (some (.fz (tup a))) (rangeD 0 (1 + m).toNat) h3 (by rw [rangeD_length, rangeD_length]; omega)
  rw [rangeD_length] at ra1 rr1
  refine ⟨a, r, g4, s4, by omega, by omega, by omega, fun x hx => ?_, fun x hx => ?_, ?_, ?_⟩
  · have := ra2 x hx; omega
  · have := rr2 x hx; omega
  · rw [rangeD_length, rangeD_length] at h4
    exact ⟨h4.cl, h4.gl, h4.s0, by have := h4.s1; omega⟩
  · have l1 : (rangeD 0 n.toNat).length ≤ 16777216 := by rw [rangeD_length]; omega
    have l2 : (rangeD 0 (1 + m).toNat).length ≤ 16777216 := by rw [rangeD_length]; omega
    have q1 : rngOk n = true := rngOk_of (by omega) (by omega)
    have q2 : rngOk (1 + m) = true := rngOk_of (by omega) (by omega)
    unfold M__law_loads
    simp only [tup] at e4
    have eq12 : p__law_loads_2 = p__law_loads_1 := rfl
    simp [runIo, b__law_loads, mv, setOs, lim, targets, flats, tup, startE, slot, flatP, O.flat, share, frz, truthD, isiD, endO, isNone, ixD, slO, cmpO, binO, biO, intsOf, boolsOf, setT, setAll, rowOf, P.still, callD, callI, f__law_loads___law_next, e1, q1, tgIn, frOk, wipeE, eq12, e2, l1, backE, e3, q2, e4, l2]
theorem ev_load {a r : List Int} (r1 : 1 ≤ r.length) (n : Nat) : M__law_load [lds a r, .int n] = some (.ok (.int (ldf a r n))) := by
  unfold M__law_load ldf
  by_cases hn : n < a.length
  · have h1 := atI_ints (xs := a) (i := n) (by omega) (by omega)
    have hn' : (n : Int) < a.length := by omega
    simp [runPure, b__law_load, mv, setOs, lim, targets, flats, tup, startE, slot, flatP, O.flat, share, frz, truthD, isiD, endO, isNone, ixD, slO, cmpO, binO, biO, intsOf, boolsOf, setT, setAll, rowOf, P.still, callD, callI, hn, h1, getI]
  · have h1 := atI_ints (xs := r) (i := ((n : Int) - a.length) % r.length) (Int.emod_nonneg _ (by omega)) (Int.emod_lt_of_pos _ (by omega))
    have hn' : ¬ (n : Int) < a.length := by omega
    have c1 : 0 < r.length := by omega
    have e2 : ((n : Int) - a.length) = ((n - a.length : Nat) : Int) := by omega
    have e3 : getI r (((n - a.length : Nat) : Int) % r.length) = r.getD ((n - a.length) % r.length) 0 := by
      unfold getI
      rw [← Int.natCast_emod, Int.toNat_natCast]
    rw [e2, e3] at h1
    simp only [if_neg hn]
    simp [runPure, b__law_load, mv, setOs, lim, targets, flats, tup, startE, slot, flatP, O.flat, share, frz, truthD, isiD, endO, isNone, ixD, slO, cmpO, binO, biO, intsOf, boolsOf, setT, setAll, rowOf, P.still, callD, callI, hn, c1, e2, h1]
theorem film_turn {a r : List Int} (r1 : 1 ≤ r.length) (p : Int) (N : D) (n i : Nat) (hi : i < n) (hn : n ≤ 100000) (fd : List Int) (hf : fd.length = i) (y5 : Option O) :
    bodyF (setT (.name 5)) (evalSs G__law_film 0 p__law_film_1) (.int i) [some (.fz (lds a r)), some (.fz (.int p)), some (.fz N), some (.lst (fd.map .int)), some (.fz (.int (wt a r p i))), y5] =
    some (SO.nx [some (.fz (lds a r)), some (.fz (.int p)), some (.fz N), some (.lst ((fd ++ [wt a r p (i + 1)]).map .int)), some (.fz (.int (wt a r p (i + 1)))), some (.fz (.int i))]) := by
  have h1 := ev_load (a := a) r1 i
  simp only [lds, tup] at h1
  have hl : fd.length < 16777216 := by omega
  have hm : (if p < wt a r p i + ldf a r i then wt a r p i + ldf a r i - p else 0) = wt a r p (i + 1) := by
    rw [wt]; split <;> omega
  simp [bodyF, p__law_film_1, mv, setOs, lim, targets, flats, tup, startE, slot, flatP, O.flat, share, frz, truthD, isiD, endO, isNone, ixD, slO, cmpO, binO, biO, intsOf, boolsOf, setT, setAll, rowOf, P.still, callD, callI, f__law_film___law_load, h1, isLst, appO, hl, hm]
theorem film_turns {a r : List Int} (r1 : 1 ≤ r.length) (p : Int) (N : D) (n : Nat) (hn : n ≤ 100000) : ∃ y5, 
    forL (bodyF (setT (.name 5)) (evalSs G__law_film 0 p__law_film_1)) (rangeD 0 n) [some (.fz (lds a r)), some (.fz (.int p)), some (.fz N), some (.lst []), some (.fz (.int 0)), none] =
    some (.nx [some (.fz (lds a r)), some (.fz (.int p)), some (.fz N), some (.lst (((List.range n).map fun i => wt a r p (i + 1)).map .int)), some (.fz (.int (wt a r p n))), y5]) := by
  have := forL_ind (body := bodyF (setT (.name 5)) (evalSs G__law_film 0 p__law_film_1)) (items := rangeD 0 n) (n := 0) (env := [some (.fz (lds a r)), some (.fz (.int p)), some (.fz N), some (.lst []), some (.fz (.int 0)), none]) (fun i e => ∃ y5, e = [some (.fz (lds a r)), some (.fz (.int p)), some (.fz N), some (.lst (((List.range i).map fun i => wt a r p (i + 1)).map .int)), some (.fz (.int (wt a r p i))), y5]) ?_ ⟨none, rfl⟩
  · rw [rangeD_length, Nat.zero_add] at this
    obtain ⟨_, h, y5, rfl⟩ := this
    exact ⟨y5, h⟩
  · rintro i d e hi ⟨y5, rfl⟩
    obtain ⟨hlt, rfl⟩ := rangeD_get _ _ _ _ hi
    rw [Nat.zero_add, show (0 : Int) + (i : Int) = i by omega]
    refine ⟨_, .inl (film_turn r1 p N n i hlt hn _ (by rw [List.length_map, List.length_range]) y5), some (.fz (.int i)), ?_⟩
    rw [List.range_succ, List.map_append]
    rw [List.map_append, List.map_append]
    rfl
theorem lf1 (L Q N : D) (x3 x4 x5 : Option O) : evalS G__law_film 0 (.par [3, 4] (.cons (.lst .nil) (.cons (.lit (.int 0)) .nil))) [some (.fz L), some (.fz Q), some (.fz N), x3, x4, x5] = some (.nx [some (.fz L), some (.fz Q), some (.fz N), some (.lst []), some (.fz (.int 0)), x5]) := by
  simp [mv, setOs, lim, targets, flats, tup, startE, slot, flatP, O.flat, share, frz, truthD, isiD, endO, isNone, ixD, slO, cmpO, binO, biO, intsOf, boolsOf, setT, setAll, rowOf, P.still, callD, callI]
theorem lf3 (L Q N : D) (ds : List D) (x4 x5 : Option O) : evalS G__law_film 0 (.ret (.var 3)) [some (.fz L), some (.fz Q), some (.fz N), some (.lst ds), x4, x5] = some (.ret (.lst ds) [some (.fz L), some (.fz Q), some (.fz N), none, x4, x5]) := by
  simp [mv, setOs, lim, targets, flats, tup, startE, slot, flatP, O.flat, share, frz, truthD, isiD, endO, isNone, ixD, slO, cmpO, binO, biO, intsOf, boolsOf, setT, setAll, rowOf, P.still, callD, callI]
theorem lf2 (L Q : D) (n : Nat) (hn : n ≤ 100000) (env' : Env) (h : forL (bodyF (setT (.name 5)) (evalSs G__law_film 0 p__law_film_1)) (rangeD 0 n) [some (.fz L), some (.fz Q), some (.fz (.int n)), some (.lst []), some (.fz (.int 0)), none] = some (.nx env')) :
    evalS G__law_film 0 (.for_ (.name 5) (.rng (.var 2)) p__law_film_1) [some (.fz L), some (.fz Q), some (.fz (.int n)), some (.lst []), some (.fz (.int 0)), none] = some (.nx env') := by
  have c1 : rngOk (n : Int) = true := rngOk_nat (by omega)
  exact for_nx rfl (rng_of (p := .plc 2) (n := n) (by simp only [evalE_var, slot]; rfl) rfl c1) h
theorem lfb (L Q : D) (n : Nat) (ds : List D) (x4 x5 : Option O) (h2 : evalS G__law_film 0 (.for_ (.name 5) (.rng (.var 2)) p__law_film_1) [some (.fz L), some (.fz Q), some (.fz (.int n)), some (.lst []), some (.fz (.int 0)), none] = some (.nx [some (.fz L), some (.fz Q), some (.fz (.int n)), some (.lst ds), x4, x5])) :
    evalSs G__law_film 0 b__law_film [some (.fz L), some (.fz Q), some (.fz (.int n)), none, none, none] = some (.ret (.lst ds) [some (.fz L), some (.fz Q), some (.fz (.int n)), none, x4, x5]) := by
  unfold b__law_film
  rw [seq_nx (lf1 ..), seq_nx h2, seq_ret (lf3 ..)]
theorem ev_law_film {a r : List Int} (r1 : 1 ≤ r.length) (p : Int) (n : Nat) (hn : n ≤ 100000) : M__law_film [lds a r, .int p, .int n] = some (.ok (.list (((List.range n).map fun i => wt a r p (i + 1)).map .int))) := by
  obtain ⟨y5, h⟩ := film_turns (a := a) r1 p (.int n) n hn
  exact rp_ret (lfb _ _ _ _ _ _ (lf2 _ _ n hn _ h)) rfl
theorem ev_growing {a r : List Int} (hr : r.length ≤ 30) (p : Int) : M__law_is_growing [lds a r, .int p] = some (.ok (.bool (decide (p * (r.length : Int) < r.sum)))) := by
  have h1 := smallI_nat (n := r.length) (by omega)
  unfold M__law_is_growing
  simp [runPure, b__law_is_growing, mv, setOs, lim, targets, flats, tup, startE, slot, flatP, O.flat, share, frz, truthD, isiD, endO, isNone, ixD, slO, cmpO, binO, biO, intsOf, boolsOf, setT, setAll, rowOf, P.still, callD, callI, h1]
theorem grow_iff (r : List Int) (p : Int) : decide (p * (r.length : Int) < r.sum) = decide (0 < gr r p) := by
  unfold gr; exact decide_eq_decide.mpr ⟨fun h => by omega, fun h => by omega⟩
end NW
end
section
set_option Elab.async false
set_option linter.all false
set_option maxRecDepth 100000
set_option maxHeartbeats 2000000
namespace NW
open PySem L2
theorem atI_fun (f : Nat → Int) {n i : Nat} {j : Int} (hj : j = i) (h : i < n) : atI (((List.range n).map f).map PyData.int) j = some (.int (f i)) := by
  subst hj
  have h1 := atI_ints (xs := (List.range n).map f) (i := i) (by omega) (by rw [List.length_map, List.length_range]; omega)
  rw [h1]
  unfold getI
  rw [Int.toNat_natCast, List.getD_eq_getElem?_getD, List.getElem?_map, List.getElem?_range h]
  rfl
theorem atI_last (f : Nat → Int) (n : Nat) : atI (((List.range (n + 1)).map f).map PyData.int) (-1) = some (.int (f n)) := by
  unfold atI
  have : ixN (((List.range (n + 1)).map f).map PyData.int).length (-1) = some n := by
    rw [List.length_map, List.length_map, List.length_range]
    unfold ixN
    simp
    omega
  rw [this]
  show (((List.range (n + 1)).map f).map PyData.int)[n]? = _
  rw [List.getElem?_map, List.getElem?_map, List.getElem?_range (by omega)]
  rfl
section
variable {a r : List Int} {p : Int} (r1 : 1 ≤ r.length) (al : a.length ≤ 30) (rl : r.length ≤ 30) (b : Nat) (x2 x3 x4 x5 x6 x7 x8 x9 x10 : Option O)
abbrev envA (a r : List Int) (p : Int) (b : Nat) (x3 x4 x5 x6 x7 x8 x9 x10 : Option O) : Env := [some (.fz (lds a r)), some (.fz (.int p)), some (.fz (.int b)), x3, x4, x5, x6, x7, x8, x9, x10]
abbrev frst (a r : List Int) : Nat := a.length + 4 * r.length
theorem fa1 : evalS G__law_far 0 p__law_far_1 (envA a r p b x3 x4 x5 x6 x7 x8 x9 x10) = some (.nx (envA a r p b (some (.fz (tup a))) (some (.fz (tup r))) x5 x6 x7 x8 x9 x10)) := by
  simp [p__law_far_1, mv, setOs, lim, targets, flats, tup, startE, slot, flatP, O.flat, share, frz, truthD, isiD, endO, isNone, ixD, slO, cmpO, binO, biO, intsOf, boolsOf, setT, setAll, rowOf, P.still, callD, callI]
theorem fa2 : evalS G__law_far 0 p__law_far_2 (envA a r p b (some (.fz (tup a))) (some (.fz (tup r))) x5 x6 x7 x8 x9 x10) = some (.nx (envA a r p b (some (.fz (tup a))) (some (.fz (tup r))) (some (.fz (.int (frst a r : Nat)))) x6 x7 x8 x9 x10)) := by
  have s1 : smallI 4 = true := smallI_of (by omega) (by omega)
  simp [p__law_far_2, mv, setOs, lim, targets, flats, tup, startE, slot, flatP, O.flat, share, frz, truthD, isiD, endO, isNone, ixD, slO, cmpO, binO, biO, intsOf, boolsOf, setT, setAll, rowOf, P.still, callD, callI, s1, frst]
theorem fg3 (Γ : Gam) (M : List D → Option (Except Exn D)) (hf : Γ.fn "_law_film" = some (.pure 3 M)) (F b : Nat) (ds : List D) (w : Int) (h : b < F) (h0 : M [.tuple [.tuple (a.map .int), .tuple (r.map .int)], .int p, .int ((b : Int) + 1)] = some (.ok (.list ds))) (h1 : atI ds (-1) = some (.int w)) :
    evalS Γ 0 p__law_far_3 (envA a r p b x3 x4 (some (.fz (.int F))) x6 x7 x8 x9 x10) = some (.ret (.fz (.int w)) (envA a r p b x3 x4 (some (.fz (.int F))) x6 x7 x8 x9 x10)) := by
  simp [p__law_far_3, mv, setOs, lim, targets, flats, tup, startE, slot, flatP, O.flat, share, frz, truthD, isiD, endO, isNone, ixD, slO, cmpO, binO, biO, intsOf, boolsOf, setT, setAll, rowOf, P.still, callD, callI, hf, h, h0, h1]
include r1 al rl in
theorem fa3a (h : b < frst a r) : evalS G__law_far 0 p__law_far_3 (envA a r p b x3 x4 (some (.fz (.int (frst a r : Nat)))) x6 x7 x8 x9 x10) = some (.ret (.fz (.int (wt a r p (b + 1)))) (envA a r p b x3 x4 (some (.fz (.int (frst a r : Nat)))) x6 x7 x8 x9 x10)) := by
  have hb : b + 1 ≤ 100000 := by unfold frst at h; omega
  exact fg3 x3 x4 x6 x7 x8 x9 x10 G__law_far M__law_film f__law_far___law_film _ _ _ _ h (ev_law_film (a := a) r1 p (b + 1) hb) (atI_last (fun i => wt a r p (i + 1)) b)
theorem fa3b (h : ¬ b < frst a r) : evalS G__law_far 0 p__law_far_3 (envA a r p b x3 x4 (some (.fz (.int (frst a r : Nat)))) x6 x7 x8 x9 x10) = some (.nx (envA a r p b x3 x4 (some (.fz (.int (frst a r : Nat)))) x6 x7 x8 x9 x10)) := by
  generalize frst a r = F at h ⊢
  simp [p__law_far_3, mv, setOs, lim, targets, flats, tup, startE, slot, flatP, O.flat, share, frz, truthD, isiD, endO, isNone, ixD, slO, cmpO, binO, biO, intsOf, boolsOf, setT, setAll, rowOf, P.still, callD, callI, h]
include r1 rl in
theorem fa4 (h : ¬ b < frst a r) : evalS G__law_far 0 p__law_far_4 (envA a r p b x3 (some (.fz (tup r))) (some (.fz (.int (frst a r : Nat)))) x6 x7 x8 x9 x10) = some (.nx (envA a r p b x3 (some (.fz (tup r))) (some (.fz (.int (frst a r : Nat)))) (some (.fz (.int ((b - frst a r) / r.length : Nat)))) (some (.fz (.int ((b - frst a r) % r.length : Nat)))) x8 x9 x10)) := by
  generalize frst a r = F at h ⊢
  have e : ((b : Int) - F) = ((b - F : Nat) : Int) := by omega
  have c1 : 0 < r.length := by omega
  have dk : divOk (r.length : Int) = true := divOk_nat (by omega) (by omega)
  simp [p__law_far_4, mv, setOs, lim, targets, flats, tup, startE, slot, flatP, O.flat, share, frz, truthD, isiD, endO, isNone, ixD, slO, cmpO, binO, biO, intsOf, boolsOf, setT, setAll, rowOf, P.still, callD, callI, e, c1, dk]
theorem fg5 (Γ : Gam) (M : List D → Option (Except Exn D)) (hf : Γ.fn "_law_film" = some (.pure 3 M)) (F b : Nat) (ds : List D) (h0 : M [.tuple [.tuple (a.map .int), .tuple (r.map .int)], .int p, .int ((F : Int) + 250 * r.length)] = some (.ok (.list ds))) :
    evalS Γ 0 p__law_far_5 (envA a r p b x3 (some (.fz (tup r))) (some (.fz (.int F))) x6 x7 x8 x9 x10) = some (.nx (envA a r p b x3 (some (.fz (tup r))) (some (.fz (.int F))) x6 x7 (some (.fz (.list ds))) x9 x10)) := by
  have s1 : smallI 250 = true := smallI_of (by omega) (by omega)
  simp [p__law_far_5, mv, setOs, lim, targets, flats, tup, startE, slot, flatP, O.flat, share, frz, truthD, isiD, endO, isNone, ixD, slO, cmpO, binO, biO, intsOf, boolsOf, setT, setAll, rowOf, P.still, callD, callI, s1, hf, h0]
include r1 al rl in
theorem fa5 : evalS G__law_far 0 p__law_far_5 (envA a r p b x3 (some (.fz (tup r))) (some (.fz (.int (frst a r : Nat)))) x6 x7 x8 x9 x10) = some (.nx (envA a r p b x3 (some (.fz (tup r))) (some (.fz (.int (frst a r : Nat)))) x6 x7 (some (.fz (.list (((List.range (frst a r + 250 * r.length)).map fun i => wt a r p (i + 1)).map .int)))) x9 x10)) := by
  have hb : frst a r + 250 * r.length ≤ 100000 := by unfold frst; omega
  generalize frst a r = F at hb ⊢
  have h0 := ev_law_film (a := a) r1 p (F + 250 * r.length) hb
  have e : ((F + 250 * r.length : Nat) : Int) = (F : Int) + 250 * r.length := by omega
  rw [e] at h0
  exact fg5 x3 x6 x7 x8 x9 x10 G__law_far M__law_film f__law_far___law_film _ _ _ h0
theorem fg6 (Γ : Gam) (M : List D → Option (Except Exn D)) (hf : Γ.fn "_law_is_growing" = some (.pure 2 M)) (F b s N : Nat) (ds : List D) (w : Int) (h0 : M [.tuple [.tuple (a.map .int), .tuple (r.map .int)], .int p] = some (.ok (.bool false)))
    (sm : smallI (r.length : Int) = true) (h1 : atI ds ((F : Int) + (s : Int) + (if (249 : Int) < N then 249 else (N : Int)) * r.length) = some (.int w)) :
    evalS Γ 0 p__law_far_6 (envA a r p b x3 (some (.fz (tup r))) (some (.fz (.int F))) (some (.fz (.int N))) (some (.fz (.int s))) (some (.fz (.list ds))) x9 x10) = some (.ret (.fz (.int w)) (envA a r p b x3 (some (.fz (tup r))) (some (.fz (.int F))) (some (.fz (.int N))) (some (.fz (.int s))) (some (.fz (.list ds))) x9 x10)) := by
  simp [p__law_far_6, mv, setOs, lim, targets, flats, tup, startE, slot, flatP, O.flat, share, frz, truthD, isiD, endO, isNone, ixD, slO, cmpO, binO, biO, intsOf, boolsOf, setT, setAll, rowOf, P.still, callD, callI, sm, hf, h0, h1]
theorem fg6b (Γ : Gam) (M : List D → Option (Except Exn D)) (hf : Γ.fn "_law_is_growing" = some (.pure 2 M)) (b : Nat) (h0 : M [.tuple [.tuple (a.map .int), .tuple (r.map .int)], .int p] = some (.ok (.bool true))) :
    evalS Γ 0 p__law_far_6 (envA a r p b x3 x4 x5 x6 x7 x8 x9 x10) = some (.nx (envA a r p b x3 x4 x5 x6 x7 x8 x9 x10)) := by
  simp [p__law_far_6, mv, setOs, lim, targets, flats, tup, startE, slot, flatP, O.flat, share, frz, truthD, isiD, endO, isNone, ixD, slO, cmpO, binO, biO, intsOf, boolsOf, setT, setAll, rowOf, P.still, callD, callI, hf, h0]
theorem cast249 (N F s l : Nat) : ((F + s + min N 249 * l : Nat) : Int) = (F : Int) + (s : Int) + (if (249 : Int) < N then 249 else (N : Int)) * l := by
  have h : ((min N 249 : Nat) : Int) = (if (249 : Int) < N then 249 else (N : Int)) := by split <;> omega
  rw [Int.natCast_add, Int.natCast_add, Int.natCast_mul, h]
include r1 rl in
theorem fa6a (hg : gr r p ≤ 0) : evalS G__law_far 0 p__law_far_6 (envA a r p b x3 (some (.fz (tup r))) (some (.fz (.int (frst a r : Nat)))) (some (.fz (.int ((b - frst a r) / r.length : Nat)))) (some (.fz (.int ((b - frst a r) % r.length : Nat)))) (some (.fz (.list (((List.range (frst a r + 250 * r.length)).map fun i => wt a r p (i + 1)).map .int)))) x9 x10) =
    some (.ret (.fz (.int (wt a r p (frst a r + (b - frst a r) % r.length + min ((b - frst a r) / r.length) 249 * r.length + 1)))) (envA a r p b x3 (some (.fz (tup r))) (some (.fz (.int (frst a r : Nat)))) (some (.fz (.int ((b - frst a r) / r.length : Nat)))) (some (.fz (.int ((b - frst a r) % r.length : Nat)))) (some (.fz (.list (((List.range (frst a r + 250 * r.length)).map fun i => wt a r p (i + 1)).map .int)))) x9 x10)) := by
  have h0 := ev_growing (a := a) rl p
  rw [grow_iff, decide_eq_false (by omega)] at h0
  have hs : (b - frst a r) % r.length < r.length := Nat.mod_lt _ (by omega)
  generalize frst a r = F at hs ⊢
  generalize (b - F) % r.length = s at hs ⊢
  generalize (b - F) / r.length = N
  have hm : min N 249 * r.length ≤ 249 * r.length := Nat.mul_le_mul_right _ (by omega)
  exact fg6 x3 x9 x10 G__law_far M__law_is_growing f__law_far___law_is_growing _ _ _ _ _ _ h0 (smallI_nat (by omega)) (atI_fun (fun i => wt a r p (i + 1)) (n := F + 250 * r.length) (i := F + s + min N 249 * r.length) (cast249 ..).symm (by omega))
include rl in
theorem fa6b (hg : ¬ gr r p ≤ 0) : evalS G__law_far 0 p__law_far_6 (envA a r p b x3 x4 x5 x6 x7 x8 x9 x10) = some (.nx (envA a r p b x3 x4 x5 x6 x7 x8 x9 x10)) := by
  have h0 := ev_growing (a := a) rl p
  rw [grow_iff, decide_eq_true (by omega)] at h0
  exact fg6b x3 x4 x5 x6 x7 x8 x9 x10 G__law_far M__law_is_growing f__law_far___law_is_growing b h0
include rl in
theorem fa7 : evalS G__law_far 0 p__law_far_7 (envA a r p b x3 (some (.fz (tup r))) x5 x6 x7 x8 x9 x10) = some (.nx (envA a r p b x3 (some (.fz (tup r))) x5 x6 x7 x8 (some (.fz (.int (gr r p)))) x10)) := by
  have sm : smallI (r.length : Int) = true := smallI_nat (by omega)
  simp [p__law_far_7, mv, setOs, lim, targets, flats, tup, startE, slot, flatP, O.flat, share, frz, truthD, isiD, endO, isNone, ixD, slO, cmpO, binO, biO, intsOf, boolsOf, setT, setAll, rowOf, P.still, callD, callI, sm, gr]
theorem fg8 (Γ : Gam) (F b s : Nat) (ds : List D) (w : Int) (h1 : atI ds ((F : Int) + s) = some (.int w)) : evalS Γ 0 p__law_far_8 (envA a r p b x3 x4 (some (.fz (.int F))) x6 (some (.fz (.int s))) (some (.fz (.list ds))) x9 x10) = some (.nx (envA a r p b x3 x4 (some (.fz (.int F))) x6 (some (.fz (.int s))) (some (.fz (.list ds))) x9 (some (.fz (.int w))))) := by
  simp [p__law_far_8, mv, setOs, lim, targets, flats, tup, startE, slot, flatP, O.flat, share, frz, truthD, isiD, endO, isNone, ixD, slO, cmpO, binO, biO, intsOf, boolsOf, setT, setAll, rowOf, P.still, callD, callI, h1]
include r1 in
theorem fa8 : evalS G__law_far 0 p__law_far_8 (envA a r p b x3 x4 (some (.fz (.int (frst a r : Nat)))) x6 (some (.fz (.int ((b - frst a r) % r.length : Nat)))) (some (.fz (.list (((List.range (frst a r + 250 * r.length)).map fun i => wt a r p (i + 1)).map .int)))) x9 x10) =
    some (.nx (envA a r p b x3 x4 (some (.fz (.int (frst a r : Nat)))) x6 (some (.fz (.int ((b - frst a r) % r.length : Nat)))) (some (.fz (.list (((List.range (frst a r + 250 * r.length)).map fun i => wt a r p (i + 1)).map .int)))) x9 (some (.fz (.int (wt a r p (frst a r + (b - frst a r) % r.length + 1))))))) := by
  have hs : (b - frst a r) % r.length < r.length := Nat.mod_lt _ (by omega)
  generalize frst a r = F at hs ⊢
  generalize (b - F) % r.length = s at hs ⊢
  exact fg8 x3 x4 x6 x9 x10 G__law_far F b s _ _ (atI_fun (fun i => wt a r p (i + 1)) (n := F + 250 * r.length) (i := F + s) (Int.natCast_add ..).symm (by omega))
theorem fa9 (Γ : Gam) (N : Nat) (g w : Int) (hg : smallI g = true) : evalS Γ 0 p__law_far_9 (envA a r p b x3 x4 x5 (some (.fz (.int N))) x7 x8 (some (.fz (.int g))) (some (.fz (.int w)))) =
    some (.ret (.fz (.int (w + N * g))) (envA a r p b x3 x4 x5 (some (.fz (.int N))) x7 x8 (some (.fz (.int g))) (some (.fz (.int w))))) := by
  simp [p__law_far_9, mv, setOs, lim, targets, flats, tup, startE, slot, flatP, O.flat, share, frz, truthD, isiD, endO, isNone, ixD, slO, cmpO, binO, biO, intsOf, boolsOf, setT, setAll, rowOf, P.still, callD, callI, hg]
end
section
variable {a r : List Int} {p : Int} (r1 : 1 ≤ r.length) (al : a.length ≤ 30) (rl : r.length ≤ 30) (hg : smallI (gr r p) = true) (b : Nat)
include r1 al rl
theorem far_b1 (h : b < frst a r) : ∃ e, evalSs G__law_far 0 b__law_far (envA a r p b none none none none none none none none) = some (.ret (.fz (.int (farOf a r p b))) e) := by
  have e : farOf a r p b = wt a r p (b + 1) := by
    unfold farOf; exact if_pos h
  rw [e]
  clear e
  unfold b__law_far
  exact ⟨_, (seq_nx (fa1 ..)).trans <| (seq_nx (fa2 ..)).trans <| seq_ret (fa3a r1 al rl b _ _ _ _ _ _ _ h)⟩
theorem far_b2 (h : ¬ b < frst a r) (hg0 : gr r p ≤ 0) : ∃ e, evalSs G__law_far 0 b__law_far (envA a r p b none none none none none none none none) = some (.ret (.fz (.int (farOf a r p b))) e) := by
  have e : farOf a r p b = wt a r p (frst a r + (b - frst a r) % r.length + min ((b - frst a r) / r.length) 249 * r.length + 1) := by
    unfold farOf; exact (if_neg h).trans (if_pos hg0)
  rw [e]
  clear e
  unfold b__law_far
  exact ⟨_, (seq_nx (fa1 ..)).trans <| (seq_nx (fa2 ..)).trans <| (seq_nx (fa3b b _ _ _ _ _ _ _ h)).trans <| (seq_nx (fa4 r1 rl b _ _ _ _ _ _ h)).trans <| (seq_nx (fa5 r1 al rl ..)).trans <| seq_ret (fa6a r1 rl b _ _ _ hg0)⟩
include hg in
theorem far_b3 (h : ¬ b < frst a r) (hg0 : ¬ gr r p ≤ 0) : ∃ e, evalSs G__law_far 0 b__law_far (envA a r p b none none none none none none none none) = some (.ret (.fz (.int (farOf a r p b))) e) := by
  have e : farOf a r p b = wt a r p (frst a r + (b - frst a r) % r.length + 1) + (((b - frst a r) / r.length : Nat) : Int) * gr r p := by
    unfold farOf; exact (if_neg h).trans (if_neg hg0)
  rw [e]
  clear e
  unfold b__law_far
  exact ⟨_, (seq_nx (fa1 ..)).trans <| (seq_nx (fa2 ..)).trans <| (seq_nx (fa3b b _ _ _ _ _ _ _ h)).trans <| (seq_nx (fa4 r1 rl b _ _ _ _ _ _ h)).trans <| (seq_nx (fa5 r1 al rl ..)).trans <| (seq_nx (fa6b rl b _ _ _ _ _ _ _ _ hg0)).trans <| (seq_nx (fa7 rl ..)).trans <| (seq_nx (fa8 r1 ..)).trans <| seq_ret (fa9 _ _ _ _ _ _ _ _ _ _ hg)⟩
include hg in
theorem ev_far : M__law_far [lds a r, .int p, .int b] = some (.ok (.int (farOf a r p b))) := by
  have h : ∃ e, evalSs G__law_far 0 b__law_far (envA a r p b none none none none none none none none) = some (.ret (.fz (.int (farOf a r p b))) e) := by
    by_cases h : b < frst a r
    · exact far_b1 r1 al rl b h
    · by_cases hg0 : gr r p ≤ 0
      · exact far_b2 r1 al rl b h hg0
      · exact far_b3 r1 al rl hg b h hg0
  obtain ⟨e, h⟩ := h
  exact rp_ret h rfl
end
end NW
end
section
set_option Elab.async false
set_option linter.all false
set_option maxRecDepth 100000
set_option maxHeartbeats 2000000
namespace NW
open PySem L2
abbrev envL (S M : O) (x2 : Option O) (L : D) (x4 : Option O) (p : Int) (x6 x7 x8 x9 x10 x11 : Option O) : Env := [some S, some M, x2, some (.fz L), x4, some (.fz (.int p)), x6, x7, x8, x9, x10, x11]
section
variable (Γ : Gam) (Ml Mf Mw Mr : List D → Option (Except Exn D)) (hl : Γ.fn "late" = some (.pure 3 Ml)) (hf : Γ.fn "first_late" = some (.pure 3 Mf)) (hw : Γ.fn "worst" = some (.pure 2 Mw)) (hr : Γ.fn "_law_far" = some (.pure 3 Mr))
variable (S M : O) (L : D) (p : Int) (x2 x4 x6 x7 x8 x9 x10 x11 : Option O)
include hl in
theorem k_turn (B q k v : Int) (hk : 10 ^ 30 < B - k ∨ Ml [L, .int p, .int (B - k)] = some (.ok (.int v)) ∧ (q < v ↔ k = 0)) :
    (bodyF (setT (.name 10)) (evalSs Γ 0 p_law_1) (.int k) (envL S M x2 L x4 p x6 (some (.fz (.int B))) (some (.fz (.int q))) x9 x10 x11) = some (.nx (envL S M x2 L x4 p x6 (some (.fz (.int B))) (some (.fz (.int q))) x9 (some (.fz (.int k))) x11)) ∨
    bodyF (setT (.name 10)) (evalSs Γ 0 p_law_1) (.int k) (envL S M x2 L x4 p x6 (some (.fz (.int B))) (some (.fz (.int q))) x9 x10 x11) = some (.cnt (envL S M x2 L x4 p x6 (some (.fz (.int B))) (some (.fz (.int q))) x9 (some (.fz (.int k))) x11))) := by
  by_cases h : (1000000000000000000000000000000 : Int) < B - k
  · right
    simp [bodyF, p_law_1, mv, setOs, lim, targets, flats, tup, startE, slot, flatP, O.flat, share, frz, truthD, isiD, endO, isNone, ixD, slO, cmpO, binO, biO, intsOf, boolsOf, setT, setAll, rowOf, P.still, callD, callI, h]
  · left
    rcases hk with hk | ⟨hk, hq⟩
    · exact absurd hk h
    · have e : decide (decide (q < v) = decide (k = 0)) = true := by simp [hq]
      have e2 : (decide (q < v)) = decide (k = 0) := decide_eq_decide.mpr hq
      simp [bodyF, p_law_1, mv, setOs, lim, targets, flats, tup, startE, slot, flatP, O.flat, share, frz, truthD, isiD, endO, isNone, ixD, slO, cmpO, binO, biO, intsOf, boolsOf, setT, setAll, rowOf, P.still, callD, callI, h, hl, hk, e2]
include hl in
theorem k_loop (B q : Int) (n : Nat) (hk : ∀ k : Int, 0 ≤ k → k < n → 10 ^ 30 < B - k ∨ ∃ v, Ml [L, .int p, .int (B - k)] = some (.ok (.int v)) ∧ (q < v ↔ k = 0)) :
    ∃ y10, forL (bodyF (setT (.name 10)) (evalSs Γ 0 p_law_1)) (rangeD 0 n) (envL S M x2 L x4 p x6 (some (.fz (.int B))) (some (.fz (.int q))) x9 x10 x11) = some (.nx (envL S M x2 L x4 p x6 (some (.fz (.int B))) (some (.fz (.int q))) x9 y10 x11)) := by
  obtain ⟨e', h1, y10, rfl⟩ := forL_ind (body := bodyF (setT (.name 10)) (evalSs Γ 0 p_law_1)) (items := rangeD 0 n) (n := 0) (env := envL S M x2 L x4 p x6 (some (.fz (.int B))) (some (.fz (.int q))) x9 x10 x11)
    (fun _ e => ∃ y10, e = envL S M x2 L x4 p x6 (some (.fz (.int B))) (some (.fz (.int q))) x9 y10 x11) (fun i d e hi he => by
      obtain ⟨y10, rfl⟩ := he
      obtain ⟨hlt, rfl⟩ := rangeD_get _ _ _ _ hi
      rcases hk (0 + i) (by omega) (by omega) with h | ⟨v, h⟩
      · exact ⟨_, k_turn Γ Ml hl S M L p x2 x4 x6 x9 y10 x11 B q (0 + i) 0 (.inl h), _, rfl⟩
      · exact ⟨_, k_turn Γ Ml hl S M L p x2 x4 x6 x9 y10 x11 B q (0 + i) v (.inr h), _, rfl⟩) ⟨x10, rfl⟩
  exact ⟨y10, h1⟩
end
section
variable (Γ : Gam) (Ml Mf Mw Mr : List D → Option (Except Exn D)) (hl : Γ.fn "late" = some (.pure 3 Ml)) (hf : Γ.fn "first_late" = some (.pure 3 Mf)) (hw : Γ.fn "worst" = some (.pure 2 Mw)) (hr : Γ.fn "_law_far" = some (.pure 3 Mr))
variable (S M : O) (L : D) (a r : List Int) (rl : r.length ≤ 30) (p : Int) (x2 x4 x6 x7 x8 x9 x10 x11 : Option O)
abbrev s2a : CS := .par [7, 9] (.cons (.call "first_late" (.cons (.var 3) (.cons (.var 5) (.cons (.var 8) .nil)))) (.cons (.call "worst" (.cons (.var 3) (.cons (.var 5) .nil))) .nil))
abbrev s2b : CS := .ite (.of (.cmp .ne (.isN (.var 7)) (.notN (.var 9)))) (.cons (.ret (.lit (.bool false))) .nil) .nil
abbrev s2c : CS := .ite (.of (.isN (.var 7))) (.cons (.ite (.of (.cmp .gt (.var 9) (.var 8))) (.cons (.ret (.lit (.bool false))) .nil) .nil) (.cons .cnt .nil)) .nil
abbrev s2d : CS := .for_ (.name 10) (.rng (.bin .add (.bin .mul (.lit (.int 2)) (.bi .len (.cons (.ix (.var 3) (.lit (.int 1))) .nil))) (.lit (.int 1)))) p_law_1
theorem law_2_is : p_law_2 = .cons s2a (.cons s2b (.cons s2c (.cons s2d .nil))) := rfl
include hf hw in
theorem q1 (q : Int) (d1 d2 : D) (h1 : Mf [lds a r, .int p, .int q] = some (.ok d1)) (h2 : Mw [lds a r, .int p] = some (.ok d2)) :
    evalS Γ 0 s2a (envL S M x2 (lds a r) x4 p x6 x7 (some (.fz (.int q))) x9 x10 x11) = some (.nx (envL S M x2 (lds a r) x4 p x6 (some (.fz d1)) (some (.fz (.int q))) (some (.fz d2)) x10 x11)) := by
  simp only [tup, lds] at h1 h2
  simp [mv, setOs, lim, targets, flats, tup, startE, slot, flatP, O.flat, share, frz, truthD, isiD, endO, isNone, ixD, slO, cmpO, binO, biO, intsOf, boolsOf, setT, setAll, rowOf, P.still, callD, callI, hf, hw, h1, h2]
theorem q2a (w : Int) : evalS Γ 0 s2b (envL S M x2 L x4 p x6 (some (.fz .none)) x8 (some (.fz (.int w))) x10 x11) = some (.nx (envL S M x2 L x4 p x6 (some (.fz .none)) x8 (some (.fz (.int w))) x10 x11)) := by
  simp [mv, setOs, lim, targets, flats, tup, startE, slot, flatP, O.flat, share, frz, truthD, isiD, endO, isNone, ixD, slO, cmpO, binO, biO, intsOf, boolsOf, setT, setAll, rowOf, P.still, callD, callI]
theorem q2b (w : Int) : evalS Γ 0 s2b (envL S M x2 L x4 p x6 (some (.fz (.int w))) x8 (some (.fz .none)) x10 x11) = some (.nx (envL S M x2 L x4 p x6 (some (.fz (.int w))) x8 (some (.fz .none)) x10 x11)) := by
  simp [mv, setOs, lim, targets, flats, tup, startE, slot, flatP, O.flat, share, frz, truthD, isiD, endO, isNone, ixD, slO, cmpO, binO, biO, intsOf, boolsOf, setT, setAll, rowOf, P.still, callD, callI]
theorem q3a (w q : Int) (h : w ≤ q) : evalS Γ 0 s2c (envL S M x2 L x4 p x6 (some (.fz .none)) (some (.fz (.int q))) (some (.fz (.int w))) x10 x11) = some (.cnt (envL S M x2 L x4 p x6 (some (.fz .none)) (some (.fz (.int q))) (some (.fz (.int w))) x10 x11)) := by
  have h4 : ¬ q < w := by omega
  simp [mv, setOs, lim, targets, flats, tup, startE, slot, flatP, O.flat, share, frz, truthD, isiD, endO, isNone, ixD, slO, cmpO, binO, biO, intsOf, boolsOf, setT, setAll, rowOf, P.still, callD, callI, h4]
theorem q3b (w : Int) : evalS Γ 0 s2c (envL S M x2 L x4 p x6 (some (.fz (.int w))) x8 x9 x10 x11) = some (.nx (envL S M x2 L x4 p x6 (some (.fz (.int w))) x8 x9 x10 x11)) := by
  simp [mv, setOs, lim, targets, flats, tup, startE, slot, flatP, O.flat, share, frz, truthD, isiD, endO, isNone, ixD, slO, cmpO, binO, biO, intsOf, boolsOf, setT, setAll, rowOf, P.still, callD, callI]
theorem q4e (w : Int) : evalE Γ (.bin .add (.bin .mul (.lit (.int 2)) (.bi .len (.cons (.ix (.var 3) (.lit (.int 1))) .nil))) (.lit (.int 1))) (envL S M x2 (lds a r) x4 p x6 x7 x8 x9 x10 x11) = some (.ok (.val (.fz (.int ((2 * r.length + 1 : Nat) : Int)))) (envL S M x2 (lds a r) x4 p x6 x7 x8 x9 x10 x11)) := by
  simp [mv, setOs, lim, targets, flats, tup, startE, slot, flatP, O.flat, share, frz, truthD, isiD, endO, isNone, ixD, slO, cmpO, binO, biO, intsOf, boolsOf, setT, setAll, rowOf, P.still, callD, callI]
include rl in
theorem q4 (e' : Env) (h : forL (bodyF (setT (.name 10)) (evalSs Γ 0 p_law_1)) (rangeD 0 (2 * r.length + 1)) (envL S M x2 (lds a r) x4 p x6 x7 x8 x9 x10 x11) = some (.nx e')) :
    evalS Γ 0 s2d (envL S M x2 (lds a r) x4 p x6 x7 x8 x9 x10 x11) = some (.nx e') :=
  for_nx rfl (rng_of (q4e Γ S M a r p x2 x4 x6 x7 x8 x9 x10 x11 0) rfl (rngOk_nat (by omega))) h
theorem seq_cnt {Γ : Gam} {pn : Nat} {s : CS} {r : CSs} {env env' : Env} (h : evalS Γ pn s env = some (.cnt env')) : evalSs Γ pn (.cons s r) env = some (.cnt env') := by rw [evalSs_cons, h]
theorem seq_nil {Γ : Gam} {pn : Nat} {env : Env} : evalSs Γ pn .nil env = some (.nx env) := by rw [evalSs_nil]
theorem body_name {i : Nat} {run : Env → Option SO} {d : D} {env : Env} : bodyF (setT (.name i)) run d env = run (env.set i (some (.fz d))) := rfl
include hf hw in
theorem q_turnA (q w : Int) (h1 : Mf [lds a r, .int p, .int q] = some (.ok .none)) (h2 : Mw [lds a r, .int p] = some (.ok (.int w))) (h3 : w ≤ q) :
    bodyF (setT (.name 8)) (evalSs Γ 0 p_law_2) (.int q) (envL S M x2 (lds a r) x4 p x6 x7 x8 x9 x10 x11) = some (.cnt (envL S M x2 (lds a r) x4 p x6 (some (.fz .none)) (some (.fz (.int q))) (some (.fz (.int w))) x10 x11)) := by
  rw [body_name, law_2_is]
  exact (seq_nx (q1 Γ Mf Mw hf hw S M a r p x2 x4 x6 x7 x9 x10 x11 q _ _ h1 h2)).trans <| (seq_nx (q2a ..)).trans <| seq_cnt (q3a _ _ _ _ _ _ _ _ _ _ _ _ h3)
include hl hf hw rl in
theorem q_turnB (q B : Int) (h1 : Mf [lds a r, .int p, .int q] = some (.ok (.int B))) (h2 : Mw [lds a r, .int p] = some (.ok .none))
    (hk : ∀ k : Int, 0 ≤ k → k < (2 * r.length + 1 : Nat) → 10 ^ 30 < B - k ∨ ∃ v, Ml [lds a r, .int p, .int (B - k)] = some (.ok (.int v)) ∧ (q < v ↔ k = 0)) :
    ∃ y10, bodyF (setT (.name 8)) (evalSs Γ 0 p_law_2) (.int q) (envL S M x2 (lds a r) x4 p x6 x7 x8 x9 x10 x11) = some (.nx (envL S M x2 (lds a r) x4 p x6 (some (.fz (.int B))) (some (.fz (.int q))) (some (.fz .none)) y10 x11)) := by
  obtain ⟨y10, h⟩ := k_loop Γ Ml hl S M (lds a r) p x2 x4 x6 (some (.fz .none)) x10 x11 B q _ hk
  refine ⟨y10, ?_⟩
  rw [body_name, law_2_is]
  exact (seq_nx (q1 Γ Mf Mw hf hw S M a r p x2 x4 x6 x7 x9 x10 x11 q _ _ h1 h2)).trans <| (seq_nx (q2b ..)).trans <| (seq_nx (q3b ..)).trans <| (seq_nx (q4 Γ S M a r rl p x2 x4 x6 _ _ _ x10 x11 _ h)).trans seq_nil
include hl hr in
theorem b_turn (b v : Int) (h1 : Ml [lds a r, .int p, .int b] = some (.ok (.int v))) (h2 : Mr [lds a r, .int p, .int b] = some (.ok (.int v))) :
    bodyF (setT (.name 7)) (evalSs Γ 0 p_law_3) (.int b) (envL S M x2 (lds a r) x4 p x6 x7 x8 x9 x10 x11) = some (.nx (envL S M x2 (lds a r) x4 p x6 (some (.fz (.int b))) x8 x9 x10 x11)) := by
  simp only [tup, lds] at h1 h2
  simp [bodyF, p_law_3, mv, setOs, lim, targets, flats, tup, startE, slot, flatP, O.flat, share, frz, truthD, isiD, endO, isNone, ixD, slO, cmpO, binO, biO, intsOf, boolsOf, setT, setAll, rowOf, P.still, callD, callI, hl, hr, h1, h2]
end
end NW
end
section
set_option Elab.async false
set_option linter.all false
set_option maxRecDepth 100000
set_option maxHeartbeats 2000000
namespace NW
open PySem L2
theorem forL_inv {body : D → Env → Option SO} (I : Env → Prop) : ∀ {items : List D} {env : Env}, (∀ d ∈ items, ∀ e, I e → ∃ e', (body d e = some (.nx e') ∨ body d e = some (.cnt e')) ∧ I e') → I env →
    ∃ e', forL body items env = some (.nx e') ∧ I e'
  | [], env, _, h0 => ⟨env, rfl, h0⟩
  | d :: ds, env, st, h0 => by
    obtain ⟨e', h1, h2⟩ := st d List.mem_cons_self env h0
    obtain ⟨e2, h3, h4⟩ := forL_inv I (items := ds) (env := e') (fun d' hd => st d' (List.mem_cons_of_mem _ hd)) h2
    refine ⟨e2, ?_, h4⟩
    unfold forL
    rcases h1 with h1 | h1 <;> (rw [h1]; exact h3)
/-- the machine is ready for a draw -/
def Draws (Mn : O → List D → Option (Except Exn D × O)) (c : List Int) : Prop := ∀ (k : Int) (g : List Int) (s t : Int), Mach k c g s → k < 1000000 → 0 < t → t < 1073741824 →
    ∃ d g' s', 0 ≤ d ∧ d < t ∧ Mach (k + 1) c g' s' ∧ Mn (.dct (stK c g s)) [.int t] = some (.ok (.int d), .dct (stK c g' s'))
abbrev s4a : CS := .asg (.name 6) (.lst (.cons (.bin .pow (.lit (.int 10)) (.lit (.int 30))) (.cons (.bin .sub (.bin .pow (.lit (.int 10)) (.lit (.int 30))) (.cio "_law_next" 1 (.cons (.lit (.int 99)) .nil))) (.cons (.bin .add (.bin .pow (.lit (.int 10)) (.lit (.int 18))) (.cio "_law_next" 1 (.cons (.lit (.int 1000)) .nil))) .nil))))
abbrev i4b : CI := .of (.bin .add (.var 6) (.lst (.cons (.cio "_law_next" 1 (.cons (.lit (.int 5000)) .nil)) .nil)))
abbrev s4b : CS := .for_ (.name 7) i4b p_law_3
abbrev i4c : CI := .of (.tup (.cons (.bin .pow (.lit (.int 10)) (.lit (.int 30))) (.cons (.bin .add (.bin .pow (.lit (.int 10)) (.lit (.int 29))) (.cio "_law_next" 1 (.cons (.lit (.int 1000)) .nil))) (.cons (.bin .add (.bin .pow (.lit (.int 10)) (.lit (.int 6))) (.cio "_law_next" 1 (.cons (.lit (.int 999)) .nil))) .nil))))
abbrev s4c : CS := .for_ (.name 8) i4c p_law_2
theorem law_4_is : p_law_4 = .cons s4a (.cons s4b (.cons s4c .nil)) := rfl
section
variable (Γ : Gam) (Ml Mf Mw Mr : List D → Option (Except Exn D)) (Mn : O → List D → Option (Except Exn D × O)) (hl : Γ.fn "late" = some (.pure 3 Ml)) (hf : Γ.fn "first_late" = some (.pure 3 Mf)) (hw : Γ.fn "worst" = some (.pure 2 Mw)) (hr : Γ.fn "_law_far" = some (.pure 3 Mr)) (hn : Γ.fn "_law_next" = some (.io 1 Mn))
variable (S : O) (c : List Int) (L : D) (a r : List Int) (rl : r.length ≤ 30) (p : Int) (x2 x4 x6 x7 x8 x9 x10 x11 : Option O)
include hn in
theorem w4a (m0 m1 m2 : O) (d1 d2 : Int) (h1 : Mn m0 [.int 99] = some (.ok (.int d1), m1)) (h2 : Mn m1 [.int 1000] = some (.ok (.int d2), m2)) :
    evalS Γ 0 s4a (envL S m0 x2 L x4 p x6 x7 x8 x9 x10 x11) = some (.nx (envL S m2 x2 L x4 p (some (.lst [.int (10 ^ 30), .int (10 ^ 30 - d1), .int (10 ^ 18 + d2)])) x7 x8 x9 x10 x11)) := by
  simp [mv, setOs, lim, targets, flats, tup, startE, slot, flatP, O.flat, share, frz, truthD, isiD, endO, isNone, ixD, slO, cmpO, binO, biO, intsOf, boolsOf, setT, setAll, rowOf, P.still, callD, callI, hn, h1, h2]
include hn in
theorem w4b (m0 m1 : O) (d3 : Int) (ds : List D) (hds : ds.length = 3) (h1 : Mn m0 [.int 5000] = some (.ok (.int d3), m1)) :
    evalI Γ i4b (envL S m0 x2 L x4 p (some (.lst ds)) x7 x8 x9 x10 x11) = some (.ok (ds ++ [.int d3]) (envL S m1 x2 L x4 p (some (.lst ds)) x7 x8 x9 x10 x11)) := by
  simp [mv, setOs, lim, targets, flats, tup, startE, slot, flatP, O.flat, share, frz, truthD, isiD, endO, isNone, ixD, slO, cmpO, binO, biO, intsOf, boolsOf, setT, setAll, rowOf, P.still, callD, callI, hn, h1, hds]
include hn in
theorem w4c (m0 m1 m2 : O) (d1 d2 : Int) (h1 : Mn m0 [.int 1000] = some (.ok (.int d1), m1)) (h2 : Mn m1 [.int 999] = some (.ok (.int d2), m2)) :
    evalI Γ i4c (envL S m0 x2 L x4 p x6 x7 x8 x9 x10 x11) = some (.ok [.int (10 ^ 30), .int (10 ^ 29 + d1), .int (10 ^ 6 + d2)] (envL S m2 x2 L x4 p x6 x7 x8 x9 x10 x11)) := by
  simp [mv, setOs, lim, targets, flats, tup, startE, slot, flatP, O.flat, share, frz, truthD, isiD, endO, isNone, ixD, slO, cmpO, binO, biO, intsOf, boolsOf, setT, setAll, rowOf, P.still, callD, callI, hn, h1, h2]
/-- what a law's turn wants of a pace -/
structure Pace (Ml Mf Mw Mr : List D → Option (Except Exn D)) (a r : List Int) (p : Int) : Prop where
  far : ∀ b : Int, 0 ≤ b → b ≤ 10 ^ 30 → ∃ v, Ml [lds a r, .int p, .int b] = some (.ok (.int v)) ∧ Mr [lds a r, .int p, .int b] = some (.ok (.int v))
  num : ∀ q : Int, 10 ^ 6 ≤ q → q ≤ 10 ^ 30 → (∃ w, w ≤ q ∧ Mf [lds a r, .int p, .int q] = some (.ok .none) ∧ Mw [lds a r, .int p] = some (.ok (.int w))) ∨
    (∃ B, Mf [lds a r, .int p, .int q] = some (.ok (.int B)) ∧ Mw [lds a r, .int p] = some (.ok .none) ∧ ∀ k : Int, 0 ≤ k → k < (2 * r.length + 1 : Nat) → 10 ^ 30 < B - k ∨ ∃ v, Ml [lds a r, .int p, .int (B - k)] = some (.ok (.int v)) ∧ (q < v ↔ k = 0))
include hl hf hw hr hn rl in
theorem p_turn (hd : Draws Mn c) (hP : Pace Ml Mf Mw Mr a r p) {k : Int} {g : List Int} {s : Int} (h : Mach k c g s) (hk : k + 5 < 1000000) (x5 : Option O) :
    ∃ g' s' y6 y7 y8 y9 y10, Mach (k + 5) c g' s' ∧ bodyF (setT (.name 5)) (evalSs Γ 0 p_law_4) (.int p) [some S, some (.dct (stK c g s)), x2, some (.fz (lds a r)), x4, x5, x6, x7, x8, x9, x10, x11] =
      some (.nx (envL S (.dct (stK c g' s')) x2 (lds a r) x4 p y6 y7 y8 y9 y10 x11)) := by
  obtain ⟨d1, g1, s1, a1, b1, h1, e1⟩ := hd k g s 99 h (by omega) (by omega) (by omega)
  obtain ⟨d2, g2, s2, a2, b2, h2, e2⟩ := hd _ g1 s1 1000 h1 (by omega) (by omega) (by omega)
  obtain ⟨d3, g3, s3, a3, b3, h3, e3⟩ := hd _ g2 s2 5000 h2 (by omega) (by omega) (by omega)
  obtain ⟨d4, g4, s4, a4, b4, h4, e4⟩ := hd _ g3 s3 1000 h3 (by omega) (by omega) (by omega)
  obtain ⟨d5, g5, s5, a5, b5, h5, e5⟩ := hd _ g4 s4 999 h4 (by omega) (by omega) (by omega)
  have w1 := w4a Γ Mn hn S (lds a r) p x2 x4 x6 x7 x8 x9 x10 x11 _ _ _ _ _ e1 e2
  have w2 := w4b Γ Mn hn S (lds a r) p x2 x4 x7 x8 x9 x10 x11 _ _ _ [.int (10 ^ 30), .int (10 ^ 30 - d1), .int (10 ^ 18 + d2)] rfl e3
  obtain ⟨_, l2, y7, rfl⟩ := forL_inv (body := bodyF (setT (.name 7)) (evalSs Γ 0 p_law_3)) (items := [.int (10 ^ 30), .int (10 ^ 30 - d1), .int (10 ^ 18 + d2)] ++ [.int d3]) (env := envL S (.dct (stK c g3 s3)) x2 (lds a r) x4 p (some (.lst [.int (10 ^ 30), .int (10 ^ 30 - d1), .int (10 ^ 18 + d2)])) x7 x8 x9 x10 x11)
    (fun e => ∃ y7, e = envL S (.dct (stK c g3 s3)) x2 (lds a r) x4 p (some (.lst [.int (10 ^ 30), .int (10 ^ 30 - d1), .int (10 ^ 18 + d2)])) y7 x8 x9 x10 x11) (fun d hd e he => by
      obtain ⟨y7, rfl⟩ := he
      have hb : ∃ b : Int, d = .int b ∧ 0 ≤ b ∧ b ≤ 10 ^ 30 := by
        simp only [List.cons_append, List.nil_append, List.mem_cons, List.not_mem_nil, or_false] at hd
        rcases hd with rfl | rfl | rfl | rfl
        · exact ⟨_, rfl, by decide, Int.le_refl _⟩
        · exact ⟨_, rfl, by omega, by omega⟩
        · exact ⟨_, rfl, by omega, by omega⟩
        · exact ⟨_, rfl, by omega, by omega⟩
      obtain ⟨b, rfl, hb0, hb1⟩ := hb
      obtain ⟨v, v1, v2⟩ := hP.far b hb0 hb1
      exact ⟨_, .inl (b_turn Γ Ml Mr hl hr S (.dct (stK c g3 s3)) a r p x2 x4 _ y7 x8 x9 x10 x11 b v v1 v2), _, rfl⟩) ⟨x7, rfl⟩
  have w3 := w4c Γ Mn hn S (lds a r) p x2 x4 (some (.lst [.int (10 ^ 30), .int (10 ^ 30 - d1), .int (10 ^ 18 + d2)])) y7 x8 x9 x10 x11 _ _ _ _ _ e4 e5
  obtain ⟨_, l3, z7, z8, z9, z10, rfl⟩ := forL_inv (body := bodyF (setT (.name 8)) (evalSs Γ 0 p_law_2)) (items := [.int (10 ^ 30), .int (10 ^ 29 + d4), .int (10 ^ 6 + d5)]) (env := envL S (.dct (stK c g5 s5)) x2 (lds a r) x4 p (some (.lst [.int (10 ^ 30), .int (10 ^ 30 - d1), .int (10 ^ 18 + d2)])) y7 x8 x9 x10 x11)
    (fun e => ∃ z7 z8 z9 z10, e = envL S (.dct (stK c g5 s5)) x2 (lds a r) x4 p (some (.lst [.int (10 ^ 30), .int (10 ^ 30 - d1), .int (10 ^ 18 + d2)])) z7 z8 z9 z10 x11) (fun d hd e he => by
      obtain ⟨z7, z8, z9, z10, rfl⟩ := he
      have hb : ∃ b : Int, d = .int b ∧ 10 ^ 6 ≤ b ∧ b ≤ 10 ^ 30 := by
        simp only [List.mem_cons, List.not_mem_nil, or_false] at hd
        rcases hd with rfl | rfl | rfl
        · exact ⟨_, rfl, by decide, Int.le_refl _⟩
        · exact ⟨_, rfl, by omega, by omega⟩
        · exact ⟨_, rfl, by omega, by omega⟩
      obtain ⟨q, rfl, hb0, hb1⟩ := hb
      rcases hP.num q hb0 hb1 with ⟨w, v0, v1, v2⟩ | ⟨B, v1, v2, v3⟩
      · exact ⟨_, .inr (q_turnA Γ Mf Mw hf hw S (.dct (stK c g5 s5)) a r p x2 x4 _ z7 z8 z9 z10 x11 q w v1 v2 v0), _, _, _, _, rfl⟩
      · obtain ⟨y10, hy⟩ := q_turnB Γ Ml Mf Mw hl hf hw S (.dct (stK c g5 s5)) a r rl p x2 x4 (some (.lst [.int (10 ^ 30), .int (10 ^ 30 - d1), .int (10 ^ 18 + d2)])) z7 z8 z9 z10 x11 q B v1 v2 v3
        exact ⟨_, .inl hy, _, _, _, _, rfl⟩) ⟨y7, x8, x9, x10, rfl⟩
  refine ⟨g5, s5, some (.lst [.int (10 ^ 30), .int (10 ^ 30 - d1), .int (10 ^ 18 + d2)]), z7, z8, z9, z10, by rw [show k + 5 = k + 1 + 1 + 1 + 1 + 1 by omega]; exact h5, ?_⟩
  rw [body_name, law_4_is]
  exact (seq_nx w1).trans <| (seq_nx (for_nx rfl w2 l2)).trans <| (seq_nx (for_nx rfl w3 l3)).trans seq_nil
end
end NW
end
section
set_option Elab.async false
set_option linter.all false
set_option maxRecDepth 100000
set_option maxHeartbeats 2000000
namespace NW
open PySem L2
theorem sum_le {M : Int} : ∀ (r : List Int), (∀ x ∈ r, x ≤ M) → r.sum ≤ M * r.length
  | [], _ => by simp
  | x :: r, h => by
    rw [List.sum_cons, List.length_cons]
    have := sum_le r fun y hy => h y (List.mem_cons_of_mem _ hy)
    have := h x List.mem_cons_self
    rw [show ((r.length + 1 : Nat) : Int) = (r.length : Int) + 1 by omega, Int.mul_add, Int.mul_one]
    omega
theorem maxI_le {q : Int} : ∀ l : List Int, 0 ≤ q → (∀ x ∈ l, x ≤ q) → maxI l ≤ q
  | [], h, _ => h
  | [x], _, h => h x List.mem_cons_self
  | x :: y :: r, h, hx => by
    have ih := maxI_le (y :: r) h fun z hz => hx z (List.mem_cons_of_mem _ hz)
    have := hx x List.mem_cons_self
    have e : maxI (x :: y :: r) = if maxI (y :: r) > x then maxI (y :: r) else x := by
      rw [maxI]; simp
    rw [e]
    split <;> omega
section
variable {a r : List Int} {p : Int} (al : a.length ≤ 4) (rl : r.length ≤ 5) (r1 : 1 ≤ r.length) (ha : ∀ x ∈ a, 0 ≤ x ∧ x ≤ 29) (hr : ∀ x ∈ r, 0 ≤ x ∧ x ≤ 29) (p0 : 0 ≤ p) (p1 : p ≤ 30)
include al rl r1 ha hr p0 p1
theorem good_of : Good a r := ⟨by omega, by omega, r1, fun x hx => by have := ha x hx; omega, fun x hx => by have := hr x hx; omega⟩
theorem gr_bd : -1000 < gr r p ∧ gr r p < 1000 := by
  have h1 := sum_le (M := 29) r fun x hx => (hr x hx).2
  have h2 := sum_nn r fun x hx => (hr x hx).1
  have h3 : p * (r.length : Int) ≤ 30 * 5 := Int.mul_le_mul p1 (by omega) (by omega) (by omega)
  have h4 : 0 ≤ p * (r.length : Int) := Int.mul_nonneg p0 (by omega)
  unfold gr
  omega
theorem late_is (n : Nat) (hn : (n : Int) ≤ 10 ^ 30) : M_late [lds a r, .int p, .int n] = some (.ok (.int (wt a r p (n + 1)))) := by
  have hb := gr_bd al rl r1 ha hr p0 p1
  have := ev_late (good_of al rl r1 ha hr p0 p1) p0 (by omega) (smallI_of (by omega) (by omega)) (b := n) (by omega) hn
  rw [this, lateAt_wt r1]
theorem wt_bd (n : Nat) : wt a r p n ≤ (n : Int) * 29 := wt_le (M := 29) (fun n => by
    have := ldf_le (a := a) (r := r) (M := 29) (by omega) (fun x hx => (ha x hx).2) (fun x hx => (hr x hx).2) n
    omega) (by omega) n
theorem film_bd (q : Int) (hq : 10 ^ 6 ≤ q) : ∀ w ∈ film (a ++ r ++ r) p 0, w ≤ q := by
  intro w hw
  rw [film_arr] at hw
  obtain ⟨i, hi, rfl⟩ := List.mem_map.mp hw
  rw [List.mem_range] at hi
  have := wt_bd al rl r1 ha hr p0 p1 (i + 1)
  omega
theorem pace_of : Pace M_late M_first_late M_worst M__law_far a r p := by
  have g := good_of al rl r1 ha hr p0 p1
  have hb := gr_bd al rl r1 ha hr p0 p1
  have hs : smallI (gr r p) = true := smallI_of (by omega) (by omega)
  refine ⟨fun b b0 b1 => ?_, fun q q0 q1 => ?_⟩
  · obtain ⟨n, rfl⟩ := Int.eq_ofNat_of_zero_le b0
    refine ⟨_, late_is al rl r1 ha hr p0 p1 n b1, ?_⟩
    have := ev_far (a := a) r1 g.al g.rl hs n
    rw [far_wt r1 al rl (fun x hx => (ha x hx).2) hr p0] at this
    exact this
  · have hf := film_bd al rl r1 ha hr p0 p1 q q0
    have hfl := ev_first_late g p0 (by omega) hs (by omega) (by omega) q1 hf
    have hw := ev_worst g p0 (by omega : p ≤ 1000)
    by_cases hg : gr r p ≤ 0
    · left
      rw [if_pos hg] at hfl
      refine ⟨maxI (film (a ++ r ++ r) p 0), maxI_le _ (by omega) hf, hfl, ?_⟩
      rw [hw]
      unfold worstIn
      rw [if_neg (by omega)]
    · right
      rw [if_neg hg] at hfl
      obtain ⟨B, e, b1, b2⟩ := first_is (a := a) (r := r) r1 (Int.not_le.mp hg) hf
      rw [e] at hfl
      refine ⟨B, hfl, ?_, fun k k0 k1 => ?_⟩
      · rw [hw]
        unfold worstIn
        rw [if_pos (by omega)]
      · by_cases hB : 10 ^ 30 < (B : Int) - k
        · exact .inl hB
        · right
          have hwb := wt_bd al rl r1 ha hr p0 p1 (B + 1)
          obtain ⟨j, rfl⟩ := Int.eq_ofNat_of_zero_le k0
          have hj : j ≤ B := by omega
          have e2 : (B : Int) - (j : Int) = ((B - j : Nat) : Int) := by omega
          rw [e2] at hB ⊢
          refine ⟨_, late_is al rl r1 ha hr p0 p1 (B - j) (by omega), ?_⟩
          constructor
          · intro h
            by_cases hj0 : j = 0
            · omega
            · have := b2 (B - j) (by omega)
              omega
          · intro h
            have : j = 0 := by omega
            subst this
            exact b1
end
end NW
end
section
set_option Elab.async false
set_option linter.all false
set_option maxRecDepth 100000
set_option maxHeartbeats 2000000
namespace NW
open PySem L2
abbrev s5a : CS := .asg (.name 3) (.cio "_law_loads" 1 (.cons (.cio "_law_of" 1 (.cons (.lst (.cons (.lit (.int 3)) (.cons (.lit (.int 8)) (.cons (.lit (.int 30)) .nil)))) .nil)) .nil))
abbrev s5b : CS := .asg (.name 4) (.bin .fdiv (.bi .sum (.cons (.ix (.var 3) (.lit (.int 1))) .nil)) (.bi .len (.cons (.ix (.var 3) (.lit (.int 1))) .nil)))
abbrev i5c : CI := .of (.tup (.cons (.var 4) (.cons (.bi .max (.cons (.lit (.int 0)) (.cons (.bin .sub (.var 4) (.lit (.int 1))) .nil))) (.cons (.bin .add (.var 4) (.lit (.int 1))) .nil))))
abbrev s5c : CS := .for_ (.name 5) i5c p_law_4
theorem law_5_is : p_law_5 = .cons s5a (.cons s5b (.cons s5c .nil)) := rfl
section
variable (Γ : Gam) (Mo Ms : O → List D → Option (Except Exn D × O)) (ho : Γ.fn "_law_of" = some (.io 1 Mo)) (hs : Γ.fn "_law_loads" = some (.io 1 Ms))
variable (S : O) (L : D) (a r : List Int) (rl : r.length ≤ 30) (x2 x3 x4 x5 x6 x7 x8 x9 x10 x11 : Option O)
include ho hs in
theorem v5a (m0 m1 m2 : O) (t : Int) (h1 : Mo m0 [.list [.int 3, .int 8, .int 30]] = some (.ok (.int t), m1)) (h2 : Ms m1 [.int t] = some (.ok L, m2)) :
    evalS Γ 0 s5a [some S, some m0, x2, x3, x4, x5, x6, x7, x8, x9, x10, x11] = some (.nx [some S, some m2, x2, some (.fz L), x4, x5, x6, x7, x8, x9, x10, x11]) := by
  simp [mv, setOs, lim, targets, flats, tup, startE, slot, flatP, O.flat, share, frz, truthD, isiD, endO, isNone, ixD, slO, cmpO, binO, biO, intsOf, boolsOf, setT, setAll, rowOf, P.still, callD, callI, ho, hs, h1, h2]
include rl in
theorem v5b (r1 : 1 ≤ r.length) (m : O) : evalS Γ 0 s5b [some S, some m, x2, some (.fz (lds a r)), x4, x5, x6, x7, x8, x9, x10, x11] = some (.nx [some S, some m, x2, some (.fz (lds a r)), some (.fz (.int (r.sum / (r.length : Int)))), x5, x6, x7, x8, x9, x10, x11]) := by
  have dk : divOk (r.length : Int) = true := divOk_nat (by omega) (by omega)
  simp [mv, setOs, lim, targets, flats, tup, startE, slot, flatP, O.flat, share, frz, truthD, isiD, endO, isNone, ixD, slO, cmpO, binO, biO, intsOf, boolsOf, setT, setAll, rowOf, P.still, callD, callI, dk]
theorem v5c (m : O) (u : Int) : evalI Γ i5c [some S, some m, x2, x3, some (.fz (.int u)), x5, x6, x7, x8, x9, x10, x11] = some (.ok [.int u, .int (if 1 < u then u - 1 else 0), .int (u + 1)] [some S, some m, x2, x3, some (.fz (.int u)), x5, x6, x7, x8, x9, x10, x11]) := by
  simp [mv, setOs, lim, targets, flats, tup, startE, slot, flatP, O.flat, share, frz, truthD, isiD, endO, isNone, ixD, slO, cmpO, binO, biO, intsOf, boolsOf, setT, setAll, rowOf, P.still, callD, callI]
end
theorem mean_bd {r : List Int} (r1 : 1 ≤ r.length) (hr : ∀ x ∈ r, 0 ≤ x ∧ x ≤ 29) : 0 ≤ r.sum / (r.length : Int) ∧ r.sum / (r.length : Int) ≤ 29 := by
  have h1 := sum_le (M := 29) r fun x hx => (hr x hx).2
  have h2 := sum_nn r fun x hx => (hr x hx).1
  exact ⟨Int.ediv_nonneg h2 (by omega), Int.ediv_le_of_le_mul (by omega) h1⟩
theorem turn_5 (S : O) {k : Int} {c g : List Int} {s : Int} (h : Mach k c g s) (hk : k + 200 < 1000000) (it : D) (x2 x3 x4 x5 x6 x7 x8 x9 x10 x11 : Option O) :
    ∃ g' s' y3 y4 y5 y6 y7 y8 y9 y10, Mach (k + 28) c g' s' ∧ bodyF (setT (.name 2)) (evalSs G_law 0 p_law_5) it [some S, some (.dct (stK c g s)), x2, x3, x4, x5, x6, x7, x8, x9, x10, x11] =
      some (.nx [some S, some (.dct (stK c g' s')), some (.fz it), y3, y4, y5, y6, y7, y8, y9, y10, x11]) := by
  obtain ⟨t, ht, g1, s1, h1, e1⟩ := ev_of h (by omega) (xs := [3, 8, 30]) (by decide) (by decide)
  have ht0 : 0 < t ∧ t ≤ 30 := by
    simp only [List.mem_cons, List.not_mem_nil, or_false] at ht
    omega
  obtain ⟨a, r, g2, s2, al, rl, r1, ha, hr, h2, e2⟩ := ev_loads h1 (by omega) ht0.1 ht0.2
  have hm := mean_bd r1 hr
  have w1 := v5a G_law M__law_of M__law_loads f_law___law_of f_law___law_loads S (lds a r) (some (.fz it)) x3 x4 x5 x6 x7 x8 x9 x10 x11 _ _ _ t e1 e2
  have w2 := v5b G_law S a r (by omega) (some (.fz it)) x4 x5 x6 x7 x8 x9 x10 x11 r1 (.dct (stK c g2 s2))
  have w3 := v5c G_law S (some (.fz it)) (some (.fz (lds a r))) x5 x6 x7 x8 x9 x10 x11 (.dct (stK c g2 s2)) (r.sum / (r.length : Int))
  have hd : Draws M__law_next c := fun k g s t h hk t0 t1 => h.draw hk t0 t1
  obtain ⟨_, l3, g3, s3, z5, z6, z7, z8, z9, z10, h3, rfl⟩ := forL_ind (body := bodyF (setT (.name 5)) (evalSs G_law 0 p_law_4)) (items := [.int (r.sum / (r.length : Int)), .int (if 1 < r.sum / (r.length : Int) then r.sum / (r.length : Int) - 1 else 0), .int (r.sum / (r.length : Int) + 1)]) (n := 0)
    (env := [some S, some (.dct (stK c g2 s2)), some (.fz it), some (.fz (lds a r)), some (.fz (.int (r.sum / (r.length : Int)))), x5, x6, x7, x8, x9, x10, x11])
    (fun i e => ∃ g' s' z5 z6 z7 z8 z9 z10, Mach (k + 13 + 5 * i) c g' s' ∧ e = [some S, some (.dct (stK c g' s')), some (.fz it), some (.fz (lds a r)), some (.fz (.int (r.sum / (r.length : Int)))), z5, z6, z7, z8, z9, z10, x11]) (fun i d e hi he => by
      obtain ⟨g', s', z5, z6, z7, z8, z9, z10, hM, rfl⟩ := he
      have hi3 : i < 3 := by
        have := (List.getElem?_eq_some_iff.mp hi).1
        exact this
      have hp : ∃ p : Int, d = .int p ∧ 0 ≤ p ∧ p ≤ 30 := by
        have hd := List.mem_of_getElem? hi
        simp only [List.mem_cons, List.not_mem_nil, or_false] at hd
        rcases hd with rfl | rfl | rfl
        · exact ⟨_, rfl, by omega, by omega⟩
        · refine ⟨_, rfl, ?_, ?_⟩ <;> split <;> omega
        · exact ⟨_, rfl, by omega, by omega⟩
      obtain ⟨p, rfl, p0, p1⟩ := hp
      obtain ⟨g4, s4, y6, y7, y8, y9, y10, hM2, eq⟩ := p_turn G_law M_late M_first_late M_worst M__law_far M__law_next f_law__late f_law__first_late f_law__worst f_law___law_far f_law___law_next S c a r (by omega) p (some (.fz it)) (some (.fz (.int (r.sum / (r.length : Int))))) z6 z7 z8 z9 z10 x11 hd (pace_of al rl r1 ha hr p0 p1) hM (by omega) z5
      refine ⟨_, .inl eq, g4, s4, _, y6, y7, y8, y9, y10, ?_, rfl⟩
      rw [show k + 13 + 5 * ((0 + i + 1 : Nat) : Int) = k + 13 + 5 * ((0 + i : Nat) : Int) + 5 by omega]
      exact hM2) ⟨g2, s2, x5, x6, x7, x8, x9, x10, by
        rw [show k + 13 + 5 * ((0 : Nat) : Int) = k + 1 + 12 by omega]; exact h2, rfl⟩
  refine ⟨g3, s3, some (.fz (lds a r)), some (.fz (.int (r.sum / (r.length : Int)))), z5, z6, z7, z8, z9, z10, ?_, ?_⟩
  · rw [show k + 28 = k + 13 + 5 * ((0 + 3 : Nat) : Int) by omega]; exact h3
  · rw [body_name, law_5_is]
    exact (seq_nx w1).trans <| (seq_nx w2).trans <| (seq_nx (for_nx rfl w3 l3)).trans seq_nil
/-! ### the law -/
abbrev sL1 : CS := .asg (.name 1) (.call "_law_begun" (.cons (.var 0) .nil))
abbrev iL2 : CI := .rng (.bin .add (.lit (.int 4)) (.bi .min (.cons (.bi .len (.cons (.var 0) .nil)) (.cons (.lit (.int 9)) .nil))))
abbrev sL2 : CS := .for_ (.name 2) iL2 p_law_5
abbrev sL3 : CS := .asg (.name 11) (.lst (.cons (.call "first_late" (.cons (.tup (.cons (.tup .nil) (.cons (.tup (.cons (.lit (.int 3)) (.cons (.lit (.int 0)) .nil))) .nil))) (.cons (.lit (.int 1)) (.cons (.bin .pow (.lit (.int 10)) (.lit (.int 30))) .nil)))) (.cons (.call "late" (.cons (.tup (.cons (.tup .nil) (.cons (.tup (.cons (.lit (.int 3)) (.cons (.lit (.int 0)) .nil))) .nil))) (.cons (.lit (.int 1)) (.cons (.bin .pow (.lit (.int 10)) (.lit (.int 30))) .nil)))) (.cons (.call "late" (.cons (.tup (.cons (.tup (.cons (.lit (.int 7)) .nil)) (.cons (.tup (.cons (.lit (.int 0)) .nil)) .nil))) (.cons (.lit (.int 0)) (.cons (.bin .pow (.lit (.int 10)) (.lit (.int 30))) .nil)))) .nil))))
abbrev sL4 : CS := .ret (.cmp .eq (.var 11) (.lst (.cons (.bin .mul (.lit (.int 2)) (.bin .sub (.bin .pow (.lit (.int 10)) (.lit (.int 30))) (.lit (.int 1)))) (.cons (.bin .add (.bin .fdiv (.bin .pow (.lit (.int 10)) (.lit (.int 30))) (.lit (.int 2))) (.lit (.int 2))) (.cons (.lit (.int 7)) .nil)))))
theorem law_is : b_law = .cons sL1 (.cons sL2 (.cons sL3 (.cons sL4 .nil))) := rfl
theorem eqD_3 (a b c d e f : Int) : eqD (.list [.int a, .int b, .int c]) (.list [.int d, .int e, .int f]) = some (decide ([a, b, c] = [d, e, f])) := eqD_ints [a, b, c] [d, e, f]
section
variable (Γ : Gam) (x1 x2 x3 x4 x5 x6 x7 x8 x9 x10 x11 : Option O)
theorem u1 (S : D) (m : O) (Mb : List D → Option O) (hb : Γ.fn "_law_begun" = some (.mk 1 Mb)) (h : Mb [S] = some m) : evalS Γ 0 sL1 [some (.fz S), x1, x2, x3, x4, x5, x6, x7, x8, x9, x10, x11] = some (.nx [some (.fz S), some m, x2, x3, x4, x5, x6, x7, x8, x9, x10, x11]) := by
  simp [mv, setOs, lim, targets, flats, tup, startE, slot, flatP, O.flat, share, frz, truthD, isiD, endO, isNone, ixD, slO, cmpO, binO, biO, intsOf, boolsOf, setT, setAll, rowOf, P.still, callD, callI, hb, h]
theorem u2 (ns : List D) (m : Option O) : ∃ n : Nat, n ≤ 13 ∧ evalI Γ iL2 [some (.fz (.list ns)), m, x2, x3, x4, x5, x6, x7, x8, x9, x10, x11] = some (.ok (rangeD 0 n) [some (.fz (.list ns)), m, x2, x3, x4, x5, x6, x7, x8, x9, x10, x11]) := by
  refine ⟨4 + min ns.length 9, by omega, ?_⟩
  have he : evalE Γ (.bin .add (.lit (.int 4)) (.bi .min (.cons (.bi .len (.cons (.var 0) .nil)) (.cons (.lit (.int 9)) .nil)))) [some (.fz (.list ns)), m, x2, x3, x4, x5, x6, x7, x8, x9, x10, x11] = some (.ok (.val (.fz (.int ((4 + min ns.length 9 : Nat) : Int)))) [some (.fz (.list ns)), m, x2, x3, x4, x5, x6, x7, x8, x9, x10, x11]) := by
    have e : ((4 + min ns.length 9 : Nat) : Int) = 4 + if 9 < (ns.length : Int) then 9 else (ns.length : Int) := by split <;> omega
    rw [e]
    simp [mv, setOs, lim, targets, flats, tup, startE, slot, flatP, O.flat, share, frz, truthD, isiD, endO, isNone, ixD, slO, cmpO, binO, biO, intsOf, boolsOf, setT, setAll, rowOf, P.still, callD, callI]
  exact rng_of he rfl (rngOk_nat (by omega))
theorem u3 (Mf Ml : List D → Option (Except Exn D)) (hf : Γ.fn "first_late" = some (.pure 3 Mf)) (hl : Γ.fn "late" = some (.pure 3 Ml)) (d1 d2 d3 : D) (x0 : Option O)
    (h1 : Mf [.tuple [.tuple [], .tuple [.int 3, .int 0]], .int 1, .int (10 ^ 30)] = some (.ok d1)) (h2 : Ml [.tuple [.tuple [], .tuple [.int 3, .int 0]], .int 1, .int (10 ^ 30)] = some (.ok d2)) (h3 : Ml [.tuple [.tuple [.int 7], .tuple [.int 0]], .int 0, .int (10 ^ 30)] = some (.ok d3)) :
    evalS Γ 0 sL3 [x0, x1, x2, x3, x4, x5, x6, x7, x8, x9, x10, x11] = some (.nx [x0, x1, x2, x3, x4, x5, x6, x7, x8, x9, x10, some (.lst [d1, d2, d3])]) := by
  have e30 : (10 : Int) ^ 30 = 1000000000000000000000000000000 := rfl
  rw [e30] at h1 h2 h3
  simp [mv, setOs, lim, targets, flats, tup, startE, slot, flatP, O.flat, share, frz, truthD, isiD, endO, isNone, ixD, slO, cmpO, binO, biO, intsOf, boolsOf, setT, setAll, rowOf, P.still, callD, callI, hf, hl, h1, h2, h3]
theorem u4 (x0 : Option O) : evalS Γ 0 sL4 [x0, x1, x2, x3, x4, x5, x6, x7, x8, x9, x10, some (.lst [.int (2 * (10 ^ 30 - 1)), .int (10 ^ 30 / 2 + 2), .int 7])] = some (.ret (.fz (.bool true)) [x0, x1, x2, x3, x4, x5, x6, x7, x8, x9, x10, some (.lst [.int (2 * (10 ^ 30 - 1)), .int (10 ^ 30 / 2 + 2), .int 7])]) := by
  simp [mv, setOs, lim, targets, flats, tup, startE, slot, flatP, O.flat, share, frz, truthD, isiD, endO, isNone, ixD, slO, cmpO, binO, biO, intsOf, boolsOf, setT, setAll, rowOf, P.still, callD, callI, eqD_3]
end
theorem told1 : M_first_late [.tuple [.tuple [], .tuple [.int 3, .int 0]], .int 1, .int (10 ^ 30)] = some (.ok (.int (2 * (10 ^ 30 - 1)))) := by
  have g : Good [] [3, 0] := ⟨by decide, by decide, by decide, (fun x hx => nomatch hx), fun x hx => by
    simp only [List.mem_cons, List.not_mem_nil, or_false] at hx; omega⟩
  have e : gr [3, 0] 1 = 1 := by decide +kernel
  have hf : ∀ w ∈ film ([] ++ [3, 0] ++ [3, 0]) 1 0, w ≤ 10 ^ 30 := by decide +kernel
  have := ev_first_late (a := []) (r := [3, 0]) (p := 1) (many := 10 ^ 30) g (by omega) (by omega) (by rw [e]; simp) (by omega) (by decide) (Int.le_refl _) hf
  have e2 : minI ((List.range ([3, 0] : List Int).length).map (foundOf [] [3, 0] 1 (10 ^ 30) (bef [] [3, 0] 1 1))) = 2 * (10 ^ 30 - 1) := by decide +kernel
  rw [e2, if_neg (by omega)] at this
  exact this
theorem told2 : M_late [.tuple [.tuple [], .tuple [.int 3, .int 0]], .int 1, .int (10 ^ 30)] = some (.ok (.int (10 ^ 30 / 2 + 2))) := by
  have g : Good [] [3, 0] := ⟨by decide, by decide, by decide, (fun x hx => nomatch hx), fun x hx => by
    simp only [List.mem_cons, List.not_mem_nil, or_false] at hx; omega⟩
  have e : gr [3, 0] 1 = 1 := by decide +kernel
  have := ev_late (a := []) (r := [3, 0]) (p := 1) g (by omega) (by omega) (by rw [e]; simp) (b := 10 ^ 30) (by decide) (Int.le_refl _)
  have e2 : lateAt [] [3, 0] 1 (10 ^ 30) = 10 ^ 30 / 2 + 2 := by decide +kernel
  rw [e2] at this
  exact this
theorem told3 : M_late [.tuple [.tuple [.int 7], .tuple [.int 0]], .int 0, .int (10 ^ 30)] = some (.ok (.int 7)) := by
  have g : Good [7] [0] := ⟨by decide, by decide, by decide, fun x hx => by
    simp only [List.mem_cons, List.not_mem_nil, or_false] at hx; omega, fun x hx => by
    simp only [List.mem_cons, List.not_mem_nil, or_false] at hx; omega⟩
  have e : gr [0] 0 = 0 := by decide +kernel
  have := ev_late (a := [7]) (r := [0]) (p := 0) g (by omega) (by omega) (by rw [e]; simp) (b := 10 ^ 30) (by decide) (Int.le_refl _)
  have e2 : lateAt [7] [0] 0 (10 ^ 30) = 7 := by decide +kernel
  rw [e2] at this
  exact this
theorem law_true (ns : List Int) (h : ns.length ≤ 63) : M_law [.list (ns.map .int)] = some (.ok (.bool true)) := by
  have hb := ev_begun ns h
  generalize hG : ns.filter (fun x => decide (10 ^ 18 ≤ x)) = gs at hb
  have hgl : gs.length ≤ 63 := by rw [← hG]; exact Nat.le_trans (List.length_filter_le _ _) h
  have w1 := u1 G_law none none none none none none none none none none none (.list (ns.map .int)) _ M__law_begun f_law___law_begun hb
  obtain ⟨n, hn, w2⟩ := u2 G_law none none none none none none none none none none (ns.map .int) (some (.dct (stK ns gs 0)))
  obtain ⟨_, l2, g2, s2, y2, y3, y4, y5, y6, y7, y8, y9, y10, h2, rfl⟩ := forL_ind (body := bodyF (setT (.name 2)) (evalSs G_law 0 p_law_5)) (items := rangeD 0 n) (n := 0)
    (env := [some (.fz (.list (ns.map .int))), some (.dct (stK ns gs 0)), none, none, none, none, none, none, none, none, none, none])
    (fun i e => ∃ g' s' y2 y3 y4 y5 y6 y7 y8 y9 y10, Mach (28 * i) ns g' s' ∧ e = [some (.fz (.list (ns.map .int))), some (.dct (stK ns g' s')), y2, y3, y4, y5, y6, y7, y8, y9, y10, none]) (fun i d e hi he => by
      obtain ⟨g', s', y2, y3, y4, y5, y6, y7, y8, y9, y10, hM, rfl⟩ := he
      obtain ⟨hlt, rfl⟩ := rangeD_get _ _ _ _ hi
      obtain ⟨g4, s4, z3, z4, z5, z6, z7, z8, z9, z10, hM2, eq⟩ := turn_5 (.fz (.list (ns.map .int))) hM (by omega) (.int (0 + i)) y2 y3 y4 y5 y6 y7 y8 y9 y10 none
      refine ⟨_, .inl eq, g4, s4, _, z3, z4, z5, z6, z7, z8, z9, z10, ?_, rfl⟩
      rw [show 28 * ((0 + i + 1 : Nat) : Int) = 28 * ((0 + i : Nat) : Int) + 28 by omega]
      exact hM2) ⟨gs, 0, none, none, none, none, none, none, none, none, none, ⟨h, hgl, by omega, by omega⟩, rfl⟩
  have w3 := u3 G_law (some (.dct (stK ns g2 s2))) y2 y3 y4 y5 y6 y7 y8 y9 y10 none M_first_late M_late f_law__first_late f_law__late _ _ _ (some (.fz (.list (ns.map .int)))) told1 told2 told3
  have w4 := u4 G_law (some (.dct (stK ns g2 s2))) y2 y3 y4 y5 y6 y7 y8 y9 y10 (some (.fz (.list (ns.map .int))))
  refine rp_ret (o := .fz (.bool true)) (e := [some (.fz (.list (ns.map .int))), some (.dct (stK ns g2 s2)), y2, y3, y4, y5, y6, y7, y8, y9, y10, some (.lst [.int (2 * (10 ^ 30 - 1)), .int (10 ^ 30 / 2 + 2), .int 7])]) ?_ rfl
  rw [law_is]
  exact (seq_nx w1).trans <| (seq_nx (for_nx rfl w2 l2)).trans <| (seq_nx w3).trans (seq_ret w4)
end NW
end
section
namespace NW
open PySem L2 PyProof.Rows
def top (i : Nat) : Stmt := PySem.Challenge.pw_notewire_k45_paces_far_away.main.body.getD i (.Pass ⟨0, 0, 0, 0⟩)
theorem m__law_begun : mSs n__law_begun b__law_begun (defScope (top 23)) (fun _ => true) (defBody (top 23)) = true := by decide +kernel
theorem s__law_begun : FnScope n__law_begun ["_law_script"] (defScope (top 23)) := scope_by (by decide +kernel)
theorem m__law_next : mSs n__law_next b__law_next (defScope (top 24)) (fun _ => true) (defBody (top 24)) = true := by decide +kernel
theorem s__law_next : FnScope n__law_next ["_law_m", "_law_total"] (defScope (top 24)) := scope_by (by decide +kernel)
theorem m__law_loads : mSs n__law_loads b__law_loads (defScope (top 26)) (fun _ => true) (defBody (top 26)) = true := by decide +kernel
theorem s__law_loads : FnScope n__law_loads ["_law_m", "_law_most"] (defScope (top 26)) := scope_by (by decide +kernel)
theorem m_is_whole : mSs n_is_whole b_is_whole (defScope (top 3)) (fun _ => true) (defBody (top 3)) = true := by decide +kernel
theorem s_is_whole : FnScope n_is_whole ["thing", "least", "most"] (defScope (top 3)) := scope_by (by decide +kernel)
theorem m_are_loads : mSs n_are_loads b_are_loads (defScope (top 8)) (fun _ => true) (defBody (top 8)) = true := by decide +kernel
theorem s_are_loads : FnScope n_are_loads ["thing", "least"] (defScope (top 8)) := scope_by (by decide +kernel)
theorem m_need_loads : mSs n_need_loads b_need_loads (defScope (top 9)) (fun _ => true) (defBody (top 9)) = true := by decide +kernel
theorem s_need_loads : FnScope n_need_loads ["loads"] (defScope (top 9)) := scope_by (by decide +kernel)
theorem m_need_pace : mSs n_need_pace b_need_pace (defScope (top 10)) (fun _ => true) (defBody (top 10)) = true := by decide +kernel
theorem s_need_pace : FnScope n_need_pace ["loads", "pace"] (defScope (top 10)) := scope_by (by decide +kernel)
theorem m_need_number : mSs n_need_number b_need_number (defScope (top 11)) (fun _ => true) (defBody (top 11)) = true := by decide +kernel
theorem s_need_number : FnScope n_need_number ["thing"] (defScope (top 11)) := scope_by (by decide +kernel)
theorem m_film_of : mSs n_film_of b_film_of (defScope (top 12)) (fun _ => true) (defBody (top 12)) = true := by decide +kernel
theorem s_film_of : FnScope n_film_of ["row", "pace", "waiting"] (defScope (top 12)) := scope_by (by decide +kernel)
theorem m_long_film : mSs n_long_film b_long_film (defScope (top 18)) (fun _ => true) (defBody (top 18)) = true := by decide +kernel
theorem s_long_film : FnScope n_long_film ["loads", "pace"] (defScope (top 18)) := scope_by (by decide +kernel)
theorem m_growth : mSs n_growth b_growth (defScope (top 14)) (fun _ => true) (defBody (top 14)) = true := by decide +kernel
theorem s_growth : FnScope n_growth ["loads", "pace"] (defScope (top 14)) := scope_by (by decide +kernel)
theorem m_end_of : mSs n_end_of b_end_of (defScope (top 13)) (fun _ => true) (defBody (top 13)) = true := by decide +kernel
theorem s_end_of : FnScope n_end_of ["row", "pace", "waiting"] (defScope (top 13)) := scope_by (by decide +kernel)
theorem m_before_ring : mSs n_before_ring b_before_ring (defScope (top 15)) (fun _ => true) (defBody (top 15)) = true := by decide +kernel
theorem s_before_ring : FnScope n_before_ring ["loads", "pace", "number"] (defScope (top 15)) := scope_by (by decide +kernel)
theorem m_first_late : mSs n_first_late b_first_late (defScope (top 21)) (fun _ => true) (defBody (top 21)) = true := by decide +kernel
theorem s_first_late : FnScope n_first_late ["loads", "pace", "many"] (defScope (top 21)) := scope_by (by decide +kernel)
theorem m_late_at : mSs n_late_at b_late_at (defScope (top 16)) (fun _ => true) (defBody (top 16)) = true := by decide +kernel
theorem s_late_at : FnScope n_late_at ["loads", "pace", "beat"] (defScope (top 16)) := scope_by (by decide +kernel)
theorem m_late : mSs n_late b_late (defScope (top 17)) (fun _ => true) (defBody (top 17)) = true := by decide +kernel
theorem s_late : FnScope n_late ["loads", "pace", "beat"] (defScope (top 17)) := scope_by (by decide +kernel)
theorem m__law_of : mSs n__law_of b__law_of (defScope (top 25)) (fun _ => true) (defBody (top 25)) = true := by decide +kernel
theorem s__law_of : FnScope n__law_of ["_law_m", "_law_some"] (defScope (top 25)) := scope_by (by decide +kernel)
theorem m__law_load : mSs n__law_load b__law_load (defScope (top 27)) (fun _ => true) (defBody (top 27)) = true := by decide +kernel
theorem s__law_load : FnScope n__law_load ["_law_loads_here", "_law_beat"] (defScope (top 27)) := scope_by (by decide +kernel)
theorem m__law_film : mSs n__law_film b__law_film (defScope (top 28)) (fun _ => true) (defBody (top 28)) = true := by decide +kernel
theorem s__law_film : FnScope n__law_film ["_law_loads_here", "_law_pace", "_law_many"] (defScope (top 28)) := scope_by (by decide +kernel)
theorem m__law_is_growing : mSs n__law_is_growing b__law_is_growing (defScope (top 29)) (fun _ => true) (defBody (top 29)) = true := by decide +kernel
theorem s__law_is_growing : FnScope n__law_is_growing ["_law_loads_here", "_law_pace"] (defScope (top 29)) := scope_by (by decide +kernel)
theorem m__law_far : mSs n__law_far b__law_far (defScope (top 30)) (fun _ => true) (defBody (top 30)) = true := by decide +kernel
theorem s__law_far : FnScope n__law_far ["_law_loads_here", "_law_pace", "_law_beat"] (defScope (top 30)) := scope_by (by decide +kernel)
theorem m_worst_in : mSs n_worst_in b_worst_in (defScope (top 19)) (fun _ => true) (defBody (top 19)) = true := by decide +kernel
theorem s_worst_in : FnScope n_worst_in ["loads", "pace"] (defScope (top 19)) := scope_by (by decide +kernel)
theorem m_worst : mSs n_worst b_worst (defScope (top 20)) (fun _ => true) (defBody (top 20)) = true := by decide +kernel
theorem s_worst : FnScope n_worst ["loads", "pace"] (defScope (top 20)) := scope_by (by decide +kernel)
theorem m_law : mSs n_law b_law (defScope (top 31)) (fun _ => true) (defBody (top 31)) = true := by decide +kernel
theorem s_law : FnScope n_law ["_law_script"] (defScope (top 31)) := scope_by (by decide +kernel)
theorem all_mk {P : Program} {w : World} {K : PySem.W.Frag} {h : Heap} {mg : Str → Option Value} {fa f1 f2 f3 f4 f5 f6 f7 f8 f9 f10 f11 f12 f13 f14 f15 f16 f17 f18 f19 f20 f21 f22 f23 f24 : Addr} (X : K.In h) (G : h.Ns mainGlobals mg) (hfa : mg "law" = some (.ref fa))
    {od1 an1 od2 an2 od3 an3 od4 an4 od5 an5 od6 an6 od7 an7 od8 an8 od9 an9 od10 an10 od11 an11 od12 an12 od13 an13 od14 an14 od15 an15 od16 an16 od17 an17 od18 an18 od19 an19 od20 an20 od21 an21 od22 an22 od23 an23 od24 an24 : Option Addr} {sl1 sl2 sl3 sl4 sl5 sl6 sl7 sl8 sl9 sl10 sl11 sl12 sl13 sl14 sl15 sl16 sl17 sl18 sl19 sl20 sl21 sl22 sl23 sl24 : Array (Option Value)} {oc1 kV1 dc1 pm1 cd1 ct1 oc2 kV2 dc2 pm2 cd2 ct2 oc3 kV3 dc3 pm3 cd3 ct3 oc4 kV4 dc4 pm4 cd4 ct4 oc5 kV5 dc5 pm5 cd5 ct5 oc6 kV6 dc6 pm6 cd6 ct6 oc7 kV7 dc7 pm7 cd7 ct7 oc8 kV8 dc8 pm8 cd8 ct8 oc9 kV9 dc9 pm9 cd9 ct9 oc10 kV10 dc10 pm10 cd10 ct10 oc11 kV11 dc11 pm11 cd11 ct11 oc12 kV12 dc12 pm12 cd12 ct12 oc13 kV13 dc13 pm13 cd13 ct13 oc14 kV14 dc14 pm14 cd14 ct14 oc15 kV15 dc15 pm15 cd15 ct15 oc16 kV16 dc16 pm16 cd16 ct16 oc17 kV17 dc17 pm17 cd17 ct17 oc18 kV18 dc18 pm18 cd18 ct18 oc19 kV19 dc19 pm19 cd19 ct19 oc20 kV20 dc20 pm20 cd20 ct20 oc21 kV21 dc21 pm21 cd21 ct21 oc22 kV22 dc22 pm22 cd22 ct22 oc23 kV23 dc23 pm23 cd23 ct23 oc24 kV24 dc24 pm24 cd24 ct24 : Value}
    {t0 t1 t2 : Tok}
    (a1 : PySem.W.nsIn K mainGlobals "_law_begun" = some (some (.ref f1))) (l1 : K.lookup f1 = some ⟨oc1, od1, .func (PySem.W.fnOf "_law_begun" "_law_begun" (defArgs (top 23)) (defBody (top 23)) (defScope (top 23)) .none kV1 dc1 pm1 an1 cd1 ct1), sl1⟩) (c1 : PySem.W.codeIn K cd1 "_law_begun" = true) (k1 : PySem.W.keepIn K (.ref f1) = true)
    (a2 : PySem.W.nsIn K mainGlobals "_law_next" = some (some (.ref f2))) (l2 : K.lookup f2 = some ⟨oc2, od2, .func (PySem.W.fnOf "_law_next" "_law_next" (defArgs (top 24)) (defBody (top 24)) (defScope (top 24)) .none kV2 dc2 pm2 an2 cd2 ct2), sl2⟩) (c2 : PySem.W.codeIn K cd2 "_law_next" = true) (k2 : PySem.W.keepIn K (.ref f2) = true)
    (a3 : PySem.W.nsIn K mainGlobals "_law_loads" = some (some (.ref f3))) (l3 : K.lookup f3 = some ⟨oc3, od3, .func (PySem.W.fnOf "_law_loads" "_law_loads" (defArgs (top 26)) (defBody (top 26)) (defScope (top 26)) .none kV3 dc3 pm3 an3 cd3 ct3), sl3⟩) (c3 : PySem.W.codeIn K cd3 "_law_loads" = true) (k3 : PySem.W.keepIn K (.ref f3) = true)
    (a4 : PySem.W.nsIn K mainGlobals "is_whole" = some (some (.ref f4))) (l4 : K.lookup f4 = some ⟨oc4, od4, .func (PySem.W.fnOf "is_whole" "is_whole" (defArgs (top 3)) (defBody (top 3)) (defScope (top 3)) .none kV4 dc4 pm4 an4 cd4 ct4), sl4⟩) (c4 : PySem.W.codeIn K cd4 "is_whole" = true) (k4 : PySem.W.keepIn K (.ref f4) = true)
    (a5 : PySem.W.nsIn K mainGlobals "are_loads" = some (some (.ref f5))) (l5 : K.lookup f5 = some ⟨oc5, od5, .func (PySem.W.fnOf "are_loads" "are_loads" (defArgs (top 8)) (defBody (top 8)) (defScope (top 8)) .none kV5 dc5 pm5 an5 cd5 ct5), sl5⟩) (c5 : PySem.W.codeIn K cd5 "are_loads" = true) (k5 : PySem.W.keepIn K (.ref f5) = true)
    (a6 : PySem.W.nsIn K mainGlobals "need_loads" = some (some (.ref f6))) (l6 : K.lookup f6 = some ⟨oc6, od6, .func (PySem.W.fnOf "need_loads" "need_loads" (defArgs (top 9)) (defBody (top 9)) (defScope (top 9)) .none kV6 dc6 pm6 an6 cd6 ct6), sl6⟩) (c6 : PySem.W.codeIn K cd6 "need_loads" = true) (k6 : PySem.W.keepIn K (.ref f6) = true)
    (a7 : PySem.W.nsIn K mainGlobals "need_pace" = some (some (.ref f7))) (l7 : K.lookup f7 = some ⟨oc7, od7, .func (PySem.W.fnOf "need_pace" "need_pace" (defArgs (top 10)) (defBody (top 10)) (defScope (top 10)) .none kV7 dc7 pm7 an7 cd7 ct7), sl7⟩) (c7 : PySem.W.codeIn K cd7 "need_pace" = true) (k7 : PySem.W.keepIn K (.ref f7) = true)
    (a8 : PySem.W.nsIn K mainGlobals "need_number" = some (some (.ref f8))) (l8 : K.lookup f8 = some ⟨oc8, od8, .func (PySem.W.fnOf "need_number" "need_number" (defArgs (top 11)) (defBody (top 11)) (defScope (top 11)) .none kV8 dc8 pm8 an8 cd8 ct8), sl8⟩) (c8 : PySem.W.codeIn K cd8 "need_number" = true) (k8 : PySem.W.keepIn K (.ref f8) = true)
    (a9 : PySem.W.nsIn K mainGlobals "film_of" = some (some (.ref f9))) (l9 : K.lookup f9 = some ⟨oc9, od9, .func (PySem.W.fnOf "film_of" "film_of" (defArgs (top 12)) (defBody (top 12)) (defScope (top 12)) .none kV9 dc9 pm9 an9 cd9 ct9), sl9⟩) (c9 : PySem.W.codeIn K cd9 "film_of" = true) (k9 : PySem.W.keepIn K (.ref f9) = true)
    (a10 : PySem.W.nsIn K mainGlobals "long_film" = some (some (.ref f10))) (l10 : K.lookup f10 = some ⟨oc10, od10, .func (PySem.W.fnOf "long_film" "long_film" (defArgs (top 18)) (defBody (top 18)) (defScope (top 18)) .none kV10 dc10 pm10 an10 cd10 ct10), sl10⟩) (c10 : PySem.W.codeIn K cd10 "long_film" = true) (k10 : PySem.W.keepIn K (.ref f10) = true)
    (a11 : PySem.W.nsIn K mainGlobals "growth" = some (some (.ref f11))) (l11 : K.lookup f11 = some ⟨oc11, od11, .func (PySem.W.fnOf "growth" "growth" (defArgs (top 14)) (defBody (top 14)) (defScope (top 14)) .none kV11 dc11 pm11 an11 cd11 ct11), sl11⟩) (c11 : PySem.W.codeIn K cd11 "growth" = true) (k11 : PySem.W.keepIn K (.ref f11) = true)
    (a12 : PySem.W.nsIn K mainGlobals "end_of" = some (some (.ref f12))) (l12 : K.lookup f12 = some ⟨oc12, od12, .func (PySem.W.fnOf "end_of" "end_of" (defArgs (top 13)) (defBody (top 13)) (defScope (top 13)) .none kV12 dc12 pm12 an12 cd12 ct12), sl12⟩) (c12 : PySem.W.codeIn K cd12 "end_of" = true) (k12 : PySem.W.keepIn K (.ref f12) = true)
    (a13 : PySem.W.nsIn K mainGlobals "before_ring" = some (some (.ref f13))) (l13 : K.lookup f13 = some ⟨oc13, od13, .func (PySem.W.fnOf "before_ring" "before_ring" (defArgs (top 15)) (defBody (top 15)) (defScope (top 15)) .none kV13 dc13 pm13 an13 cd13 ct13), sl13⟩) (c13 : PySem.W.codeIn K cd13 "before_ring" = true) (k13 : PySem.W.keepIn K (.ref f13) = true)
    (a14 : PySem.W.nsIn K mainGlobals "first_late" = some (some (.ref f14))) (l14 : K.lookup f14 = some ⟨oc14, od14, .func (PySem.W.fnOf "first_late" "first_late" (defArgs (top 21)) (defBody (top 21)) (defScope (top 21)) .none kV14 dc14 pm14 an14 cd14 ct14), sl14⟩) (c14 : PySem.W.codeIn K cd14 "first_late" = true) (k14 : PySem.W.keepIn K (.ref f14) = true)
    (a15 : PySem.W.nsIn K mainGlobals "late_at" = some (some (.ref f15))) (l15 : K.lookup f15 = some ⟨oc15, od15, .func (PySem.W.fnOf "late_at" "late_at" (defArgs (top 16)) (defBody (top 16)) (defScope (top 16)) .none kV15 dc15 pm15 an15 cd15 ct15), sl15⟩) (c15 : PySem.W.codeIn K cd15 "late_at" = true) (k15 : PySem.W.keepIn K (.ref f15) = true)
    (a16 : PySem.W.nsIn K mainGlobals "late" = some (some (.ref f16))) (l16 : K.lookup f16 = some ⟨oc16, od16, .func (PySem.W.fnOf "late" "late" (defArgs (top 17)) (defBody (top 17)) (defScope (top 17)) .none kV16 dc16 pm16 an16 cd16 ct16), sl16⟩) (c16 : PySem.W.codeIn K cd16 "late" = true) (k16 : PySem.W.keepIn K (.ref f16) = true)
    (a17 : PySem.W.nsIn K mainGlobals "_law_of" = some (some (.ref f17))) (l17 : K.lookup f17 = some ⟨oc17, od17, .func (PySem.W.fnOf "_law_of" "_law_of" (defArgs (top 25)) (defBody (top 25)) (defScope (top 25)) .none kV17 dc17 pm17 an17 cd17 ct17), sl17⟩) (c17 : PySem.W.codeIn K cd17 "_law_of" = true) (k17 : PySem.W.keepIn K (.ref f17) = true)
    (a18 : PySem.W.nsIn K mainGlobals "_law_load" = some (some (.ref f18))) (l18 : K.lookup f18 = some ⟨oc18, od18, .func (PySem.W.fnOf "_law_load" "_law_load" (defArgs (top 27)) (defBody (top 27)) (defScope (top 27)) .none kV18 dc18 pm18 an18 cd18 ct18), sl18⟩) (c18 : PySem.W.codeIn K cd18 "_law_load" = true) (k18 : PySem.W.keepIn K (.ref f18) = true)
    (a19 : PySem.W.nsIn K mainGlobals "_law_film" = some (some (.ref f19))) (l19 : K.lookup f19 = some ⟨oc19, od19, .func (PySem.W.fnOf "_law_film" "_law_film" (defArgs (top 28)) (defBody (top 28)) (defScope (top 28)) .none kV19 dc19 pm19 an19 cd19 ct19), sl19⟩) (c19 : PySem.W.codeIn K cd19 "_law_film" = true) (k19 : PySem.W.keepIn K (.ref f19) = true)
    (a20 : PySem.W.nsIn K mainGlobals "_law_is_growing" = some (some (.ref f20))) (l20 : K.lookup f20 = some ⟨oc20, od20, .func (PySem.W.fnOf "_law_is_growing" "_law_is_growing" (defArgs (top 29)) (defBody (top 29)) (defScope (top 29)) .none kV20 dc20 pm20 an20 cd20 ct20), sl20⟩) (c20 : PySem.W.codeIn K cd20 "_law_is_growing" = true) (k20 : PySem.W.keepIn K (.ref f20) = true)
    (a21 : PySem.W.nsIn K mainGlobals "_law_far" = some (some (.ref f21))) (l21 : K.lookup f21 = some ⟨oc21, od21, .func (PySem.W.fnOf "_law_far" "_law_far" (defArgs (top 30)) (defBody (top 30)) (defScope (top 30)) .none kV21 dc21 pm21 an21 cd21 ct21), sl21⟩) (c21 : PySem.W.codeIn K cd21 "_law_far" = true) (k21 : PySem.W.keepIn K (.ref f21) = true)
    (a22 : PySem.W.nsIn K mainGlobals "worst_in" = some (some (.ref f22))) (l22 : K.lookup f22 = some ⟨oc22, od22, .func (PySem.W.fnOf "worst_in" "worst_in" (defArgs (top 19)) (defBody (top 19)) (defScope (top 19)) .none kV22 dc22 pm22 an22 cd22 ct22), sl22⟩) (c22 : PySem.W.codeIn K cd22 "worst_in" = true) (k22 : PySem.W.keepIn K (.ref f22) = true)
    (a23 : PySem.W.nsIn K mainGlobals "worst" = some (some (.ref f23))) (l23 : K.lookup f23 = some ⟨oc23, od23, .func (PySem.W.fnOf "worst" "worst" (defArgs (top 20)) (defBody (top 20)) (defScope (top 20)) .none kV23 dc23 pm23 an23 cd23 ct23), sl23⟩) (c23 : PySem.W.codeIn K cd23 "worst" = true) (k23 : PySem.W.keepIn K (.ref f23) = true)
    (a24 : PySem.W.nsIn K mainGlobals "law" = some (some (.ref f24))) (l24 : K.lookup f24 = some ⟨oc24, od24, .func (PySem.W.fnOf "law" "law" (defArgs (top 31)) (defBody (top 31)) (defScope (top 31)) .none kV24 dc24 pm24 an24 cd24 ct24), sl24⟩) (c24 : PySem.W.codeIn K cd24 "law" = true) (k24 : PySem.W.keepIn K (.ref f24) = true)
    (v0 : PySem.W.nsIn K mainGlobals "MOST_ROW" = some (some (.int 30 t0)))
    (v1 : PySem.W.nsIn K mainGlobals "MOST_LOAD" = some (some (.int 1000 t1)))
    (v2 : PySem.W.nsIn K mainGlobals "MOST_BEAT" = some (some (.int 1000000000000000000000000000000 t2)))
    (z0 : PySem.W.nsIn K mainGlobals "len" = some none)
    (z1 : PySem.W.nsIn K mainGlobals "int" = some none)
    (z2 : PySem.W.nsIn K mainGlobals "max" = some none)
    (z3 : PySem.W.nsIn K mainGlobals "min" = some none)
    (z4 : PySem.W.nsIn K mainGlobals "sum" = some none)
    (z5 : PySem.W.nsIn K mainGlobals "all" = some none)
    (z6 : PySem.W.nsIn K mainGlobals "any" = some none)
    (z7 : PySem.W.nsIn K mainGlobals "tuple" = some none)
    (z8 : PySem.W.nsIn K mainGlobals "list" = some none)
    (z9 : PySem.W.nsIn K mainGlobals "divmod" = some none)
    (z10 : PySem.W.nsIn K mainGlobals "isinstance" = some none)
    (z11 : PySem.W.nsIn K mainGlobals "range" = some none)
    (z12 : PySem.W.nsIn K mainGlobals "enumerate" = some none)
    (z13 : PySem.W.nsIn K mainGlobals "zip" = some none)
    (z14 : PySem.W.nsIn K mainGlobals "bool" = some none)
    (z15 : PySem.W.nsIn K mainGlobals "str" = some none)
    (z16 : PySem.W.nsIn K mainGlobals "dict" = some none)
    (z17 : PySem.W.nsIn K mainGlobals "sorted" = some none)
    (z18 : PySem.W.nsIn K mainGlobals "set" = some none)
    (z19 : PySem.W.nsIn K mainGlobals "repr" = some none)
    : ∃ fd : FuncData, (∀ (s : Shared) (v : Value), BindsTo s fd ⟨[v], []⟩ [("_law_script", v)]) ∧ ∀ base : Heap, K.In base → base.Ns mainGlobals mg → FnOk P w K mg base (L2.CX P w) 24 fa fd ["_law_script"] (spPure (ctOf K mg csts fs23) 1 M_law) := by
  have e := hfa.symm.trans (PySem.W.mg_of X G a24)
  cases e
  have hb : ∀ x ∈ bltNames, mg x = none := forall_cons (PySem.W.mg_none_of X G z0) (forall_cons (PySem.W.mg_none_of X G z1) (forall_cons (PySem.W.mg_none_of X G z2) (forall_cons (PySem.W.mg_none_of X G z3) (forall_cons (PySem.W.mg_none_of X G z4) (forall_cons (PySem.W.mg_none_of X G z5) (forall_cons (PySem.W.mg_none_of X G z6) (forall_cons (PySem.W.mg_none_of X G z7) (forall_cons (PySem.W.mg_none_of X G z8) (forall_cons (PySem.W.mg_none_of X G z9) (forall_cons (PySem.W.mg_none_of X G z10) (forall_cons (PySem.W.mg_none_of X G z11) (forall_cons (PySem.W.mg_none_of X G z12) (forall_cons (PySem.W.mg_none_of X G z13) (forall_cons (PySem.W.mg_none_of X G z14) (forall_cons (PySem.W.mg_none_of X G z15) (forall_cons (PySem.W.mg_none_of X G z16) (forall_cons (PySem.W.mg_none_of X G z17) (forall_cons (PySem.W.mg_none_of X G z18) (forall_cons (PySem.W.mg_none_of X G z19) (forall_nil))))))))))))))))))))
  have hc : ∀ p ∈ csts, ConOk K mg p.1 p.2 := forall_cons (con_int (by decide +kernel) (PySem.W.mg_of X G v0)) (forall_cons (con_int (by decide +kernel) (PySem.W.mg_of X G v1)) (forall_cons (con_int (by decide +kernel) (PySem.W.mg_of X G v2)) (forall_nil)))
  have F1 := fun_mk (st := top 23) l1 c1 k1
  have b1 := F1.binds (ps := ["_law_script"]) fun _ _ _ _ _ _ us hl => match us, hl with | [_], _ => rfl
  have F2 := fun_mk (st := top 24) l2 c2 k2
  have b2 := F2.binds (ps := ["_law_m", "_law_total"]) fun _ _ _ _ _ _ us hl => match us, hl with | [_, _], _ => rfl
  have F3 := fun_mk (st := top 26) l3 c3 k3
  have b3 := F3.binds (ps := ["_law_m", "_law_most"]) fun _ _ _ _ _ _ us hl => match us, hl with | [_, _], _ => rfl
  have F4 := fun_mk (st := top 3) l4 c4 k4
  have b4 := F4.binds (ps := ["thing", "least", "most"]) fun _ _ _ _ _ _ us hl => match us, hl with | [_, _, _], _ => rfl
  have F5 := fun_mk (st := top 8) l5 c5 k5
  have b5 := F5.binds (ps := ["thing", "least"]) fun _ _ _ _ _ _ us hl => match us, hl with | [_, _], _ => rfl
  have F6 := fun_mk (st := top 9) l6 c6 k6
  have b6 := F6.binds (ps := ["loads"]) fun _ _ _ _ _ _ us hl => match us, hl with | [_], _ => rfl
  have F7 := fun_mk (st := top 10) l7 c7 k7
  have b7 := F7.binds (ps := ["loads", "pace"]) fun _ _ _ _ _ _ us hl => match us, hl with | [_, _], _ => rfl
  have F8 := fun_mk (st := top 11) l8 c8 k8
  have b8 := F8.binds (ps := ["thing"]) fun _ _ _ _ _ _ us hl => match us, hl with | [_], _ => rfl
  have F9 := fun_mk (st := top 12) l9 c9 k9
  have b9 := F9.binds (ps := ["row", "pace", "waiting"]) fun _ _ _ _ _ _ us hl => match us, hl with | [_, _, _], _ => rfl
  have F10 := fun_mk (st := top 18) l10 c10 k10
  have b10 := F10.binds (ps := ["loads", "pace"]) fun _ _ _ _ _ _ us hl => match us, hl with | [_, _], _ => rfl
  have F11 := fun_mk (st := top 14) l11 c11 k11
  have b11 := F11.binds (ps := ["loads", "pace"]) fun _ _ _ _ _ _ us hl => match us, hl with | [_, _], _ => rfl
  have F12 := fun_mk (st := top 13) l12 c12 k12
  have b12 := F12.binds (ps := ["row", "pace", "waiting"]) fun _ _ _ _ _ _ us hl => match us, hl with | [_, _, _], _ => rfl
  have F13 := fun_mk (st := top 15) l13 c13 k13
  have b13 := F13.binds (ps := ["loads", "pace", "number"]) fun _ _ _ _ _ _ us hl => match us, hl with | [_, _, _], _ => rfl
  have F14 := fun_mk (st := top 21) l14 c14 k14
  have b14 := F14.binds (ps := ["loads", "pace", "many"]) fun _ _ _ _ _ _ us hl => match us, hl with | [_, _, _], _ => rfl
  have F15 := fun_mk (st := top 16) l15 c15 k15
  have b15 := F15.binds (ps := ["loads", "pace", "beat"]) fun _ _ _ _ _ _ us hl => match us, hl with | [_, _, _], _ => rfl
  have F16 := fun_mk (st := top 17) l16 c16 k16
  have b16 := F16.binds (ps := ["loads", "pace", "beat"]) fun _ _ _ _ _ _ us hl => match us, hl with | [_, _, _], _ => rfl
  have F17 := fun_mk (st := top 25) l17 c17 k17
  have b17 := F17.binds (ps := ["_law_m", "_law_some"]) fun _ _ _ _ _ _ us hl => match us, hl with | [_, _], _ => rfl
  have F18 := fun_mk (st := top 27) l18 c18 k18
  have b18 := F18.binds (ps := ["_law_loads_here", "_law_beat"]) fun _ _ _ _ _ _ us hl => match us, hl with | [_, _], _ => rfl
  have F19 := fun_mk (st := top 28) l19 c19 k19
  have b19 := F19.binds (ps := ["_law_loads_here", "_law_pace", "_law_many"]) fun _ _ _ _ _ _ us hl => match us, hl with | [_, _, _], _ => rfl
  have F20 := fun_mk (st := top 29) l20 c20 k20
  have b20 := F20.binds (ps := ["_law_loads_here", "_law_pace"]) fun _ _ _ _ _ _ us hl => match us, hl with | [_, _], _ => rfl
  have F21 := fun_mk (st := top 30) l21 c21 k21
  have b21 := F21.binds (ps := ["_law_loads_here", "_law_pace", "_law_beat"]) fun _ _ _ _ _ _ us hl => match us, hl with | [_, _, _], _ => rfl
  have F22 := fun_mk (st := top 19) l22 c22 k22
  have b22 := F22.binds (ps := ["loads", "pace"]) fun _ _ _ _ _ _ us hl => match us, hl with | [_, _], _ => rfl
  have F23 := fun_mk (st := top 20) l23 c23 k23
  have b23 := F23.binds (ps := ["loads", "pace"]) fun _ _ _ _ _ _ us hl => match us, hl with | [_, _], _ => rfl
  have F24 := fun_mk (st := top 31) l24 c24 k24
  refine ⟨_, fun s v => (.of_eq rfl : BindsTo s (PySem.W.fnOf "law" "law" (defArgs (top 31)) (defBody (top 31)) (defScope (top 31)) .none kV24 dc24 pm24 an24 cd24 ct24) _ _), fun base _ _ => ?_⟩
  have L0 : Lv (ctOf K mg csts fs0) P w base 0 := Lv.nil
  have L1 : Lv (ctOf K mg csts fs1) P w base 1 := L0.add (fn_mk F1 s__law_begun L0 (Mod.mk' hb hc) m__law_begun (fun ds r _ z => z)) (PySem.W.mg_of X G a1) k1 b1 (by decide +kernel)
  have L2 : Lv (ctOf K mg csts fs2) P w base 2 := L1.add (fn_io F2 s__law_next L1 (Mod.mk' hb hc) m__law_next rfl (fun o ds r _ z => z)) (PySem.W.mg_of X G a2) k2 b2 (by decide +kernel)
  have L3 : Lv (ctOf K mg csts fs3) P w base 3 := L2.add (fn_io F3 s__law_loads L2 (Mod.mk' hb hc) m__law_loads rfl (fun o ds r _ z => z)) (PySem.W.mg_of X G a3) k3 b3 (by decide +kernel)
  have L4 : Lv (ctOf K mg csts fs4) P w base 4 := L3.add (fn_pure F4 s_is_whole L3 (Mod.mk' hb hc) m_is_whole (fun ds r _ z => z)) (PySem.W.mg_of X G a4) k4 b4 (by decide +kernel)
  have L5 : Lv (ctOf K mg csts fs5) P w base 5 := L4.add (fn_pure F5 s_are_loads L4 (Mod.mk' hb hc) m_are_loads (fun ds r _ z => z)) (PySem.W.mg_of X G a5) k5 b5 (by decide +kernel)
  have L6 : Lv (ctOf K mg csts fs6) P w base 6 := L5.add (fn_pure F6 s_need_loads L5 (Mod.mk' hb hc) m_need_loads (fun ds r _ z => z)) (PySem.W.mg_of X G a6) k6 b6 (by decide +kernel)
  have L7 : Lv (ctOf K mg csts fs7) P w base 7 := L6.add (fn_pure F7 s_need_pace L6 (Mod.mk' hb hc) m_need_pace (fun ds r _ z => z)) (PySem.W.mg_of X G a7) k7 b7 (by decide +kernel)
  have L8 : Lv (ctOf K mg csts fs8) P w base 8 := L7.add (fn_pure F8 s_need_number L7 (Mod.mk' hb hc) m_need_number (fun ds r _ z => z)) (PySem.W.mg_of X G a8) k8 b8 (by decide +kernel)
  have L9 : Lv (ctOf K mg csts fs9) P w base 9 := L8.add (fn_pure F9 s_film_of L8 (Mod.mk' hb hc) m_film_of (fun ds r _ z => z)) (PySem.W.mg_of X G a9) k9 b9 (by decide +kernel)
  have L10 : Lv (ctOf K mg csts fs10) P w base 10 := L9.add (fn_pure F10 s_long_film L9 (Mod.mk' hb hc) m_long_film (fun ds r _ z => z)) (PySem.W.mg_of X G a10) k10 b10 (by decide +kernel)
  have L11 : Lv (ctOf K mg csts fs11) P w base 11 := L10.add (fn_pure F11 s_growth L10 (Mod.mk' hb hc) m_growth (fun ds r _ z => z)) (PySem.W.mg_of X G a11) k11 b11 (by decide +kernel)
  have L12 : Lv (ctOf K mg csts fs12) P w base 12 := L11.add (fn_pure F12 s_end_of L11 (Mod.mk' hb hc) m_end_of (fun ds r _ z => z)) (PySem.W.mg_of X G a12) k12 b12 (by decide +kernel)
  have L13 : Lv (ctOf K mg csts fs13) P w base 13 := L12.add (fn_pure F13 s_before_ring L12 (Mod.mk' hb hc) m_before_ring (fun ds r _ z => z)) (PySem.W.mg_of X G a13) k13 b13 (by decide +kernel)
  have L14 : Lv (ctOf K mg csts fs14) P w base 14 := L13.add (fn_pure F14 s_first_late L13 (Mod.mk' hb hc) m_first_late (fun ds r _ z => z)) (PySem.W.mg_of X G a14) k14 b14 (by decide +kernel)
  have L15 : Lv (ctOf K mg csts fs15) P w base 15 := L14.add (fn_pure F15 s_late_at L14 (Mod.mk' hb hc) m_late_at (fun ds r _ z => z)) (PySem.W.mg_of X G a15) k15 b15 (by decide +kernel)
  have L16 : Lv (ctOf K mg csts fs16) P w base 16 := L15.add (fn_pure F16 s_late L15 (Mod.mk' hb hc) m_late (fun ds r _ z => z)) (PySem.W.mg_of X G a16) k16 b16 (by decide +kernel)
  have L17 : Lv (ctOf K mg csts fs17) P w base 17 := L16.add (fn_io F17 s__law_of L16 (Mod.mk' hb hc) m__law_of rfl (fun o ds r _ z => z)) (PySem.W.mg_of X G a17) k17 b17 (by decide +kernel)
  have L18 : Lv (ctOf K mg csts fs18) P w base 18 := L17.add (fn_pure F18 s__law_load L17 (Mod.mk' hb hc) m__law_load (fun ds r _ z => z)) (PySem.W.mg_of X G a18) k18 b18 (by decide +kernel)
  have L19 : Lv (ctOf K mg csts fs19) P w base 19 := L18.add (fn_pure F19 s__law_film L18 (Mod.mk' hb hc) m__law_film (fun ds r _ z => z)) (PySem.W.mg_of X G a19) k19 b19 (by decide +kernel)
  have L20 : Lv (ctOf K mg csts fs20) P w base 20 := L19.add (fn_pure F20 s__law_is_growing L19 (Mod.mk' hb hc) m__law_is_growing (fun ds r _ z => z)) (PySem.W.mg_of X G a20) k20 b20 (by decide +kernel)
  have L21 : Lv (ctOf K mg csts fs21) P w base 21 := L20.add (fn_pure F21 s__law_far L20 (Mod.mk' hb hc) m__law_far (fun ds r _ z => z)) (PySem.W.mg_of X G a21) k21 b21 (by decide +kernel)
  have L22 : Lv (ctOf K mg csts fs22) P w base 22 := L21.add (fn_pure F22 s_worst_in L21 (Mod.mk' hb hc) m_worst_in (fun ds r _ z => z)) (PySem.W.mg_of X G a22) k22 b22 (by decide +kernel)
  have L23 : Lv (ctOf K mg csts fs23) P w base 23 := L22.add (fn_pure F23 s_worst L22 (Mod.mk' hb hc) m_worst (fun ds r _ z => z)) (PySem.W.mg_of X G a23) k23 b23 (by decide +kernel)
  exact fn_pure F24 s_law L23 (Mod.mk' hb hc) m_law (fun ds r _ z => z)
end NW
open PySem PySem.W PyProof.Rows in
set_option maxRecDepth 100000 in
set_option maxHeartbeats 0 in
theorem PySem.Challenge.cw_notewire_k45_paces_far_away_holds : PySem.Challenge.rw_notewire_k45_paces_far_away.Holds := by
  w_on; o_law; k_head; (case hw => w_witness2)
  k_fill
  refine NW.walk_end (l := PySem.Challenge.rw_notewire_k45_paces_far_away) (cs := NW.csts) (fs := NW.fs23) (k := 24) (x := "_law_script") rfl rfl ⟨rfl, by decide, by decide⟩ (fun w h Y => PySem.W.kIn_of Y) NW.law_true ?F
  case F =>
    intro w mg fa h KX G hmg
    refine' NW.all_mk KX G hmg ?a1 ?l1 ?c1 ?k1 ?a2 ?l2 ?c2 ?k2 ?a3 ?l3 ?c3 ?k3 ?a4 ?l4 ?c4 ?k4 ?a5 ?l5 ?c5 ?k5 ?a6 ?l6 ?c6 ?k6 ?a7 ?l7 ?c7 ?k7 ?a8 ?l8 ?c8 ?k8 ?a9 ?l9 ?c9 ?k9 ?a10 ?l10 ?c10 ?k10 ?a11 ?l11 ?c11 ?k11 ?a12 ?l12 ?c12 ?k12 ?a13 ?l13 ?c13 ?k13 ?a14 ?l14 ?c14 ?k14 ?a15 ?l15 ?c15 ?k15 ?a16 ?l16 ?c16 ?k16 ?a17 ?l17 ?c17 ?k17 ?a18 ?l18 ?c18 ?k18 ?a19 ?l19 ?c19 ?k19 ?a20 ?l20 ?c20 ?k20 ?a21 ?l21 ?c21 ?k21 ?a22 ?l22 ?c22 ?k22 ?a23 ?l23 ?c23 ?k23 ?a24 ?l24 ?c24 ?k24 ?v0 ?v1 ?v2 ?z0 ?z1 ?z2 ?z3 ?z4 ?z5 ?z6 ?z7 ?z8 ?z9 ?z10 ?z11 ?z12 ?z13 ?z14 ?z15 ?z16 ?z17 ?z18 ?z19
    (case a1 => k_is)
    (case l1 => k_is)
    (case c1 => k_is)
    (case k1 => k_is)
    (case a2 => k_is)
    (case l2 => k_is)
    (case c2 => k_is)
    (case k2 => k_is)
    (case a3 => k_is)
    (case l3 => k_is)
    (case c3 => k_is)
    (case k3 => k_is)
    (case a4 => k_is)
    (case l4 => k_is)
    (case c4 => k_is)
    (case k4 => k_is)
    (case a5 => k_is)
    (case l5 => k_is)
    (case c5 => k_is)
    (case k5 => k_is)
    (case a6 => k_is)
    (case l6 => k_is)
    (case c6 => k_is)
    (case k6 => k_is)
    (case a7 => k_is)
    (case l7 => k_is)
    (case c7 => k_is)
    (case k7 => k_is)
    (case a8 => k_is)
    (case l8 => k_is)
    (case c8 => k_is)
    (case k8 => k_is)
    (case a9 => k_is)
    (case l9 => k_is)
    (case c9 => k_is)
    (case k9 => k_is)
    (case a10 => k_is)
    (case l10 => k_is)
    (case c10 => k_is)
    (case k10 => k_is)
    (case a11 => k_is)
    (case l11 => k_is)
    (case c11 => k_is)
    (case k11 => k_is)
    (case a12 => k_is)
    (case l12 => k_is)
    (case c12 => k_is)
    (case k12 => k_is)
    (case a13 => k_is)
    (case l13 => k_is)
    (case c13 => k_is)
    (case k13 => k_is)
    (case a14 => k_is)
    (case l14 => k_is)
    (case c14 => k_is)
    (case k14 => k_is)
    (case a15 => k_is)
    (case l15 => k_is)
    (case c15 => k_is)
    (case k15 => k_is)
    (case a16 => k_is)
    (case l16 => k_is)
    (case c16 => k_is)
    (case k16 => k_is)
    (case a17 => k_is)
    (case l17 => k_is)
    (case c17 => k_is)
    (case k17 => k_is)
    (case a18 => k_is)
    (case l18 => k_is)
    (case c18 => k_is)
    (case k18 => k_is)
    (case a19 => k_is)
    (case l19 => k_is)
    (case c19 => k_is)
    (case k19 => k_is)
    (case a20 => k_is)
    (case l20 => k_is)
    (case c20 => k_is)
    (case k20 => k_is)
    (case a21 => k_is)
    (case l21 => k_is)
    (case c21 => k_is)
    (case k21 => k_is)
    (case a22 => k_is)
    (case l22 => k_is)
    (case c22 => k_is)
    (case k22 => k_is)
    (case a23 => k_is)
    (case l23 => k_is)
    (case c23 => k_is)
    (case k23 => k_is)
    (case a24 => k_is)
    (case l24 => k_is)
    (case c24 => k_is)
    (case k24 => k_is)
    (case v0 => k_is)
    (case v1 => k_is)
    (case v2 => k_is)
    (case z0 => k_is)
    (case z1 => k_is)
    (case z2 => k_is)
    (case z3 => k_is)
    (case z4 => k_is)
    (case z5 => k_is)
    (case z6 => k_is)
    (case z7 => k_is)
    (case z8 => k_is)
    (case z9 => k_is)
    (case z10 => k_is)
    (case z11 => k_is)
    (case z12 => k_is)
    (case z13 => k_is)
    (case z14 => k_is)
    (case z15 => k_is)
    (case z16 => k_is)
    (case z17 => k_is)
    (case z18 => k_is)
    (case z19 => k_is)
end
