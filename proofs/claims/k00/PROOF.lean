import PyProof.Rows.All
import Wide.All
import OpenK.AllK
import Wide.FinOn
import HandS.ForMost
import HandS.Wide
import HandS.Deep
import HandS.Style
import HandS.IsInst
import HandS.ForExc
import HandS.TupAny
import HandS.TupMul
import HandS.TupLe
import HandS.Zip
import HandS.TryOnly
import HandS.DictComp
import HandS.WordsDict
import HandS.WordsExc
import HandS.Ends
import PySem.Challenge.RW_frameshold_k00_tables_and_least_rows
set_option Elab.async false
set_option linter.all false
set_option maxRecDepth 100000
set_option maxHeartbeats 8000000
set_option Elab.async false
set_option linter.all false
set_option maxRecDepth 100000
namespace PL
open PySem PySem.Spec PyProof.Rows L2

/-- pure values -/
inductive PV where
  | non | bl (b : Bool) | int (i : Int) | str (x : Str) | ty (n : String)
  | tup (xs : List PV) | lst (xs : List PV)
  | scr (xs : List Int)
  | obj (C : Str) (fs : List (Str × PV))

/-- what a slot owns -/
inductive Cell where
  | fz (p : PV)
  | lst (xs : List PV)
  | ls2 (xss : List (List PV))
  | obj (C : Str) (fs : List (Str × PV))
def Cell.pv : Cell → PV
  | .fz p => p
  | .lst xs => .lst xs
  | .ls2 xss => .lst (xss.map .lst)
  | .obj C fs => .obj C fs
abbrev Env := List (Option Cell)
inductive RV where
  | val (p : PV) | loc (j : Nat) | new (c : Cell)
inductive Arg where
  | val (p : PV) | own (c : Cell)

inductive Res (α : Type) where
  | ok (a : α) | exc (C : Str) (fs : List (Str × PV)) (env : Env) | stuck
@[inline] def Res.bind {α β : Type} (x : Res α) (f : α → Res β) : Res β := match x with
  | .ok a => f a
  | .exc C fs env => .exc C fs env
  | .stuck => .stuck
/-- what a call gives -/
inductive FRes where
  | ok (r : RV) (out : Option Cell) | exc (C : Str) (fs : List (Str × PV)) | stuck

inductive Bop | add | sub | mul | fdiv | mod | pow | shl | shr | band | bor | bxor
  deriving DecidableEq
inductive Cop | eq | ne | lt | le | gt | ge | is | isn | mem | nmem
  deriving DecidableEq

mutual
inductive E where
  | bad
  | var (i : Nat)
  | con (p : PV)
  | gco (x : Str)
  | bop (o : Bop) (a b : E)
  | neg (a : E)
  | not (a : E)
  | and (a b : E)
  | or (a b : E)
  | cmp (o : Cop) (a b : E)
  | chn (o o' : Cop) (a b c : E)
  | ite (t a b : E)
  | tup (es : Es)
  | lst (es : Es)
  | call (f : Str) (es : Es)
  | calm (f : Str) (i : Nat) (es : Es)
  | blt (f : Str) (es : Es)
  | mk (C : Str) (es : Es)
  | mth (m : Str) (o : E) (es : Es)
  | omt (m : Str) (o : E) (es : Es)
  | mthm (m : Str) (i : Nat) (es : Es)
  | att (o : E) (f : Str)
  | ix (o i : E)
  | sl (o : E) (lo hi : E)
  | lc (own : List Nat) (t : Tg) (it : E) (c : E) (e : E)
  | dlen (own : List Nat) (t : Tg) (it : E) (c : E) (k : E)
  | lc2 (own own2 : List Nat) (t : Tg) (it : E) (c : E) (t2 : Tg) (it2 : E) (c2 : E) (e : E)
inductive Es where
  | nil | cons (e : E) (es : Es)
/-- targets -/
inductive Tg where
  | nm (i : Nat) | tup (ts : Tgs) | ix (o i : E) | att (o : E) (f : Str)
inductive Tgs where
  | nil | cons (t : Tg) (ts : Tgs)
end

/-! reading -/
def get (env : Env) (i : Nat) : Option Cell := (env[i]?).join
/-- the value as it may be read -/
def rd (env : Env) : RV → Option PV
  | .val p => some p
  | .loc j => match get env j with
    | some (.ls2 _) => none
    | some c => some c.pv
    | none => none
  | .new c => match c with
    | .ls2 _ => none
    | c => some c.pv
/-- taken for good -/
def take : RV → Env → Option (PV × Env)
  | .val p, env => some (p, env)
  | .loc j, env => match get env j with
    | some c => some (c.pv, env.set j (some (.fz c.pv)))
    | none => none
  | .new c, env => some (c.pv, env)
end PL
set_option Elab.async false
set_option linter.all false
set_option maxRecDepth 100000
namespace PL
open PySem PySem.Spec PyProof.Rows L2

/-! ### what operations do with values -/
/-- a result: a plain value, a new tuple, a new list -/
inductive VR where
  | sc (p : PV) | tup (ps : List PV) | lst (ps : List PV)

mutual
def toD : PV → Option PyData
  | .non => some .none
  | .bl b => some (.bool b)
  | .int i => some (.int i)
  | .str x => some (.str x)
  | .ty _ => none
  | .tup xs => (toDs xs).map .tuple
  | .lst xs => (toDs xs).map .list
  | .scr _ => none
  | .obj _ _ => none
def toDs : List PV → Option (List PyData)
  | [] => some []
  | x :: xs => match toD x, toDs xs with
    | some d, some ds => some (d :: ds)
    | _, _ => none
end
/-- data that may be compared -/
def shp (p : PV) : Bool := match toD p with
  | some d => SeqAt.shaped d
  | none => false
def eqP (p q : PV) : Bool := match toD p, toD q with
  | some d, some e => PyData.eqv d e
  | _, _ => false

def mulOk (i j : Int) : Bool := decide (i.natAbs.log2 + j.natAbs.log2 < 100000000)

def bopV : Bop → PV → PV → Option VR
  | .add, .int i, .int j => some (.sc (.int (i + j)))
  | .sub, .int i, .int j => some (.sc (.int (i - j)))
  | .mul, .int i, .int j => if mulOk i j = true then some (.sc (.int (i * j))) else none
  | .fdiv, .int i, .int j => if j ≠ 0 ∧ Builtin.divisionGoesByPylong i j = false then some (.sc (.int (i.fdiv j))) else none
  | .mod, .int i, .int j => if j ≠ 0 then some (.sc (.int (i.fmod j))) else none
  | .pow, .int i, .int j => if 0 ≤ j ∧ j ≤ 1000000 ∧ i.natAbs < 2 ^ 64 then some (.sc (.int (i ^ j.toNat))) else none
  | .shl, .int i, .int j => if 0 ≤ j ∧ j ≤ 1000000 ∧ i.natAbs < 2 ^ 64 then some (.sc (.int (i * 2 ^ j.toNat))) else none
  | .shr, .int i, .int j => if 0 ≤ j then some (.sc (.int (i / 2 ^ j.toNat))) else none
  | .band, .int i, .int j => some (.sc (.int (Builtin.bitAnd i j)))
  | .add, .tup xs, .tup ys => if xs.length + ys.length ≤ sizeLine then some (.tup (xs ++ ys)) else none
  | .add, .lst xs, .lst ys => if xs.length + ys.length ≤ sizeLine then some (.lst (xs ++ ys)) else none
  | .mul, .lst xs, .int k => if -(2 ^ 63) ≤ k ∧ k < 2 ^ 63 ∧ xs.length * k.toNat ≤ sizeLine then some (.lst (List.replicate k.toNat xs).flatten) else none
  | .mul, .tup xs, .int k => if xs ≠ [] ∧ 2 ≤ k ∧ k ≤ 1000 ∧ xs.length ≤ 1000 then some (.tup (List.replicate k.toNat xs).flatten) else none
  | _, _, _ => none

def isNon : PV → Bool
  | .non => true
  | _ => false
/-- is c within items -/
def memP (xs : List PV) (p : PV) : Bool := xs.any fun z => eqP z p
def copV : Cop → PV → PV → Option Bool
  | .eq, p, q => if shp p = true ∧ shp q = true then some (eqP p q) else none
  | .ne, p, q => if shp p = true ∧ shp q = true then some (!eqP p q) else none
  | .lt, .int i, .int j => some (decide (i < j))
  | .le, .int i, .int j => some (decide (i ≤ j))
  | .gt, .int i, .int j => some (decide (j < i))
  | .ge, .int i, .int j => some (decide (j ≤ i))
  | .is, p, .non => some (isNon p)
  | .isn, p, .non => some (!isNon p)
  | .is, .bl a, .bl b => some (decide (a = b))
  | .isn, .bl a, .bl b => some (!decide (a = b))
  | .mem, p, .tup xs => if shp p = true ∧ shp (.tup xs) = true then some (memP xs p) else none
  | .mem, p, .lst xs => if shp p = true ∧ shp (.lst xs) = true then some (memP xs p) else none
  | .nmem, p, .tup xs => if shp p = true ∧ shp (.tup xs) = true then some (!memP xs p) else none
  | .nmem, p, .lst xs => if shp p = true ∧ shp (.lst xs) = true then some (!memP xs p) else none
  | _, _, _ => none

def truP : PV → Option Bool
  | .non => some false
  | .bl b => some b
  | .int i => some (i != 0)
  | .tup xs => some (!xs.isEmpty)
  | .lst xs => some (!xs.isEmpty)
  | _ => none
def lenP : PV → Option Nat
  | .tup xs => some xs.length
  | .lst xs => some xs.length
  | .scr xs => some xs.length
  | _ => none
def ixP : PV → PV → Option PV
  | .tup xs, .int i => atI xs i
  | .lst xs, .int i => atI xs i
  | _, _ => none
def cutP (xs : List PV) (lo hi : Option Int) : List PV := (xs.drop (HT.sIx xs.length 0 lo)).take (HT.sIx xs.length xs.length hi - HT.sIx xs.length 0 lo)
def slP : PV → Option Int → Option Int → Option VR
  | .tup xs, lo, hi => some (.tup (cutP xs lo hi))
  | .lst xs, lo, hi => some (.lst (cutP xs lo hi))
  | _, _, _ => none

def asInts : List PV → Option (List Int)
  | [] => some []
  | .int i :: r => (asInts r).map (i :: ·)
  | _ :: _ => none
def asBls : List PV → Option (List Bool)
  | [] => some []
  | .bl i :: r => (asBls r).map (i :: ·)
  | _ :: _ => none
/-- isinstance -/
def isiP (p : PV) (T : String) : Option Bool := match p, T with
  | .non, "int" => some false | .non, "bool" => some false | .non, "str" => some false | .non, "tuple" => some false | .non, "list" => some false | .non, "dict" => some false
  | .bl _, "int" => some true | .bl _, "bool" => some true | .bl _, "str" => some false | .bl _, "tuple" => some false | .bl _, "list" => some false | .bl _, "dict" => some false
  | .int _, "int" => some true | .int _, "bool" => some false | .int _, "str" => some false | .int _, "tuple" => some false | .int _, "list" => some false | .int _, "dict" => some false
  | .str _, "int" => some false | .str _, "bool" => some false | .str _, "str" => some true | .str _, "tuple" => some false | .str _, "list" => some false | .str _, "dict" => some false
  | .tup _, "int" => some false | .tup _, "bool" => some false | .tup _, "str" => some false | .tup _, "tuple" => some true | .tup _, "list" => some false | .tup _, "dict" => some false
  | .lst _, "int" => some false | .lst _, "bool" => some false | .lst _, "str" => some false | .lst _, "tuple" => some false | .lst _, "list" => some true | .lst _, "dict" => some false
  | _, _ => none
/-- the items of what is walked -/
def itemsP : PV → Option (List PV)
  | .tup xs => some xs
  | .lst xs => some xs
  | .scr xs => some (xs.map .int)
  | _ => none
end PL
set_option Elab.async false
set_option linter.all false
set_option maxRecDepth 100000
namespace PL
open PySem PySem.Spec PyProof.Rows L2

inductive Fl where
  | nx | bk | ct | rt (r : RV)
/-- what stands in an except suite -/
inductive Hd where
  | retc (p : PV) | retf (f : Str) | pass | cont
mutual
inductive S where
  | bad
  | expr (e : E)
  | asg (t : Tg) (e : E)
  | par2 (i j : Nat) (a b : E)
  | par3 (i j k : Nat) (a b c : E)
  | aug (i : Nat) (o : Bop) (e : E)
  | ite (t : E) (a b : Ss)
  | forr (t : Tg) (it : E) (b : Ss)
  | whl (t : E) (b : Ss)
  | ret (e : E)
  | retn
  | rai (C : Str)
  | raw (C : Str) (es : Es)
  | tri (b : Ss) (C : Str) (n : Option Nat) (h : Hd)
  | brk | cnt | pass
inductive Ss where
  | nil | cons (s : S) (ss : Ss)
end

/-! ### the heart of loops -/
def forGo (bind : PV → Env → Res Env) (body : Env → Res (Fl × Env)) : List PV → Env → Res (Fl × Env)
  | [], env => .ok (.nx, env)
  | x :: xs, env => (bind x env).bind fun e1 => (body e1).bind fun r => match r.1 with
    | .nx => forGo bind body xs r.2
    | .ct => forGo bind body xs r.2
    | .bk => .ok (.nx, r.2)
    | .rt v => .ok (.rt v, r.2)
def whN (test : Env → Res (Bool × Env)) (body : Env → Res (Fl × Env)) : Nat → Env → Option (Res (Fl × Env))
  | 0, _ => none
  | n + 1, env => match test env with
    | .ok (false, e1) => some (.ok (.nx, e1))
    | .ok (true, e1) => match body e1 with
      | .ok (.nx, e2) => whN test body n e2
      | .ok (.ct, e2) => whN test body n e2
      | .ok (.bk, e2) => some (.ok (.nx, e2))
      | .ok (.rt v, e2) => some (.ok (.rt v, e2))
      | .exc C fs e => some (.exc C fs e)
      | .stuck => some .stuck
    | .exc C fs e => some (.exc C fs e)
    | .stuck => some .stuck
open Classical in
noncomputable def whF (test : Env → Res (Bool × Env)) (body : Env → Res (Fl × Env)) (env : Env) : Res (Fl × Env) :=
  if h : ∃ r, ∃ n, whN test body n env = some r then h.choose else .stuck
theorem whN_mono {t b} : ∀ {n : Nat} {env : Env} {r}, whN t b n env = some r → whN t b (n + 1) env = some r
  | 0, _, _, h => by cases h
  | n + 1, env, r, h => by
    unfold whN at h ⊢
    cases ht : t env with
    | stuck => rw [ht] at h; exact h
    | exc C fs e => rw [ht] at h; exact h
    | ok q =>
      rw [ht] at h
      obtain ⟨c, e1⟩ := q
      cases c with
      | false => exact h
      | true =>
        simp only at h ⊢
        cases hb : b e1 with
        | stuck => rw [hb] at h; exact h
        | exc C fs e => rw [hb] at h; exact h
        | ok q =>
          rw [hb] at h
          obtain ⟨f, e2⟩ := q
          cases f with
          | nx => exact whN_mono (n := n) h
          | ct => exact whN_mono (n := n) h
          | bk => exact h
          | rt v => exact h
theorem whN_add {t b} {n : Nat} {env : Env} {r} (k : Nat) (h : whN t b n env = some r) : whN t b (n + k) env = some r := by
  induction k with
  | zero => exact h
  | succ k ih => exact whN_mono ih
theorem whN_inj {t b} {n m : Nat} {env : Env} {r q} (h : whN t b n env = some r) (h' : whN t b m env = some q) : r = q := by
  have a := whN_add m h
  have c := whN_add n h'
  rw [Nat.add_comm] at c
  rw [a] at c
  exact Option.some.inj c
theorem whF_of {t b} {n : Nat} {env : Env} {r} (h : whN t b n env = some r) : whF t b env = r := by
  unfold whF
  have e : ∃ r, ∃ n, whN t b n env = some r := ⟨r, n, h⟩
  rw [dif_pos e]
  obtain ⟨m, hm⟩ := e.choose_spec
  exact whN_inj hm h
theorem whF_not {t b} {env : Env} (h : ∀ n, whN t b n env = none) : whF t b env = .stuck := by
  unfold whF
  rw [dif_neg]
  rintro ⟨r, n, e⟩
  rw [h n] at e
  cases e
/-- one turn -/
theorem whF_eq (t b) (env : Env) : whF t b env = (t env).bind fun r => match r.1 with
    | false => .ok (.nx, r.2)
    | true => (b r.2).bind fun q => match q.1 with
      | .nx => whF t b q.2
      | .ct => whF t b q.2
      | .bk => .ok (.nx, q.2)
      | .rt v => .ok (.rt v, q.2) := by
  cases ht : t env with
  | stuck => exact whF_of (n := 1) (by simp [whN, ht, Res.bind])
  | exc C fs e => exact whF_of (n := 1) (by simp [whN, ht, Res.bind])
  | ok r =>
    obtain ⟨c, e1⟩ := r
    cases c with
    | false => exact whF_of (n := 1) (by simp [whN, ht, Res.bind])
    | true =>
      simp only [Res.bind]
      cases hb : b e1 with
      | stuck => exact whF_of (n := 1) (by simp [whN, ht, hb])
      | exc C fs e => exact whF_of (n := 1) (by simp [whN, ht, hb])
      | ok q =>
        obtain ⟨f, e2⟩ := q
        have key : ∀ (hf : f = .nx ∨ f = .ct), whF t b env = whF t b e2 := fun hf => by
          by_cases h : ∃ r, ∃ n, whN t b n e2 = some r
          · obtain ⟨r, n, h⟩ := h
            rw [whF_of h]
            refine whF_of (n := n + 1) ?_
            rcases hf with rfl | rfl <;> simp [whN, ht, hb, h]
          · have h1 : ∀ n, whN t b n e2 = none := fun n => by
              cases e : whN t b n e2 with
              | none => rfl
              | some r => exact absurd ⟨r, n, e⟩ h
            rw [whF_not h1]
            refine whF_not fun n => ?_
            cases n with
            | zero => rfl
            | succ n => rcases hf with rfl | rfl <;> simp [whN, ht, hb, h1 n]
        cases f with
        | nx => exact key (.inl rfl)
        | ct => exact key (.inr rfl)
        | bk => exact whF_of (n := 1) (by simp [whN, ht, hb])
        | rt v => exact whF_of (n := 1) (by simp [whN, ht, hb])

/-- a comprehension's turns -/
def lcGo (own : List Nat) (bind : PV → Env → Res Env) (test : Env → Res (Bool × Env)) (elt : Env → Res (PV × Env)) (wipe : Env → Env) : List PV → List PV → Env → Res (List PV × Env)
  | [], acc, env => .ok (acc, env)
  | x :: xs, acc, env => (bind x env).bind fun e1 => (test e1).bind fun b => match b.1 with
    | true => (elt b.2).bind fun r => lcGo own bind test elt wipe xs (acc ++ [r.1]) (wipe r.2)
    | false => lcGo own bind test elt wipe xs acc (wipe b.2)
/-- .. of two clauses -/
def lc2Go (own : List Nat) (bind : PV → Env → Res Env) (test : Env → Res (Bool × Env)) (inner : Env → List PV → Res (List PV × Env)) (wipe : Env → Env) : List PV → List PV → Env → Res (List PV × Env)
  | [], acc, env => .ok (acc, env)
  | x :: xs, acc, env => (bind x env).bind fun e1 => (test e1).bind fun b => match b.1 with
    | true => (inner b.2 acc).bind fun r => lc2Go own bind test inner wipe xs r.1 (wipe r.2)
    | false => lc2Go own bind test inner wipe xs acc (wipe b.2)
def wipeE (env : Env) : List Nat → Env
  | [] => env
  | i :: r => (wipeE env r).set i none
/-- the slots are free or bear plain values -/
def plainAt (env : Env) (own : List Nat) : Bool := own.all fun i => match get env i with
  | none => true
  | some (.fz _) => true
  | _ => false
def restore (old env : Env) : List Nat → Env
  | [] => env
  | i :: r => (restore old env r).set i (get old i)

/-- nothing is raised within -/
def Res.noexc {α : Type} : Res α → Res α
  | .exc _ _ _ => .stuck
  | r => r
def optR {α : Type} : Option α → Res α
  | some a => .ok a
  | none => .stuck
def mkV : VR → RV
  | .sc p => .val p
  | .tup ps => .val (.tup ps)
  | .lst ps => .new (.lst ps)
def rds (env : Env) : List RV → Option (List PV)
  | [] => some []
  | r :: rs => match rd env r, rds env rs with
    | some p, some ps => some (p :: ps)
    | _, _ => none
def zipP : List PV → List PV → List PV
  | x :: xs, y :: ys => .tup [x, y] :: zipP xs ys
  | _, _ => []
def enumP : Nat → List PV → List PV
  | _, [] => []
  | k, x :: xs => .tup [.int k, x] :: enumP (k + 1) xs
def rangeP (lo : Int) : Nat → List PV
  | 0 => []
  | n + 1 => .int lo :: rangeP (lo + 1) n
def bnd (i : Int) : Prop := -(2 ^ 62) ≤ i ∧ i < 2 ^ 62
instance (i : Int) : Decidable (bnd i) := inferInstanceAs (Decidable (_ ∧ _))

/-- what is called: a def, a method of a class -/
inductive Key where
  | fn (f : Str) | mt (C m : Str)
/-- what the program's own things mean -/
structure Sem where
  fn : Key → List Arg → FRes
  con : Str → Option PV
  sub : Str → Str → Option Bool

def putP (f : Str) (v : PV) : List (Str × PV) → List (Str × PV)
  | [] => [(f, v)]
  | (g, w) :: r => if f == g then (f, v) :: r else (g, w) :: putP f v r
/-- a builtin function of values -/
def bltV (f : Str) (ps : List PV) : Option VR :=
  if f = ("len" : Str) then (match ps with | [p] => (lenP p).map fun n => .sc (.int n) | _ => none)
  else if f = ("abs" : Str) then (match ps with | [.int i] => some (.sc (.int (if i < 0 then -i else i))) | _ => none)
  else if f = ("min" : Str) then (match ps with
    | [.int i, .int j] => some (.sc (.int (if j < i then j else i)))
    | [.lst xs] => match asInts xs with
      | some (n :: ns) => some (.sc (.int (ns.foldl min n)))
      | _ => none
    | _ => none)
  else if f = ("max" : Str) then (match ps with
    | [.int i, .int j] => some (.sc (.int (if j > i then j else i)))
    | [.lst xs] => match asInts xs with
      | some (n :: ns) => some (.sc (.int (ns.foldl max n)))
      | _ => none
    | _ => none)
  else if f = ("sum" : Str) then (match ps with | [.lst xs] => (asInts xs).map fun ns => .sc (.int ns.sum) | _ => none)
  else if f = ("all" : Str) then (match ps with | [.lst xs] => (asBls xs).map fun ns => .sc (.bl (ns.all id)) | _ => none)
  else if f = ("any" : Str) then (match ps with | [.lst xs] => (asBls xs).map fun ns => .sc (.bl (ns.any id)) | _ => none)
  else if f = ("tuple" : Str) then (match ps with
    | [.lst xs] => some (.tup xs)
    | [.tup xs] => some (.sc (.tup xs))
    | _ => none)
  else if f = ("list" : Str) then (match ps with
    | [.lst xs] => some (.lst xs)
    | [.tup xs] => some (.lst xs)
    | [.scr xs] => some (.lst (xs.map .int))
    | _ => none)
  else if f = ("int" : Str) then (match ps with | [.int i] => some (.sc (.int i)) | _ => none)
  else if f = ("isinstance" : Str) then (match ps with | [p, .ty T] => (isiP p T).map fun b => .sc (.bl b) | _ => none)
  else none

section
variable (F : Sem)
/-- a call's end: the result, what the lent slot holds -/
def endCall (i : Option Nat) (env : Env) : FRes → Res (RV × Env)
  | .ok r out => match i, out with
    | some j, some c => .ok (r, env.set j (some c))
    | none, none => .ok (r, env)
    | _, _ => .stuck
  | .exc C fs => match i with
    | some j => .exc C fs (env.set j none)
    | none => .exc C fs env
  | .stuck => .stuck
def isFz : Cell → Bool
  | .fz _ => true
  | _ => false
def lend (env : Env) (i : Nat) : Res Cell := match get env i with
  | some (.fz _) => .stuck
  | some c => .ok c
  | none => .stuck
def vals (ps : List PV) : List Arg := ps.map .val

/-- the three views of an expression: a value, a test, what is walked -/
structure Vw where
  e : Env → Res (RV × Env)
  t : Env → Res (Bool × Env)
  i : Env → Res (List PV × Env)
/-- a value's truth -/
def truV (e : Env → Res (RV × Env)) (env : Env) : Res (Bool × Env) := (e env).bind fun r => (optR (rd r.2 r.1)).bind fun p => (optR (truP p)).bind fun b => .ok (b, r.2)
/-- a value's items -/
def itsV (e : Env → Res (RV × Env)) (env : Env) : Res (List PV × Env) := (e env).bind fun r => (optR (take r.1 r.2)).bind fun r => (optR (itemsP r.1)).bind fun xs => .ok (xs, r.2)
def vw (e : Env → Res (RV × Env)) : Vw := ⟨e, truV e, itsV e⟩
/-- a method of a list: what it gives, the list behind it -/
def mthL (m : Str) (xs : List PV) (ps : List PV) : Option (PV × List PV) :=
      if m = ("append" : Str) then (match ps with
        | [p] => if xs.length < sizeLine then some (.non, xs ++ [p]) else none
        | _ => none)
      else if m = ("pop" : Str) then (match ps with
        | [] => (xs[xs.length - 1]?).map fun y => (y, xs.dropLast)
        | [.int i] => if -(2 ^ 63) ≤ i ∧ i < 2 ^ 63 then (match seqIndex? i xs.length with
          | some k => (xs[k]?).map fun y => (y, xs.eraseIdx k)
          | none => none) else none
        | _ => none)
      else none
/-- .. slot j's list, behind its arguments -/
def mthV (m : Str) (ts : Env → Res (List PV × Env)) (r : RV × Env) : Res (RV × Env) := match r.1 with
  | .loc j => match get r.2 j with
    | some (.lst _) => (ts r.2).bind fun q => match get q.2 j with
      | some (.lst xs) => (optR (mthL m xs q.1)).bind fun z => .ok (.val z.1, q.2.set j (some (.lst z.2)))
      | _ => .stuck
    | _ => .stuck
  | _ => .stuck
/-- a part of a slice -/
def parV (e : Env → Res (RV × Env)) (env : Env) : Res (Option Int × Env) := (e env).bind fun r => match r.1 with
  | .val (.int i) => .ok (some i, r.2)
  | _ => .stuck
def isNop : E → Bool
  | .con .non => true
  | _ => false
def parO (n : Bool) (e : Env → Res (RV × Env)) : Env → Res (Option Int × Env) := match n with
  | true => fun env => .ok (none, env)
  | false => parV e
def addK (ks : List Int) (k : Int) : List Int := if k ∈ ks then ks else ks ++ [k]
/-- the keys of a dict in the making -/
def dkGo (bind : PV → Env → Res Env) (test : Env → Res (Bool × Env)) (elt : Env → Res (RV × Env)) (wipe : Env → Env) : List PV → List Int → Env → Res (List Int × Env)
  | [], acc, env => .ok (acc, env)
  | x :: xs, acc, env => (bind x env).bind fun e1 => (test e1).bind fun b => match b.1 with
    | true => (elt b.2).bind fun r => match r.1 with
      | .val (.int k) => dkGo bind test elt wipe xs (addK acc k) (wipe r.2)
      | _ => .stuck
    | false => dkGo bind test elt wipe xs acc (wipe b.2)
def rngV (h : Env → Res (List RV × Env)) (env : Env) : Res (List PV × Env) := (h env).bind fun r => match r.1 with
  | [.val (.int j)] => if bnd j ∧ j.toNat ≤ sizeLine then .ok (rangeP 0 j.toNat, r.2) else .stuck
  | [.val (.int i), .val (.int j)] => if bnd i ∧ bnd j ∧ (j - i).toNat ≤ sizeLine then .ok (rangeP i (j - i).toNat, r.2) else .stuck
  | _ => .stuck
def zipV (h : Env → Res (List PV × Env)) (env : Env) : Res (List PV × Env) := (h env).bind fun r => match r.1 with
  | [.lst xs, .lst ys] => .ok (zipP xs ys, r.2)
  | [.tup xs, .tup ys] => .ok (zipP xs ys, r.2)
  | _ => .stuck
def enuV (h : Env → Res (List PV × Env)) (env : Env) : Res (List PV × Env) := (h env).bind fun r => match r.1 with
  | [.lst xs] => .ok (enumP 0 xs, r.2)
  | _ => .stuck
mutual
def ev : E → Vw
  | .bad => vw fun _ => .stuck
  | .var i => vw fun env => match get env i with
    | some (.fz p) => .ok (.val p, env)
    | some _ => .ok (.loc i, env)
    | none => .stuck
  | .con p => vw fun env => .ok (.val p, env)
  | .gco x => vw fun env => match F.con x with
    | some p => .ok (.val p, env)
    | none => .stuck
  | .bop o a b => vw fun env => ((ev a).e env).bind fun r => ((ev b).e r.2).bind fun q =>
    (optR (rd q.2 r.1)).bind fun x => (optR (rd q.2 q.1)).bind fun y => (optR (bopV o x y)).bind fun v => .ok (mkV v, q.2)
  | .neg a => vw fun env => ((ev a).e env).bind fun r => match r.1 with
    | .val (.int i) => .ok (.val (.int (-i)), r.2)
    | _ => .stuck
  | .not a => ⟨fun env => ((ev a).e env).bind fun r => match r.1 with
    | .val (.bl b) => .ok (.val (.bl (!b)), r.2)
    | _ => .stuck, fun env => ((ev a).t env).bind fun r => .ok (!r.1, r.2), fun _ => .stuck⟩
  | .and a b => ⟨fun env => ((ev a).e env).bind fun r => match r.1 with
    | .val (.bl true) => (ev b).e r.2
    | .val (.bl false) => .ok (.val (.bl false), r.2)
    | _ => .stuck, fun env => ((ev a).t env).bind fun r => match r.1 with
    | true => (ev b).t r.2
    | false => .ok (false, r.2), fun _ => .stuck⟩
  | .or a b => ⟨fun env => ((ev a).e env).bind fun r => match r.1 with
    | .val (.bl true) => .ok (.val (.bl true), r.2)
    | .val (.bl false) => (ev b).e r.2
    | _ => .stuck, fun env => ((ev a).t env).bind fun r => match r.1 with
    | true => .ok (true, r.2)
    | false => (ev b).t r.2, fun _ => .stuck⟩
  | .cmp o a b => vw fun env => ((ev a).e env).bind fun r => ((ev b).e r.2).bind fun q =>
    (optR (rd q.2 r.1)).bind fun x => (optR (rd q.2 q.1)).bind fun y => (optR (copV o x y)).bind fun v => .ok (.val (.bl v), q.2)
  | .chn o o' a b c => vw fun env => ((ev a).e env).bind fun r => ((ev b).e r.2).bind fun q =>
    (optR (rd q.2 r.1)).bind fun x => (optR (rd q.2 q.1)).bind fun y => (optR (copV o x y)).bind fun v => match v with
    | false => .ok (.val (.bl false), q.2)
    | true => ((ev c).e q.2).bind fun w => (optR (rd w.2 q.1)).bind fun y => (optR (rd w.2 w.1)).bind fun z =>
      (optR (copV o' y z)).bind fun v => .ok (.val (.bl v), w.2)
  | .ite t a b => ⟨fun env => ((ev t).t env).bind fun r => match r.1 with
    | true => (ev a).e r.2
    | false => (ev b).e r.2, fun _ => .stuck, itsV fun env => ((ev t).t env).bind fun r => match r.1 with
    | true => (ev a).e r.2
    | false => (ev b).e r.2⟩
  | .tup es => vw fun env => (evTs es env).bind fun r => .ok (.val (.tup r.1), r.2)
  | .lst es => vw fun env => (evTs es env).bind fun r => .ok (.new (.lst r.1), r.2)
  | .call f es => vw fun env => (evTs es env).bind fun r => endCall none r.2 (F.fn (.fn f) (vals r.1))
  | .calm f i es => vw fun env => match get env i with
    | none => .stuck
    | some (.fz _) => .stuck
    | some _ => (evTs es env).bind fun r => (lend r.2 i).bind fun c => endCall (some i) r.2 (F.fn (.fn f) (.own c :: vals r.1))
  | .blt f es => ⟨fun env => (evHs es env).bind fun r => (optR (rds r.2 r.1)).bind fun ps => (optR (bltV f ps)).bind fun v => .ok (mkV v, r.2),
    truV fun env => (evHs es env).bind fun r => (optR (rds r.2 r.1)).bind fun ps => (optR (bltV f ps)).bind fun v => .ok (mkV v, r.2),
    fun env => if f = ("range" : Str) then rngV (evHs es) env
      else if f = ("zip" : Str) then zipV (evTs es) env
      else if f = ("enumerate" : Str) then enuV (evTs es) env
      else itsV (fun env => (evHs es env).bind fun r => (optR (rds r.2 r.1)).bind fun ps => (optR (bltV f ps)).bind fun v => .ok (mkV v, r.2)) env⟩
  | .mk C es => vw fun env => (evTs es env).bind fun r => match F.fn (.mt C "__init__") (.own (.obj C []) :: vals r.1) with
    | .ok (.val .non) (some c) => .ok (.new c, r.2)
    | .exc C' fs => .exc C' fs r.2
    | _ => .stuck
  | .mth m o es => vw fun env => ((ev o).e env).bind fun r => mthV m (evTs es) r
  | .omt m o es => vw fun env => ((ev o).e env).bind fun r => (evTs es r.2).bind fun q => match rd q.2 r.1 with
    | some (.obj C fs) => endCall none q.2 (F.fn (.mt C m) (.val (.obj C fs) :: vals q.1))
    | _ => .stuck
  | .mthm m i es => vw fun env => match get env i with
    | none => .stuck
    | some (.fz _) => .stuck
    | some _ => (evTs es env).bind fun r => (lend r.2 i).bind fun c => match c with
      | .obj C fs => endCall (some i) r.2 (F.fn (.mt C m) (.own (.obj C fs) :: vals r.1))
      | _ => .stuck
  | .att o f => vw fun env => ((ev o).e env).bind fun r => (optR (rd r.2 r.1)).bind fun p => match p with
    | .obj _ fs => match fs.lookup f with
      | some v => .ok (.val v, r.2)
      | none => .stuck
    | _ => .stuck
  | .ix o i => vw fun env => ((ev o).e env).bind fun r => ((ev i).e r.2).bind fun q =>
    (optR (rd q.2 r.1)).bind fun x => (optR (rd q.2 q.1)).bind fun y => (optR (ixP x y)).bind fun v => .ok (.val v, q.2)
  | .sl o lo hi => vw fun env => ((ev o).e env).bind fun r => (parO (isNop lo) (ev lo).e r.2).bind fun l => (parO (isNop hi) (ev hi).e l.2).bind fun h =>
    (optR (rd h.2 r.1)).bind fun x => (optR (slP x l.1 h.1)).bind fun v => .ok (mkV v, h.2)
  | .lc own t it c e => vw fun env => ((ev it).i env).bind fun r => match plainAt r.2 own with
    | false => .stuck
    | true => (lcGo own (evTg t) (ev c).t (fun e1 => ((ev e).e e1).bind fun q => optR (take q.1 q.2)) (fun e1 => wipeE e1 own) r.1 [] (wipeE r.2 own)).noexc.bind fun q =>
      .ok (.new (.lst q.1), restore r.2 q.2 own)
  | .dlen own t it c k => vw fun env => ((ev it).i env).bind fun r => match plainAt r.2 own with
    | false => .stuck
    | true => (dkGo (evTg t) (ev c).t (ev k).e (fun e1 => wipeE e1 own) r.1 [] (wipeE r.2 own)).noexc.bind fun q =>
      .ok (.val (.int q.1.length), restore r.2 q.2 own)
  | .lc2 own own2 t it c t2 it2 c2 e => vw fun env => ((ev it).i env).bind fun r => match plainAt r.2 own with
    | false => .stuck
    | true => (lc2Go own (evTg t) (ev c).t (fun e1 acc => ((ev it2).i e1).bind fun s => lcGo own2 (evTg t2) (ev c2).t (fun e2 => ((ev e).e e2).bind fun q => optR (take q.1 q.2)) (fun e2 => wipeE e2 own2) s.1 acc (wipeE s.2 own2))
        (fun e1 => wipeE e1 own) r.1 [] (wipeE r.2 own)).noexc.bind fun q =>
      if q.1.length ≤ sizeLine then .ok (.new (.lst q.1), restore r.2 q.2 own) else .stuck
/-- values taken for good -/
def evTs : Es → Env → Res (List PV × Env)
  | .nil => fun env => .ok ([], env)
  | .cons e es => fun env => ((ev e).e env).bind fun r => (optR (take r.1 r.2)).bind fun r => (evTs es r.2).bind fun q => .ok (r.1 :: q.1, q.2)
/-- values that are looked at -/
def evHs : Es → Env → Res (List RV × Env)
  | .nil => fun env => .ok ([], env)
  | .cons e es => fun env => ((ev e).e env).bind fun r => (evHs es r.2).bind fun q => .ok (r.1 :: q.1, q.2)
/-- a value goes to a target -/
def evTg : Tg → PV → Env → Res Env
  | .nm i => fun p env => if i < env.length then .ok (env.set i (some (.fz p))) else .stuck
  | .tup ts => fun p env => match p with
    | .tup xs => evTgs ts xs env
    | _ => .stuck
  | .ix o i => fun p env => ((ev o).e env).bind fun r => match r.1 with
    | .loc j => ((ev i).e r.2).bind fun q => match q.1, get q.2 j with
      | .val (.int k), some (.lst xs) => match ixN xs.length k with
        | some n => .ok (q.2.set j (some (.lst (xs.set n p))))
        | none => .stuck
      | _, _ => .stuck
    | _ => .stuck
  | .att o f => fun p env => ((ev o).e env).bind fun r => match r.1 with
    | .loc j => match get r.2 j with
      | some (.obj C fs) => if fs.length < 1000 then .ok (r.2.set j (some (.obj C (putP f p fs)))) else .stuck
      | _ => .stuck
    | _ => .stuck
def evTgs : Tgs → List PV → Env → Res Env
  | .nil => fun xs env => match xs with
    | [] => .ok env
    | _ => .stuck
  | .cons t ts => fun xs env => match xs with
    | x :: xs => (evTg t x env).bind fun e1 => evTgs ts xs e1
    | [] => .stuck
end
/-! ### statements -/
/-- nothing lent: a loc is frozen -/
def settle : RV → Env → Option (RV × Env)
  | .loc j, env => match get env j with
    | some c => some (.val c.pv, env.set j (some (.fz c.pv)))
    | none => none
  | r, env => some (r, env)
def put (i : Nat) (r : RV) (env : Env) : Option Env := if i < env.length then (match r with
    | .val p => some (env.set i (some (.fz p)))
    | .new c => if i = 0 then none else some (env.set i (some c))
    | .loc _ => none) else none
/-- what a return hands over -/
def giveBack (r : RV) (env : Env) : Res (RV × Env) := match r with
  | .loc j => match get env j with
    | some (.fz p) => .ok (.val p, env)
    | some c => .ok (.new c, env.set j none)
    | none => .stuck
  | r => .ok (r, env)
def iopV : Bop → PV → PV → Option PV
  | .add, .int i, .int j => some (.int (i + j))
  | .sub, .int i, .int j => some (.int (i - j))
  | _, _, _ => none
def handle (h : Hd) (fs : List (Str × PV)) (env : Env) : Res (Fl × Env) := match h with
  | .retc p => .ok (.rt (.val p), env)
  | .retf f => match fs.lookup f with
    | some p => .ok (.rt (.val p), env)
    | none => .stuck
  | .pass => .ok (.nx, env)
  | .cont => .ok (.ct, env)
/-- a try's end -/
def tryEnd (C : Str) (n : Option Nat) (h : Hd) (r : Res (Fl × Env)) : Res (Fl × Env) := match r with
  | .exc C' fs e1 => match F.sub C' C with
    | some true => handle h fs (match n with | some i => e1.set i none | none => e1)
    | some false => .exc C' fs e1
    | none => .stuck
  | r => r
mutual
noncomputable def evS : S → Env → Res (Fl × Env)
  | .bad, _ => .stuck
  | .expr e, env => ((ev F e).e env).bind fun r => .ok (.nx, r.2)
  | .asg (.nm i) e, env => ((ev F e).e env).bind fun r => (optR (settle r.1 r.2)).bind fun r => (optR (put i r.1 r.2)).bind fun e1 => .ok (.nx, e1)
  | .asg t e, env => ((ev F e).e env).bind fun r => (optR (take r.1 r.2)).bind fun r => (evTg F t r.1 r.2).bind fun e1 => .ok (.nx, e1)
  | .par2 i j a b, env => ((ev F a).e env).bind fun r => ((ev F b).e r.2).bind fun q => (optR (settle r.1 q.2)).bind fun r => (optR (settle q.1 r.2)).bind fun q =>
    (optR (put i r.1 q.2)).bind fun e1 => (optR (put j q.1 e1)).bind fun e2 => .ok (.nx, e2)
  | .par3 i j k a b c, env => ((ev F a).e env).bind fun r => ((ev F b).e r.2).bind fun q => ((ev F c).e q.2).bind fun w => (optR (settle r.1 w.2)).bind fun r => (optR (settle q.1 r.2)).bind fun q => (optR (settle w.1 q.2)).bind fun w =>
    (optR (put i r.1 w.2)).bind fun e1 => (optR (put j q.1 e1)).bind fun e2 => (optR (put k w.1 e2)).bind fun e3 => .ok (.nx, e3)
  | .aug i o e, env => match get env i with
    | some (.fz p) => ((ev F e).e env).bind fun r => match r.1 with
      | .val q => (optR (iopV o p q)).bind fun v => (optR (put i (.val v) r.2)).bind fun e1 => .ok (.nx, e1)
      | _ => .stuck
    | _ => .stuck
  | .ite t a b, env => ((ev F t).t env).bind fun r => match r.1 with
    | true => evSs a r.2
    | false => evSs b r.2
  | .forr t it b, env => ((ev F it).i env).bind fun r => forGo (evTg F t) (evSs b) r.1 r.2
  | .whl t b, env => whF (ev F t).t (evSs b) env
  | .ret e, env => ((ev F e).e env).bind fun r => (giveBack r.1 r.2).bind fun q => .ok (.rt q.1, q.2)
  | .retn, env => .ok (.rt (.val .non), env)
  | .rai C, env => .exc C [] env
  | .raw _ _, _ => .stuck
  | .tri b C n h, env => tryEnd F C n h (evSs b env)
  | .brk, env => .ok (.bk, env)
  | .cnt, env => .ok (.ct, env)
  | .pass, env => .ok (.nx, env)
noncomputable def evSs : Ss → Env → Res (Fl × Env)
  | .nil, env => .ok (.nx, env)
  | .cons s ss, env => (evS s env).bind fun r => match r.1 with
    | .nx => evSs ss r.2
    | f => .ok (f, r.2)
end
end
/-- a def: its parameters, all its slots, its body -/
structure Def where
  np : Nat
  ns : Nat
  body : Ss
def cellOf : Arg → Cell
  | .val p => .fz p
  | .own c => c
def env0 (d : Def) (args : List Arg) : Env := args.map (fun a => some (cellOf a)) ++ List.replicate (d.ns - d.np) none
def isOwn : List Arg → Bool
  | .own _ :: _ => true
  | _ => false
def endDef (args : List Arg) : Res (Fl × Env) → FRes
  | .ok (.nx, env) => if isOwn args = true then (match get env 0 with | some c => if isFz c = true then .stuck else .ok (.val .non) (some c) | none => .stuck) else .ok (.val .non) none
  | .ok (.rt (.loc _), _) => .stuck
  | .ok (.rt r, env) => if isOwn args = true then (match get env 0 with | some c => if isFz c = true then .stuck else .ok r (some c) | none => .stuck) else .ok r none
  | .ok _ => .stuck
  | .exc C fs _ => .exc C fs
  | .stuck => .stuck
noncomputable def runD (F : Sem) (d : Def) (args : List Arg) : FRes := if args.length = d.np ∧ d.np ≤ d.ns then endDef args (evSs F d.body (env0 d args)) else .stuck
structure Prog where
  defs : Key → Option Def
  con : Str → Option PV
  sub : Str → Str → Option Bool
noncomputable def evF (P : Prog) : Nat → Key → List Arg → FRes
  | 0, _, _ => .stuck
  | n + 1, f, args => match P.defs f with
    | some d => runD ⟨evF P n, P.con, P.sub⟩ d args
    | none => .stuck
/-- the program's meaning where calls may go n deep -/
noncomputable abbrev Prog.sem (P : Prog) (n : Nat) : Sem := ⟨evF P n, P.con, P.sub⟩
end PL
set_option Elab.async false
set_option linter.all false
set_option maxRecDepth 100000
set_option maxHeartbeats 1000000
namespace PL
open PySem PySem.Spec PyProof.Rows L2
abbrev SlotV := List (Option V)
section
variable (K : PySem.W.Frag) (mg : Str → Option Value)
mutual
def Rp (S : Hp) : V → PV → Prop
  | v, .non => v = .non
  | v, .bl b => v = .bl b
  | v, .int i => v = .int i
  | v, .str x => v = .str x
  | v, .ty n => v = .ty n
  | v, .tup ps => ∃ a vs, v = .ref a ∧ SqT K S a vs ∧ Rps S vs ps
  | v, .lst ps => ∃ a vs, v = .ref a ∧ S a = some (.lst vs) ∧ Rps S vs ps
  | v, .scr ns => ∃ a, v = .ref a ∧ SqL K S a (ns.map V.int)
  | v, .obj C fs => ∃ a c dx gs, v = .ref a ∧ mg C = some (.ref c) ∧ S a = some (.ins c dx gs) ∧ Rpf S gs fs
def Rps (S : Hp) : List V → List PV → Prop
  | vs, [] => vs = []
  | vs, p :: ps => ∃ v r, vs = v :: r ∧ Rp S v p ∧ Rps S r ps
def Rpf (S : Hp) : List (Str × V) → List (Str × PV) → Prop
  | gs, [] => gs = []
  | gs, (f, p) :: ps => ∃ v r, gs = (f, v) :: r ∧ Rp S v p ∧ Rpf S r ps
end
def Rows2 (H S : Hp) : List Addr → List (List PV) → Prop
  | bs, [] => bs = []
  | bs, xs :: r => ∃ b bs' vs, bs = b :: bs' ∧ H b = some (.lst vs) ∧ Rps K mg S vs xs ∧ Rows2 H S bs' r
def CellOk (H S : Hp) (v : V) (c : Cell) (B : List Addr) : Prop := match c with
  | .fz p => Rp K mg S v p ∧ B = []
  | .lst xs => ∃ a vs, v = .ref a ∧ H a = some (.lst vs) ∧ Rps K mg S vs xs ∧ B = [a]
  | .ls2 xss => ∃ a bs, v = .ref a ∧ H a = some (.lst (bs.map .ref)) ∧ Rows2 K mg H S bs xss ∧ (a :: bs).Nodup ∧ B = a :: bs
  | .obj C fs => ∃ a c dx gs, v = .ref a ∧ mg C = some (.ref c) ∧ H a = some (.ins c dx gs) ∧ Rpf K mg S gs fs ∧ B = [a]
/-- as it may be read now: the root in H, what lies within in S -/
def Rp1 (H S : Hp) (v : V) (p : PV) : Prop := match p with
  | .lst ps => ∃ a vs, v = .ref a ∧ H a = some (.lst vs) ∧ Rps K mg S vs ps
  | .obj C fs => ∃ a c dx gs, v = .ref a ∧ mg C = some (.ref c) ∧ H a = some (.ins c dx gs) ∧ Rpf K mg S gs fs
  | p => Rp K mg S v p
end
abbrev Fp := Nat → List Addr
def Own (As : Fp) (b : Addr) : Prop := ∃ i, b ∈ As i
structure Stp (H S : Hp) (As : Fp) (H' S' : Hp) (As' : Fp) : Prop where
  same : Same S S'
  fr : ∀ b o, H b = some o → ¬ Own As b → H' b = some o
  own : ∀ b, Own As' b → Own As b ∨ H b = none
  new : ∀ b, S' b ≠ none → S b ≠ none ∨ Own As b ∨ H b = none
  anc : ∀ a r, As' 0 = a :: r → ∃ r', As 0 = a :: r'
structure Rel (K : PySem.W.Frag) (mg : Str → Option Value) (σ : SlotV) (env : Env) (H S : Hp) (As : Fp) : Prop where
  sub : Same S H
  len : σ.length = env.length
  cell : ∀ i c, get env i = some c → ∃ v, σ[i]? = some (some v) ∧ CellOk K mg H S v c (As i)
  emp : ∀ i, get env i = none → As i = []
  disj : ∀ i j a, i ≠ j → a ∈ As i → a ∉ As j
  free : ∀ a, Own As a → S a = none
def RvOk (K : PySem.W.Frag) (mg : Str → Option Value) (σ : SlotV) (H S : Hp) (As : Fp) (v : V) (rv : RV) (B : List Addr) : Prop := match rv with
  | .val p => Rp K mg S v p ∧ B = []
  | .loc j => σ[j]? = some (some v) ∧ B = []
  | .new c => CellOk K mg H S v c B ∧ ∀ b ∈ B, ¬ Own As b ∧ S b = none
section
variable {K : PySem.W.Frag} {mg : Str → Option Value} {H H' S S' H₀ S₀ H₁ S₁ : Hp} {As As' As₀ As₁ : Fp} {σ : SlotV} {env : Env}
theorem Same.sqT {a : Addr} {vs : List V} (e : Same S S') (h : SqT K S a vs) : SqT K S' a vs := by
  rcases h with (h | ⟨o, h⟩) | h
  · exact .inl (.inl (e _ _ h))
  · exact .inl (.inr ⟨o, e _ _ h⟩)
  · exact .inr h
theorem Same.sqL {a : Addr} {vs : List V} (e : Same S S') (h : SqL K S a vs) : SqL K S' a vs := e.seq h
mutual
theorem Rp.mono (e : Same S S') : ∀ (p : PV) (v : V), Rp K mg S v p → Rp K mg S' v p
  | .non, v, h => h
  | .bl _, v, h => h
  | .int _, v, h => h
  | .str _, v, h => h
  | .ty _, v, h => h
  | .tup ps, v, h => by
    unfold Rp at h ⊢
    obtain ⟨a, vs, rfl, h1, h2⟩ := h
    exact ⟨a, vs, rfl, Same.sqT e h1, Rps.mono e ps vs h2⟩
  | .lst ps, v, h => by
    unfold Rp at h ⊢
    obtain ⟨a, vs, rfl, h1, h2⟩ := h
    exact ⟨a, vs, rfl, e _ _ h1, Rps.mono e ps vs h2⟩
  | .scr ns, v, h => by
    unfold Rp at h ⊢
    obtain ⟨a, rfl, h1⟩ := h
    exact ⟨a, rfl, Same.sqL e h1⟩
  | .obj C fs, v, h => by
    unfold Rp at h ⊢
    obtain ⟨a, c, dx, gs, rfl, h0, h1, h2⟩ := h
    exact ⟨a, c, dx, gs, rfl, h0, e _ _ h1, Rpf.mono e fs gs h2⟩
theorem Rps.mono (e : Same S S') : ∀ (ps : List PV) (vs : List V), Rps K mg S vs ps → Rps K mg S' vs ps
  | [], vs, h => by unfold Rps at h ⊢; exact h
  | p :: ps, vs, h => by
    unfold Rps at h ⊢
    obtain ⟨v, r, rfl, h1, h2⟩ := h
    exact ⟨v, r, rfl, Rp.mono e p v h1, Rps.mono e ps r h2⟩
theorem Rpf.mono (e : Same S S') : ∀ (ps : List (Str × PV)) (vs : List (Str × V)), Rpf K mg S vs ps → Rpf K mg S' vs ps
  | [], vs, h => by unfold Rpf at h ⊢; exact h
  | (f, p) :: ps, vs, h => by
    unfold Rpf at h ⊢
    obtain ⟨v, r, rfl, h1, h2⟩ := h
    exact ⟨v, r, rfl, Rp.mono e p v h1, Rpf.mono e ps r h2⟩
end
theorem Rps.length : ∀ {ps : List PV} {vs : List V}, Rps K mg S vs ps → vs.length = ps.length
  | [], vs, h => by unfold Rps at h; subst h; rfl
  | p :: ps, vs, h => by
    unfold Rps at h
    obtain ⟨v, r, rfl, _, h2⟩ := h
    simp [Rps.length h2]
theorem Rps.get : ∀ {ps : List PV} {vs : List V} {i : Nat} {p : PV}, Rps K mg S vs ps → ps[i]? = some p → ∃ v, vs[i]? = some v ∧ Rp K mg S v p
  | [], vs, i, p, h, e => by simp at e
  | q :: ps, vs, 0, p, h, e => by
    unfold Rps at h
    obtain ⟨v, r, rfl, h1, _⟩ := h
    simp at e; subst e
    exact ⟨v, rfl, h1⟩
  | q :: ps, vs, i + 1, p, h, e => by
    unfold Rps at h
    obtain ⟨v, r, rfl, _, h2⟩ := h
    obtain ⟨w, e1, e2⟩ := Rps.get (i := i) (p := p) h2 (by simpa using e)
    exact ⟨w, by simpa using e1, e2⟩
theorem Rps.append : ∀ {ps qs : List PV} {vs ws : List V}, Rps K mg S vs ps → Rps K mg S ws qs → Rps K mg S (vs ++ ws) (ps ++ qs)
  | [], qs, vs, ws, h, h' => by unfold Rps at h; subst h; exact h'
  | p :: ps, qs, vs, ws, h, h' => by
    unfold Rps at h
    obtain ⟨v, r, rfl, h1, h2⟩ := h
    show Rps K mg S (v :: (r ++ ws)) (p :: (ps ++ qs))
    unfold Rps
    exact ⟨v, r ++ ws, rfl, h1, Rps.append h2 h'⟩
theorem Rps.nil : Rps K mg S [] [] := by unfold Rps; rfl
theorem Rps.cons {v : V} {vs : List V} {p : PV} {ps : List PV} (h : Rp K mg S v p) (h' : Rps K mg S vs ps) : Rps K mg S (v :: vs) (p :: ps) := by
  unfold Rps; exact ⟨v, vs, rfl, h, h'⟩
theorem Rps.uncons {vs : List V} {p : PV} {ps : List PV} (h : Rps K mg S vs (p :: ps)) : ∃ v r, vs = v :: r ∧ Rp K mg S v p ∧ Rps K mg S r ps := by
  unfold Rps at h; exact h
theorem Rps.drop : ∀ {n : Nat} {ps : List PV} {vs : List V}, Rps K mg S vs ps → Rps K mg S (vs.drop n) (ps.drop n)
  | 0, ps, vs, h => h
  | n + 1, [], vs, h => by unfold Rps at h; subst h; simp; exact Rps.nil
  | n + 1, p :: ps, vs, h => by
    obtain ⟨v, r, rfl, _, h2⟩ := h.uncons
    exact Rps.drop (n := n) h2
theorem Rps.take : ∀ {n : Nat} {ps : List PV} {vs : List V}, Rps K mg S vs ps → Rps K mg S (vs.take n) (ps.take n)
  | 0, ps, vs, h => Rps.nil
  | n + 1, [], vs, h => by unfold Rps at h; subst h; simp; exact Rps.nil
  | n + 1, p :: ps, vs, h => by
    obtain ⟨v, r, rfl, h1, h2⟩ := h.uncons
    exact Rps.cons h1 (Rps.take (n := n) h2)
theorem Rps.set : ∀ {i : Nat} {ps : List PV} {vs : List V} {v : V} {p : PV}, Rps K mg S vs ps → Rp K mg S v p → Rps K mg S (vs.set i v) (ps.set i p)
  | i, [], vs, v, p, h, h' => by unfold Rps at h; subst h; simp; exact Rps.nil
  | 0, q :: ps, vs, v, p, h, h' => by
    obtain ⟨w, r, rfl, h1, h2⟩ := h.uncons
    exact Rps.cons h' h2
  | i + 1, q :: ps, vs, v, p, h, h' => by
    obtain ⟨w, r, rfl, h1, h2⟩ := h.uncons
    exact Rps.cons h1 (Rps.set (i := i) h2 h')
theorem Rps.eraseIdx : ∀ {i : Nat} {ps : List PV} {vs : List V}, Rps K mg S vs ps → Rps K mg S (vs.eraseIdx i) (ps.eraseIdx i)
  | i, [], vs, h => by unfold Rps at h; subst h; simp; exact Rps.nil
  | 0, q :: ps, vs, h => by
    obtain ⟨w, r, rfl, h1, h2⟩ := h.uncons
    exact h2
  | i + 1, q :: ps, vs, h => by
    obtain ⟨w, r, rfl, h1, h2⟩ := h.uncons
    exact Rps.cons h1 (Rps.eraseIdx (i := i) h2)
theorem Rps.dropLast {ps : List PV} {vs : List V} (h : Rps K mg S vs ps) : Rps K mg S vs.dropLast ps.dropLast := by
  rw [List.dropLast_eq_take, List.dropLast_eq_take, h.length]
  exact h.take
theorem Rps.ints : ∀ (ns : List Int), Rps K mg S (ns.map V.int) (ns.map PV.int)
  | [] => Rps.nil
  | n :: ns => Rps.cons (show Rp K mg S (.int n) (.int n) by unfold Rp; rfl) (Rps.ints ns)
theorem Rps.asInts : ∀ {ps : List PV} {vs : List V} {ns : List Int}, Rps K mg S vs ps → asInts ps = some ns → vs = ns.map V.int
  | [], vs, ns, h, e => by unfold Rps at h; cases e; exact h
  | p :: ps, vs, ns, h, e => by
    obtain ⟨v, r, rfl, h1, h2⟩ := h.uncons
    cases p with
    | int i =>
      simp only [PL.asInts, Option.map_eq_some_iff] at e
      obtain ⟨ms, e1, rfl⟩ := e
      unfold Rp at h1
      rw [h1, Rps.asInts h2 e1]
      rfl
    | _ => simp [PL.asInts] at e
theorem Rps.asBls : ∀ {ps : List PV} {vs : List V} {ns : List Bool}, Rps K mg S vs ps → asBls ps = some ns → vs = ns.map V.bl
  | [], vs, ns, h, e => by unfold Rps at h; cases e; exact h
  | p :: ps, vs, ns, h, e => by
    obtain ⟨v, r, rfl, h1, h2⟩ := h.uncons
    cases p with
    | bl i =>
      simp only [PL.asBls, Option.map_eq_some_iff] at e
      obtain ⟨ms, e1, rfl⟩ := e
      unfold Rp at h1
      rw [h1, Rps.asBls h2 e1]
      rfl
    | _ => simp [PL.asBls] at e
mutual
theorem Rp.dp : ∀ (p : PV) (v : V) (d : PyData), Rp K mg H v p → toD p = some d → Dp K H v d
  | .non, v, d, h, e => by unfold Rp at h; unfold toD at e; cases e; subst h; exact .non
  | .bl _, v, d, h, e => by unfold Rp at h; unfold toD at e; cases e; subst h; exact .bl _
  | .int _, v, d, h, e => by unfold Rp at h; unfold toD at e; cases e; subst h; exact .int _
  | .str _, v, d, h, e => by unfold Rp at h; unfold toD at e; cases e; subst h; exact .str _
  | .ty _, v, d, h, e => by unfold toD at e; cases e
  | .scr _, v, d, h, e => by unfold toD at e; cases e
  | .obj _ _, v, d, h, e => by unfold toD at e; cases e
  | .tup ps, v, d, h, e => by
    unfold Rp at h
    obtain ⟨a, vs, rfl, h1, h2⟩ := h
    unfold toD at e
    simp only [Option.map_eq_some_iff] at e
    obtain ⟨ds, e1, rfl⟩ := e
    exact .tup h1 (Rps.dp ps vs ds h2 e1)
  | .lst ps, v, d, h, e => by
    unfold Rp at h
    obtain ⟨a, vs, rfl, h1, h2⟩ := h
    unfold toD at e
    simp only [Option.map_eq_some_iff] at e
    obtain ⟨ds, e1, rfl⟩ := e
    exact .lst (SqL.of h1) (Rps.dp ps vs ds h2 e1)
theorem Rps.dp : ∀ (ps : List PV) (vs : List V) (ds : List PyData), Rps K mg H vs ps → toDs ps = some ds → DpAll K H vs ds
  | [], vs, ds, h, e => by unfold Rps at h; unfold toDs at e; cases e; subst h; exact .nil
  | p :: ps, vs, ds, h, e => by
    obtain ⟨v, r, rfl, h1, h2⟩ := h.uncons
    unfold toDs at e
    split at e
    · rename_i d ds' e1 e2
      cases e
      exact .cons (Rp.dp p v d h1 e1) (Rps.dp ps r ds' h2 e2)
    · cases e
end
theorem Rp1.rp (sub : Same S H) {v : V} {p : PV} (h : Rp1 K mg H S v p) : Rp K mg H v p := by
  cases p with
  | lst ps =>
    obtain ⟨a, vs, rfl, h1, h2⟩ := h
    unfold Rp
    exact ⟨a, vs, rfl, h1, Rps.mono sub _ _ h2⟩
  | obj C fs =>
    obtain ⟨a, c, dx, gs, rfl, h0, h1, h2⟩ := h
    unfold Rp
    exact ⟨a, c, dx, gs, rfl, h0, h1, Rpf.mono sub _ _ h2⟩
  | _ => exact Rp.mono sub _ _ h
theorem Rp.rp1 (sub : Same S H) {v : V} {p : PV} (h : Rp K mg S v p) : Rp1 K mg H S v p := by
  cases p with
  | lst ps =>
    unfold Rp at h
    obtain ⟨a, vs, rfl, h1, h2⟩ := h
    exact ⟨a, vs, rfl, sub _ _ h1, h2⟩
  | obj C fs =>
    unfold Rp at h
    obtain ⟨a, c, dx, gs, rfl, h0, h1, h2⟩ := h
    exact ⟨a, c, dx, gs, rfl, h0, sub _ _ h1, h2⟩
  | _ => exact h
theorem Rows2.fr : ∀ {xss : List (List PV)} {bs : List Addr}, Rows2 K mg H S bs xss → (∀ b ∈ bs, H' b = H b) → Same S S' → Rows2 K mg H' S' bs xss
  | [], bs, h, _, _ => h
  | xs :: r, bs, h, hk, e => by
    obtain ⟨b, bs', vs, rfl, h1, h2, h3⟩ := h
    exact ⟨b, bs', vs, rfl, (hk b List.mem_cons_self).trans h1, Rps.mono e _ _ h2, h3.fr (fun c hc => hk c (List.mem_cons_of_mem _ hc)) e⟩
/-- a cell's objects untouched -/
theorem CellOk.fr {v : V} {c : Cell} {B : List Addr} (h : CellOk K mg H S v c B) (hk : ∀ b ∈ B, H' b = H b) (e : Same S S') : CellOk K mg H' S' v c B := by
  cases c with
  | fz p => exact ⟨Rp.mono e _ _ h.1, h.2⟩
  | lst xs =>
    obtain ⟨a, vs, rfl, h1, h2, rfl⟩ := h
    exact ⟨a, vs, rfl, (hk a List.mem_cons_self).trans h1, Rps.mono e _ _ h2, rfl⟩
  | ls2 xss =>
    obtain ⟨a, bs, rfl, h1, h2, h3, rfl⟩ := h
    exact ⟨a, bs, rfl, (hk a List.mem_cons_self).trans h1, h2.fr (fun b hb => hk b (List.mem_cons_of_mem _ hb)) e, h3, rfl⟩
  | obj C fs =>
    obtain ⟨a, c, dx, gs, rfl, h0, h1, h2, rfl⟩ := h
    exact ⟨a, c, dx, gs, rfl, h0, (hk a List.mem_cons_self).trans h1, Rpf.mono e _ _ h2, rfl⟩
theorem Rows2.there : ∀ {xss : List (List PV)} {bs : List Addr}, Rows2 K mg H S bs xss → ∀ b ∈ bs, H b ≠ none
  | [], bs, h, b, hb => by
    have h' : bs = [] := h
    subst h'; cases hb
  | xs :: r, bs, h, b, hb => by
    obtain ⟨b', bs', vs, rfl, h1, h2, h3⟩ := h
    rcases List.mem_cons.mp hb with rfl | hb
    · rw [h1]; simp
    · exact h3.there b hb
theorem CellOk.there {v : V} {c : Cell} {B : List Addr} (h : CellOk K mg H S v c B) : ∀ b ∈ B, H b ≠ none := by
  intro b hb
  cases c with
  | fz p => rw [h.2] at hb; cases hb
  | lst xs =>
    obtain ⟨a, vs, rfl, h1, h2, rfl⟩ := h
    obtain rfl : b = a := by simpa using hb
    rw [h1]; simp
  | ls2 xss =>
    obtain ⟨a, bs, rfl, h1, h2, h3, rfl⟩ := h
    rcases List.mem_cons.mp hb with rfl | hb
    · rw [h1]; simp
    · exact h2.there b hb
  | obj C fs =>
    obtain ⟨a, c, dx, gs, rfl, h0, h1, h2, rfl⟩ := h
    obtain rfl : b = a := by simpa using hb
    rw [h1]; simp
theorem Rel.there (R : Rel K mg σ env H S As) {b : Addr} (h : Own As b) : H b ≠ none := by
  obtain ⟨i, hi⟩ := h
  cases e : get env i with
  | none => rw [R.emp i e] at hi; cases hi
  | some c =>
    obtain ⟨v, _, hc⟩ := R.cell i c e
    exact hc.there b hi
theorem Stp.refl : Stp H S As H S As := ⟨Same.refl _, fun _ _ h _ => h, fun _ h => .inl h, fun _ h => .inl h, fun _ r h => ⟨r, h⟩⟩
theorem Stp.trans (a : Stp H₀ S₀ As₀ H₁ S₁ As₁) (b : Stp H₁ S₁ As₁ H S As) : Stp H₀ S₀ As₀ H S As where
  same := a.same.trans b.same
  anc := fun x r h => let ⟨r1, h1⟩ := b.anc x r h; a.anc x r1 h1
  fr := fun c o h n => b.fr c o (a.fr c o h n) fun z => (a.own c z).elim n fun q => by rw [q] at h; cases h
  own := fun c h => (b.own c h).elim (a.own c) fun q => by
    cases e : H₀ c with
    | none => exact .inr rfl
    | some o =>
      by_cases n : Own As₀ c
      · exact .inl n
      · rw [a.fr c o e n] at q; cases q
  new := fun c h => (b.new c h).elim (a.new c) fun q => q.elim (fun z => .inr (a.own c z)) fun q => by
    cases e : H₀ c with
    | none => exact .inr (.inr rfl)
    | some o =>
      by_cases n : Own As₀ c
      · exact .inr (.inl n)
      · rw [a.fr c o e n] at q; cases q
/-- a pending value stands -/
theorem RvOk.stp {v : V} {rv : RV} {B : List Addr} (h : RvOk K mg σ H S As v rv B) (s : Stp H S As H' S' As') : RvOk K mg σ H' S' As' v rv B := by
  cases rv with
  | val p => exact ⟨Rp.mono s.same _ _ h.1, h.2⟩
  | loc j => exact h
  | new c =>
    obtain ⟨h1, h2⟩ := h
    have keep : ∀ b ∈ B, H' b = H b := fun b hb => by
      cases e : H b with
      | none => exact absurd e (h1.there b hb)
      | some o => exact s.fr b o e (h2 b hb).1
    refine ⟨h1.fr keep s.same, fun b hb => ⟨fun z => ?_, ?_⟩⟩
    · rcases s.own b z with z | z
      · exact (h2 b hb).1 z
      · exact h1.there b hb z
    · cases e : S' b with
      | none => rfl
      | some o =>
        rcases s.new b (by rw [e]; simp) with z | z | z
        · exact absurd (h2 b hb).2 z
        · exact absurd z (h2 b hb).1
        · exact absurd z (h1.there b hb)
theorem get_set_same {env : Env} {i : Nat} {c : Option Cell} (h : i < env.length) : get (env.set i c) i = c := by
  unfold get; rw [List.getElem?_set_self h]; rfl
theorem get_set_ne {env : Env} {i j : Nat} {c : Option Cell} (h : i ≠ j) : get (env.set i c) j = get env j := by
  unfold get; rw [List.getElem?_set_ne h]
theorem get_lt {env : Env} {i : Nat} {c : Cell} (h : get env i = some c) : i < env.length := by
  unfold get at h
  cases e : env[i]? with
  | none => rw [e] at h; cases h
  | some x => exact (List.getElem?_eq_some_iff.mp e).1
def updF (As : Fp) (i : Nat) (B : List Addr) : Fp := fun j => if j = i then B else As j
theorem updF_same {i : Nat} {B : List Addr} : updF As i B i = B := if_pos rfl
theorem updF_anc {i : Nat} {a : Addr} {r : List Addr} (h : updF As i [] 0 = a :: r) : ∃ r', As 0 = a :: r' := by
  by_cases e : 0 = i
  · subst e; rw [show updF As 0 [] 0 = [] from if_pos rfl] at h; cases h
  · rw [show updF As i [] 0 = As 0 from if_neg e] at h; exact ⟨r, h⟩
theorem updF_ne {i j : Nat} {B : List Addr} (h : j ≠ i) : updF As i B j = As j := if_neg h
/-- a slot gets another value, the heap changes at that slot's objects and new ones alone -/
theorem Rel.chg (R : Rel K mg σ env H S As) {i : Nat} {v : V} {c : Option Cell} {B : List Addr} (hi : i < env.length) (sub : Same S' H') (hs : Same S S') (hk : ∀ j b, j ≠ i → b ∈ As j → H' b = H b)
    (hS : ∀ j b, j ≠ i → b ∈ As j → S' b = none) (hc : match c with | some c => CellOk K mg H' S' v c B | none => B = []) (hB : ∀ b ∈ B, (∀ j, j ≠ i → b ∉ As j) ∧ S' b = none) :
    Rel K mg (σ.set i (some v)) (env.set i c) H' S' (updF As i B) := by
  refine ⟨sub, by simp [R.len], fun j c' e => ?_, fun j e => ?_, fun j k a n h1 h2 => ?_, fun a h => ?_⟩
  · by_cases hj : j = i
    · subst hj
      rw [get_set_same hi] at e
      subst e
      exact ⟨v, List.getElem?_set_self (by rw [R.len]; exact hi), by rw [updF_same]; exact hc⟩
    · rw [get_set_ne (Ne.symm hj)] at e
      obtain ⟨w, e1, e2⟩ := R.cell j c' e
      exact ⟨w, by rw [List.getElem?_set_ne (Ne.symm hj)]; exact e1, by rw [updF_ne hj]; exact e2.fr (fun b hb => hk j b hj hb) hs⟩
  · by_cases hj : j = i
    · subst hj
      rw [get_set_same hi] at e
      subst e
      rw [updF_same]
      exact hc
    · rw [get_set_ne (Ne.symm hj)] at e
      rw [updF_ne hj]; exact R.emp j e
  · by_cases hj : j = i
    · subst hj
      rw [updF_same] at h1
      rw [updF_ne (Ne.symm n)] at h2
      exact (hB a h1).1 k (Ne.symm n) h2
    · rw [updF_ne hj] at h1
      by_cases hk' : k = i
      · subst hk'
        rw [updF_same] at h2
        exact (hB a h2).1 j hj h1
      · rw [updF_ne hk'] at h2
        exact R.disj j k a n h1 h2
  · obtain ⟨j, hj⟩ := h
    by_cases e : j = i
    · subst e
      rw [updF_same] at hj
      exact (hB a hj).2
    · rw [updF_ne e] at hj
      exact hS j a e hj
/-- the heaps grow, nothing of the slots changes -/
theorem Rel.grow (R : Rel K mg σ env H S As) (sub : Same S' H') (hs : Same S S') (hk : ∀ b, Own As b → H' b = H b) (hS : ∀ b, Own As b → S' b = none) : Rel K mg σ env H' S' As :=
  ⟨sub, R.len, fun i c e => let ⟨v, e1, e2⟩ := R.cell i c e; ⟨v, e1, e2.fr (fun b hb => hk b ⟨i, hb⟩) hs⟩, R.emp, R.disj, fun a h => hS a h⟩
theorem same_upd {p : Addr} {o : HO} (h : H p = none) : Same H (upd H p o) := fun b x e => by
  rw [upd_ne (ne_of_none e h)]; exact e
theorem Same.free' (sub : Same S H) {p : Addr} (h : H p = none) : S p = none := sub.free h
/-- a new plain thing -/
theorem Rel.lay (R : Rel K mg σ env H S As) {p : Addr} {o : HO} (h : H p = none) : Rel K mg σ env (upd H p o) (upd S p o) As ∧ Stp H S As (upd H p o) (upd S p o) As := by
  have hS : S p = none := R.sub.free h
  have np : ∀ b, Own As b → b ≠ p := fun b hb e => R.there hb (by rw [e]; exact h)
  refine ⟨R.grow (fun b x e => ?_) (same_upd hS) (fun b hb => upd_ne (np b hb)) fun b hb => ?_, same_upd hS, fun b x e _ => (same_upd h) b x e, fun b hb => .inl hb, fun b hb => ?_, fun _ r h => ⟨r, h⟩⟩
  · by_cases q : b = p
    · subst q; rw [upd_same] at e ⊢; exact e
    · rw [upd_ne q] at e ⊢; exact R.sub b x e
  · rw [upd_ne (np b hb)]; exact R.free b hb
  · by_cases q : b = p
    · subst q; exact .inr (.inr h)
    · rw [upd_ne q] at hb; exact .inl hb
/-- a new thing that is owned by nobody yet -/
theorem Rel.layN (R : Rel K mg σ env H S As) {p : Addr} {o : HO} (h : H p = none) : Rel K mg σ env (upd H p o) S As ∧ Stp H S As (upd H p o) S As := by
  have np : ∀ b, Own As b → b ≠ p := fun b hb e => R.there hb (by rw [e]; exact h)
  exact ⟨R.grow (R.sub.trans (same_upd h)) (Same.refl _) (fun b hb => upd_ne (np b hb)) fun b hb => R.free b hb, Same.refl _, fun b x e _ => (same_upd h) b x e, fun b hb => .inl hb, fun b hb => .inl hb, fun _ r h => ⟨r, h⟩⟩
theorem Rel.rd (R : Rel K mg σ env H S As) {v : V} {rv : RV} {B : List Addr} {p : PV} (h : RvOk K mg σ H S As v rv B) (e : rd env rv = some p) : Rp1 K mg H S v p := by
  have cellCase : ∀ {c : Cell} {B : List Addr} {w : V}, CellOk K mg H S w c B → (∀ x, c ≠ .ls2 x) → Rp1 K mg H S w c.pv := fun {c B w} hc n => by
    cases c with
    | fz q => exact hc.1.rp1 R.sub
    | lst xs => obtain ⟨a, vs, h1, h2, h3, _⟩ := hc; exact ⟨a, vs, h1, h2, h3⟩
    | ls2 xs => exact absurd rfl (n xs)
    | obj C fs => obtain ⟨a, c, dx, gs, h1, h0, h2, h3, _⟩ := hc; exact ⟨a, c, dx, gs, h1, h0, h2, h3⟩
  cases rv with
  | val q =>
    simp only [PL.rd, Option.some.injEq] at e
    subst e
    exact h.1.rp1 R.sub
  | loc j =>
    unfold PL.rd at e
    simp only at e
    split at e
    · cases e
    · rename_i c hn hc
      cases e
      obtain ⟨w, e1, e2⟩ := R.cell j _ hc
      have : w = v := by
        have := e1.symm.trans h.1
        simpa using this
      subst this
      exact cellCase e2 fun x z => hn x z
    · cases e
  | new c =>
    unfold PL.rd at e
    simp only at e
    split at e
    · cases e
    · rename_i hn
      cases e
      exact cellCase h.1 fun x z => hn x z
end
end PL
set_option Elab.async false
set_option linter.all false
set_option maxRecDepth 100000
set_option maxHeartbeats 1000000
namespace PL
open PySem PySem.Spec PyProof.Rows L2
section
variable {K : PySem.W.Frag} {mg : Str → Option Value} {H H' S S' H₀ S₀ H₁ S₁ : Hp} {As As' As₀ As₁ : Fp} {σ : SlotV} {env : Env}
theorem Stp.fresh (s : Stp H S As H' S' As') {b : Addr} (h : H' b = none ∨ Own As' b) : H b = none ∨ Own As b := by
  rcases h with h | h
  · cases e : H b with
    | none => exact .inl rfl
    | some o =>
      by_cases n : Own As b
      · exact .inr n
      · rw [s.fr b o e n] at h; cases h
  · exact (s.own b h).symm
/-! ### freezing -/
open Classical in
noncomputable def frz (H S : Hp) (T : List Addr) : Hp := fun b => if b ∈ T then H b else S b
theorem frz_in {T : List Addr} {b : Addr} (h : b ∈ T) : frz H S T b = H b := if_pos h
theorem frz_out {T : List Addr} {b : Addr} (h : b ∉ T) : frz H S T b = S b := if_neg h
theorem same_frz {T : List Addr} (h : ∀ b ∈ T, S b = none) : Same S (frz H S T) := fun b o e => by
  rw [frz_out fun z => by rw [h b z] at e; cases e]; exact e
theorem frz_same {T : List Addr} (h : Same S H) : Same (frz H S T) H := fun b o e => by
  by_cases q : b ∈ T
  · rw [frz_in q] at e; exact e
  · rw [frz_out q] at e; exact h b o e
theorem Rows2.fz : ∀ {xss : List (List PV)} {bs : List Addr} {S' : Hp}, Rows2 K mg H S bs xss → Same S S' → (∀ b ∈ bs, S' b = H b) → Rps K mg S' (bs.map .ref) (xss.map .lst)
  | [], bs, S', h, _, _ => by
    have h' : bs = [] := h
    subst h'; exact Rps.nil
  | xs :: r, bs, S', h, e, hb => by
    obtain ⟨b, bs', vs, rfl, h1, h2, h3⟩ := h
    refine Rps.cons ?_ (h3.fz e fun c hc => hb c (List.mem_cons_of_mem _ hc))
    unfold Rp
    exact ⟨b, vs, rfl, (hb b List.mem_cons_self).trans h1, Rps.mono e _ _ h2⟩
theorem CellOk.fz {v : V} {c : Cell} {B : List Addr} (h : CellOk K mg H S v c B) (hB : ∀ b ∈ B, S b = none) : Rp K mg (frz H S B) v c.pv := by
  have e := same_frz (H := H) hB
  cases c with
  | fz p => exact Rp.mono e _ _ h.1
  | lst xs =>
    obtain ⟨a, vs, rfl, h1, h2, rfl⟩ := h
    unfold Cell.pv Rp
    exact ⟨a, vs, rfl, (frz_in List.mem_cons_self).trans h1, Rps.mono e _ _ h2⟩
  | ls2 xss =>
    obtain ⟨a, bs, rfl, h1, h2, h3, rfl⟩ := h
    unfold Cell.pv Rp
    exact ⟨a, _, rfl, (frz_in List.mem_cons_self).trans h1, h2.fz e fun b hb => frz_in (List.mem_cons_of_mem _ hb)⟩
  | obj C fs =>
    obtain ⟨a, c, dx, gs, rfl, h0, h1, h2, rfl⟩ := h
    unfold Cell.pv Rp
    exact ⟨a, c, dx, gs, rfl, h0, (frz_in List.mem_cons_self).trans h1, Rpf.mono e _ _ h2⟩
theorem set_self {σ : SlotV} {j : Nat} {v : V} (h : σ[j]? = some (some v)) : σ.set j (some v) = σ := by
  apply List.ext_getElem?
  intro k
  by_cases e : k = j
  · subst e
    rw [List.getElem?_set_self (List.getElem?_eq_some_iff.mp h).1, h]
  · rw [List.getElem?_set_ne (Ne.symm e)]
/-- a slot's own thing is frozen -/
theorem Rel.freeze (R : Rel K mg σ env H S As) {j : Nat} {c : Cell} (h : get env j = some c) : ∃ v, σ[j]? = some (some v) ∧ Rp K mg (frz H S (As j)) v c.pv ∧
    Rel K mg σ (env.set j (some (.fz c.pv))) H (frz H S (As j)) (updF As j []) ∧ Stp H S As H (frz H S (As j)) (updF As j []) := by
  obtain ⟨v, e, hc⟩ := R.cell j c h
  have hf : ∀ b ∈ As j, S b = none := fun b hb => R.free b ⟨j, hb⟩
  have hp := hc.fz hf
  refine ⟨v, e, hp, ?_, ⟨same_frz hf, fun b o q _ => q, fun b hb => ?_, fun b hb => ?_, fun _ _ h => updF_anc h⟩⟩
  · have := R.chg (i := j) (v := v) (c := some (.fz c.pv)) (B := []) (H' := H) (S' := frz H S (As j)) (get_lt h) (frz_same R.sub) (same_frz hf) (fun _ _ _ _ => rfl)
      (fun k b n hb => by rw [frz_out (R.disj k j b n hb)]; exact R.free b ⟨k, hb⟩) ⟨hp, rfl⟩ (fun b hb => by cases hb)
    rw [set_self e] at this
    exact this
  · obtain ⟨k, hk⟩ := hb
    by_cases q : k = j
    · subst q; rw [updF_same] at hk; cases hk
    · rw [updF_ne q] at hk; exact .inl ⟨k, hk⟩
  · by_cases q : b ∈ As j
    · exact .inr (.inl ⟨j, q⟩)
    · rw [frz_out q] at hb; exact .inl hb
/-- a pending thing is frozen -/
theorem Rel.freezeT (R : Rel K mg σ env H S As) {v : V} {c : Cell} {B : List Addr} (h : RvOk K mg σ H S As v (.new c) B) (st : Stp H₀ S₀ As₀ H S As) (hB : ∀ b ∈ B, H₀ b = none ∨ Own As₀ b) :
    Rp K mg (frz H S B) v c.pv ∧ Rel K mg σ env H (frz H S B) As ∧ Stp H₀ S₀ As₀ H (frz H S B) As ∧ Same S (frz H S B) := by
  obtain ⟨h1, h2⟩ := h
  have hf : ∀ b ∈ B, S b = none := fun b hb => (h2 b hb).2
  refine ⟨h1.fz hf, R.grow (frz_same R.sub) (same_frz hf) (fun _ _ => rfl) (fun b hb => ?_), ⟨st.same.trans (same_frz hf), st.fr, st.own, fun b hb => ?_, st.anc⟩, same_frz hf⟩
  · rw [frz_out fun z => (h2 b z).1 hb]; exact R.free b hb
  · by_cases q : b ∈ B
    · exact .inr (hB b q).symm
    · rw [frz_out q] at hb; exact st.new b hb
theorem take_ok (R : Rel K mg σ env H S As) {v : V} {rv : RV} {B : List Addr} {p : PV} {env' : Env} (h : RvOk K mg σ H S As v rv B) (st : Stp H₀ S₀ As₀ H S As) (hB : ∀ b ∈ B, H₀ b = none ∨ Own As₀ b) (e : take rv env = some (p, env')) :
    ∃ S' As', Rel K mg σ env' H S' As' ∧ Stp H₀ S₀ As₀ H S' As' ∧ Rp K mg S' v p ∧ Same S S' := by
  cases rv with
  | val q =>
    simp only [take, Option.some.injEq, Prod.mk.injEq] at e
    obtain ⟨rfl, rfl⟩ := e
    exact ⟨S, As, R, st, h.1, Same.refl _⟩
  | loc j =>
    unfold take at e
    simp only at e
    split at e
    · rename_i c hc
      simp only [Option.some.injEq, Prod.mk.injEq] at e
      obtain ⟨rfl, rfl⟩ := e
      obtain ⟨w, e1, hp, R', st'⟩ := R.freeze hc
      have : w = v := by simpa using e1.symm.trans h.1
      subst this
      exact ⟨_, _, R', st.trans st', hp, st'.same⟩
    · cases e
  | new c =>
    simp only [take, Option.some.injEq, Prod.mk.injEq] at e
    obtain ⟨rfl, rfl⟩ := e
    obtain ⟨hp, R', st', sm⟩ := R.freezeT h st hB
    exact ⟨_, _, R', st', hp, sm⟩

/-! ### results of operations -/
def VRok (K : PySem.W.Frag) (mg : Str → Option Value) (H S : Hp) (vr : VR) (z : V) (H' : Hp) : Prop := match vr with
  | .sc p => H' = H ∧ Rp K mg S z p
  | .tup ps => (H' = H ∧ Rp K mg S z (.tup ps)) ∨ ∃ a vs, z = .ref a ∧ H a = none ∧ H' = upd H a (.tup vs) ∧ Rps K mg S vs ps
  | .lst ps => ∃ a vs, z = .ref a ∧ H a = none ∧ H' = upd H a (.lst vs) ∧ Rps K mg S vs ps
theorem Rp.int (i : Int) : Rp K mg S (.int i) (.int i) := by unfold Rp; rfl
theorem Rp.bl (b : Bool) : Rp K mg S (.bl b) (.bl b) := by unfold Rp; rfl
theorem Rp.non : Rp K mg S .non .non := by unfold Rp; rfl
theorem Rp.tup {a : Addr} {vs : List V} {ps : List PV} (h : S a = some (.tup vs)) (r : Rps K mg S vs ps) : Rp K mg S (.ref a) (.tup ps) := by unfold Rp; exact ⟨a, vs, rfl, SqT.of h, r⟩
theorem VR_fin (R : Rel K mg σ env H S As) {vr : VR} {z : V} (h : VRok K mg H S vr z H') : ∃ S' B, Rel K mg σ env H' S' As ∧ Stp H S As H' S' As ∧ RvOk K mg σ H' S' As z (mkV vr) B ∧ ∀ b ∈ B, H b = none := by
  cases vr with
  | sc p =>
    obtain ⟨rfl, h⟩ := h
    exact ⟨S, [], R, Stp.refl, ⟨h, rfl⟩, fun b hb => by cases hb⟩
  | tup ps =>
    rcases h with ⟨rfl, h⟩ | ⟨a, vs, rfl, n, rfl, r⟩
    · exact ⟨S, [], R, Stp.refl, ⟨h, rfl⟩, fun b hb => by cases hb⟩
    · obtain ⟨R', st⟩ := R.lay (o := .tup vs) n
      exact ⟨_, [], R', st, ⟨Rp.tup upd_same (Rps.mono st.same _ _ r), rfl⟩, fun b hb => by cases hb⟩
  | lst ps =>
    obtain ⟨a, vs, rfl, n, rfl, r⟩ := h
    obtain ⟨R', st⟩ := R.layN (o := .lst vs) n
    refine ⟨S, [a], R', st, ⟨⟨a, vs, rfl, upd_same, r, rfl⟩, fun b hb => ?_⟩, fun b hb => ?_⟩
    · obtain rfl : b = a := by simpa using hb
      exact ⟨fun z => R.there z n, R.sub.free n⟩
    · obtain rfl : b = a := by simpa using hb
      exact n

/-! ### what is wanted of a run -/
def ExOk (K : PySem.W.Frag) (mg : Str → Option Value) (H S : Hp) (C : Str) (fs : List (Str × PV)) (cls : Value) (d : Option Addr) : Prop :=
  (∃ c, mg C = some (.ref c) ∧ cls = .ref c) ∧ match fs with
    | [] => d = none
    | fs => ∃ dx gs, d = some dx ∧ H dx = some (.xd gs) ∧ Rpf K mg S gs fs
def Post {α : Type} (K : PySem.W.Frag) (mg : Str → Option Value) (W : WX) (H S : Hp) (As : Fp) (r : Res (α × Env)) (k : α → Env → Prop) : Prop := match r with
  | .ok (a, env) => k a env
  | .exc C fs env => ∀ σ H' S' As' cls d, Stp H S As H' S' As' → Rel K mg σ env H' S' As' → ExOk K mg H' S' C fs cls d → W cls d σ H'
  | .stuck => False
def KE (K : PySem.W.Frag) (mg : Str → Option Value) (σ : SlotV) (H S : Hp) (As : Fp) (Q : VK) (rv : RV) (env : Env) : Prop :=
  ∀ v H' S' As' B, Stp H S As H' S' As' → Rel K mg σ env H' S' As' → RvOk K mg σ H' S' As' v rv B → (∀ b ∈ B, H b = none ∨ Own As b) → Q v H'
def KT (K : PySem.W.Frag) (mg : Str → Option Value) (σ : SlotV) (H S : Hp) (As : Fp) (Q : Bool → Hp → Prop) (b : Bool) (env : Env) : Prop :=
  ∀ H' S' As', Stp H S As H' S' As' → Rel K mg σ env H' S' As' → Q b H'
def KTs (K : PySem.W.Frag) (mg : Str → Option Value) (σ : SlotV) (H S : Hp) (As : Fp) (Q : List V → Hp → Prop) (ps : List PV) (env : Env) : Prop :=
  ∀ vs H' S' As', Stp H S As H' S' As' → Rel K mg σ env H' S' As' → Rps K mg S' vs ps → Q vs H'
def RvsOk (K : PySem.W.Frag) (mg : Str → Option Value) (σ : SlotV) (H S : Hp) (As : Fp) : List V → List RV → List Addr → Prop
  | vs, [], B => vs = [] ∧ B = []
  | vs, r :: rs, B => ∃ v vs' B1 B2, vs = v :: vs' ∧ B = B1 ++ B2 ∧ RvOk K mg σ H S As v r B1 ∧ RvsOk K mg σ H S As vs' rs B2 ∧ ∀ b ∈ B1, b ∉ B2
def KHs (K : PySem.W.Frag) (mg : Str → Option Value) (σ : SlotV) (H S : Hp) (As : Fp) (Q : List V → Hp → Prop) (rs : List RV) (env : Env) : Prop :=
  ∀ vs H' S' As' B, Stp H S As H' S' As' → Rel K mg σ env H' S' As' → RvsOk K mg σ H' S' As' vs rs B → (∀ b ∈ B, H b = none ∨ Own As b) → Q vs H'
def liftE (K : PySem.W.Frag) (mg : Str → Option Value) (W : WX) (f : Env → Res (RV × Env)) : TE := fun σ H Q => ∃ env S As, Rel K mg σ env H S As ∧ Post K mg W H S As (f env) (KE K mg σ H S As Q)
def liftT (K : PySem.W.Frag) (mg : Str → Option Value) (W : WX) (f : Env → Res (Bool × Env)) : TT := fun σ H Q => ∃ env S As, Rel K mg σ env H S As ∧ Post K mg W H S As (f env) (KT K mg σ H S As Q)
def liftTs (K : PySem.W.Frag) (mg : Str → Option Value) (W : WX) (f : Env → Res (List PV × Env)) : TA := fun σ H Q => ∃ env S As, Rel K mg σ env H S As ∧ Post K mg W H S As (f env) (KTs K mg σ H S As Q)
def liftHs (K : PySem.W.Frag) (mg : Str → Option Value) (W : WX) (f : Env → Res (List RV × Env)) : TA := fun σ H Q => ∃ env S As, Rel K mg σ env H S As ∧ Post K mg W H S As (f env) (KHs K mg σ H S As Q)
variable {W : WX}
theorem Post.mono {α : Type} {r : Res (α × Env)} {k k' : α → Env → Prop} (h : Post K mg W H S As r k) (f : ∀ a e, k a e → k' a e) : Post K mg W H S As r k' := by
  cases r with
  | ok a => exact f _ _ h
  | exc C fs e => exact h
  | stuck => exact h
theorem liftE.mono {f : Env → Res (RV × Env)} {Q Q' : VK} (h : liftE K mg W f σ H Q) (hq : ∀ v H, Q v H → Q' v H) : liftE K mg W f σ H Q' :=
  let ⟨env, S, As, R, p⟩ := h
  ⟨env, S, As, R, p.mono fun _ _ k v H' S' As' B a b c d => hq _ _ (k v H' S' As' B a b c d)⟩
theorem liftT.mono {f : Env → Res (Bool × Env)} {Q Q' : Bool → Hp → Prop} (h : liftT K mg W f σ H Q) (hq : ∀ v H, Q v H → Q' v H) : liftT K mg W f σ H Q' :=
  let ⟨env, S, As, R, p⟩ := h
  ⟨env, S, As, R, p.mono fun _ _ k H' S' As' a b => hq _ _ (k H' S' As' a b)⟩
theorem liftTs.mono {f : Env → Res (List PV × Env)} {Q Q' : List V → Hp → Prop} (h : liftTs K mg W f σ H Q) (hq : ∀ v H, Q v H → Q' v H) : liftTs K mg W f σ H Q' :=
  let ⟨env, S, As, R, p⟩ := h
  ⟨env, S, As, R, p.mono fun _ _ k v H' S' As' a b c => hq _ _ (k v H' S' As' a b c)⟩
theorem liftHs.mono {f : Env → Res (List RV × Env)} {Q Q' : List V → Hp → Prop} (h : liftHs K mg W f σ H Q) (hq : ∀ v H, Q v H → Q' v H) : liftHs K mg W f σ H Q' :=
  let ⟨env, S, As, R, p⟩ := h
  ⟨env, S, As, R, p.mono fun _ _ k v H' S' As' B a b c d => hq _ _ (k v H' S' As' B a b c d)⟩
theorem Post.opt {α β : Type} {x : Option α} {g : α → Res (β × Env)} {k : β → Env → Prop} (h : Post K mg W H S As ((optR x).bind g) k) : ∃ a, x = some a ∧ Post K mg W H S As (g a) k := by
  cases x with
  | none => exact False.elim h
  | some a => exact ⟨a, rfl, h⟩
/-- from a whole's wish to a part's -/
theorem Post.part {α β : Type} {r : Res (α × Env)} {g : α × Env → Res (β × Env)} {k : β → Env → Prop} (st : Stp H₀ S₀ As₀ H S As) (h : Post K mg W H₀ S₀ As₀ (r.bind g) k) : Post K mg W H S As r (fun a e => Post K mg W H₀ S₀ As₀ (g (a, e)) k) := by
  cases r with
  | ok a => exact h
  | exc C fs e => exact fun σ H' S' As' cls d s => h σ H' S' As' cls d (st.trans s)
  | stuck => exact h
theorem bindE {β : Type} {f : Env → Res (RV × Env)} {g : RV × Env → Res (β × Env)} {k : β → Env → Prop} (st : Stp H₀ S₀ As₀ H S As) (R : Rel K mg σ env H S As) (h : Post K mg W H₀ S₀ As₀ ((f env).bind g) k) :
    liftE K mg W f σ H fun v H1 => ∃ rv env1 S1 As1 B, Stp H S As H1 S1 As1 ∧ Rel K mg σ env1 H1 S1 As1 ∧ RvOk K mg σ H1 S1 As1 v rv B ∧ (∀ b ∈ B, H b = none ∨ Own As b) ∧ Post K mg W H₀ S₀ As₀ (g (rv, env1)) k :=
  ⟨env, S, As, R, (Post.part st h).mono fun rv e p v H' S' As' B a b c d => ⟨rv, e, S', As', B, a, b, c, d, p⟩⟩
theorem bindT {β : Type} {f : Env → Res (Bool × Env)} {g : Bool × Env → Res (β × Env)} {k : β → Env → Prop} (st : Stp H₀ S₀ As₀ H S As) (R : Rel K mg σ env H S As) (h : Post K mg W H₀ S₀ As₀ ((f env).bind g) k) :
    liftT K mg W f σ H fun v H1 => ∃ env1 S1 As1, Stp H S As H1 S1 As1 ∧ Rel K mg σ env1 H1 S1 As1 ∧ Post K mg W H₀ S₀ As₀ (g (v, env1)) k :=
  ⟨env, S, As, R, (Post.part st h).mono fun b e p H' S' As' a c => ⟨e, S', As', a, c, p⟩⟩
theorem bindTs {β : Type} {f : Env → Res (List PV × Env)} {g : List PV × Env → Res (β × Env)} {k : β → Env → Prop} (st : Stp H₀ S₀ As₀ H S As) (R : Rel K mg σ env H S As) (h : Post K mg W H₀ S₀ As₀ ((f env).bind g) k) :
    liftTs K mg W f σ H fun vs H1 => ∃ ps env1 S1 As1, Stp H S As H1 S1 As1 ∧ Rel K mg σ env1 H1 S1 As1 ∧ Rps K mg S1 vs ps ∧ Post K mg W H₀ S₀ As₀ (g (ps, env1)) k :=
  ⟨env, S, As, R, (Post.part st h).mono fun ps e p vs H' S' As' a b c => ⟨ps, e, S', As', a, b, c, p⟩⟩
theorem bindHs {β : Type} {f : Env → Res (List RV × Env)} {g : List RV × Env → Res (β × Env)} {k : β → Env → Prop} (st : Stp H₀ S₀ As₀ H S As) (R : Rel K mg σ env H S As) (h : Post K mg W H₀ S₀ As₀ ((f env).bind g) k) :
    liftHs K mg W f σ H fun vs H1 => ∃ rs env1 S1 As1 B, Stp H S As H1 S1 As1 ∧ Rel K mg σ env1 H1 S1 As1 ∧ RvsOk K mg σ H1 S1 As1 vs rs B ∧ (∀ b ∈ B, H b = none ∨ Own As b) ∧ Post K mg W H₀ S₀ As₀ (g (rs, env1)) k :=
  ⟨env, S, As, R, (Post.part st h).mono fun rs e p vs H' S' As' B a b c d => ⟨rs, e, S', As', B, a, b, c, d, p⟩⟩
/-- a result that an operation gives ends an expression -/
theorem finVR {vr : VR} {z : V} {H3 : Hp} {Q : VK} (st : Stp H₀ S₀ As₀ H S As) (R : Rel K mg σ env H S As) (h : VRok K mg H S vr z H3) (q : KE K mg σ H₀ S₀ As₀ Q (mkV vr) env) : Q z H3 := by
  obtain ⟨S', B, R', st', ok, fr⟩ := VR_fin R h
  exact q z H3 S' As B (st.trans st') R' ok fun b hb => st.fresh (.inl (fr b hb))
theorem finP {p : PV} {z : V} {Q : VK} (st : Stp H₀ S₀ As₀ H S As) (R : Rel K mg σ env H S As) (h : Rp K mg S z p) (q : KE K mg σ H₀ S₀ As₀ Q (.val p) env) : Q z H :=
  q z H S As [] st R ⟨h, rfl⟩ fun b hb => by cases hb
end
/-- a reading may be strengthened -/
theorem PE.imp {X : Cx} {e : Expr} {t t' : TE} (h : PE X e t) (f : ∀ σ H Q, t' σ H Q → t σ H Q) : PE X e t' := ⟨fun pins s σ H Q I q => h.run pins s σ H Q I (f σ H Q q)⟩
theorem PT.imp {X : Cx} {e : Expr} {t t' : TT} (h : PT X e t) (f : ∀ σ H Q, t' σ H Q → t σ H Q) : PT X e t' := ⟨fun pins s σ H Q I q => h.run pins s σ H Q I (f σ H Q q)⟩
theorem PW.imp {X : Cx} {e : Expr} {t t' : TT} (h : PW X e t) (f : ∀ σ H Q, t' σ H Q → t σ H Q) : PW X e t' := ⟨fun wh pins s σ H Q I q => h.run wh pins s σ H Q I (f σ H Q q)⟩
theorem PA.imp {X : Cx} {es : List Expr} {t t' : TA} (h : PA X es t) (f : ∀ σ H Q, t' σ H Q → t σ H Q) : PA X es t' := ⟨fun pos pins s σ H Q I q => h.run pos pins s σ H Q I (f σ H Q q)⟩
theorem PS.imp {X : Cx} {e : Stmt} {t t' : TS} (h : PS X e t) (f : ∀ D σ H, t' D σ H → t D σ H) : PS X e t' := ⟨fun pins s σ H D I q => h.run pins s σ H D I (f D σ H q)⟩
theorem PSs.imp {X : Cx} {e : List Stmt} {t t' : TS} (h : PSs X e t) (f : ∀ D σ H, t' D σ H → t D σ H) : PSs X e t' := ⟨fun pins s σ H D I q => h.run pins s σ H D I (f D σ H q)⟩
end PL
set_option Elab.async false
set_option linter.all false
set_option maxRecDepth 100000
set_option maxHeartbeats 1000000
namespace PL
open PySem PySem.Spec PyProof.Rows L2
/-! ### operators, by plain values -/
def opOf : Bop → Operator
  | .add => .Add | .sub => .Sub | .mul => .Mult | .fdiv => .FloorDiv | .mod => .Mod | .pow => .Pow | .shl => .LShift | .shr => .RShift | .band => .BitAnd | .bor => .BitOr | .bxor => .BitXor
def cpOf : Cop → CmpOp
  | .eq => .Eq | .ne => .NotEq | .lt => .Lt | .le => .LtE | .gt => .Gt | .ge => .GtE | .is => .Is | .isn => .IsNot | .mem => .In | .nmem => .NotIn
def rB (K : PySem.W.Frag) (mg : Str → Option Value) (o : Bop) : R2 := fun x y H Q => ∃ S px py vr, Same S H ∧ Rp1 K mg H S x px ∧ Rp1 K mg H S y py ∧ bopV o px py = some vr ∧ ∀ z H', VRok K mg H S vr z H' → Q z H'
def rC (K : PySem.W.Frag) (mg : Str → Option Value) (o : Cop) : R2 := fun x y H Q => ∃ S px py b, Same S H ∧ Rp1 K mg H S x px ∧ Rp1 K mg H S y py ∧ copV o px py = some b ∧ Q (.bl b) H
section
variable {X : Cx} {K : PySem.W.Frag} {mg : Str → Option Value}
theorem mulOk_ok {i j : Int} (h : mulOk i j = true) : IntMulOk i j := by
  have b : ∀ x : Int, Builtin.Int.intBits x ≤ x.natAbs.log2 + 1 := fun x => by
    unfold Builtin.Int.intBits
    split <;> omega
  have h1 := b i
  have h2 := b j
  have h3 : i.natAbs.log2 + j.natAbs.log2 < 100000000 := of_decide_eq_true h
  have e : bitsLine = 134217728 := by decide
  unfold IntMulOk
  intro z
  rw [Bool.and_eq_true] at z
  have z2 := z.2
  unfold Builtin.Int.intTooBig at z2
  have z3 := of_decide_eq_true z2
  rw [e] at z3
  omega
theorem op_mulP : OpR X (binaryOp .Mult) (rI (fun i j => mulOk i j = true) fun i j => .int (i * j)) := opI fun _ _ _ _ _ _ _ hc q => mul_int q (mulOk_ok hc)
theorem op_fdivP : OpR X (binaryOp .FloorDiv) (rI (fun i j => j ≠ 0 ∧ Builtin.divisionGoesByPylong i j = false) fun i j => .int (i.fdiv j)) := opI fun _ _ _ _ _ _ _ hc q => floordiv_int hc.1 q (.inl hc.2)
theorem Rps.int1 {S : Hp} {i : Int} {v : V} (h : Rp K mg S v (.int i)) : v = .int i := by unfold Rp at h; exact h
theorem rp_int {S : Hp} {i : Int} {v : V} (h : Rp K mg S v (.int i)) : v = .int i := by unfold Rp at h; exact h
theorem rp_bl {S : Hp} {i : Bool} {v : V} (h : Rp K mg S v (.bl i)) : v = .bl i := by unfold Rp at h; exact h
theorem rp_str {S : Hp} {i : Str} {v : V} (h : Rp K mg S v (.str i)) : v = .str i := by unfold Rp at h; exact h
theorem rp_non {S : Hp} {v : V} (h : Rp K mg S v .non) : v = .non := by unfold Rp at h; exact h
theorem rp_ty {S : Hp} {i : String} {v : V} (h : Rp K mg S v (.ty i)) : v = .ty i := by unfold Rp at h; exact h
theorem rp_tup {S : Hp} {ps : List PV} {v : V} (h : Rp K mg S v (.tup ps)) : ∃ a vs, v = .ref a ∧ SqT K S a vs ∧ Rps K mg S vs ps := by unfold Rp at h; exact h
theorem rp_lst {S : Hp} {ps : List PV} {v : V} (h : Rp K mg S v (.lst ps)) : ∃ a vs, v = .ref a ∧ S a = some (.lst vs) ∧ Rps K mg S vs ps := by unfold Rp at h; exact h
theorem rp_scr {S : Hp} {ns : List Int} {v : V} (h : Rp K mg S v (.scr ns)) : ∃ a, v = .ref a ∧ SqL K S a (ns.map V.int) := by unfold Rp at h; exact h
theorem rq_int {H S : Hp} {i : Int} {v : V} (h : Rp1 K mg H S v (.int i)) : v = .int i := rp_int (K := K) (mg := mg) (S := S) h
theorem rq_bl {H S : Hp} {i : Bool} {v : V} (h : Rp1 K mg H S v (.bl i)) : v = .bl i := rp_bl (K := K) (mg := mg) (S := S) h
theorem rq_str {H S : Hp} {i : Str} {v : V} (h : Rp1 K mg H S v (.str i)) : v = .str i := rp_str (K := K) (mg := mg) (S := S) h
theorem rq_non {H S : Hp} {v : V} (h : Rp1 K mg H S v .non) : v = .non := rp_non (K := K) (mg := mg) (S := S) h
theorem rq_ty {H S : Hp} {i : String} {v : V} (h : Rp1 K mg H S v (.ty i)) : v = .ty i := rp_ty (K := K) (mg := mg) (S := S) h
theorem rq_tup {H S : Hp} {ps : List PV} {v : V} (h : Rp1 K mg H S v (.tup ps)) : ∃ a vs, v = .ref a ∧ SqT K S a vs ∧ Rps K mg S vs ps := rp_tup (K := K) (mg := mg) (S := S) h
theorem rq_scr {H S : Hp} {ns : List Int} {v : V} (h : Rp1 K mg H S v (.scr ns)) : ∃ a, v = .ref a ∧ SqL K S a (ns.map V.int) := rp_scr (K := K) (mg := mg) (S := S) h
theorem Rps.rep {S : Hp} {ps : List PV} {vs : List V} (h : Rps K mg S vs ps) : ∀ n, Rps K mg S (List.replicate n vs).flatten (List.replicate n ps).flatten
  | 0 => Rps.nil
  | n + 1 => by
    rw [List.replicate_succ, List.replicate_succ, List.flatten_cons, List.flatten_cons]
    exact h.append (Rps.rep h n)
theorem op_b (o : Bop) : OpR X (binaryOp (opOf o)) (rB X.K mg o) := by
  intro pins s σ H x y v u Q I rx ry h
  obtain ⟨S, px, py, vr, sub, h1, h2, e, q⟩ := h
  unfold bopV at e
  split at e
  · cases e; cases rq_int h1; cases rq_int h2
    exact op_add pins s σ H _ _ v u Q I rx ry ⟨_, _, rfl, rfl, q _ _ ⟨rfl, Rp.int _⟩⟩
  · cases e; cases rq_int h1; cases rq_int h2
    exact op_sub pins s σ H _ _ v u Q I rx ry ⟨_, _, rfl, rfl, q _ _ ⟨rfl, Rp.int _⟩⟩
  · split at e
    · rename_i hc
      cases e; cases rq_int h1; cases rq_int h2
      exact op_mulP pins s σ H _ _ v u Q I rx ry ⟨_, _, rfl, rfl, hc, q _ _ ⟨rfl, Rp.int _⟩⟩
    · cases e
  · split at e
    · rename_i hc
      cases e; cases rq_int h1; cases rq_int h2
      exact op_fdivP pins s σ H _ _ v u Q I rx ry ⟨_, _, rfl, rfl, hc, q _ _ ⟨rfl, Rp.int _⟩⟩
    · cases e
  · split at e
    · rename_i hc
      cases e; cases rq_int h1; cases rq_int h2
      exact op_modN pins s σ H _ _ v u Q I rx ry ⟨_, _, rfl, rfl, hc, q _ _ ⟨rfl, Rp.int _⟩⟩
    · cases e
  · split at e
    · rename_i hc
      cases e; cases rq_int h1; cases rq_int h2
      exact op_pow pins s σ H _ _ v u Q I rx ry ⟨_, _, rfl, rfl, hc, q _ _ ⟨rfl, Rp.int _⟩⟩
    · cases e
  · split at e
    · rename_i hc
      cases e; cases rq_int h1; cases rq_int h2
      exact op_shl pins s σ H _ _ v u Q I rx ry ⟨_, _, rfl, rfl, hc, q _ _ ⟨rfl, Rp.int _⟩⟩
    · cases e
  · split at e
    · rename_i hc
      cases e; cases rq_int h1; cases rq_int h2
      exact op_shr pins s σ H _ _ v u Q I rx ry ⟨_, _, rfl, rfl, hc, q _ _ ⟨rfl, Rp.int _⟩⟩
    · cases e
  · cases e; cases rq_int h1; cases rq_int h2
    exact op_and pins s σ H _ _ v u Q I rx ry ⟨_, _, rfl, rfl, q _ _ ⟨rfl, Rp.int _⟩⟩
  · split at e
    · rename_i xs ys hc
      cases e
      have r1 := h1
      have r2 := h2
      obtain ⟨a, vs, rfl, t1, m1⟩ := rq_tup r1
      obtain ⟨b, ws, rfl, t2, m2⟩ := rq_tup r2
      refine op_catA pins s σ H _ _ v u Q I rx ry ⟨a, b, vs, ws, rfl, rfl, Same.sqT sub t1, Same.sqT sub t2, by rw [m1.length, m2.length]; exact hc, fun z => ?_, fun _ z => ?_, fun _ _ p n => ?_⟩
      · subst z
        have : xs = [] := List.eq_nil_of_length_eq_zero (by rw [← m1.length]; rfl)
        subst this
        exact q _ _ (.inl ⟨rfl, h2⟩)
      · subst z
        have : ys = [] := List.eq_nil_of_length_eq_zero (by rw [← m2.length]; rfl)
        subst this
        rw [List.append_nil] at q
        exact q _ _ (.inl ⟨rfl, h1⟩)
      · exact q _ _ (.inr ⟨p, _, rfl, n, rfl, m1.append m2⟩)
    · cases e
  · split at e
    · rename_i xs ys hc
      cases e
      obtain ⟨a, vs, rfl, t1, m1⟩ := h1
      obtain ⟨b, ws, rfl, t2, m2⟩ := h2
      exact op_cat pins s σ H _ _ v u Q I rx ry ⟨a, b, vs, ws, rfl, rfl, t1, t2, by rw [m1.length, m2.length]; exact hc, fun p n => q _ _ ⟨p, _, rfl, n, rfl, m1.append m2⟩⟩
    · cases e
  · split at e
    · rename_i xs k hc
      cases e
      obtain ⟨a, vs, rfl, t1, m1⟩ := h1
      cases rq_int h2
      exact op_rep pins s σ H _ _ v u Q I rx ry ⟨a, k, vs, rfl, rfl, t1, hc.1, hc.2.1, by rw [m1.length]; exact hc.2.2, fun p n => q _ _ ⟨p, _, rfl, n, rfl, m1.rep _⟩⟩
    · cases e
  · split at e
    · rename_i xs k hc
      cases e
      have r1 := h1
      obtain ⟨a, vs, rfl, t1, m1⟩ := rq_tup r1
      cases rq_int h2
      refine op_repT pins s σ H _ _ v u Q I rx ry ⟨a, k, vs, rfl, rfl, Same.sqT sub t1, fun z => hc.1 ?_, hc.2.1, hc.2.2.1, by rw [m1.length]; exact hc.2.2.2, fun p n => q _ _ (.inr ⟨p, _, rfl, n, rfl, m1.rep _⟩)⟩
      subst z
      exact List.eq_nil_of_length_eq_zero (by rw [← m1.length]; rfl)
    · cases e
  · cases e
theorem shp_some {p : PV} (h : shp p = true) : ∃ d, toD p = some d ∧ SeqAt.shaped d = true := by
  unfold shp at h
  split at h
  · rename_i d e; exact ⟨d, e, h⟩
  · cases h
theorem toDs_any : ∀ {xs : List PV} {ds : List PyData} {p : PV} {d : PyData}, toDs xs = some ds → toD p = some d → (ds.any fun z => PyData.eqv z d) = memP xs p
  | [], ds, p, d, e, e' => by unfold toDs at e; cases e; rfl
  | x :: xs, ds, p, d, e, e' => by
    unfold toDs at e
    split at e
    · rename_i dx ds' h1 h2
      cases e
      have ih := toDs_any (p := p) h2 e'
      unfold memP at ih ⊢
      rw [List.any_cons, List.any_cons, ih]
      unfold eqP
      rw [h1, e']
    · cases e
theorem op_inT (hu : X.A.units + 65 < cLine) : OpR X (compareOp .In) (fun x y H Q => ∃ d ds, Dp X.K H x d ∧ Dp X.K H y (.tuple ds) ∧ SeqAt.shaped d = true ∧ SeqAt.shaped (.tuple ds) = true ∧ Q (.bl (ds.any fun z => PyData.eqv z d)) H) := by
  intro pins s σ H x y v u Q I rx ry h
  obtain ⟨d, ds, hd, he, sd, se, q⟩ := h
  obtain ⟨as, r1⟩ := Dp.reads I d x v hd rx
  obtain ⟨bs, r2⟩ := Dp.reads I (.tuple ds) y u he ry
  exact SeqAt.in_tuple_reads r2 r1 (SeqAt.canLay_of_shaped se) (SeqAt.canLay_of_shaped sd) (room_in_shaped sd hu) ⟨.bl _, H, I, rfl, q⟩
theorem op_notInT (hu : X.A.units + 65 < cLine) : OpR X (compareOp .NotIn) (fun x y H Q => ∃ d ds, Dp X.K H x d ∧ Dp X.K H y (.tuple ds) ∧ SeqAt.shaped d = true ∧ SeqAt.shaped (.tuple ds) = true ∧ Q (.bl (!ds.any fun z => PyData.eqv z d)) H) := by
  intro pins s σ H x y v u Q I rx ry h
  obtain ⟨d, ds, hd, he, sd, se, q⟩ := h
  obtain ⟨as, r1⟩ := Dp.reads I d x v hd rx
  obtain ⟨bs, r2⟩ := Dp.reads I (.tuple ds) y u he ry
  exact SeqAt.notIn_tuple_reads r2 r1 (SeqAt.canLay_of_shaped se) (SeqAt.canLay_of_shaped sd) (room_in_shaped sd hu) ⟨.bl _, H, I, rfl, q⟩
theorem isNon_ok {S H : Hp} {p : PV} {v : V} (h : Rp1 K mg H S v p) : decide (v = .non) = isNon p := by
  have key : ∀ {p : PV} {v : V} {S : Hp}, Rp K mg S v p → decide (v = .non) = isNon p := fun {p v S} h => by
    cases p with
    | non => cases rp_non h; rfl
    | bl b => cases rp_bl h; rfl
    | int i => cases rp_int h; rfl
    | str x => cases rp_str h; rfl
    | ty n => cases rp_ty h; rfl
    | tup ps => obtain ⟨a, vs, rfl, _⟩ := rp_tup h; rfl
    | lst ps => obtain ⟨a, vs, rfl, _⟩ := rp_lst h; rfl
    | scr ps => obtain ⟨a, rfl, _⟩ := rp_scr h; rfl
    | obj C fs => unfold Rp at h; obtain ⟨a, c, dx, gs, rfl, _⟩ := h; rfl
  cases p with
  | lst ps => obtain ⟨a, vs, rfl, _⟩ := h; rfl
  | obj C fs => obtain ⟨a, c, dx, gs, rfl, _⟩ := h; rfl
  | _ => exact key (S := S) h
theorem op_c (hu : X.A.units + 65 < cLine) (o : Cop) : OpR X (compareOp (cpOf o)) (rC X.K mg o) := by
  intro pins s σ H x y v u Q I rx ry h
  obtain ⟨S, px, py, b, sub, h1, h2, e, q⟩ := h
  have g1 := h1.rp sub
  have g2 := h2.rp sub
  have hu64 : X.A.units + 64 < cLine := by omega
  unfold copV at e
  split at e
  · split at e
    · rename_i hc
      cases e
      obtain ⟨d, d1, d2⟩ := shp_some hc.1
      obtain ⟨c, c1, c2⟩ := shp_some hc.2
      refine op_eqD hu64 pins s σ H x y v u Q I rx ry ⟨d, c, Rp.dp _ _ _ g1 d1, Rp.dp _ _ _ g2 c1, d2, c2, ?_⟩
      unfold eqP at q
      rw [d1, c1] at q
      exact q
    · cases e
  · split at e
    · rename_i hc
      cases e
      obtain ⟨d, d1, d2⟩ := shp_some hc.1
      obtain ⟨c, c1, c2⟩ := shp_some hc.2
      refine op_neD hu64 pins s σ H x y v u Q I rx ry ⟨d, c, Rp.dp _ _ _ g1 d1, Rp.dp _ _ _ g2 c1, d2, c2, ?_⟩
      unfold eqP at q
      rw [d1, c1] at q
      exact q
    · cases e
  · cases e; cases rq_int h1; cases rq_int h2
    exact op_lt pins s σ H _ _ v u Q I rx ry ⟨_, _, rfl, rfl, q⟩
  · cases e; cases rq_int h1; cases rq_int h2
    exact op_le pins s σ H _ _ v u Q I rx ry ⟨_, _, rfl, rfl, q⟩
  · cases e; cases rq_int h1; cases rq_int h2
    exact op_gt pins s σ H _ _ v u Q I rx ry ⟨_, _, rfl, rfl, q⟩
  · cases e; cases rq_int h1; cases rq_int h2
    exact op_ge pins s σ H _ _ v u Q I rx ry ⟨_, _, rfl, rfl, q⟩
  · cases e; cases rq_non h2
    exact op_isN pins s σ H _ _ v u Q I rx ry ⟨rfl, by rw [isNon_ok h1]; exact q⟩
  · cases e; cases rq_non h2
    exact op_notN pins s σ H _ _ v u Q I rx ry ⟨rfl, by rw [isNon_ok h1]; exact q⟩
  · cases e; cases rq_bl h1; cases rq_bl h2
    exact op_isBl pins s σ H _ _ v u Q I rx ry ⟨_, _, rfl, rfl, q⟩
  · cases e; cases rq_bl h1; cases rq_bl h2
    exact op_notBl pins s σ H _ _ v u Q I rx ry ⟨_, _, rfl, rfl, q⟩
  · split at e
    · rename_i xs hc
      cases e
      obtain ⟨d, d1, d2⟩ := shp_some hc.1
      obtain ⟨c, c1, c2⟩ := shp_some hc.2
      have c0 := c1
      unfold toD at c1
      simp only [Option.map_eq_some_iff] at c1
      obtain ⟨ds, c3, rfl⟩ := c1
      exact op_inT hu pins s σ H x y v u Q I rx ry ⟨d, ds, Rp.dp _ _ _ g1 d1, Rp.dp _ _ _ g2 c0, d2, c2, by rw [toDs_any c3 d1]; exact q⟩
    · cases e
  · split at e
    · rename_i xs hc
      cases e
      obtain ⟨d, d1, d2⟩ := shp_some hc.1
      obtain ⟨c, c1, c2⟩ := shp_some hc.2
      have c0 := c1
      unfold toD at c1
      simp only [Option.map_eq_some_iff] at c1
      obtain ⟨ds, c3, rfl⟩ := c1
      exact op_inD hu pins s σ H x y v u Q I rx ry ⟨d, ds, Rp.dp _ _ _ g1 d1, Rp.dp _ _ _ g2 c0, d2, c2, by rw [toDs_any c3 d1]; exact q⟩
    · cases e
  · split at e
    · rename_i xs hc
      cases e
      obtain ⟨d, d1, d2⟩ := shp_some hc.1
      obtain ⟨c, c1, c2⟩ := shp_some hc.2
      have c0 := c1
      unfold toD at c1
      simp only [Option.map_eq_some_iff] at c1
      obtain ⟨ds, c3, rfl⟩ := c1
      exact op_notInT hu pins s σ H x y v u Q I rx ry ⟨d, ds, Rp.dp _ _ _ g1 d1, Rp.dp _ _ _ g2 c0, d2, c2, by rw [toDs_any c3 d1]; exact q⟩
    · cases e
  · split at e
    · rename_i xs hc
      cases e
      obtain ⟨d, d1, d2⟩ := shp_some hc.1
      obtain ⟨c, c1, c2⟩ := shp_some hc.2
      have c0 := c1
      unfold toD at c1
      simp only [Option.map_eq_some_iff] at c1
      obtain ⟨ds, c3, rfl⟩ := c1
      exact op_notInD hu pins s σ H x y v u Q I rx ry ⟨d, ds, Rp.dp _ _ _ g1 d1, Rp.dp _ _ _ g2 c0, d2, c2, by rw [toDs_any c3 d1]; exact q⟩
    · cases e
  · cases e
/-! ### truth -/
theorem tru_ofP {S H : Hp} {p : PV} {v : V} {b : Bool} (sub : Same S H) (h : Rp1 K mg H S v p) (e : truP p = some b) : TruV K v H b := by
  cases p with
  | non => cases rq_non h; cases e; rfl
  | bl x => cases rq_bl h; cases e; rfl
  | int i => cases rq_int h; cases e; rfl
  | tup xs =>
    obtain ⟨a, vs, rfl, t, m⟩ := rq_tup h
    cases e
    refine .inr (.inl ⟨vs, Same.sqT sub t, ?_⟩)
    have := m.length
    cases vs <;> cases xs <;> simp_all
  | lst xs =>
    obtain ⟨a, vs, rfl, t, m⟩ := h
    cases e
    refine .inl ⟨vs, SqL.of t, ?_⟩
    have := m.length
    cases vs <;> cases xs <;> simp_all
  | str x => cases e
  | ty n => cases e
  | scr n => cases e
  | obj C fs => cases e
theorem ix_ok {S H : Hp} {p q r : PV} {v w : V} (sub : Same S H) (h : Rp1 K mg H S v p) (h' : Rp1 K mg H S w q) (e : ixP p q = some r) :
    ∃ z, Rp K mg S z r ∧ ∀ (Q : VK), Q z H → rIx K v w H Q := by
  unfold ixP at e
  split at e
  · rename_i xs i
    obtain ⟨a, vs, rfl, t, m⟩ := rq_tup h
    cases rq_int h'
    unfold atI at e
    cases e1 : ixN xs.length i with
    | none => rw [e1] at e; cases e
    | some j =>
      rw [e1] at e
      obtain ⟨z, z1, z2⟩ := m.get (i := j) (p := r) e
      exact ⟨z, z2, fun Q q => .inr (.inl ⟨a, vs, i, z, rfl, rfl, Same.sqT sub t, by unfold atI; rw [m.length, e1]; exact z1, q⟩)⟩
  · rename_i xs i
    obtain ⟨a, vs, rfl, t, m⟩ := h
    cases rq_int h'
    unfold atI at e
    cases e1 : ixN xs.length i with
    | none => rw [e1] at e; cases e
    | some j =>
      rw [e1] at e
      obtain ⟨z, z1, z2⟩ := m.get (i := j) (p := r) e
      exact ⟨z, z2, fun Q q => .inl ⟨a, vs, i, z, rfl, rfl, SqL.of t, by unfold atI; rw [m.length, e1]; exact z1, q⟩⟩
  · cases e
end
end PL
set_option Elab.async false
set_option linter.all false
set_option maxRecDepth 100000
set_option maxHeartbeats 1000000
namespace PL
open PySem PySem.Spec PyProof.Rows L2
abbrev LE (X : Cx) (W : WX) (e : Expr) (f : Env → Res (RV × Env)) : Prop := PE X e (liftE X.K X.mg W f)
abbrev LT (X : Cx) (W : WX) (e : Expr) (f : Env → Res (Bool × Env)) : Prop := PT X e (liftT X.K X.mg W f)
abbrev LTs (X : Cx) (W : WX) (e : List Expr) (f : Env → Res (List PV × Env)) : Prop := PA X e (liftTs X.K X.mg W f)
abbrev LHs (X : Cx) (W : WX) (e : List Expr) (f : Env → Res (List RV × Env)) : Prop := PA X e (liftHs X.K X.mg W f)
section
variable {X : Cx} {W : WX} {a b c e : Expr} {es : List Expr} {fa fb fc : Env → Res (RV × Env)} {pos : Pos}
theorem le_bad : LE X W e (fun _ => .stuck) := ⟨fun pins s σ H Q I ⟨_, _, _, _, h⟩ => False.elim h⟩
theorem le_var {i : Nat} {x : Str} (hN : X.N[i]? = some x) (hv : Vis X.env.scope x) (hd : (x == ("__debug__" : Str)) = false) (hcd : (x == ("__classdict__" : Str)) = false) :
    LE X W (.Name x pos) (fun env => match get env i with
      | some (.fz p) => .ok (.val p, env)
      | some _ => .ok (.loc i, env)
      | none => .stuck) := by
  refine PE.imp (pe_var hN hv hd hcd) ?_
  rintro σ H Q ⟨env, S, As, R, h⟩
  cases e : get env i with
  | none => simp only [e] at h; exact False.elim h
  | some c =>
    obtain ⟨v, e1, hc⟩ := R.cell i c e
    refine ⟨v, e1, ?_⟩
    simp only [e] at h
    cases c with
    | fz p => exact finP Stp.refl R hc.1 h
    | lst xs => exact h v H S As [] Stp.refl R ⟨e1, rfl⟩ (fun b hb => by cases hb)
    | ls2 xs => exact h v H S As [] Stp.refl R ⟨e1, rfl⟩ (fun b hb => by cases hb)
    | obj C fs => exact h v H S As [] Stp.refl R ⟨e1, rfl⟩ (fun b hb => by cases hb)
theorem le_con {v : V} {p : PV} (h : PE X e (tC v)) (r : ∀ S, Rp X.K X.mg S v p) : LE X W e (fun env => .ok (.val p, env)) := by
  refine PE.imp h ?_
  rintro σ H Q ⟨env, S, As, R, h⟩
  exact finP Stp.refl R (r S) h
theorem le_bop (o : Bop) (ha : LE X W a fa) (hb : LE X W b fb) : LE X W (.BinOp a (opOf o) b pos)
    (fun env => (fa env).bind fun r => (fb r.2).bind fun q => (optR (rd q.2 r.1)).bind fun x => (optR (rd q.2 q.1)).bind fun y => (optR (bopV o x y)).bind fun v => .ok (mkV v, q.2)) := by
  refine PE.imp (pe_op (op_b (mg := X.mg) o) ha hb) ?_
  rintro σ H Q ⟨env, S, As, R, h⟩
  refine liftE.mono (bindE Stp.refl R h) ?_
  rintro v H1 ⟨rv, env1, S1, As1, B1, st1, R1, ok1, fr1, h1⟩
  refine liftE.mono (bindE st1 R1 h1) ?_
  rintro w H2 ⟨rw, env2, S2, As2, B2, st2, R2, ok2, fr2, h2⟩
  obtain ⟨px, e1, h2⟩ := h2.opt
  obtain ⟨py, e2, h2⟩ := h2.opt
  obtain ⟨vr, e3, h2⟩ := h2.opt
  exact ⟨S2, px, py, vr, R2.sub, R2.rd (ok1.stp st2) e1, R2.rd ok2 e2, e3, fun z H' hz => finVR (st1.trans st2) R2 hz h2⟩
theorem Res.bind_ok {α β : Type} {x : Res α} {f : α → Res β} {r : β} (h : x.bind f = .ok r) : ∃ a, x = .ok a ∧ f a = .ok r := by
  cases x with
  | ok a => exact ⟨a, rfl, h⟩
  | exc C fs e => cases h
  | stuck => cases h
/-- a truth value's expression, as a test -/
theorem testOf {F : Env → Res (RV × Env)} {K : PySem.W.Frag} {mg : Str → Option Value} {σ : SlotV} {H : Hp} {Q : Bool → Hp → Prop} (hB : ∀ env r, F env = .ok r → ∃ b, r.1 = .val (.bl b))
    (h : liftT K mg W (fun env => (F env).bind fun r => (optR (rd r.2 r.1)).bind fun p => (optR (truP p)).bind fun b => .ok (b, r.2)) σ H Q) : liftE K mg W F σ H (fun x H' => ∃ k, x = .bl k ∧ Q k H') := by
  obtain ⟨env, S, As, R, h⟩ := h
  refine ⟨env, S, As, R, ?_⟩
  dsimp only at h
  cases e : F env with
  | ok r =>
    obtain ⟨b, hb⟩ := hB env r e
    obtain ⟨rv, e2⟩ := r
    obtain rfl : rv = .val (.bl b) := hb
    rw [e] at h
    exact fun v H' S' As' B st R' ok fr => ⟨b, rp_bl ok.1, h _ _ _ st R'⟩
  | exc C fs e1 => rw [e] at h; exact h
  | stuck => rw [e] at h; exact h
theorem imp_cmp (hu : X.A.units + 65 < cLine) (o : Cop) {K : PySem.W.Frag} {mg : Str → Option Value} {σ : SlotV} {H : Hp} {Q : VK}
    (h : liftE K mg W (fun env => (fa env).bind fun r => (fb r.2).bind fun q => (optR (rd q.2 r.1)).bind fun x => (optR (rd q.2 q.1)).bind fun y => (optR (copV o x y)).bind fun v => .ok (.val (.bl v), q.2)) σ H Q) :
    tOp (rC K mg o) (liftE K mg W fa) (liftE K mg W fb) σ H Q := by
  obtain ⟨env, S, As, R, h⟩ := h
  refine liftE.mono (bindE Stp.refl R h) ?_
  rintro v H1 ⟨rv, env1, S1, As1, B1, st1, R1, ok1, fr1, h1⟩
  refine liftE.mono (bindE st1 R1 h1) ?_
  rintro w H2 ⟨rw, env2, S2, As2, B2, st2, R2, ok2, fr2, h2⟩
  obtain ⟨px, e1, h2⟩ := h2.opt
  obtain ⟨py, e2, h2⟩ := h2.opt
  obtain ⟨vr, e3, h2⟩ := h2.opt
  exact ⟨S2, px, py, vr, R2.sub, R2.rd (ok1.stp st2) e1, R2.rd ok2 e2, e3, finP (st1.trans st2) R2 (Rp.bl _) h2⟩
theorem le_cmp (hu : X.A.units + 65 < cLine) (o : Cop) (ha : LE X W a fa) (hb : LE X W b fb) (hm : behindInMarks (cpOf o) b = false) : LE X W (.Compare a [cpOf o] [b] pos)
    (fun env => (fa env).bind fun r => (fb r.2).bind fun q => (optR (rd q.2 r.1)).bind fun x => (optR (rd q.2 q.1)).bind fun y => (optR (copV o x y)).bind fun v => .ok (.val (.bl v), q.2)) :=
  PE.imp (pe_cmpR (op_c (mg := X.mg) hu o) ha hb hm) fun _ _ _ h => imp_cmp hu o h
/-- the same as a test -/
theorem lt_cmp (hu : X.A.units + 65 < cLine) (o : Cop) (ha : LE X W a fa) (hb : LE X W b fb) (hm : behindInMarks (cpOf o) b = false) : LT X W (.Compare a [cpOf o] [b] pos)
    (fun env => ((fa env).bind fun r => (fb r.2).bind fun q => (optR (rd q.2 r.1)).bind fun x => (optR (rd q.2 q.1)).bind fun y => (optR (copV o x y)).bind fun v => .ok (.val (.bl v), q.2)).bind
      fun r => (optR (rd r.2 r.1)).bind fun p => (optR (truP p)).bind fun b => .ok (b, r.2)) := by
  refine PT.imp (pt_cmpR (op_c (mg := X.mg) hu o) ha hb hm) fun σ H Q h => imp_cmp hu o (testOf (fun env r e => ?_) h)
  obtain ⟨_, _, e⟩ := Res.bind_ok e
  obtain ⟨_, _, e⟩ := Res.bind_ok e
  obtain ⟨_, _, e⟩ := Res.bind_ok e
  obtain ⟨_, _, e⟩ := Res.bind_ok e
  obtain ⟨k, _, e⟩ := Res.bind_ok e
  cases e
  exact ⟨k, rfl⟩
theorem imp_chn (hu : X.A.units + 65 < cLine) (o o' : Cop) {K : PySem.W.Frag} {mg : Str → Option Value} {σ : SlotV} {H : Hp} {Q : VK}
    (h : liftE K mg W (fun env => (fa env).bind fun r => (fb r.2).bind fun q => (optR (rd q.2 r.1)).bind fun x => (optR (rd q.2 q.1)).bind fun y => (optR (copV o x y)).bind fun v => match v with
    | false => .ok (.val (.bl false), q.2)
    | true => (fc q.2).bind fun w => (optR (rd w.2 q.1)).bind fun y => (optR (rd w.2 w.1)).bind fun z =>
      (optR (copV o' y z)).bind fun v => .ok (.val (.bl v), w.2)) σ H Q) : tChain (rC K mg o) (rC K mg o') (liftE K mg W fa) (liftE K mg W fb) (liftE K mg W fc) σ H Q := by
  obtain ⟨env, S, As, R, h⟩ := h
  refine liftE.mono (bindE Stp.refl R h) ?_
  rintro v H1 ⟨rv, env1, S1, As1, B1, st1, R1, ok1, fr1, h1⟩
  refine liftE.mono (bindE st1 R1 h1) ?_
  rintro w H2 ⟨rw, env2, S2, As2, B2, st2, R2, ok2, fr2, h2⟩
  obtain ⟨px, e1, h2⟩ := h2.opt
  obtain ⟨py, e2, h2⟩ := h2.opt
  obtain ⟨vr, e3, h2⟩ := h2.opt
  refine ⟨S2, px, py, vr, R2.sub, R2.rd (ok1.stp st2) e1, R2.rd ok2 e2, e3, vr, rfl, ?_⟩
  cases vr with
  | false => exact iteF (finP (st1.trans st2) R2 (Rp.bl _) h2)
  | true =>
    refine iteT (liftE.mono (bindE (st1.trans st2) R2 h2) ?_)
    rintro z H3 ⟨rz, env3, S3, As3, B3, st3, R3, ok3, fr3, h3⟩
    obtain ⟨px, e1, h3⟩ := h3.opt
    obtain ⟨py, e2, h3⟩ := h3.opt
    obtain ⟨vr, e3, h3⟩ := h3.opt
    exact ⟨S3, px, py, vr, R3.sub, R3.rd (ok2.stp st3) e1, R3.rd ok3 e2, e3, finP ((st1.trans st2).trans st3) R3 (Rp.bl _) h3⟩
theorem le_chn (hu : X.A.units + 65 < cLine) (o o' : Cop) (ha : LE X W a fa) (hb : LE X W b fb) (hc : LE X W c fc) (hm : lastMarks [cpOf o, cpOf o'] [b, c] = false) : LE X W (.Compare a [cpOf o, cpOf o'] [b, c] pos)
    (fun env => (fa env).bind fun r => (fb r.2).bind fun q => (optR (rd q.2 r.1)).bind fun x => (optR (rd q.2 q.1)).bind fun y => (optR (copV o x y)).bind fun v => match v with
    | false => .ok (.val (.bl false), q.2)
    | true => (fc q.2).bind fun w => (optR (rd w.2 q.1)).bind fun y => (optR (rd w.2 w.1)).bind fun z =>
      (optR (copV o' y z)).bind fun v => .ok (.val (.bl v), w.2)) :=
  PE.imp (pe_chain (op_c (mg := X.mg) hu o) (op_c (mg := X.mg) hu o') ha hb hc hm) fun _ _ _ h => imp_chn hu o o' h
theorem lt_chn (hu : X.A.units + 65 < cLine) (o o' : Cop) (ha : LE X W a fa) (hb : LE X W b fb) (hc : LE X W c fc) (hm : lastMarks [cpOf o, cpOf o'] [b, c] = false) : LT X W (.Compare a [cpOf o, cpOf o'] [b, c] pos)
    (fun env => ((fa env).bind fun r => (fb r.2).bind fun q => (optR (rd q.2 r.1)).bind fun x => (optR (rd q.2 q.1)).bind fun y => (optR (copV o x y)).bind fun v => match v with
    | false => .ok (.val (.bl false), q.2)
    | true => (fc q.2).bind fun w => (optR (rd w.2 q.1)).bind fun y => (optR (rd w.2 w.1)).bind fun z =>
      (optR (copV o' y z)).bind fun v => .ok (.val (.bl v), w.2)).bind fun r => (optR (rd r.2 r.1)).bind fun p => (optR (truP p)).bind fun b => .ok (b, r.2)) := by
  refine PT.imp (pt_chain (op_c (mg := X.mg) hu o) (op_c (mg := X.mg) hu o') ha hb hc hm) fun σ H Q h => imp_chn hu o o' (testOf (fun env r e => ?_) h)
  obtain ⟨_, _, e⟩ := Res.bind_ok e
  obtain ⟨_, _, e⟩ := Res.bind_ok e
  obtain ⟨_, _, e⟩ := Res.bind_ok e
  obtain ⟨_, _, e⟩ := Res.bind_ok e
  obtain ⟨k, _, e⟩ := Res.bind_ok e
  cases k with
  | false => cases e; exact ⟨false, rfl⟩
  | true =>
    obtain ⟨_, _, e⟩ := Res.bind_ok e
    obtain ⟨_, _, e⟩ := Res.bind_ok e
    obtain ⟨_, _, e⟩ := Res.bind_ok e
    obtain ⟨k, _, e⟩ := Res.bind_ok e
    cases e
    exact ⟨k, rfl⟩
theorem val_int {H S : Hp} {As : Fp} {σ : SlotV} {v : V} {i : Int} {B : List Addr} (h : RvOk X.K X.mg σ H S As v (.val (.int i)) B) : v = .int i := rp_int h.1
theorem val_bl {H S : Hp} {As : Fp} {σ : SlotV} {v : V} {i : Bool} {B : List Addr} (h : RvOk X.K X.mg σ H S As v (.val (.bl i)) B) : v = .bl i := rp_bl h.1
theorem le_neg (ha : LE X W a fa) : LE X W (.UnaryOp .USub a pos) (fun env => (fa env).bind fun r => match r.1 with
    | .val (.int i) => .ok (.val (.int (-i)), r.2)
    | _ => .stuck) := by
  refine PE.imp (pe_un un_neg ha) ?_
  rintro σ H Q ⟨env, S, As, R, h⟩
  refine liftE.mono (bindE Stp.refl R h) ?_
  rintro v H1 ⟨rv, env1, S1, As1, B1, st1, R1, ok1, fr1, h1⟩
  split at h1
  · rename_i i e
    obtain rfl : rv = .val (.int i) := e
    exact ⟨i, val_int ok1, finP st1 R1 (Rp.int _) h1⟩
  · exact False.elim h1
theorem le_not (ha : LE X W a fa) : LE X W (.UnaryOp .Not a pos) (fun env => (fa env).bind fun r => match r.1 with
    | .val (.bl b) => .ok (.val (.bl (!b)), r.2)
    | _ => .stuck) := by
  refine PE.imp (pe_not ha) ?_
  rintro σ H Q ⟨env, S, As, R, h⟩
  refine liftE.mono (bindE Stp.refl R h) ?_
  rintro v H1 ⟨rv, env1, S1, As1, B1, st1, R1, ok1, fr1, h1⟩
  split at h1
  · rename_i i e
    obtain rfl : rv = .val (.bl i) := e
    exact ⟨i, val_bl ok1, finP st1 R1 (Rp.bl _) h1⟩
  · exact False.elim h1
theorem le_and (ha : LE X W a fa) (hb : LE X W (.BoolOp .And (b :: es) pos) fb) : LE X W (.BoolOp .And (a :: b :: es) pos) (fun env => (fa env).bind fun r => match r.1 with
    | .val (.bl true) => fb r.2
    | .val (.bl false) => .ok (.val (.bl false), r.2)
    | _ => .stuck) := by
  refine PE.imp (pe_and ha hb) ?_
  rintro σ H Q ⟨env, S, As, R, h⟩
  refine liftE.mono (bindE Stp.refl R h) ?_
  rintro v H1 ⟨rv, env1, S1, As1, B1, st1, R1, ok1, fr1, h1⟩
  split at h1
  · rename_i e
    obtain rfl : rv = .val (.bl true) := e
    have h1' : Post X.K X.mg W H S As ((fb env1).bind fun q => .ok (q.1, q.2)) (KE X.K X.mg σ H S As Q) := by
      revert h1
      cases fb env1 <;> exact id
    refine ⟨true, val_bl ok1, iteT (liftE.mono (bindE st1 R1 h1') ?_)⟩
    rintro w H2 ⟨rw, env2, S2, As2, B2, st2, R2, ok2, fr2, h2⟩
    exact h2 w H2 S2 As2 B2 (st1.trans st2) R2 ok2 fun b hb => st1.fresh (fr2 b hb)
  · rename_i e
    obtain rfl : rv = .val (.bl false) := e
    exact ⟨false, val_bl ok1, iteF (finP st1 R1 (Rp.bl _) h1)⟩
  · exact False.elim h1
theorem le_or (ha : LE X W a fa) (hb : LE X W (.BoolOp .Or (b :: es) pos) fb) : LE X W (.BoolOp .Or (a :: b :: es) pos) (fun env => (fa env).bind fun r => match r.1 with
    | .val (.bl true) => .ok (.val (.bl true), r.2)
    | .val (.bl false) => fb r.2
    | _ => .stuck) := by
  refine PE.imp (pe_or ha hb) ?_
  rintro σ H Q ⟨env, S, As, R, h⟩
  refine liftE.mono (bindE Stp.refl R h) ?_
  rintro v H1 ⟨rv, env1, S1, As1, B1, st1, R1, ok1, fr1, h1⟩
  split at h1
  · rename_i e
    obtain rfl : rv = .val (.bl true) := e
    exact ⟨true, val_bl ok1, iteT (finP st1 R1 (Rp.bl _) h1)⟩
  · rename_i e
    obtain rfl : rv = .val (.bl false) := e
    have h1' : Post X.K X.mg W H S As ((fb env1).bind fun q => .ok (q.1, q.2)) (KE X.K X.mg σ H S As Q) := by
      revert h1
      cases fb env1 <;> exact id
    refine ⟨false, val_bl ok1, iteF (liftE.mono (bindE st1 R1 h1') ?_)⟩
    rintro w H2 ⟨rw, env2, S2, As2, B2, st2, R2, ok2, fr2, h2⟩
    exact h2 w H2 S2 As2 B2 (st1.trans st2) R2 ok2 fun b hb => st1.fresh (fr2 b hb)
  · exact False.elim h1
theorem Post.pass {α : Type} {K : PySem.W.Frag} {mg : Str → Option Value} {H S : Hp} {As : Fp} {r : Res (α × Env)} {k : α → Env → Prop} (h : Post K mg W H S As r k) : Post K mg W H S As (r.bind fun q => .ok (q.1, q.2)) k := by
  cases r <;> exact h
theorem le_ite {ft : Env → Res (Bool × Env)} (hc : LT X W c ft) (ha : LE X W a fa) (hb : LE X W b fb) : LE X W (.IfExp c a b pos) (fun env => (ft env).bind fun r => match r.1 with
    | true => fa r.2
    | false => fb r.2) := by
  refine PE.imp (pe_ifExp hc ha hb) ?_
  rintro σ H Q ⟨env, S, As, R, h⟩
  refine liftT.mono (bindT Stp.refl R h) ?_
  rintro v H1 ⟨env1, S1, As1, st1, R1, h1⟩
  cases v with
  | true =>
    refine iteT (liftE.mono (bindE st1 R1 (Post.pass h1)) ?_)
    rintro w H2 ⟨rw, env2, S2, As2, B2, st2, R2, ok2, fr2, h2⟩
    exact h2 w H2 S2 As2 B2 (st1.trans st2) R2 ok2 fun b hb => st1.fresh (fr2 b hb)
  | false =>
    refine iteF (liftE.mono (bindE st1 R1 (Post.pass h1)) ?_)
    rintro w H2 ⟨rw, env2, S2, As2, B2, st2, R2, ok2, fr2, h2⟩
    exact h2 w H2 S2 As2 B2 (st1.trans st2) R2 ok2 fun b hb => st1.fresh (fr2 b hb)
/-! ### tests -/
theorem lt_truth (ha : LE X W a fa) (he : ∀ whole, isTrue a X.env whole = (do let v ← whole; standAt a.pos; holding [v] (truthy v))) :
    LT X W a (fun env => (fa env).bind fun r => (optR (rd r.2 r.1)).bind fun p => (optR (truP p)).bind fun b => .ok (b, r.2)) := by
  refine PT.imp (pt_truth ha he) ?_
  rintro σ H Q ⟨env, S, As, R, h⟩
  refine liftE.mono (bindE Stp.refl R h) ?_
  rintro v H1 ⟨rv, env1, S1, As1, B1, st1, R1, ok1, fr1, h1⟩
  obtain ⟨p, e1, h1⟩ := h1.opt
  obtain ⟨k, e2, h1⟩ := h1.opt
  exact ⟨k, tru_ofP R1.sub (R1.rd ok1 e1) e2, h1 _ _ _ st1 R1⟩
theorem lt_not {ft : Env → Res (Bool × Env)} (ha : LT X W a ft) : LT X W (.UnaryOp .Not a pos) (fun env => (ft env).bind fun r => .ok (!r.1, r.2)) := by
  refine PT.imp (pt_not ha) ?_
  rintro σ H Q ⟨env, S, As, R, h⟩
  refine liftT.mono (bindT Stp.refl R h) ?_
  rintro v H1 ⟨env1, S1, As1, st1, R1, h1⟩
  exact h1 _ _ _ st1 R1
abbrev LW (X : Cx) (W : WX) (e : Expr) (f : Env → Res (Bool × Env)) : Prop := PW X e (liftT X.K X.mg W f)
theorem lw_and {ft fu : Env → Res (Bool × Env)} (ha : LT X W a ft) (hb : LW X W (.BoolOp .And (b :: es) pos) fu) : LW X W (.BoolOp .And (a :: b :: es) pos) (fun env => (ft env).bind fun r => match r.1 with
    | true => fu r.2
    | false => .ok (false, r.2)) := by
  refine PW.imp (pw_and ha hb) ?_
  rintro σ H Q ⟨env, S, As, R, h⟩
  refine liftT.mono (bindT Stp.refl R h) ?_
  rintro v H1 ⟨env1, S1, As1, st1, R1, h1⟩
  cases v with
  | true =>
    refine iteT (liftT.mono (bindT st1 R1 (Post.pass h1)) ?_)
    rintro w H2 ⟨env2, S2, As2, st2, R2, h2⟩
    exact h2 _ _ _ (st1.trans st2) R2
  | false => exact iteF (h1 _ _ _ st1 R1)
theorem lw_or {ft fu : Env → Res (Bool × Env)} (ha : LT X W a ft) (hb : LW X W (.BoolOp .Or (b :: es) pos) fu) : LW X W (.BoolOp .Or (a :: b :: es) pos) (fun env => (ft env).bind fun r => match r.1 with
    | true => .ok (true, r.2)
    | false => fu r.2) := by
  refine PW.imp (pw_or ha hb) ?_
  rintro σ H Q ⟨env, S, As, R, h⟩
  refine liftT.mono (bindT Stp.refl R h) ?_
  rintro v H1 ⟨env1, S1, As1, st1, R1, h1⟩
  cases v with
  | true => exact iteT (h1 _ _ _ st1 R1)
  | false =>
    refine iteF (liftT.mono (bindT st1 R1 (Post.pass h1)) ?_)
    rintro w H2 ⟨env2, S2, As2, st2, R2, h2⟩
    exact h2 _ _ _ (st1.trans st2) R2
theorem lw_and1 {ft : Env → Res (Bool × Env)} (ha : LT X W a ft) : LW X W (.BoolOp .And [a] pos) ft := pw_and1 ha
theorem lw_or1 {ft : Env → Res (Bool × Env)} (ha : LT X W a ft) : LW X W (.BoolOp .Or [a] pos) ft := pw_or1 ha
/-! ### argument lists, displays -/
theorem lts_nil : LTs X W [] (fun env => .ok ([], env)) := by
  refine PA.imp pa_nil ?_
  rintro σ H Q ⟨env, S, As, R, h⟩
  exact h [] H S As Stp.refl R Rps.nil
theorem lts_cons {fs : Env → Res (List PV × Env)} (ha : LE X W a fa) (hr : LTs X W es fs) (hs : starEach (a :: es) X.env = (false, eval a X.env) :: starEach es X.env) :
    LTs X W (a :: es) (fun env => (fa env).bind fun r => (optR (take r.1 r.2)).bind fun r => (fs r.2).bind fun q => .ok (r.1 :: q.1, q.2)) := by
  refine PA.imp (pa_cons ha hr hs) ?_
  rintro σ H Q ⟨env, S, As, R, h⟩
  refine liftE.mono (bindE Stp.refl R h) ?_
  rintro v H1 ⟨rv, env1, S1, As1, B1, st1, R1, ok1, fr1, h1⟩
  obtain ⟨⟨p, env1'⟩, e1, h1⟩ := h1.opt
  obtain ⟨S1', As1', R1', st1', rp, sm⟩ := take_ok R1 ok1 st1 fr1 e1
  refine liftTs.mono (bindTs st1' R1' h1) ?_
  rintro vs H2 ⟨ps, env2, S2, As2, st2, R2, rs, h2⟩
  exact h2 _ _ _ _ (st1'.trans st2) R2 (Rps.cons (Rp.mono st2.same _ _ rp) rs)
theorem RvsOk.stp {σ : SlotV} {H S H' S' : Hp} {As As' : Fp} {K : PySem.W.Frag} {mg : Str → Option Value} (s : Stp H S As H' S' As') : ∀ {rs : List RV} {vs : List V} {B : List Addr}, RvsOk K mg σ H S As vs rs B → RvsOk K mg σ H' S' As' vs rs B
  | [], vs, B, h => h
  | r :: rs, vs, B, h => by
    obtain ⟨v, vs', B1, B2, h1, h2, h3, h4, h5⟩ := h
    exact ⟨v, vs', B1, B2, h1, h2, h3.stp s, RvsOk.stp s h4, h5⟩
theorem lhs_nil : LHs X W [] (fun env => .ok ([], env)) := by
  refine PA.imp pa_nil ?_
  rintro σ H Q ⟨env, S, As, R, h⟩
  exact h [] H S As [] Stp.refl R ⟨rfl, rfl⟩ (fun b hb => by cases hb)
theorem RvOk.there {σ : SlotV} {H S : Hp} {As : Fp} {K : PySem.W.Frag} {mg : Str → Option Value} {v : V} {rv : RV} {B : List Addr} (h : RvOk K mg σ H S As v rv B) : ∀ b ∈ B, H b ≠ none ∧ ¬ Own As b := by
  intro b hb
  cases rv with
  | val p => rw [h.2] at hb; cases hb
  | loc j => rw [h.2] at hb; cases hb
  | new c => exact ⟨h.1.there b hb, (h.2 b hb).1⟩
theorem lhs_cons {fs : Env → Res (List RV × Env)} (ha : LE X W a fa) (hr : LHs X W es fs) (hs : starEach (a :: es) X.env = (false, eval a X.env) :: starEach es X.env) :
    LHs X W (a :: es) (fun env => (fa env).bind fun r => (fs r.2).bind fun q => .ok (r.1 :: q.1, q.2)) := by
  refine PA.imp (pa_cons ha hr hs) ?_
  rintro σ H Q ⟨env, S, As, R, h⟩
  refine liftE.mono (bindE Stp.refl R h) ?_
  rintro v H1 ⟨rv, env1, S1, As1, B1, st1, R1, ok1, fr1, h1⟩
  refine liftHs.mono (bindHs st1 R1 h1) ?_
  rintro vs H2 ⟨rs, env2, S2, As2, B2, st2, R2, ok2, fr2, h2⟩
  refine h2 _ _ _ _ (B1 ++ B2) (st1.trans st2) R2 ⟨v, vs, B1, B2, rfl, rfl, ok1.stp st2, ok2, fun b hb hb2 => ?_⟩ fun b hb => ?_
  · obtain ⟨n1, n2⟩ := ok1.there b hb
    exact (fr2 b hb2).elim n1 n2
  · rcases List.mem_append.mp hb with hb | hb
    · exact fr1 b hb
    · exact st1.fresh (fr2 b hb)
theorem le_tup {fs : Env → Res (List PV × Env)} {kk : Nat} (h : LTs X W es fs) (hz : es.length ≤ 1000) (hl : ∀ env r, fs env = .ok r → r.1.length = es.length) : LE X W (.Tuple es kk pos) (fun env => (fs env).bind fun r => .ok (.val (.tup r.1), r.2)) := by
  refine PE.imp (pe_tup h) ?_
  rintro σ H Q ⟨env, S, As, R, h⟩
  have hlen : ∀ r, fs env = .ok r → r.1.length = es.length := hl env
  dsimp only at h
  have h' : Post X.K X.mg W H S As (fs env) (fun ps env1 => ps.length = es.length ∧ KE X.K X.mg σ H S As Q (.val (.tup ps)) env1) := by
    revert h hlen
    cases fs env with
    | ok r => exact fun h hlen => ⟨hlen r rfl, h⟩
    | exc C gs e => exact fun h _ => h
    | stuck => exact fun h _ => h
  refine ⟨env, S, As, R, h'.mono ?_⟩
  rintro ps env1 ⟨hlen, k⟩ vs H1 S1 As1 st1 R1 rs
  have hz2 : vs.length ≤ sizeLine := by rw [rs.length, hlen, sizeLine_eq]; omega
  exact ⟨hz2, fun p n => finVR (vr := .tup ps) st1 R1 (.inr ⟨p, vs, rfl, n, rfl, rs⟩) k⟩
theorem le_lst {fs : Env → Res (List PV × Env)} (h : LTs X W es fs) (hz : es.length ≤ 1000) (hl : ∀ env r, fs env = .ok r → r.1.length = es.length) : LE X W (.List es pos) (fun env => (fs env).bind fun r => .ok (.new (.lst r.1), r.2)) := by
  refine PE.imp (pe_lst h) ?_
  rintro σ H Q ⟨env, S, As, R, h⟩
  have hlen : ∀ r, fs env = .ok r → r.1.length = es.length := hl env
  dsimp only at h
  have h' : Post X.K X.mg W H S As (fs env) (fun ps env1 => ps.length = es.length ∧ KE X.K X.mg σ H S As Q (.new (.lst ps)) env1) := by
    revert h hlen
    cases fs env with
    | ok r => exact fun h hlen => ⟨hlen r rfl, h⟩
    | exc C gs e => exact fun h _ => h
    | stuck => exact fun h _ => h
  refine ⟨env, S, As, R, h'.mono ?_⟩
  rintro ps env1 ⟨hlen, k⟩ vs H1 S1 As1 st1 R1 rs
  have hz2 : vs.length ≤ sizeLine := by rw [rs.length, hlen, sizeLine_eq]; omega
  exact ⟨hz2, fun p n => finVR (vr := .lst ps) st1 R1 ⟨p, vs, rfl, n, rfl, rs⟩ k⟩
/-! ### items and slices -/
theorem le_ix (ha : LE X W a fa) (hb : LE X W b fb) (hs : PlainIx b) : LE X W (.Subscript a b pos)
    (fun env => (fa env).bind fun r => (fb r.2).bind fun q => (optR (rd q.2 r.1)).bind fun x => (optR (rd q.2 q.1)).bind fun y => (optR (ixP x y)).bind fun v => .ok (.val v, q.2)) := by
  refine PE.imp (pe_ix ix_seq ha hb hs) ?_
  rintro σ H Q ⟨env, S, As, R, h⟩
  refine liftE.mono (bindE Stp.refl R h) ?_
  rintro v H1 ⟨rv, env1, S1, As1, B1, st1, R1, ok1, fr1, h1⟩
  refine liftE.mono (bindE st1 R1 h1) ?_
  rintro w H2 ⟨rw, env2, S2, As2, B2, st2, R2, ok2, fr2, h2⟩
  obtain ⟨px, e1, h2⟩ := h2.opt
  obtain ⟨py, e2, h2⟩ := h2.opt
  obtain ⟨vr, e3, h2⟩ := h2.opt
  obtain ⟨z, z1, z2⟩ := ix_ok R2.sub (R2.rd (ok1.stp st2) e1) (R2.rd ok2 e2) e3
  exact z2 Q (finP (st1.trans st2) R2 z1 h2)
end
end PL
set_option Elab.async false
set_option linter.all false
set_option maxRecDepth 100000
set_option maxHeartbeats 1000000
namespace PL
open PySem PySem.Spec PyProof.Rows L2
/-! ### built-in functions, by plain values -/
def Rp1s (K : PySem.W.Frag) (mg : Str → Option Value) (H S : Hp) : List V → List PV → Prop
  | vs, [] => vs = []
  | vs, p :: ps => ∃ v r, vs = v :: r ∧ Rp1 K mg H S v p ∧ Rp1s K mg H S r ps
def rBl (K : PySem.W.Frag) (mg : Str → Option Value) (f : Str) : List V → Hp → VK → Prop := fun vs H Q => ∃ S ps vr, Same S H ∧ Rp1s K mg H S vs ps ∧ bltV f ps = some vr ∧ ∀ z H', VRok K mg H S vr z H' → Q z H'
section
variable {K : PySem.W.Frag} {mg : Str → Option Value} {H S : Hp} {As : Fp} {σ : SlotV} {env : Env}
theorem rds_ok (R : Rel K mg σ env H S As) : ∀ {rs : List RV} {vs : List V} {B : List Addr} {ps : List PV}, RvsOk K mg σ H S As vs rs B → rds env rs = some ps → Rp1s K mg H S vs ps
  | [], vs, B, ps, h, e => by cases e; exact h.1
  | r :: rs, vs, B, ps, h, e => by
    obtain ⟨v, vs', B1, B2, rfl, rfl, h3, h4, h5⟩ := h
    unfold rds at e
    split at e
    · rename_i p ps' e1 e2
      cases e
      exact ⟨v, vs', rfl, R.rd h3 e1, rds_ok R h4 e2⟩
    · cases e
theorem rp1s_one {vs : List V} {p : PV} (h : Rp1s K mg H S vs [p]) : ∃ v, vs = [v] ∧ Rp1 K mg H S v p := by
  obtain ⟨v, r, rfl, h1, h2⟩ := h
  obtain rfl : r = [] := h2
  exact ⟨v, rfl, h1⟩
theorem rp1s_two {vs : List V} {p q : PV} (h : Rp1s K mg H S vs [p, q]) : ∃ v w, vs = [v, w] ∧ Rp1 K mg H S v p ∧ Rp1 K mg H S w q := by
  obtain ⟨v, r, rfl, h1, h2⟩ := h
  obtain ⟨w, rfl, h3⟩ := rp1s_one h2
  exact ⟨v, w, rfl, h1, h3⟩
end
theorem bltV_abs (ps : List PV) : bltV "abs" ps = (match ps with | [.int i] => some (VR.sc (.int (if i < 0 then -i else i))) | _ => none) := by
  unfold bltV
  rfl
theorem bltV_min (ps : List PV) : bltV "min" ps = (match ps with
    | [.int i, .int j] => some (VR.sc (.int (if j < i then j else i)))
    | [.lst xs] => match asInts xs with
      | some (n :: ns) => some (.sc (.int (ns.foldl min n)))
      | _ => none
    | _ => none) := by
  unfold bltV
  rfl
theorem bltV_max (ps : List PV) : bltV "max" ps = (match ps with
    | [.int i, .int j] => some (VR.sc (.int (if j > i then j else i)))
    | [.lst xs] => match asInts xs with
      | some (n :: ns) => some (.sc (.int (ns.foldl max n)))
      | _ => none
    | _ => none) := by
  unfold bltV
  rfl
theorem bltV_sum (ps : List PV) : bltV "sum" ps = (match ps with | [.lst xs] => (asInts xs).map fun ns => VR.sc (.int ns.sum) | _ => none) := by
  unfold bltV
  rfl
theorem bltV_all (ps : List PV) : bltV "all" ps = (match ps with | [.lst xs] => (asBls xs).map fun ns => VR.sc (.bl (ns.all id)) | _ => none) := by
  unfold bltV
  rfl
theorem bltV_any (ps : List PV) : bltV "any" ps = (match ps with | [.lst xs] => (asBls xs).map fun ns => VR.sc (.bl (ns.any id)) | _ => none) := by
  unfold bltV
  rfl
theorem bltV_tuple (ps : List PV) : bltV "tuple" ps = (match ps with
    | [.lst xs] => some (VR.tup xs)
    | [.tup xs] => some (.sc (.tup xs))
    | _ => none) := by
  unfold bltV
  rfl
theorem bltV_list (ps : List PV) : bltV "list" ps = (match ps with
    | [.lst xs] => some (VR.lst xs)
    | [.tup xs] => some (.lst xs)
    | [.scr xs] => some (.lst (xs.map .int))
    | _ => none) := by
  unfold bltV
  rfl
theorem bltV_int (ps : List PV) : bltV "int" ps = (match ps with | [.int i] => some (VR.sc (.int i)) | _ => none) := by
  unfold bltV
  rfl
theorem bltV_isinstance (ps : List PV) : bltV "isinstance" ps = (match ps with | [p, .ty T] => (isiP p T).map fun b => VR.sc (.bl b) | _ => none) := by
  unfold bltV
  rfl
theorem foldl_min_mem : ∀ (ns : List Int) (n : Int), ns.foldl min n ∈ n :: ns
  | [], n => List.mem_cons_self
  | m :: ns, n => by
    rw [List.foldl_cons]
    have h := foldl_min_mem ns (min n m)
    rcases List.mem_cons.mp h with e | e
    · rw [e]
      rcases Int.le_total n m with q | q
      · rw [Int.min_eq_left q]; exact List.mem_cons_self
      · rw [Int.min_eq_right q]; exact List.mem_cons_of_mem _ List.mem_cons_self
    · exact List.mem_cons_of_mem _ (List.mem_cons_of_mem _ e)
theorem foldl_min_le : ∀ (ns : List Int) (n : Int), ∀ y ∈ n :: ns, ns.foldl min n ≤ y
  | [], n, y, h => by
    obtain rfl : y = n := by simpa using h
    exact Int.le_refl _
  | m :: ns, n, y, h => by
    rw [List.foldl_cons]
    have ih := foldl_min_le ns (min n m)
    rcases List.mem_cons.mp h with e | h
    · have := ih _ List.mem_cons_self
      omega
    · rcases List.mem_cons.mp h with e | h
      · have := ih _ List.mem_cons_self
        omega
      · exact ih y (List.mem_cons_of_mem _ h)
theorem foldl_max_mem : ∀ (ns : List Int) (n : Int), ns.foldl max n ∈ n :: ns
  | [], n => List.mem_cons_self
  | m :: ns, n => by
    rw [List.foldl_cons]
    have h := foldl_max_mem ns (max n m)
    rcases List.mem_cons.mp h with e | e
    · rw [e]
      rcases Int.le_total n m with q | q
      · rw [Int.max_eq_right q]; exact List.mem_cons_of_mem _ List.mem_cons_self
      · rw [Int.max_eq_left q]; exact List.mem_cons_self
    · exact List.mem_cons_of_mem _ (List.mem_cons_of_mem _ e)
theorem foldl_max_le : ∀ (ns : List Int) (n : Int), ∀ y ∈ n :: ns, y ≤ ns.foldl max n
  | [], n, y, h => by
    obtain rfl : y = n := by simpa using h
    exact Int.le_refl _
  | m :: ns, n, y, h => by
    rw [List.foldl_cons]
    have ih := foldl_max_le ns (max n m)
    rcases List.mem_cons.mp h with e | h
    · have := ih _ List.mem_cons_self
      omega
    · rcases List.mem_cons.mp h with e | h
      · have := ih _ List.mem_cons_self
        omega
      · exact ih y (List.mem_cons_of_mem _ h)
section
variable {X : Cx} {mg : Str → Option Value}
theorem bl_len : CallR X (.builtin "len") (rBl X.K mg "len") := by
  intro pins s σ H vs us Q I r h
  obtain ⟨S, ps, vr, sub, hp, e, q⟩ := h
  simp only [bltV, if_true] at e
  split at e
  · rename_i p
    obtain ⟨v, rfl, h1⟩ := rp1s_one hp
    simp only [Option.map_eq_some_iff] at e
    obtain ⟨n, e1, rfl⟩ := e
    cases p with
    | tup xs =>
      obtain ⟨a, ws, rfl, t, m⟩ := rq_tup h1
      cases e1
      exact call_len_seq pins s σ H _ us Q I r ⟨a, ws, rfl, .inr (Same.sqT sub t), by rw [m.length]; exact q _ _ ⟨rfl, Rp.int _⟩⟩
    | lst xs =>
      obtain ⟨a, ws, rfl, t, m⟩ := h1
      cases e1
      exact call_len_seq pins s σ H _ us Q I r ⟨a, ws, rfl, .inl (SqL.of t), by rw [m.length]; exact q _ _ ⟨rfl, Rp.int _⟩⟩
    | scr xs =>
      obtain ⟨a, rfl, t⟩ := rq_scr h1
      cases e1
      exact call_len_seq pins s σ H _ us Q I r ⟨a, _, rfl, .inl (Same.sqL sub t), by rw [List.length_map]; exact q _ _ ⟨rfl, Rp.int _⟩⟩
    | _ => cases e1
  · cases e
theorem bl_abs : CallR X (.builtin "abs") (rBl X.K mg "abs") := by
  intro pins s σ H vs us Q I r h
  obtain ⟨S, ps, vr, sub, hp, e, q⟩ := h
  rw [bltV_abs] at e
  split at e
  · rename_i i
    obtain ⟨v, rfl, h1⟩ := rp1s_one hp
    cases rq_int h1
    cases e
    exact call_abs pins s σ H _ us Q I r ⟨_, rfl, q _ _ ⟨rfl, Rp.int _⟩⟩
  · cases e
theorem bl_min (hc : X.calm = true) : CallR X (.builtin "min") (rBl X.K mg "min") := by
  intro pins s σ H vs us Q I r h
  obtain ⟨S, ps, vr, sub, hp, e, q⟩ := h
  rw [bltV_min] at e
  split at e
  · obtain ⟨v, w, rfl, h1, h2⟩ := rp1s_two hp
    cases rq_int h1
    cases rq_int h2
    cases e
    exact call_min2 hc pins s σ H _ us Q I r ⟨_, _, rfl, q _ _ ⟨rfl, Rp.int _⟩⟩
  · split at e
    · rename_i n ns e1
      obtain ⟨v, rfl, h1⟩ := rp1s_one hp
      obtain ⟨a, ws, rfl, t, m⟩ := h1
      cases e
      have ew := m.asInts e1
      subst ew
      refine cr_min hc pins s σ H _ us Q I r ⟨a, n :: ns, rfl, SqL.of t, by simp, fun k h1 h2 => ?_⟩
      have : k = ns.foldl min n := Int.le_antisymm (h2 _ (foldl_min_mem ns n)) (foldl_min_le ns n k h1)
      subst this
      exact q _ _ ⟨rfl, Rp.int _⟩
    · cases e
  · cases e
theorem bl_max (hc : X.calm = true) : CallR X (.builtin "max") (rBl X.K mg "max") := by
  intro pins s σ H vs us Q I r h
  obtain ⟨S, ps, vr, sub, hp, e, q⟩ := h
  rw [bltV_max] at e
  split at e
  · obtain ⟨v, w, rfl, h1, h2⟩ := rp1s_two hp
    cases rq_int h1
    cases rq_int h2
    cases e
    exact call_max2 hc pins s σ H _ us Q I r ⟨_, _, rfl, q _ _ ⟨rfl, Rp.int _⟩⟩
  · split at e
    · rename_i n ns e1
      obtain ⟨v, rfl, h1⟩ := rp1s_one hp
      obtain ⟨a, ws, rfl, t, m⟩ := h1
      cases e
      have ew := m.asInts e1
      subst ew
      refine cr_max hc pins s σ H _ us Q I r ⟨a, n :: ns, rfl, SqL.of t, by simp, fun k h1 h2 => ?_⟩
      have : k = ns.foldl max n := Int.le_antisymm (foldl_max_le ns n k h1) (h2 _ (foldl_max_mem ns n))
      subst this
      exact q _ _ ⟨rfl, Rp.int _⟩
    · cases e
  · cases e
theorem bl_sum (hc : X.calm = true) : CallR X (.builtin "sum") (rBl X.K mg "sum") := by
  intro pins s σ H vs us Q I r h
  obtain ⟨S, ps, vr, sub, hp, e, q⟩ := h
  rw [bltV_sum] at e
  split at e
  · obtain ⟨v, rfl, h1⟩ := rp1s_one hp
    obtain ⟨a, ws, rfl, t, m⟩ := h1
    simp only [Option.map_eq_some_iff] at e
    obtain ⟨ns, e1, rfl⟩ := e
    have ew := m.asInts e1
    subst ew
    exact cr_sum hc pins s σ H _ us Q I r ⟨a, ns, rfl, SqL.of t, q _ _ ⟨rfl, Rp.int _⟩⟩
  · cases e
theorem bl_all (hc : X.calm = true) : CallR X (.builtin "all") (rBl X.K mg "all") := by
  intro pins s σ H vs us Q I r h
  obtain ⟨S, ps, vr, sub, hp, e, q⟩ := h
  rw [bltV_all] at e
  split at e
  · obtain ⟨v, rfl, h1⟩ := rp1s_one hp
    obtain ⟨a, ws, rfl, t, m⟩ := h1
    simp only [Option.map_eq_some_iff] at e
    obtain ⟨ns, e1, rfl⟩ := e
    have ew := m.asBls e1
    subst ew
    exact cr_all hc pins s σ H _ us Q I r ⟨a, ns, rfl, SqL.of t, q _ _ ⟨rfl, Rp.bl _⟩⟩
  · cases e
theorem bl_any (hc : X.calm = true) : CallR X (.builtin "any") (rBl X.K mg "any") := by
  intro pins s σ H vs us Q I r h
  obtain ⟨S, ps, vr, sub, hp, e, q⟩ := h
  rw [bltV_any] at e
  split at e
  · obtain ⟨v, rfl, h1⟩ := rp1s_one hp
    obtain ⟨a, ws, rfl, t, m⟩ := h1
    simp only [Option.map_eq_some_iff] at e
    obtain ⟨ns, e1, rfl⟩ := e
    have ew := m.asBls e1
    subst ew
    exact cr_any hc pins s σ H _ us Q I r ⟨a, ns, rfl, SqL.of t, q _ _ ⟨rfl, Rp.bl _⟩⟩
  · cases e
theorem bl_tuple : CallR X (.type "tuple") (rBl X.K mg "tuple") := by
  intro pins s σ H vs us Q I r h
  obtain ⟨S, ps, vr, sub, hp, e, q⟩ := h
  rw [bltV_tuple] at e
  split at e
  · obtain ⟨v, rfl, h1⟩ := rp1s_one hp
    obtain ⟨a, ws, rfl, t, m⟩ := h1
    cases e
    exact call_tuple_of pins s σ H _ us Q I r ⟨a, ws, rfl, .inl ⟨SqL.of t, fun l n => q _ _ (.inr ⟨l, ws, rfl, n, rfl, m⟩)⟩⟩
  · obtain ⟨v, rfl, h1⟩ := rp1s_one hp
    have h0 := h1
    obtain ⟨a, ws, rfl, t, m⟩ := rq_tup h1
    cases e
    exact call_tuple_of pins s σ H _ us Q I r ⟨a, ws, rfl, .inr ⟨Same.sqT sub t, q _ _ ⟨rfl, h0⟩⟩⟩
  · cases e
theorem bl_list : CallR X (.type "list") (rBl X.K mg "list") := by
  intro pins s σ H vs us Q I r h
  obtain ⟨S, ps, vr, sub, hp, e, q⟩ := h
  rw [bltV_list] at e
  split at e
  · obtain ⟨v, rfl, h1⟩ := rp1s_one hp
    obtain ⟨a, ws, rfl, t, m⟩ := h1
    cases e
    exact call_list_of pins s σ H _ us Q I r ⟨a, ws, rfl, .inl (SqL.of t), fun l n => q _ _ ⟨l, ws, rfl, n, rfl, m⟩⟩
  · obtain ⟨v, rfl, h1⟩ := rp1s_one hp
    obtain ⟨a, ws, rfl, t, m⟩ := rq_tup h1
    cases e
    exact call_list_of pins s σ H _ us Q I r ⟨a, ws, rfl, .inr (Same.sqT sub t), fun l n => q _ _ ⟨l, ws, rfl, n, rfl, m⟩⟩
  · obtain ⟨v, rfl, h1⟩ := rp1s_one hp
    obtain ⟨a, rfl, t⟩ := rq_scr h1
    cases e
    exact call_list_of pins s σ H _ us Q I r ⟨a, _, rfl, .inl (Same.sqL sub t), fun l n => q _ _ ⟨l, _, rfl, n, rfl, Rps.ints _⟩⟩
  · cases e
theorem bl_int : CallR X (.type "int") (rBl X.K mg "int") := by
  intro pins s σ H vs us Q I r h
  obtain ⟨S, ps, vr, sub, hp, e, q⟩ := h
  rw [bltV_int] at e
  split at e
  · obtain ⟨v, rfl, h1⟩ := rp1s_one hp
    cases rq_int h1
    cases e
    exact call_int1 pins s σ H _ us Q I r (.inl ⟨_, rfl, q _ _ ⟨rfl, Rp.int _⟩⟩)
  · cases e
/-- a value's type -/
theorem ty_of {K : PySem.W.Frag} {H S : Hp} {p : PV} {v : V} (sub : Same S H) (h : Rp1 K mg H S v p) : match p with
    | .non => TyX K H v (.type "NoneType") | .bl _ => TyX K H v (.type "bool") | .int _ => TyX K H v (.type "int") | .str _ => TyX K H v (.type "str")
    | .tup _ => TyX K H v (.type "tuple") | .lst _ => TyX K H v (.type "list") | _ => True := by
  cases p with
  | non => cases rq_non h; exact .base .non
  | bl b => cases rq_bl h; exact .base (.bl _)
  | int i => cases rq_int h; exact .base (.int _)
  | str x => cases rq_str h; exact .base (.str _)
  | tup ps =>
    obtain ⟨a, vs, rfl, t, m⟩ := rq_tup h
    rcases Same.sqT sub t with (t | ⟨o, t⟩) | ⟨o, its, n, t, tc, _⟩
    · exact .base (.tup t)
    · exact .fTuple t
    · exact .kTuple t tc
  | lst ps => obtain ⟨a, vs, rfl, t, m⟩ := h; exact .base (.lst t)
  | ty _ => trivial
  | scr _ => trivial
  | obj _ _ => trivial
theorem isi_ok {K : PySem.W.Frag} {H S : Hp} {p : PV} {v : V} {T : String} {b : Bool} (sub : Same S H) (h : Rp1 K mg H S v p) (e : isiP p T = some b) : ∃ t, TyX K H v t ∧ PySem.W.kitOne K t (.type T) = some b := by
  have ht := ty_of sub h
  unfold isiP at e
  split at e <;> first
    | (cases e; exact ⟨_, ht, kit_ty (by decide +kernel)⟩)
    | cases e
theorem bl_isi : CallR X (.builtin "isinstance") (rBl X.K mg "isinstance") := by
  intro pins s σ H vs us Q I r h
  obtain ⟨S, ps, vr, sub, hp, e, q⟩ := h
  rw [bltV_isinstance] at e
  split at e
  · rename_i p T
    obtain ⟨v, w, rfl, h1, h2⟩ := rp1s_two hp
    cases rq_ty h2
    simp only [Option.map_eq_some_iff] at e
    obtain ⟨b, e1, rfl⟩ := e
    obtain ⟨t, t1, t2⟩ := isi_ok sub h1 e1
    exact call_isi pins s σ H _ us Q I r ⟨v, .ty T, t, .type T, b, rfl, .ty T, t1, t2, q _ _ ⟨rfl, Rp.bl _⟩⟩
  · cases e
/-- the built-in functions that the evaluator knows -/
def blts : List Str := ["len", "abs", "min", "max", "sum", "all", "any", "tuple", "list", "int", "isinstance"]
theorem blt_ok {f : Str} (hc : X.calm = true) (hf : f ∈ blts) : (f ≠ "__name__" ∧ (f == ("__debug__" : Str)) = false) ∧ ((∃ id, bootBuiltins f = some (.builtin id) ∧ CallR X (.builtin id) (rBl X.K mg f)) ∨ ∃ T, bootBuiltins f = some (.type T) ∧ CallR X (.type T) (rBl X.K mg f)) := by
  simp only [blts, List.mem_cons, List.not_mem_nil, or_false] at hf
  rcases hf with rfl | rfl | rfl | rfl | rfl | rfl | rfl | rfl | rfl | rfl | rfl
  · exact ⟨by decide, .inl ⟨_, by decide +kernel, bl_len⟩⟩
  · exact ⟨by decide, .inl ⟨_, by decide +kernel, bl_abs⟩⟩
  · exact ⟨by decide, .inl ⟨_, by decide +kernel, bl_min hc⟩⟩
  · exact ⟨by decide, .inl ⟨_, by decide +kernel, bl_max hc⟩⟩
  · exact ⟨by decide, .inl ⟨_, by decide +kernel, bl_sum hc⟩⟩
  · exact ⟨by decide, .inl ⟨_, by decide +kernel, bl_all hc⟩⟩
  · exact ⟨by decide, .inl ⟨_, by decide +kernel, bl_any hc⟩⟩
  · exact ⟨by decide, .inr ⟨_, by decide +kernel, bl_tuple⟩⟩
  · exact ⟨by decide, .inr ⟨_, by decide +kernel, bl_list⟩⟩
  · exact ⟨by decide, .inr ⟨_, by decide +kernel, bl_int⟩⟩
  · exact ⟨by decide, .inl ⟨_, by decide +kernel, bl_isi⟩⟩
variable {W : WX} {a e : Expr} {es : List Expr} {p pos : Pos}
theorem le_blt {f : Str} {fs : Env → Res (List RV × Env)} (hc : X.calm = true) (hf : f ∈ blts) (hg : Gl X f) (hm : X.mg f = none) (ha : LHs X W (e :: es) fs) (he : starEach (e :: es) X.env = (false, eval e X.env) :: starEach es X.env) (hpl : (backTo pos (starEach es X.env)).any (·.1) = false) :
    LE X W (.Call (.Name f p) (e :: es) [] pos) (fun env => (fs env).bind fun r => (optR (rds r.2 r.1)).bind fun ps => (optR (bltV f ps)).bind fun v => .ok (mkV v, r.2)) := by
  obtain ⟨⟨n1, n2⟩, hh⟩ := blt_ok (X := X) (mg := X.mg) hc hf
  have key : ∀ σ H Q, liftE X.K X.mg W (fun env => (fs env).bind fun r => (optR (rds r.2 r.1)).bind fun ps => (optR (bltV f ps)).bind fun v => .ok (mkV v, r.2)) σ H Q → tCB (rBl X.K X.mg f) (liftHs X.K X.mg W fs) σ H Q := by
    rintro σ H Q ⟨env, S, As, R, h⟩
    refine liftHs.mono (bindHs Stp.refl R h) ?_
    rintro vs H1 ⟨rs, env1, S1, As1, B, st1, R1, ok1, fr1, h1⟩
    obtain ⟨ps, e1, h1⟩ := h1.opt
    obtain ⟨vr, e2, h1⟩ := h1.opt
    exact ⟨S1, ps, vr, R1.sub, rds_ok R1 ok1 e1, e2, fun z H' hz => finVR st1 R1 hz h1⟩
  rcases hh with ⟨id, hb, hr⟩ | ⟨T, hb, hr⟩
  · exact PE.imp (pe_callB hr hg hm hb ha n1 n2 he hpl) key
  · exact PE.imp (pe_callTy hr hg hm hb ha n1 n2 he hpl) key
/-! ### slices -/
def liftP (K : PySem.W.Frag) (mg : Str → Option Value) (W : WX) (f : Env → Res (Option Int × Env)) : TO := fun σ H Q => ∃ env S As, Rel K mg σ env H S As ∧ Post K mg W H S As (f env) (fun o env' => ∀ H' S' As', Stp H S As H' S' As' → Rel K mg σ env' H' S' As' → Q o H')
theorem liftP.mono {K : PySem.W.Frag} {σ : SlotV} {H : Hp} {f : Env → Res (Option Int × Env)} {Q Q' : Option Int → Hp → Prop} (h : liftP K mg W f σ H Q) (hq : ∀ v H, Q v H → Q' v H) : liftP K mg W f σ H Q' :=
  let ⟨env, S, As, R, p⟩ := h
  ⟨env, S, As, R, p.mono fun _ _ k H' S' As' a b => hq _ _ (k H' S' As' a b)⟩
theorem bindP {K : PySem.W.Frag} {σ : SlotV} {env : Env} {H S H₀ S₀ : Hp} {As As₀ : Fp} {β : Type} {f : Env → Res (Option Int × Env)} {g : Option Int × Env → Res (β × Env)} {k : β → Env → Prop} (st : Stp H₀ S₀ As₀ H S As) (R : Rel K mg σ env H S As) (h : Post K mg W H₀ S₀ As₀ ((f env).bind g) k) :
    liftP K mg W f σ H fun v H1 => ∃ env1 S1 As1, Stp H S As H1 S1 As1 ∧ Rel K mg σ env1 H1 S1 As1 ∧ Post K mg W H₀ S₀ As₀ (g (v, env1)) k :=
  ⟨env, S, As, R, (Post.part st h).mono fun b e p H' S' As' a c => ⟨e, S', As', a, c, p⟩⟩
abbrev LP (X : Cx) (W : WX) (e : Option Expr) (f : Env → Res (Option Int × Env)) : Prop := PO X e (liftP X.K X.mg W f)
theorem PO.imp {e : Option Expr} {t t' : TO} (h : PO X e t) (f : ∀ σ H Q, t' σ H Q → t σ H Q) : PO X e t' := ⟨fun pins s σ H Q I q => h.run pins s σ H Q I (f σ H Q q)⟩
theorem lp_none : LP X W none (fun env => .ok (none, env)) := by
  refine PO.imp po_none ?_
  rintro σ H Q ⟨env, S, As, R, h⟩
  exact h H S As Stp.refl R
theorem lp_some {fa : Env → Res (RV × Env)} (ha : LE X W a fa) : LP X W (some a) (fun env => (fa env).bind fun r => match r.1 with
    | .val (.int i) => .ok (some i, r.2)
    | _ => .stuck) := by
  refine PO.imp (po_some ha) ?_
  rintro σ H Q ⟨env, S, As, R, h⟩
  refine liftE.mono (bindE Stp.refl R h) ?_
  rintro v H1 ⟨rv, env1, S1, As1, B1, st1, R1, ok1, fr1, h1⟩
  split at h1
  · rename_i i e
    obtain rfl : rv = .val (.int i) := e
    exact ⟨i, rp_int ok1.1, h1 _ _ _ st1 R1⟩
  · exact False.elim h1
theorem rcut {K : PySem.W.Frag} {mg : Str → Option Value} {S : Hp} {xs : List PV} {vs : List V} {lo hi : Option Int} (m : Rps K mg S vs xs) : Rps K mg S (cutV vs lo hi) (cutP xs lo hi) := by
  unfold cutV cutP
  rw [m.length]
  exact m.drop.take
theorem sIx_le (n : Nat) : ∀ (o : Option Int) (d : Nat), d ≤ n → HT.sIx n d o ≤ n := by
  intro o d hd
  unfold HT.sIx
  split <;> first | assumption | (split <;> omega) | omega
theorem le_sl {fa : Env → Res (RV × Env)} {lo hi : Option Expr} {fl fh : Env → Res (Option Int × Env)} {p2 : Pos} (ha : LE X W a fa) (hl : LP X W lo fl) (hh : LP X W hi fh) : LE X W (.Subscript a (.Slice lo hi none p2) pos)
    (fun env => (fa env).bind fun r => (fl r.2).bind fun l => (fh l.2).bind fun h => (optR (rd h.2 r.1)).bind fun x => (optR (slP x l.1 h.1)).bind fun v => .ok (mkV v, h.2)) := by
  refine PE.imp (pe_slice (sl_list.or sl_tupA) ha hl hh) ?_
  rintro σ H Q ⟨env, S, As, R, h⟩
  refine liftE.mono (bindE Stp.refl R h) ?_
  rintro v H1 ⟨rv, env1, S1, As1, B1, st1, R1, ok1, fr1, h1⟩
  refine liftP.mono (bindP st1 R1 h1) ?_
  rintro l H2 ⟨env2, S2, As2, st2, R2, h2⟩
  refine liftP.mono (bindP (st1.trans st2) R2 h2) ?_
  rintro u H3 ⟨env3, S3, As3, st3, R3, h3⟩
  obtain ⟨p, e1, h3⟩ := h3.opt
  obtain ⟨vr, e2, h3⟩ := h3.opt
  have r := R3.rd ((ok1.stp st2).stp st3) e1
  have st := (st1.trans st2).trans st3
  cases p with
  | tup xs =>
    have e2 : some (VR.tup (cutP xs l u)) = some vr := e2
    cases e2
    have r0 := r
    obtain ⟨a, vs, rfl, t, m⟩ := rq_tup r
    refine .inr ⟨a, vs, rfl, Same.sqT R3.sub t, fun z => ?_, fun _ p n => finVR (vr := .tup (cutP xs l u)) st R3 (.inr ⟨p, _, rfl, n, rfl, rcut m⟩) h3⟩
    have e : cutP xs l u = xs := by
      unfold cutP
      rw [m.length] at z
      rw [z.1, z.2]
      simp
    rw [e] at h3
    exact finVR (vr := .tup xs) st R3 (.inl ⟨rfl, r0⟩) h3
  | lst xs =>
    have e2 : some (VR.lst (cutP xs l u)) = some vr := e2
    cases e2
    obtain ⟨a, vs, rfl, t, m⟩ := r
    exact .inl ⟨a, vs, rfl, SqL.of t, fun p n => finVR (vr := .lst (cutP xs l u)) st R3 ⟨p, _, rfl, n, rfl, rcut m⟩ h3⟩
  | _ => cases e2
end
end PL
set_option Elab.async false
set_option linter.all false
set_option maxRecDepth 100000
set_option maxHeartbeats 1000000
namespace PL
open PySem PySem.Spec PyProof.Rows L2
/-! ### what a def promises -/
def ArgsOk (K : PySem.W.Frag) (mg : Str → Option Value) (H S : Hp) : List V → List Arg → List Addr → Prop
  | vs, [], B => vs = [] ∧ B = []
  | vs, .own c :: as, B => ∃ v r ps, vs = v :: r ∧ as = vals ps ∧ CellOk K mg H S v c B ∧ Rps K mg S r ps
  | vs, .val p :: as, B => ∃ ps, as = vals ps ∧ B = [] ∧ Rps K mg S vs (p :: ps)
/-- behind a call: S' the frozen part, Bo the lent thing's objects, Br the new result's -/
structure CallEnd (K : PySem.W.Frag) (mg : Str → Option Value) (H S : Hp) (B : List Addr) (H' S' : Hp) (Bo Br : List Addr) : Prop where
  sub : Same S' H'
  same : Same S S'
  fr : ∀ b o, H b = some o → b ∉ B → H' b = some o
  own : ∀ b, b ∈ Bo ∨ b ∈ Br → (b ∈ B ∨ H b = none) ∧ S' b = none
  apart : ∀ b ∈ Br, b ∉ Bo
  new : ∀ b, S' b ≠ none → S b ≠ none ∨ b ∈ B ∨ H b = none
def RetOk (K : PySem.W.Frag) (mg : Str → Option Value) (H' S' : Hp) (v : V) (r : RV) (Br : List Addr) : Prop := match r with
  | .val p => Rp K mg S' v p ∧ Br = []
  | .loc _ => False
  | .new c => CellOk K mg H' S' v c Br
def OutOk (K : PySem.W.Frag) (mg : Str → Option Value) (H' S' : Hp) (vs : List V) (out : Option Cell) (Bo : List Addr) : Prop := match out with
  | none => Bo = []
  | some c => ∃ v r, vs = v :: r ∧ CellOk K mg H' S' v c Bo
/-- the promise of a def whose meaning is m -/
def spL (K : PySem.W.Frag) (mg : Str → Option Value) (np : Nat) (m : List Arg → FRes) : Sp := fun vs H Q E => vs.length = np ∧ ∃ args S B, Same S H ∧ ArgsOk K mg H S vs args B ∧ (∀ b ∈ B, S b = none) ∧ match m args with
  | .ok r out => ∀ v H' S' Bo Br, CallEnd K mg H S B H' S' Bo Br → RetOk K mg H' S' v r Br → OutOk K mg H' S' vs out Bo → Q v H'
  | .exc C fs => ∀ cls d H' S', CallEnd K mg H S B H' S' [] [] → ExOk K mg H' S' C fs cls d → E cls d H'
  | .stuck => False
/-- a def stands at f and means m, where calls may go n deep -/
structure FnAt (P : Program) (w : World) (K : PySem.W.Frag) (mg : Str → Option Value) (base : Heap) (n : Nat) (f : Addr) (m : List Arg → FRes) : Prop where
  ok : ∃ fd ps, FnOk P w K mg base (L2.CX P w) n f fd ps (spL K mg ps.length m) ∧ Binds K fd ps [] ∧ ∀ args, m args ≠ .stuck → args.length = ps.length
  kp : PySem.W.keepIn K (.ref f) = true
section
variable {X : Cx} {W : WX} {a e : Expr} {es : List Expr} {p pos : Pos}
theorem RetOk.rv {K : PySem.W.Frag} {mg : Str → Option Value} {H S H' S' : Hp} {B Bo Br : List Addr} {σ : SlotV} {As : Fp} {v : V} {r : RV} (h : RetOk K mg H' S' v r Br) (hB : ∀ b ∈ Br, ¬ Own As b ∧ S' b = none) : RvOk K mg σ H' S' As v r Br := by
  cases r with
  | val p => exact h
  | loc j => exact False.elim h
  | new c => exact ⟨h, hB⟩
theorem args_vals {K : PySem.W.Frag} {mg : Str → Option Value} {H S : Hp} {vs : List V} {ps : List PV} (h : Rps K mg S vs ps) : ArgsOk K mg H S vs (vals ps) [] := by
  cases ps with
  | nil => unfold Rps at h; subst h; exact ⟨rfl, rfl⟩
  | cons p ps => exact ⟨ps, rfl, rfl, h⟩
/-- a call that lends nothing, behind the values of its arguments -/
theorem call_reading {n : Nat} {m : List Arg → FRes} {np : Nat} {K : PySem.W.Frag} {mg : Str → Option Value} {σ : SlotV} {env1 : Env} {H H1 S S1 : Hp} {As As1 : Fp} {Q : VK} {vs : List V} {args : List Arg} (hv : vs.length = np) (st : Stp H S As H1 S1 As1) (R1 : Rel K mg σ env1 H1 S1 As1)
    (ha : ArgsOk K mg H1 S1 vs args []) (h1 : Post K mg W H S As (endCall none env1 (m args)) (KE K mg σ H S As Q)) : spL K mg np m vs H1 Q (WE W σ) := by
  refine ⟨hv, args, S1, [], R1.sub, ha, fun b hb => (by cases hb), ?_⟩
  have back : ∀ {H' S' : Hp} {Bo Br : List Addr}, CallEnd K mg H1 S1 [] H' S' Bo Br → Rel K mg σ env1 H' S' As1 ∧ Stp H1 S1 As1 H' S' As1 := fun {H' S' Bo Br} c => by
    refine ⟨R1.grow c.sub c.same (fun b hb => ?_) fun b hb => ?_, c.same, fun b o e _ => c.fr b o e (by simp), fun b hb => .inl hb, fun b hb => (c.new b hb).elim .inl fun z => .inr (.inr (z.elim (fun q => by cases q) id)), fun _ r h => ⟨r, h⟩⟩
    · cases e : H1 b with
      | none => exact absurd e (R1.there hb)
      | some o => exact c.fr b o e (by simp)
    · cases e : S' b with
      | none => rfl
      | some o =>
        rcases c.new b (by rw [e]; simp) with z | z | z
        · exact absurd (R1.free b hb) z
        · cases z
        · exact absurd z (R1.there hb)
  cases hm : m args with
  | stuck => rw [hm] at h1; exact False.elim h1
  | exc C fs =>
    rw [hm] at h1
    intro cls d H' S' c ex
    obtain ⟨R', st'⟩ := back c
    exact h1 σ H' S' As1 cls d (st.trans st') R' ex
  | ok r out =>
    rw [hm] at h1
    cases out with
    | some c => exact False.elim h1
    | none =>
      intro v H' S' Bo Br c rt ot
      obtain ⟨R', st'⟩ := back c
      have hn : ∀ b ∈ Br, H1 b = none := fun b hb => (c.own b (.inr hb)).1.elim (fun q => by cases q) id
      refine h1 v H' S' As1 Br (st.trans st') R' (rt.rv (Bo := Bo) (B := []) (H := H1) (S := S1) fun b hb => ⟨fun z => R1.there z (hn b hb), (c.own b (.inr hb)).2⟩) fun b hb => st.fresh (.inl (hn b hb))
theorem le_call {n : Nat} {m : List Arg → FRes} {f : Str} {x : Addr} {fs : Env → Res (List PV × Env)} (tk : Takes X W) (F : FnAt X.prog X.w X.K X.mg X.base n x m) (hr : Room n X.A) (hg : Gl X f) (hm : X.mg f = some (.ref x)) (ha : LTs X W (e :: es) fs)
    (hdb : (f == ("__debug__" : Str)) = false) (he : starEach (e :: es) X.env = (false, eval e X.env) :: starEach es X.env) (hpl : (backTo pos (starEach es X.env)).any (·.1) = false) :
    LE X W (.Call (.Name f p) (e :: es) [] pos) (fun env => (fs env).bind fun r => endCall none r.2 (m (vals r.1))) := by
  obtain ⟨fd, ps, ok, bi, ln⟩ := F.ok
  refine PE.imp (pe_callS ok hr hg hm F.kp bi (passAt tk) ha hdb he hpl) ?_
  rintro σ H Q ⟨env, S, As, R, h⟩
  refine liftTs.mono (bindTs Stp.refl R h) ?_
  rintro vs H1 ⟨qs, env1, S1, As1, st1, R1, rs, h1⟩
  have hlen : (vals qs).length = ps.length := ln _ fun z => by
    dsimp only at h1
    rw [z] at h1
    exact False.elim h1
  exact call_reading (n := n) (by rw [rs.length, ← hlen]; simp [vals]) st1 R1 (args_vals rs) h1
theorem CellOk.root {K : PySem.W.Frag} {mg : Str → Option Value} {H S : Hp} {v : V} {c : Cell} {B : List Addr} {a : Addr} {r : List Addr} (h : CellOk K mg H S v c B) (e : B = a :: r) : v = .ref a := by
  cases c with
  | fz p => rw [h.2] at e; cases e
  | lst xs => obtain ⟨b, vs, rfl, _, _, rfl⟩ := h; cases e; rfl
  | ls2 xs => obtain ⟨b, vs, rfl, _, _, _, rfl⟩ := h; cases e; rfl
  | obj C fs => obtain ⟨b, c, dx, gs, rfl, _, _, _, rfl⟩ := h; cases e; rfl
theorem CellOk.rooted {K : PySem.W.Frag} {mg : Str → Option Value} {H S : Hp} {v : V} {c : Cell} {B : List Addr} (h : CellOk K mg H S v c B) (e : isFz c = false) : ∃ a r, B = a :: r ∧ v = .ref a := by
  cases c with
  | fz p => cases e
  | lst xs => obtain ⟨b, vs, rfl, _, _, rfl⟩ := h; exact ⟨_, _, rfl, rfl⟩
  | ls2 xs => obtain ⟨b, vs, rfl, _, _, _, rfl⟩ := h; exact ⟨_, _, rfl, rfl⟩
  | obj C fs => obtain ⟨b, c, dx, gs, rfl, _, _, _, rfl⟩ := h; exact ⟨_, _, rfl, rfl⟩
/-- a call that lends its first argument: slot i -/
theorem lent_reading {m : List Arg → FRes} {np : Nat} {K : PySem.W.Frag} {mg : Str → Option Value} {σ : SlotV} {env1 : Env} {H H1 S S1 : Hp} {As As1 : Fp} {Q : VK} {v : V} {vs : List V} {i : Nat} {c : Cell} {qs : List PV} (hv : (v :: vs).length = np) (st : Stp H S As H1 S1 As1) (R1 : Rel K mg σ env1 H1 S1 As1)
    (hi : get env1 i = some c) (hfz : isFz c = false) (hσ : σ[i]? = some (some v)) (rs : Rps K mg S1 vs qs) (h1 : Post K mg W H S As (endCall (some i) env1 (m (.own c :: vals qs))) (KE K mg σ H S As Q)) : spL K mg np m (v :: vs) H1 Q (WE W σ) := by
  obtain ⟨w, e1, hc⟩ := R1.cell i c hi
  obtain rfl : w = v := by simpa using e1.symm.trans hσ
  refine ⟨hv, .own c :: vals qs, S1, As1 i, R1.sub, ⟨w, vs, qs, rfl, rfl, hc, rs⟩, fun b hb => R1.free b ⟨i, hb⟩, ?_⟩
  have back : ∀ {H' S' : Hp} {Bo Br : List Addr} {c' : Option Cell}, CallEnd K mg H1 S1 (As1 i) H' S' Bo Br → (match c' with | some c' => CellOk K mg H' S' w c' Bo | none => Bo = []) →
      Rel K mg σ (env1.set i c') H' S' (updF As1 i Bo) ∧ Stp H1 S1 As1 H' S' (updF As1 i Bo) := fun {H' S' Bo Br c'} ce hc' => by
    have frj : ∀ j b, j ≠ i → b ∈ As1 j → H' b = H1 b := fun j b n hb => by
      cases e : H1 b with
      | none => exact absurd e (R1.there ⟨j, hb⟩)
      | some o => exact ce.fr b o e (R1.disj j i b n hb)
    refine ⟨?_, ce.same, fun b o e nb => ce.fr b o e fun z => nb ⟨i, z⟩, fun b hb => ?_, fun b hb => (ce.new b hb).elim .inl fun z => .inr (z.imp (fun q => ⟨i, q⟩) id), fun a r h => ?_⟩
    · have := R1.chg (i := i) (v := w) (c := c') (B := Bo) (H' := H') (S' := S') (get_lt hi) ce.sub ce.same frj (fun j b n hb => ?_) hc' fun b hb => ⟨fun j n hb2 => ?_, (ce.own b (.inl hb)).2⟩
      · rw [set_self hσ] at this; exact this
      · cases e : S' b with
        | none => rfl
        | some o =>
          rcases ce.new b (by rw [e]; simp) with z | z | z
          · exact absurd (R1.free b ⟨j, hb⟩) z
          · exact absurd z (R1.disj j i b n hb)
          · exact absurd z (R1.there ⟨j, hb⟩)
      · rcases (ce.own b (.inl hb)).1 with z | z
        · exact R1.disj j i b n hb2 z
        · exact R1.there ⟨j, hb2⟩ z
    · obtain ⟨j, hj⟩ := hb
      by_cases q : j = i
      · subst q
        rw [updF_same] at hj
        exact (ce.own b (.inl hj)).1.imp (fun z => ⟨j, z⟩) id
      · rw [updF_ne q] at hj
        exact .inl ⟨j, hj⟩
    · by_cases q : 0 = i
      · subst q
        rw [updF_same] at h
        have hw : w = .ref a := by
          cases c' with
          | none => have hc' : Bo = [] := hc'; rw [hc'] at h; cases h
          | some c' => exact (show CellOk K mg H' S' w c' Bo from hc').root h
        obtain ⟨a', r', h1, h2⟩ := hc.rooted hfz
        rw [hw] at h2
        cases h2
        exact ⟨r', h1⟩
      · rw [updF_ne q] at h
        exact ⟨r, h⟩
  cases hm : m (.own c :: vals qs) with
  | stuck => rw [hm] at h1; exact False.elim h1
  | exc C fs =>
    rw [hm] at h1
    intro cls d H' S' ce ex
    obtain ⟨R', st'⟩ := back (c' := none) ce rfl
    exact h1 σ H' S' _ cls d (st.trans st') R' ex
  | ok r out =>
    rw [hm] at h1
    cases out with
    | none => exact False.elim h1
    | some c' =>
      intro v' H' S' Bo Br ce rt ot
      obtain ⟨u, r', e2, hc'⟩ := ot
      obtain ⟨rfl, rfl⟩ : w = u ∧ vs = r' := by simpa using e2
      obtain ⟨R', st'⟩ := back (c' := some c') ce hc'
      refine h1 v' H' S' _ Br (st.trans st') R' (rt.rv (Bo := Bo) (B := As1 i) (H := H1) (S := S1) fun b hb => ⟨fun z => ?_, (ce.own b (.inr hb)).2⟩) fun b hb => st.fresh ((ce.own b (.inr hb)).1.elim (fun z => .inr ⟨i, z⟩) .inl)
      obtain ⟨j, hj⟩ := z
      by_cases q : j = i
      · subst q
        rw [updF_same] at hj
        exact ce.apart b hb hj
      · rw [updF_ne q] at hj
        rcases (ce.own b (.inr hb)).1 with z | z
        · exact R1.disj j i b q hj z
        · exact R1.there ⟨j, hj⟩ z
theorem le_calm {n : Nat} {m : List Arg → FRes} {f : Str} {x : Addr} {fs : Env → Res (List PV × Env)} {i : Nat} {y : Str} {py : Pos} (tk : Takes X W) (F : FnAt X.prog X.w X.K X.mg X.base n x m) (hr : Room n X.A) (hg : Gl X f) (hm : X.mg f = some (.ref x)) (ha : LTs X W es fs)
    (hN : X.N[i]? = some y) (hvis : Vis X.env.scope y) (hyd : (y == ("__debug__" : Str)) = false) (hycd : (y == ("__classdict__" : Str)) = false)
    (hdb : (f == ("__debug__" : Str)) = false) (hpl : (backTo pos (starEach es X.env)).any (·.1) = false) :
    LE X W (.Call (.Name f p) (.Name y py :: es) [] pos) (fun env => match get env i with
    | none => .stuck
    | some (.fz _) => .stuck
    | some _ => (fs env).bind fun r => (lend r.2 i).bind fun c => endCall (some i) r.2 (m (.own c :: vals r.1))) := by
  obtain ⟨fd, ps, ok, bi, ln⟩ := F.ok
  refine PE.imp (pe_callS ok hr hg hm F.kp bi (passAt tk) (pa_cons (pe_var hN hvis hyd hycd) ha rfl) hdb rfl hpl) ?_
  rintro σ H Q ⟨env, S, As, R, h⟩
  have hc : ∃ c, get env i = some c ∧ Post X.K X.mg W H S As ((fs env).bind fun r => (lend r.2 i).bind fun c => endCall (some i) r.2 (m (.own c :: vals r.1))) (KE X.K X.mg σ H S As Q) := by
    dsimp only at h
    cases e : get env i with
    | none => rw [e] at h; exact False.elim h
    | some c => rw [e] at h; cases c <;> first | exact False.elim h | exact ⟨_, rfl, h⟩
  obtain ⟨c, hc, h⟩ := hc
  obtain ⟨v, hv, _⟩ := R.cell i c hc
  refine ⟨v, hv, liftTs.mono (bindTs Stp.refl R h) ?_⟩
  rintro vs H1 ⟨qs, env1, S1, As1, st1, R1, rs, h1⟩
  have hl : ∃ c', get env1 i = some c' ∧ isFz c' = false ∧ Post X.K X.mg W H S As (endCall (some i) env1 (m (.own c' :: vals qs))) (KE X.K X.mg σ H S As Q) := by
    dsimp only at h1
    unfold lend at h1
    cases e : get env1 i with
    | none => rw [e] at h1; exact False.elim h1
    | some c => rw [e] at h1; cases c <;> first | exact False.elim h1 | exact ⟨_, rfl, rfl, h1⟩
  obtain ⟨c', hc', hfz, h1⟩ := hl
  have hlen : (Arg.own c' :: vals qs).length = ps.length := ln _ fun z => by
    rw [z] at h1
    exact False.elim h1
  exact lent_reading (by rw [List.length_cons, rs.length, ← hlen]; simp [vals]) st1 R1 hc' hfz hv rs h1
end
end PL
set_option Elab.async false
set_option linter.all false
set_option maxRecDepth 100000
set_option maxHeartbeats 1000000
namespace PL
open PySem PySem.Spec PyProof.Rows L2
/-! ### what is walked -/
def YOk (K : PySem.W.Frag) (mg : Str → Option Value) (S H : Hp) (x : V) (H3 : Hp) (p : PV) : Prop :=
  (H3 = H ∧ Rp K mg S x p) ∨ ∃ T vs ps, p = .tup ps ∧ x = .ref T ∧ H T = none ∧ H3 = upd H T (.tup vs) ∧ Rps K mg S vs ps
structure WalkOk (K : PySem.W.Frag) (mg : Str → Option Value) (S : Hp) (J : It) (items : List PV) : Prop where
  item : ∀ H, Same S H → ∀ i p, items[i]? = some p → J.go i H ∧ ∀ x H3, J.yld i H x H3 → YOk K mg S H x H3 p
  stop : ∀ H, Same S H → ∀ i, items.length ≤ i → J.stop i H
  len : items.length ≤ sizeLine
section
variable {K : PySem.W.Frag} {mg : Str → Option Value} {S S' : Hp}
theorem YOk.mono {H H3 : Hp} {x : V} {p : PV} (e : Same S S') (h : YOk K mg S H x H3 p) : YOk K mg S' H x H3 p := by
  rcases h with ⟨h1, h2⟩ | ⟨T, vs, ps, h1, h2, h3, h4, h5⟩
  · exact .inl ⟨h1, Rp.mono e _ _ h2⟩
  · exact .inr ⟨T, vs, ps, h1, h2, h3, h4, Rps.mono e _ _ h5⟩
theorem WalkOk.mono {J : It} {items : List PV} (e : Same S S') (h : WalkOk K mg S J items) : WalkOk K mg S' J items :=
  ⟨fun H s i p q => let ⟨a, b⟩ := h.item H (e.trans s) i p q; ⟨a, fun x H3 y => (b x H3 y).mono e⟩, fun H s => h.stop H (e.trans s), h.len⟩
theorem walk_list {a : Addr} {vs : List V} {ps : List PV} (h : SqL K S a vs) (m : Rps K mg S vs ps) (hz : ps.length ≤ sizeLine) : WalkOk K mg S (Itl K a) ps := by
  refine ⟨fun H s i p e => ?_, fun H s i hi => ⟨vs, Same.sqL s h, by rw [m.length]; exact hi⟩, hz⟩
  obtain ⟨v, e1, e2⟩ := m.get e
  exact ⟨⟨vs, v, Same.sqL s h, e1⟩, fun x H3 ⟨y1, y2⟩ => .inl ⟨y1, by
    have := (y2 vs (Same.sqL s h)).symm.trans e1
    cases this
    exact e2⟩⟩
theorem walk_tup {a : Addr} {vs : List V} {ps : List PV} (h : SqT K S a vs) (m : Rps K mg S vs ps) (hz : ps.length ≤ sizeLine) : WalkOk K mg S (Itt K a) ps := by
  refine ⟨fun H s i p e => ?_, fun H s i hi => ⟨vs, Same.sqT s h, by rw [m.length]; exact hi⟩, hz⟩
  obtain ⟨v, e1, e2⟩ := m.get e
  exact ⟨⟨vs, v, Same.sqT s h, e1⟩, fun x H3 ⟨y1, y2⟩ => .inl ⟨y1, by
    have := (y2 vs (Same.sqT s h)).symm.trans e1
    cases this
    exact e2⟩⟩
theorem rangeP_len : ∀ (n : Nat) (lo : Int), (rangeP lo n).length = n
  | 0, _ => rfl
  | n + 1, lo => by unfold rangeP; rw [List.length_cons, rangeP_len n]
theorem rangeP_get : ∀ (n : Nat) (lo : Int) (i : Nat) (p : PV), (rangeP lo n)[i]? = some p → i < n ∧ p = .int (lo + i)
  | 0, _, _, _, h => by simp [rangeP] at h
  | n + 1, lo, 0, p, h => by
    simp [rangeP] at h
    exact ⟨Nat.succ_pos _, by rw [← h]; simp⟩
  | n + 1, lo, i + 1, p, h => by
    have h : (rangeP (lo + 1) n)[i]? = some p := by simpa [rangeP] using h
    obtain ⟨h1, h2⟩ := rangeP_get n (lo + 1) i p h
    refine ⟨by omega, ?_⟩
    rw [h2]
    congr 1
    push_cast
    omega
theorem walk_range {lo : Int} {n : Nat} (hz : n ≤ sizeLine) : WalkOk K mg S (Itr lo n) (rangeP lo n) := by
  refine ⟨fun H s i p e => ?_, fun H s i hi => by rw [rangeP_len] at hi; exact hi, by rw [rangeP_len]; exact hz⟩
  obtain ⟨h1, rfl⟩ := rangeP_get n lo i p e
  exact ⟨h1, fun x H3 ⟨y1, y2⟩ => .inl ⟨y1, by rw [y2]; exact Rp.int _⟩⟩
theorem zipP_get : ∀ (xs ys : List PV) (i : Nat) (p : PV), (zipP xs ys)[i]? = some p → ∃ x y, xs[i]? = some x ∧ ys[i]? = some y ∧ p = .tup [x, y]
  | [], ys, i, p, h => by simp [zipP] at h
  | x :: xs, [], i, p, h => by simp [zipP] at h
  | x :: xs, y :: ys, 0, p, h => by
    simp [zipP] at h
    exact ⟨x, y, rfl, rfl, h.symm⟩
  | x :: xs, y :: ys, i + 1, p, h => zipP_get xs ys i p (by simpa [zipP] using h)
theorem zipP_len : ∀ (xs ys : List PV), (zipP xs ys).length = min xs.length ys.length
  | [], ys => by simp [zipP]
  | x :: xs, [] => by simp [zipP]
  | x :: xs, y :: ys => by simp [zipP, zipP_len xs ys]
theorem walk_zipL {a b : Addr} {vs ws : List V} {ps qs : List PV} (h : SqL K S a vs) (m : Rps K mg S vs ps) (h' : SqL K S b ws) (m' : Rps K mg S ws qs) (hz : ps.length ≤ sizeLine) : WalkOk K mg S (Itz K a b) (zipP ps qs) := by
  refine ⟨fun H s i p e => ?_, fun H s i hi => ⟨vs, ws, Same.sqL s h, Same.sqL s h', by rw [zipP_len] at hi; rw [m.length, m'.length]; omega⟩, by rw [zipP_len]; omega⟩
  obtain ⟨x, y, e1, e2, rfl⟩ := zipP_get ps qs i p e
  obtain ⟨v, v1, v2⟩ := m.get e1
  obtain ⟨w, w1, w2⟩ := m'.get e2
  refine ⟨⟨vs, ws, v, w, Same.sqL s h, Same.sqL s h', v1, w1⟩, ?_⟩
  rintro z H3 ⟨T, x', y', rfl, n, rfl, f1, f2⟩
  have a1 := (f1 vs (Same.sqL s h)).symm.trans v1
  have a2 := (f2 ws (Same.sqL s h')).symm.trans w1
  cases a1
  cases a2
  exact .inr ⟨T, _, _, rfl, rfl, n, rfl, Rps.cons v2 (Rps.cons w2 Rps.nil)⟩
theorem walk_zipT {a b : Addr} {vs ws : List V} {ps qs : List PV} (h : SqT K S a vs) (m : Rps K mg S vs ps) (h' : SqT K S b ws) (m' : Rps K mg S ws qs) (hz : ps.length ≤ sizeLine) : WalkOk K mg S (RZ.ItzT K a b) (zipP ps qs) := by
  refine ⟨fun H s i p e => ?_, fun H s i hi => ⟨vs, ws, Same.sqT s h, Same.sqT s h', by rw [zipP_len] at hi; rw [m.length, m'.length]; omega⟩, by rw [zipP_len]; omega⟩
  obtain ⟨x, y, e1, e2, rfl⟩ := zipP_get ps qs i p e
  obtain ⟨v, v1, v2⟩ := m.get e1
  obtain ⟨w, w1, w2⟩ := m'.get e2
  refine ⟨⟨vs, ws, v, w, Same.sqT s h, Same.sqT s h', v1, w1⟩, ?_⟩
  rintro z H3 ⟨T, x', y', rfl, n, rfl, f1, f2⟩
  have a1 := (f1 vs (Same.sqT s h)).symm.trans v1
  have a2 := (f2 ws (Same.sqT s h')).symm.trans w1
  cases a1
  cases a2
  exact .inr ⟨T, _, _, rfl, rfl, n, rfl, Rps.cons v2 (Rps.cons w2 Rps.nil)⟩
theorem enumP_get : ∀ (xs : List PV) (k i : Nat) (p : PV), (enumP k xs)[i]? = some p → ∃ x, xs[i]? = some x ∧ p = .tup [.int ((k + i : Nat) : Int), x]
  | [], k, i, p, h => by simp [enumP] at h
  | x :: xs, k, 0, p, h => by
    simp [enumP] at h
    exact ⟨x, rfl, by rw [← h]; rfl⟩
  | x :: xs, k, i + 1, p, h => by
    obtain ⟨y, h1, h2⟩ := enumP_get xs (k + 1) i p (by simpa [enumP] using h)
    refine ⟨y, by simpa using h1, ?_⟩
    rw [h2, show k + 1 + i = k + (i + 1) by omega]
theorem enumP_len : ∀ (xs : List PV) (k : Nat), (enumP k xs).length = xs.length
  | [], k => rfl
  | x :: xs, k => by unfold enumP; rw [List.length_cons, List.length_cons, enumP_len xs]
theorem walk_enum {a : Addr} {vs : List V} {ps : List PV} (h : SqL K S a vs) (m : Rps K mg S vs ps) (hz : ps.length ≤ sizeLine) : WalkOk K mg S (Ite K a) (enumP 0 ps) := by
  refine ⟨fun H s i p e => ?_, fun H s i hi => ⟨vs, Same.sqL s h, by rw [enumP_len] at hi; rw [m.length]; exact hi⟩, by rw [enumP_len]; exact hz⟩
  obtain ⟨x, e1, rfl⟩ := enumP_get ps 0 i p e
  obtain ⟨v, v1, v2⟩ := m.get e1
  refine ⟨⟨vs, v, Same.sqL s h, v1⟩, ?_⟩
  rintro z H3 ⟨T, x', rfl, n, rfl, f1⟩
  have a1 := (f1 vs (Same.sqL s h)).symm.trans v1
  cases a1
  refine .inr ⟨T, _, _, rfl, rfl, n, rfl, Rps.cons ?_ (Rps.cons v2 Rps.nil)⟩
  rw [Nat.zero_add]
  exact Rp.int _
end
/-- sequences are no longer than can be -/
def Szs (K : PySem.W.Frag) (H : Hp) : Prop := (∀ a xs, SqL K H a xs → xs.length ≤ sizeLine) ∧ ∀ a xs, SqT K H a xs → xs.length ≤ sizeLine
section
variable {X : Cx}
theorem Inv.szs {pins : List (Addr × Obj)} {σ : L2.St} {H : Hp} {s : Shared} (I : Inv X pins σ H s) : Szs X.K H :=
  ⟨fun a xs h => let ⟨_, _, _, z⟩ := I.list h; z, fun a xs h => let ⟨_, _, _, z⟩ := I.tuple h; z⟩
theorem PA.strong {es : List Expr} {t : TA} (h : PA X es t) : PA X es (fun σ H Q => t σ H fun vs H1 => Szs X.K H1 → Q vs H1) :=
  ⟨fun pos pins s σ H Q I q => thn (h.run pos pins s σ H _ I q) fun us s' ⟨vs, H1, I1, r, q1⟩ => ⟨vs, H1, I1, r, q1 (Inv.szs I1)⟩⟩
theorem PE.strong {e : Expr} {t : TE} (h : PE X e t) : PE X e (fun σ H Q => t σ H fun v H1 => Szs X.K H1 → Q v H1) :=
  ⟨fun pins s σ H Q I q => thn (h.run pins s σ H _ I q) fun u s' ⟨v, H1, I1, r, q1⟩ => ⟨v, H1, I1, r, q1 (Inv.szs I1)⟩⟩
theorem PI.imp {tg e : Expr} {t t' : TI} (h : PI X tg e t) (f : ∀ σ H Q, t' σ H Q → t σ H Q) : PI X tg e t' := ⟨fun pins s σ H Q I q => h.run pins s σ H Q I (f σ H Q q)⟩
theorem PI.or {tg e : Expr} {te : TE} (hl : PE X e te) : PI X tg e (fun σ H R => te σ H fun x H1 => ∃ a, x = .ref a ∧ (((∃ xs, SqL X.K H1 a xs) ∧ R (Itl X.K a) H1) ∨ ((∃ xs, SqT X.K H1 a xs) ∧ R (Itt X.K a) H1))) := by
  refine ⟨fun pins s σ H R I h => ?_⟩
  refine thn (hl.run pins s σ H _ I h) fun v s1 ⟨x, H1, I1, r1, q1⟩ => ?_
  obtain ⟨a, e, q⟩ := q1
  subst e
  cases r1
  rcases q with ⟨⟨xs, hq⟩, q⟩ | ⟨⟨xs, hq⟩, q⟩
  · obtain ⟨its, rv, p, hz⟩ := I1.list hq
    refine wpAny_pyIter_list p.isList ?_
    refine ⟨s1.heap.objs.size, [s1.heap.objs.size], _, _, H1, rfl, I1.kept (t' := s1.toks) fun b o e => Heap.get?_push_of_some _ e, turn_list a _, ⟨_, Heap.get?_push_size _ rfl, rfl, rfl⟩, fun b hb => ?_, q⟩
    have e : b = s1.heap.objs.size := by simpa using hb
    subst e
    exact I1.fpOk (Nat.le_refl _) (I1.hok.fresh (Nat.le_refl _))
  · obtain ⟨its, rv, p, hz⟩ := I1.tuple hq
    refine wpAny_pyIter_tuple (show s1.heap.IsTuple a its.toArray from p) ?_
    refine ⟨s1.heap.objs.size, [s1.heap.objs.size], _, _, H1, rfl, I1.kept (t' := s1.toks) fun b o e => Heap.get?_push_of_some _ e, turn_tuple a _, ⟨_, Heap.get?_push_size _ rfl, rfl, rfl⟩, fun b hb => ?_, q⟩
    have e : b = s1.heap.objs.size := by simpa using hb
    subst e
    exact I1.fpOk (Nat.le_refl _) (I1.hok.fresh (Nat.le_refl _))
end
def KI (K : PySem.W.Frag) (mg : Str → Option Value) (σ : SlotV) (H S : Hp) (As : Fp) (R : It → Hp → Prop) (items : List PV) (env : Env) : Prop :=
  ∀ J H' S' As', Stp H S As H' S' As' → Rel K mg σ env H' S' As' → WalkOk K mg S' J items → R J H'
def liftI (K : PySem.W.Frag) (mg : Str → Option Value) (W : WX) (f : Env → Res (List PV × Env)) : TI := fun σ H R => ∃ env S As, Rel K mg σ env H S As ∧ Post K mg W H S As (f env) (KI K mg σ H S As R)
abbrev LI (X : Cx) (W : WX) (tg e : Expr) (f : Env → Res (List PV × Env)) : Prop := PI X tg e (liftI X.K X.mg W f)
section
variable {X : Cx} {W : WX} {a b e tg : Expr} {es : List Expr} {p pos : Pos}
theorem liftI.mono {K : PySem.W.Frag} {mg : Str → Option Value} {σ : SlotV} {H : Hp} {f : Env → Res (List PV × Env)} {Q Q' : It → Hp → Prop} (h : liftI K mg W f σ H Q) (hq : ∀ v H, Q v H → Q' v H) : liftI K mg W f σ H Q' :=
  let ⟨env, S, As, R, p⟩ := h
  ⟨env, S, As, R, p.mono fun _ _ k J H' S' As' a b c => hq _ _ (k J H' S' As' a b c)⟩
theorem bindI {K : PySem.W.Frag} {mg : Str → Option Value} {σ : SlotV} {env : Env} {H S H₀ S₀ : Hp} {As As₀ : Fp} {β : Type} {f : Env → Res (List PV × Env)} {g : List PV × Env → Res (β × Env)} {k : β → Env → Prop} (st : Stp H₀ S₀ As₀ H S As) (R : Rel K mg σ env H S As) (h : Post K mg W H₀ S₀ As₀ ((f env).bind g) k) :
    liftI K mg W f σ H fun J H1 => ∃ items env1 S1 As1, Stp H S As H1 S1 As1 ∧ Rel K mg σ env1 H1 S1 As1 ∧ WalkOk K mg S1 J items ∧ Post K mg W H₀ S₀ As₀ (g (items, env1)) k :=
  ⟨env, S, As, R, (Post.part st h).mono fun its e p J H' S' As' a c d => ⟨its, e, S', As', a, c, d, p⟩⟩
theorem li_seq {fe : Env → Res (RV × Env)} (he : LE X W e fe) : LI X W tg e (fun env => (fe env).bind fun r => (optR (take r.1 r.2)).bind fun r => (optR (itemsP r.1)).bind fun xs => .ok (xs, r.2)) := by
  refine PI.imp (PI.or (PE.strong he)) ?_
  rintro σ H R ⟨env, S, As, Rl, h⟩
  refine liftE.mono (bindE Stp.refl Rl h) ?_
  rintro v H1 ⟨rv, env1, S1, As1, B1, st1, R1, ok1, fr1, h1⟩ sz
  obtain ⟨⟨q, env2⟩, e1, h1⟩ := h1.opt
  obtain ⟨S2, As2, R2, st2, rp, sm⟩ := take_ok R1 ok1 st1 fr1 e1
  obtain ⟨xs, e2, h1⟩ := h1.opt
  have fin : ∀ J, WalkOk X.K X.mg S2 J xs → R J H1 := fun J w => h1 J H1 S2 As2 st2 R2 w
  cases q with
  | tup ps =>
    cases e2
    obtain ⟨a, vs, rfl, t, m⟩ := rp_tup rp
    exact ⟨a, rfl, .inr ⟨⟨vs, Same.sqT R2.sub t⟩, fin _ (walk_tup t m (by rw [← m.length]; exact sz.2 a vs (Same.sqT R2.sub t)))⟩⟩
  | lst ps =>
    cases e2
    obtain ⟨a, vs, rfl, t, m⟩ := rp_lst rp
    exact ⟨a, rfl, .inl ⟨⟨vs, Same.sqL R2.sub (SqL.of t)⟩, fin _ (walk_list (SqL.of t) m (by rw [← m.length]; exact sz.1 a vs (Same.sqL R2.sub (SqL.of t))))⟩⟩
  | scr ns =>
    cases e2
    obtain ⟨a, rfl, t⟩ := rp_scr rp
    exact ⟨a, rfl, .inl ⟨⟨_, Same.sqL R2.sub t⟩, fin _ (walk_list t (Rps.ints ns) (by have := sz.1 a _ (Same.sqL R2.sub t); rw [List.length_map] at this ⊢; exact this))⟩⟩
  | _ => cases e2
theorem rvs_one {K : PySem.W.Frag} {mg : Str → Option Value} {σ : SlotV} {H S : Hp} {As : Fp} {vs : List V} {i : Int} {B : List Addr} (h : RvsOk K mg σ H S As vs [.val (.int i)] B) : vs = [.int i] := by
  obtain ⟨v, r, B1, B2, rfl, rfl, h1, ⟨rfl, _⟩, _⟩ := h
  rw [rp_int h1.1]
theorem rvs_two {K : PySem.W.Frag} {mg : Str → Option Value} {σ : SlotV} {H S : Hp} {As : Fp} {vs : List V} {i j : Int} {B : List Addr} (h : RvsOk K mg σ H S As vs [.val (.int i), .val (.int j)] B) : vs = [.int i, .int j] := by
  obtain ⟨v, r, B1, B2, rfl, rfl, h1, h2, _⟩ := h
  rw [rp_int h1.1, rvs_one h2]
theorem li_range1 {fs : Env → Res (List RV × Env)} (hg : Gl X "range") (hm : X.mg "range" = none) (ha : LHs X W [a] fs) (hl : ∀ env r, fs env = .ok r → r.1.length = 1) (hs : starEach [a] X.env = [(false, eval a X.env)]) :
    LI X W tg (.Call (.Name "range" p) [a] [] pos) (rngV fs) := by
  refine PI.imp (pi_range1 hg hm ha hs) ?_
  rintro σ H R ⟨env, S, As, Rl, h⟩
  have h' : Post X.K X.mg W H S As ((fs env).bind fun r => match r.1 with
      | [.val (.int j)] => if bnd j ∧ j.toNat ≤ sizeLine then .ok (rangeP 0 j.toNat, r.2) else .stuck
      | _ => .stuck) (KI X.K X.mg σ H S As R) := by
    have := hl env
    unfold rngV at h
    revert h this
    cases fs env with
    | ok r =>
      intro h this
      have := this r rfl
      obtain ⟨rs, e⟩ := r
      match rs, this with
      | [x], _ => cases x with
        | val q => cases q <;> exact h
        | loc j => exact h
        | new c => exact h
    | exc C gs e => exact fun h _ => h
    | stuck => exact fun h _ => h
  refine liftHs.mono (bindHs Stp.refl Rl h') ?_
  rintro vs H1 ⟨rs, env1, S1, As1, B1, st1, R1, ok1, fr1, h1⟩
  split at h1
  · rename_i j e
    obtain rfl : rs = [.val (.int j)] := e
    split at h1
    · rename_i hc
      refine ⟨j, rvs_one ok1, hc.1.1, hc.1.2, ?_⟩
      exact h1 _ H1 S1 As1 st1 R1 (walk_range hc.2)
    · exact False.elim h1
  · exact False.elim h1
theorem li_range2 {fs : Env → Res (List RV × Env)} (hg : Gl X "range") (hm : X.mg "range" = none) (ha : LHs X W [a, b] fs) (hl : ∀ env r, fs env = .ok r → r.1.length = 2) (hs : starEach [a, b] X.env = [(false, eval a X.env), (false, eval b X.env)]) (hs2 : starEach [b] X.env = [(false, eval b X.env)]) :
    LI X W tg (.Call (.Name "range" p) [a, b] [] pos) (rngV fs) := by
  refine PI.imp (pi_range2 hg hm ha hs hs2) ?_
  rintro σ H R ⟨env, S, As, Rl, h⟩
  have h' : Post X.K X.mg W H S As ((fs env).bind fun r => match r.1 with
      | [.val (.int i), .val (.int j)] => if bnd i ∧ bnd j ∧ (j - i).toNat ≤ sizeLine then .ok (rangeP i (j - i).toNat, r.2) else .stuck
      | _ => .stuck) (KI X.K X.mg σ H S As R) := by
    have := hl env
    unfold rngV at h
    revert h this
    cases fs env with
    | ok r =>
      intro h this
      have := this r rfl
      obtain ⟨rs, e⟩ := r
      match rs, this with
      | [x, y], _ => cases x with
        | val q => cases q <;> (cases y with
          | val q => cases q <;> exact h
          | loc j => exact h
          | new c => exact h)
        | loc j => cases y <;> exact h
        | new c => cases y <;> exact h
    | exc C gs e => exact fun h _ => h
    | stuck => exact fun h _ => h
  refine liftHs.mono (bindHs Stp.refl Rl h') ?_
  rintro vs H1 ⟨rs, env1, S1, As1, B1, st1, R1, ok1, fr1, h1⟩
  split at h1
  · rename_i i j e
    obtain rfl : rs = [.val (.int i), .val (.int j)] := e
    split at h1
    · rename_i hc
      refine ⟨i, j, rvs_two ok1, ⟨hc.1.1, hc.1.2, hc.2.1.1, hc.2.1.2⟩, ?_⟩
      exact h1 _ H1 S1 As1 st1 R1 (walk_range hc.2.2)
    · exact False.elim h1
  · exact False.elim h1
theorem rps_two {K : PySem.W.Frag} {mg : Str → Option Value} {S : Hp} {vs : List V} {p q : PV} (h : Rps K mg S vs [p, q]) : ∃ v w, vs = [v, w] ∧ Rp K mg S v p ∧ Rp K mg S w q := by
  obtain ⟨v, r, rfl, h1, h2⟩ := h.uncons
  obtain ⟨w, r', rfl, h3, h4⟩ := h2.uncons
  have : r' = [] := by unfold Rps at h4; exact h4
  subst this
  exact ⟨v, w, rfl, h1, h3⟩
theorem rps_one {K : PySem.W.Frag} {mg : Str → Option Value} {S : Hp} {vs : List V} {p : PV} (h : Rps K mg S vs [p]) : ∃ v, vs = [v] ∧ Rp K mg S v p := by
  obtain ⟨v, r, rfl, h1, h2⟩ := h.uncons
  have : r = [] := by unfold Rps at h2; exact h2
  subst this
  exact ⟨v, rfl, h1⟩
theorem li_zip {fs : Env → Res (List PV × Env)} {elts : List Expr} {kk : Nat} {tpos : Pos} (hg : Gl X "zip") (hm : X.mg "zip" = none) (ha : LTs X W [a, b] fs) (hs : starEach [a, b] X.env = (false, eval a X.env) :: starEach [b] X.env) (hpl : (backTo pos (starEach [b] X.env)).any (·.1) = false) :
    LI X W (.Tuple elts kk tpos) (.Call (.Name "zip" p) [a, b] [] pos) (zipV fs) := by
  refine PI.imp (RZ.pi_zipA hg hm (PA.strong ha) hs hpl) ?_
  rintro σ H R ⟨env, S, As, Rl, h⟩
  refine liftTs.mono (bindTs Stp.refl Rl h) ?_
  rintro vs H1 ⟨ps, env1, S1, As1, st1, R1, rs, h1⟩ sz
  split at h1
  · rename_i xs ys e
    obtain rfl : ps = [.lst xs, .lst ys] := e
    obtain ⟨v, w, rfl, r1, r2⟩ := rps_two rs
    obtain ⟨a, vs, rfl, t, m⟩ := rp_lst r1
    obtain ⟨b, ws, rfl, t', m'⟩ := rp_lst r2
    have q1 := Same.sqL R1.sub (SqL.of (K := X.K) t)
    have q2 := Same.sqL R1.sub (SqL.of (K := X.K) t')
    exact ⟨a, b, vs, ws, rfl, .inl ⟨q1, q2, h1 _ H1 S1 As1 st1 R1 (walk_zipL (SqL.of t) m (SqL.of t') m' (by rw [← m.length]; exact sz.1 a vs q1))⟩⟩
  · rename_i xs ys e
    obtain rfl : ps = [.tup xs, .tup ys] := e
    obtain ⟨v, w, rfl, r1, r2⟩ := rps_two rs
    obtain ⟨a, vs, rfl, t, m⟩ := rp_tup r1
    obtain ⟨b, ws, rfl, t', m'⟩ := rp_tup r2
    have q1 := Same.sqT R1.sub t
    have q2 := Same.sqT R1.sub t'
    exact ⟨a, b, vs, ws, rfl, .inr ⟨q1, q2, h1 _ H1 S1 As1 st1 R1 (walk_zipT t m t' m' (by rw [← m.length]; exact sz.2 a vs q1))⟩⟩
  · exact False.elim h1
theorem li_enum {fs : Env → Res (List PV × Env)} {elts : List Expr} {kk : Nat} {tpos : Pos} (hg : Gl X "enumerate") (hm : X.mg "enumerate" = none) (ha : LTs X W [a] fs) (hs : starEach [a] X.env = [(false, eval a X.env)]) :
    LI X W (.Tuple elts kk tpos) (.Call (.Name "enumerate" p) [a] [] pos) (enuV fs) := by
  refine PI.imp (pi_enum hg hm (PA.strong ha) hs) ?_
  rintro σ H R ⟨env, S, As, Rl, h⟩
  refine liftTs.mono (bindTs Stp.refl Rl h) ?_
  rintro vs H1 ⟨ps, env1, S1, As1, st1, R1, rs, h1⟩ sz
  split at h1
  · rename_i xs e
    obtain rfl : ps = [.lst xs] := e
    obtain ⟨v, rfl, r1⟩ := rps_one rs
    obtain ⟨a, vs, rfl, t, m⟩ := rp_lst r1
    have q1 := Same.sqL R1.sub (SqL.of (K := X.K) t)
    exact ⟨a, vs, rfl, q1, h1 _ H1 S1 As1 st1 R1 (walk_enum (SqL.of t) m (by rw [← m.length]; exact sz.1 a vs q1))⟩
  · exact False.elim h1
end
/-! ### targets -/
mutual
/-- the slots that a target stores -/
def tgs : Tg → List Nat
  | .nm i => [i]
  | .tup ts => tgss ts
  | .ix _ _ => []
  | .att _ _ => []
def tgss : Tgs → List Nat
  | .nil => []
  | .cons t ts => tgs t ++ tgss ts
end
/-- slots but these are as they were -/
def Kept (σ σ' : SlotV) (is : List Nat) : Prop := σ'.length = σ.length ∧ ∀ j, j ∉ is → σ'[j]? = σ[j]?
def KG (K : PySem.W.Frag) (mg : Str → Option Value) (is : List Nat) (σ : SlotV) (H S : Hp) (As : Fp) (Q : L2.St → Hp → Prop) (env : Env) : Prop :=
  ∀ σ' H' S' As', Kept σ σ' is → Stp H S As H' S' As' → Rel K mg σ' env H' S' As' → Q σ' H'
def PostG (K : PySem.W.Frag) (mg : Str → Option Value) (W : WX) (H S : Hp) (As : Fp) (r : Res Env) (k : Env → Prop) : Prop := Post K mg W H S As (r.bind fun e => .ok ((), e)) fun _ e => k e
def liftG (K : PySem.W.Frag) (mg : Str → Option Value) (W : WX) (is : List Nat) (f : PV → Env → Res Env) : TG := fun v σ H Q => ∃ env S As p, Rel K mg σ env H S As ∧ Rp K mg S v p ∧ PostG K mg W H S As (f p env) (KG K mg is σ H S As Q)
def liftGs (K : PySem.W.Frag) (mg : Str → Option Value) (W : WX) (is : List Nat) (f : List PV → Env → Res Env) : TGs := fun vs σ H Q => ∃ env S As ps, Rel K mg σ env H S As ∧ Rps K mg S vs ps ∧ PostG K mg W H S As (f ps env) (KG K mg is σ H S As Q)
abbrev LG (X : Cx) (W : WX) (tg : Expr) (t : Tg) (f : PV → Env → Res Env) : Prop := PG X tg (liftG X.K X.mg W (tgs t) f)
abbrev LGs (X : Cx) (W : WX) (es : List Expr) (ts : Tgs) (f : List PV → Env → Res Env) : Prop := PGs X es (liftGs X.K X.mg W (tgss ts) f)
section
variable {X : Cx} {W : WX} {a b e tg : Expr} {es : List Expr} {pos : Pos}
theorem PG.imp {tg : Expr} {t t' : TG} (h : PG X tg t) (f : ∀ v σ H Q, t' v σ H Q → t v σ H Q) : PG X tg t' := ⟨fun pins s σ H v u Q I r q => h.run pins s σ H v u Q I r (f v σ H Q q)⟩
theorem PGs.imp {tg : List Expr} {t t' : TGs} (h : PGs X tg t) (f : ∀ v σ H Q, t' v σ H Q → t v σ H Q) : PGs X tg t' := ⟨fun pins s σ H v u Q I r q => h.run pins s σ H v u Q I r (f v σ H Q q)⟩
theorem Kept.refl (σ : SlotV) (is : List Nat) : Kept σ σ is := ⟨rfl, fun _ _ => rfl⟩
theorem Kept.trans {σ σ' σ'' : SlotV} {is js : List Nat} (a : Kept σ σ' is) (b : Kept σ' σ'' js) : Kept σ σ'' (is ++ js) :=
  ⟨b.1.trans a.1, fun j n => (b.2 j fun z => n (List.mem_append_right _ z)).trans (a.2 j fun z => n (List.mem_append_left _ z))⟩
/-- a plain value stored -/
theorem Rel.store {K : PySem.W.Frag} {mg : Str → Option Value} {σ : SlotV} {env : Env} {H S : Hp} {As : Fp} (R : Rel K mg σ env H S As) {i : Nat} {v : V} {p : PV} (hi : i < env.length) (h : Rp K mg S v p) :
    Rel K mg (σ.set i (some v)) (env.set i (some (.fz p))) H S (updF As i []) ∧ Stp H S As H S (updF As i []) := by
  refine ⟨R.chg hi R.sub (Same.refl _) (fun _ _ _ _ => rfl) (fun j b _ hb => R.free b ⟨j, hb⟩) ⟨h, rfl⟩ (fun b hb => by cases hb), Same.refl _, fun b o q _ => q, fun b hb => ?_, fun b hb => .inl hb, fun _ _ h => updF_anc h⟩
  obtain ⟨k, hk⟩ := hb
  by_cases q : k = i
  · subst q; rw [updF_same] at hk; cases hk
  · rw [updF_ne q] at hk; exact .inl ⟨k, hk⟩
theorem lg_name {i : Nat} {x : Str} (hN : X.N.Nodup) (hi : X.N[i]? = some x) (hx : Loc X.env.scope x) (hf : X.fn x = true ∨ X.env.scope.names.lookup x = some .local) : LG X W (.Name x pos) (.nm i) (fun p env => if i < env.length then .ok (env.set i (some (.fz p))) else .stuck) := by
  refine PG.imp (pg_name hN hi hx hf) ?_
  rintro v σ H Q ⟨env, S, As, p, R, r, h⟩
  dsimp only at h
  split at h
  · rename_i hl
    obtain ⟨R', st'⟩ := R.store hl r
    exact h _ _ _ _ ⟨by simp, fun j n => List.getElem?_set_ne fun e => n (by simp [tgs, e])⟩ st' R'
  · exact False.elim h
theorem lgs_nil : LGs X W [] .nil (fun xs env => match xs with
    | [] => .ok env
    | _ => .stuck) := by
  refine PGs.imp pgs_nil ?_
  rintro vs σ H Q ⟨env, S, As, ps, R, r, h⟩
  cases ps with
  | nil =>
    have : vs = [] := by unfold Rps at r; exact r
    exact ⟨this, h σ H S As (Kept.refl _ _) Stp.refl R⟩
  | cons p ps => exact False.elim h
theorem PostG.next {K : PySem.W.Frag} {mg : Str → Option Value} {H S : Hp} {As : Fp} {H₀ S₀ : Hp} {As₀ : Fp} {r : Res Env} {g : Env → Res Env} {k : Env → Prop} (st : Stp H₀ S₀ As₀ H S As) (h : PostG K mg W H₀ S₀ As₀ (r.bind g) k) :
    PostG K mg W H S As r fun e => PostG K mg W H₀ S₀ As₀ (g e) k := by
  cases r with
  | ok e => exact h
  | exc C gs e => exact fun σ H' S' As' cls d s => h σ H' S' As' cls d (st.trans s)
  | stuck => exact h
theorem PostG.weak {K : PySem.W.Frag} {mg : Str → Option Value} {H S : Hp} {As : Fp} {H₀ S₀ : Hp} {As₀ : Fp} {r : Res Env} {k : Env → Prop} (st : Stp H₀ S₀ As₀ H S As) (h : PostG K mg W H₀ S₀ As₀ r k) : PostG K mg W H S As r k := by
  cases r with
  | ok e => exact h
  | exc C gs e => exact fun σ H' S' As' cls d s => h σ H' S' As' cls d (st.trans s)
  | stuck => exact h
theorem PostG.imp {K : PySem.W.Frag} {mg : Str → Option Value} {H S : Hp} {As : Fp} {r : Res Env} {k k' : Env → Prop} (h : PostG K mg W H S As r k) (f : ∀ e, k e → k' e) : PostG K mg W H S As r k' := by
  cases r with
  | ok e => exact f _ h
  | exc C gs e => exact h
  | stuck => exact h
theorem lgs_cons {t : Tg} {ts : Tgs} {f : PV → Env → Res Env} {g : List PV → Env → Res Env} (h1 : LG X W e t f) (h2 : LGs X W es ts g) (hs : (assignEach (e :: es) X.env).map (·.2) = assign e X.env :: (assignEach es X.env).map (·.2)) :
    LGs X W (e :: es) (.cons t ts) (fun xs env => match xs with
    | x :: xs => (f x env).bind fun e1 => g xs e1
    | [] => .stuck) := by
  refine PGs.imp (pgs_cons h1 h2 hs) ?_
  rintro vs σ H Q ⟨env, S, As, ps, R, r, h⟩
  cases ps with
  | nil => exact False.elim h
  | cons p ps =>
    obtain ⟨v, vr, rfl, r1, r2⟩ := r.uncons
    refine ⟨v, vr, rfl, env, S, As, p, R, r1, (PostG.next Stp.refl h).mono ?_⟩
    intro _ env1 h1 σ1 H1 S1 As1 kp1 st1 R1
    refine ⟨env1, S1, As1, ps, R1, Rps.mono st1.same _ _ r2, ?_⟩
    refine (PostG.weak st1 h1).imp ?_
    intro env2 h2 σ2 H2 S2 As2 kp2 st2 R2
    exact h2 σ2 H2 S2 As2 (kp1.trans kp2) (st1.trans st2) R2
theorem lg_tup {ts : Tgs} {k n : Nat} {g : List PV → Env → Res Env} (hc : X.calm = true) (h : LGs X W es ts g) (hn : (assignEach es X.env).length = n) (hst : (assignEach es X.env).findIdx? (·.1) = none) (hlen : ∀ ps env, g ps env ≠ .stuck → ps.length = n) :
    LG X W (.Tuple es k pos) (.tup ts) (fun p env => match p with
    | .tup xs => g xs env
    | _ => .stuck) := by
  refine PG.imp (pg_tup hc h hn hst) ?_
  rintro v σ H Q ⟨env, S, As, p, R, r, h⟩
  cases p with
  | tup xs =>
    obtain ⟨a, vs, rfl, t, m⟩ := rp_tup r
    have hl : xs.length = n := hlen xs env fun z => by
      have h : PostG X.K X.mg W H S As (g xs env) _ := h
      rw [z] at h
      exact False.elim h
    exact ⟨a, vs, rfl, Same.sqT R.sub t, by rw [m.length, hl], env, S, As, xs, R, m, h⟩
  | _ => exact False.elim h
end
end PL
set_option Elab.async false
set_option linter.all false
set_option maxRecDepth 100000
set_option maxHeartbeats 1000000
namespace PL
open PySem PySem.Spec PyProof.Rows L2
/-! ### comprehensions -/
abbrev W0 : WX := fun _ _ _ _ => False
theorem Res.noexc_ok {α : Type} {x : Res α} {r : α} (h : x.noexc = .ok r) : x = .ok r := by
  cases x <;> first | exact h | cases h
section
variable {K : PySem.W.Frag} {mg : Str → Option Value} {H H' S S' H₀ S₀ : Hp} {As As' As₀ : Fp} {σ : SlotV} {env : Env}
/-- a slot forgotten -/
theorem Rel.drop (R : Rel K mg σ env H S As) (i : Nat) : Rel K mg (σ.set i none) (env.set i none) H S (updF As i []) ∧ Stp H S As H S (updF As i []) := by
  refine ⟨⟨R.sub, by simp [R.len], fun j c e => ?_, fun j e => ?_, fun j k a n h1 h2 => ?_, fun a h => ?_⟩, Same.refl _, fun b o q _ => q, fun b hb => ?_, fun b hb => .inl hb, fun _ _ h => updF_anc h⟩
  · by_cases hj : j = i
    · subst hj
      by_cases hl : j < env.length
      · rw [get_set_same hl] at e; cases e
      · have := get_lt e
        rw [List.length_set] at this
        exact absurd this hl
    · rw [get_set_ne (Ne.symm hj)] at e
      obtain ⟨w, e1, e2⟩ := R.cell j c e
      exact ⟨w, by rw [List.getElem?_set_ne (Ne.symm hj)]; exact e1, by rw [updF_ne hj]; exact e2⟩
  · by_cases hj : j = i
    · subst hj; exact updF_same
    · rw [get_set_ne (Ne.symm hj)] at e
      rw [updF_ne hj]; exact R.emp j e
  · by_cases hj : j = i
    · subst hj; rw [updF_same] at h1; cases h1
    · rw [updF_ne hj] at h1
      by_cases hk : k = i
      · subst hk; rw [updF_same] at h2; cases h2
      · rw [updF_ne hk] at h2; exact R.disj j k a n h1 h2
  · obtain ⟨j, hj⟩ := h
    by_cases q : j = i
    · subst q; rw [updF_same] at hj; cases hj
    · rw [updF_ne q] at hj; exact R.free a ⟨j, hj⟩
  · obtain ⟨j, hj⟩ := hb
    by_cases q : j = i
    · subst q; rw [updF_same] at hj; cases hj
    · rw [updF_ne q] at hj; exact .inl ⟨j, hj⟩
theorem Rel.wipes : ∀ {is : List Nat} {As : Fp}, Rel K mg σ env H S As → ∃ As', Rel K mg (wipe σ is) (wipeE env is) H S As' ∧ Stp H S As H S As'
  | [], As, R => ⟨As, R, Stp.refl⟩
  | i :: is, As, R => by
    obtain ⟨As1, R1, st1⟩ := Rel.wipes (is := is) R
    obtain ⟨R2, st2⟩ := R1.drop i
    exact ⟨_, R2, st1.trans st2⟩
theorem wipe_at : ∀ {is : List Nat} {σ : SlotV} {j : Nat}, j ∈ is → (wipe σ is)[j]? = some none ∨ (wipe σ is)[j]? = none
  | i :: is, σ, j, h => by
    show ((wipe σ is).set i none)[j]? = some none ∨ ((wipe σ is).set i none)[j]? = none
    by_cases e : i = j
    · subst e
      by_cases hl : i < (wipe σ is).length
      · exact .inl (List.getElem?_set_self hl)
      · exact .inr (List.getElem?_eq_none (by simpa using hl))
    · rw [List.getElem?_set_ne e]
      rcases List.mem_cons.mp h with rfl | h
      · exact absurd rfl e
      · exact wipe_at h
theorem wipe_not : ∀ {is : List Nat} {σ : SlotV} {j : Nat}, j ∉ is → (wipe σ is)[j]? = σ[j]?
  | [], σ, j, h => rfl
  | i :: is, σ, j, h => by
    show ((wipe σ is).set i none)[j]? = _
    rw [List.getElem?_set_ne fun e => h (by simp [e])]
    exact wipe_not fun z => h (List.mem_cons_of_mem _ z)
theorem wipe_kept {is ts : List Nat} {σ σ' : SlotV} (h : Kept (wipe σ is) σ' ts) (hs : ∀ j ∈ ts, j ∈ is) : wipe σ' is = wipe σ is := by
  apply List.ext_getElem?
  intro j
  by_cases hj : j ∈ is
  · have l : (wipe σ' is).length = (wipe σ is).length := by rw [wipe_length, h.1]
    have h1 : (wipe σ' is)[j]? = if j < (wipe σ' is).length then some none else none := by
      rcases wipe_at (σ := σ') hj with e | e
      · have := (List.getElem?_eq_some_iff.mp e).1
        rw [if_pos this, e]
      · have := List.getElem?_eq_none_iff.mp e
        rw [if_neg (by omega), e]
    have h2 : (wipe σ is)[j]? = if j < (wipe σ is).length then some none else none := by
      rcases wipe_at (σ := σ) hj with e | e
      · have := (List.getElem?_eq_some_iff.mp e).1
        rw [if_pos this, e]
      · have := List.getElem?_eq_none_iff.mp e
        rw [if_neg (by omega), e]
    rw [h1, h2, l]
  · rw [wipe_not hj, h.2 j fun z => hj (hs j z), wipe_not hj]
theorem getE_wipe_in : ∀ {is : List Nat} {env : Env} {j : Nat}, j ∈ is → get (wipeE env is) j = none
  | i :: is, env, j, h => by
    show get ((wipeE env is).set i none) j = none
    by_cases e : i = j
    · subst e
      unfold get
      by_cases hl : i < (wipeE env is).length
      · rw [List.getElem?_set_self hl]; rfl
      · rw [List.getElem?_eq_none (by simpa using hl)]; rfl
    · rw [get_set_ne e]
      rcases List.mem_cons.mp h with rfl | h
      · exact absurd rfl e
      · exact getE_wipe_in h
theorem restore_len : ∀ {is : List Nat} {old env : Env}, (restore old env is).length = env.length
  | [], _, _ => rfl
  | i :: is, old, env => by unfold restore; rw [List.length_set, restore_len]
theorem get_restore_in : ∀ {is : List Nat} {old env : Env} {j : Nat}, j ∈ is → old.length = env.length → get (restore old env is) j = get old j
  | i :: is, old, env, j, h, hl => by
    show get ((restore old env is).set i (get old i)) j = _
    by_cases e : i = j
    · subst e
      by_cases hlt : i < env.length
      · rw [get_set_same (by rw [restore_len]; exact hlt)]
      · unfold get
        rw [List.getElem?_eq_none (by rw [List.length_set, restore_len]; omega), List.getElem?_eq_none (by omega)]
    · rw [get_set_ne e]
      rcases List.mem_cons.mp h with rfl | h
      · exact absurd rfl e
      · exact get_restore_in h hl
theorem get_restore_not : ∀ {is : List Nat} {old env : Env} {j : Nat}, j ∉ is → get (restore old env is) j = get env j
  | [], _, _, _, _ => rfl
  | i :: is, old, env, j, h => by
    show get ((restore old env is).set i (get old i)) j = _
    rw [get_set_ne fun e => h (by simp [e])]
    exact get_restore_not fun z => h (List.mem_cons_of_mem _ z)
/-- the block's own slots are the def's again -/
theorem Rel.restored {is : List Nat} {old env : Env} (R0 : Rel K mg σ old H₀ S₀ As₀) (hp : plainAt old is = true) (R : Rel K mg (wipe σ is) env H S As) (e : Same S₀ S) : ∃ As', Rel K mg σ (restore old env is) H S As' ∧ Stp H S As H S As' := by
  have hlen : old.length = env.length := by rw [← R0.len, ← R.len, wipe_length]
  refine ⟨fun j => if j ∈ is then [] else As j, ⟨R.sub, by rw [restore_len, ← hlen, R0.len], fun j c h => ?_, fun j h => ?_, fun j k a n h1 h2 => ?_, fun a h => ?_⟩, Same.refl _, fun b o q _ => q, fun b hb => ?_, fun b hb => .inl hb, fun a r h => by
    split at h
    · cases h
    · exact ⟨r, h⟩⟩
  · by_cases hj : j ∈ is
    · rw [get_restore_in hj hlen] at h
      obtain ⟨v, v1, v2⟩ := R0.cell j c h
      have hpl : ∃ p, c = .fz p := by
        unfold plainAt at hp
        have := List.all_eq_true.mp hp j hj
        rw [h] at this
        cases c <;> first | exact ⟨_, rfl⟩ | cases this
      obtain ⟨p, rfl⟩ := hpl
      refine ⟨v, v1, ?_⟩
      rw [if_pos hj]
      exact ⟨Rp.mono e _ _ v2.1, rfl⟩
    · rw [get_restore_not hj] at h
      obtain ⟨v, v1, v2⟩ := R.cell j c h
      rw [wipe_not hj] at v1
      exact ⟨v, v1, by rw [if_neg hj]; exact v2⟩
  · by_cases hj : j ∈ is
    · exact if_pos hj
    · rw [get_restore_not hj] at h
      show (if j ∈ is then [] else As j) = []
      rw [if_neg hj]; exact R.emp j h
  · by_cases hj : j ∈ is
    · rw [if_pos hj] at h1; cases h1
    · rw [if_neg hj] at h1
      by_cases hk : k ∈ is
      · rw [if_pos hk] at h2; cases h2
      · rw [if_neg hk] at h2; exact R.disj j k a n h1 h2
  · obtain ⟨j, hj⟩ := h
    dsimp only at hj
    by_cases q : j ∈ is
    · rw [if_pos q] at hj; cases hj
    · rw [if_neg q] at hj; exact R.free a ⟨j, hj⟩
  · obtain ⟨j, hj⟩ := hb
    dsimp only at hj
    by_cases q : j ∈ is
    · rw [if_pos q] at hj; cases hj
    · rw [if_neg q] at hj; exact .inl ⟨j, hj⟩
/-- a list in the making, nobody's -/
structure Mk1 (H S : Hp) (As : Fp) (D : Addr) (vs : List V) : Prop where
  at' : H D = some (.lst vs)
  fz : S D = none
  no : ¬ Own As D
theorem Mk1.stp {D : Addr} {vs : List V} (h : Mk1 H S As D vs) (s : Stp H S As H' S' As') : Mk1 H' S' As' D vs := by
  refine ⟨s.fr D _ h.at' h.no, ?_, fun z => ?_⟩
  · cases e : S' D with
    | none => rfl
    | some o =>
      rcases s.new D (by rw [e]; simp) with z | z | z
      · exact absurd h.fz z
      · exact absurd z h.no
      · rw [h.at'] at z; cases z
  · rcases s.own D z with z | z
    · exact h.no z
    · rw [h.at'] at z; cases z
theorem Mk1.push {D : Addr} {vs ws : List V} (h : Mk1 H S As D vs) (R : Rel K mg σ env H S As) (hn : H₀ D = none) (st : Stp H₀ S₀ As₀ H S As) :
    Rel K mg σ env (upd H D (.lst ws)) S As ∧ Stp H₀ S₀ As₀ (upd H D (.lst ws)) S As ∧ Mk1 (upd H D (.lst ws)) S As D ws := by
  refine ⟨R.grow (fun b o e => ?_) (Same.refl _) (fun b hb => upd_ne fun e => h.no (e ▸ hb)) fun b hb => R.free b hb, ⟨st.same, fun b o e n => ?_, st.own, st.new, st.anc⟩, upd_same, h.fz, h.no⟩
  · rw [upd_ne fun q => by rw [q, h.fz] at e; cases e]; exact R.sub b o e
  · rw [upd_ne fun q => by rw [q, hn] at e; cases e]; exact st.fr b o e n
end
section
variable {X : Cx} {W : WX} {elt tg iter : Expr} {ifs : List Expr} {scope : Scope} {own : List (Str × Nat)} {is : List Nat} {pos : Pos} {t : Tg}
  {fi : Env → Res (List PV × Env)} {ft : PV → Env → Res Env} {fc : Env → Res (Bool × Env)} {fe : Env → Res (RV × Env)}
theorem PostG.ok {K : PySem.W.Frag} {mg : Str → Option Value} {H S : Hp} {As : Fp} {r : Res Env} {e : Env} {k : Env → Prop} (h : r = .ok e) (q : k e) : PostG K mg W H S As r k := by subst h; exact q
theorem Post.ok' {α : Type} {K : PySem.W.Frag} {mg : Str → Option Value} {H S : Hp} {As : Fp} {r : Res (α × Env)} {a : α} {e : Env} {k : α → Env → Prop} (h : r = .ok (a, e)) (q : k a e) : Post K mg W H S As r k := by subst h; exact q
/-- what a turn yields, tracked -/
theorem YOk.lay {K : PySem.W.Frag} {mg : Str → Option Value} {σ : SlotV} {env : Env} {S H H3 : Hp} {As : Fp} {x : V} {p : PV} (R : Rel K mg σ env H S As) (h : YOk K mg S H x H3 p) : ∃ S3, Rel K mg σ env H3 S3 As ∧ Stp H S As H3 S3 As ∧ Rp K mg S3 x p := by
  rcases h with ⟨rfl, h⟩ | ⟨T, vs, ps, rfl, rfl, n, rfl, m⟩
  · exact ⟨S, R, Stp.refl, h⟩
  · obtain ⟨R', st⟩ := R.lay (o := .tup vs) n
    exact ⟨_, R', st, Rp.tup upd_same (Rps.mono st.same _ _ m)⟩
theorem imp_lc {K : PySem.W.Frag} {mg : Str → Option Value} {σ : SlotV} {H : Hp} {Q : VK} (hsub : ∀ j ∈ tgs t, j ∈ is)
    (h : liftE K mg W (fun env => (fi env).bind fun r => match plainAt r.2 is with
    | false => .stuck
    | true => (lcGo is ft fc (fun e1 => (fe e1).bind fun q => optR (take q.1 q.2)) (fun e1 => wipeE e1 is) r.1 [] (wipeE r.2 is)).noexc.bind fun q =>
      .ok (.new (.lst q.1), restore r.2 q.2 is)) σ H Q) :
    tLc (liftI K mg W fi) (liftG K mg W0 (tgs t) ft) (liftT K mg W0 fc) (liftE K mg W0 fe) is σ H Q := by
  obtain ⟨env, S, As, R, h⟩ := h
  refine liftI.mono (bindI Stp.refl R h) ?_
  rintro J H1 ⟨items, env1, S1, As1, st1, R1, wk, h1⟩ D hD
  dsimp only at h1
  cases hp : plainAt env1 is with
  | false => rw [hp] at h1; exact False.elim h1
  | true =>
    rw [hp] at h1
    dsimp only at h1
    cases hgo : (lcGo is ft fc (fun e1 => (fe e1).bind fun q => optR (take q.1 q.2)) (fun e1 => wipeE e1 is) items [] (wipeE env1 is)).noexc with
    | exc C fs e => cases hq : lcGo is ft fc (fun e1 => (fe e1).bind fun q => optR (take q.1 q.2)) (fun e1 => wipeE e1 is) items [] (wipeE env1 is) <;> rw [hq] at hgo <;> cases hgo
    | stuck => rw [hgo] at h1; exact False.elim h1
    | ok r =>
      obtain ⟨accF, envF⟩ := r
      rw [hgo] at h1
      have hgo := Res.noexc_ok hgo
      have h1 : KE K mg σ H S As Q (.new (.lst accF)) (restore env1 envF is) := h1
      obtain ⟨As2, R2, st2⟩ := R1.wipes (is := is)
      obtain ⟨R3, st3⟩ := R2.layN (o := .lst []) hD
      have noD : ¬ Own As2 D := fun z => R2.there z hD
      let Iv : Nat → Hp → Prop := fun i Hc => ∃ env' S' As' acc vs, Stp H1 S1 As1 Hc S' As' ∧ Rel K mg (wipe σ is) env' Hc S' As' ∧ Mk1 Hc S' As' D vs ∧ Rps K mg S' vs acc ∧ acc.length ≤ i ∧
        lcGo is ft fc (fun e1 => (fe e1).bind fun q => optR (take q.1 q.2)) (fun e1 => wipeE e1 is) (items.drop i) acc env' = .ok (accF, envF)
      refine ⟨fun i m Hc => m = items.length - i ∧ i ≤ items.length ∧ Iv i Hc, ⟨_, rfl, Nat.zero_le _, wipeE env1 is, S1, As2, [], [], st2.trans st3, R3, ⟨upd_same, R1.sub.free hD, noD⟩, Rps.nil, Nat.le_refl _, hgo⟩, ?_⟩
      rintro i m Hc ⟨rfl, hile, env', S', As', acc, vs, stc, Rc, mk, rs, hacc, hrun⟩
      have sm : Same S1 Hc := stc.same.trans Rc.sub
      by_cases hlt : i < items.length
      · obtain ⟨hgoJ, hy⟩ := wk.item Hc sm i items[i] (List.getElem?_eq_getElem hlt)
        refine .inr ⟨hgoJ, Iv (i + 1), fun H' p' => ⟨items.length - (i + 1), by omega, rfl, hlt, p'⟩, fun x H3 y => ?_⟩
        obtain ⟨S3, R4, st4, rx⟩ := ((hy x H3 y).mono stc.same).lay Rc
        rw [List.drop_eq_getElem_cons hlt] at hrun
        unfold lcGo at hrun
        obtain ⟨e1, k1, hrun⟩ := Res.bind_ok hrun
        obtain ⟨⟨b, e2⟩, k2, hrun⟩ := Res.bind_ok hrun
        refine ⟨env', S3, As', items[i], R4, rx, PostG.ok k1 ?_⟩
        intro σ5 H5 S5 As5 kp5 st5 R5
        refine ⟨wipe_kept kp5 hsub, e1, S5, As5, R5, Post.ok' k2 ?_⟩
        intro H6 S6 As6 st6 R6
        have st16 := ((stc.trans st4).trans st5).trans st6
        have mk6 := ((mk.stp st4).stp st5).stp st6
        have rs6 : Rps K mg S6 vs acc := Rps.mono ((st4.same.trans st5.same).trans st6.same) _ _ rs
        cases b with
        | false =>
          obtain ⟨As7, R7, st7⟩ := R6.wipes (is := is)
          rw [wipe_kept kp5 hsub] at R7
          exact iteF ⟨wipeE e2 is, S6, As7, acc, vs, st16.trans st7, R7, mk6.stp st7, rs6, Nat.le_succ_of_le hacc, hrun⟩
        | true =>
          refine iteT ?_
          obtain ⟨⟨q, e4⟩, k3, hrun⟩ := Res.bind_ok hrun
          obtain ⟨⟨rv, e3⟩, k4, k5⟩ := Res.bind_ok k3
          have k5 : take rv e3 = some (q, e4) := by
            dsimp only at k5
            cases z : take rv e3 with
            | none => rw [z] at k5; cases k5
            | some r => rw [z] at k5; cases k5; rfl
          refine ⟨e2, S6, As6, R6, Post.ok' k4 ?_⟩
          intro v H7 S7 As7 B st7 R7 ok7 fr7
          obtain ⟨S8, As8, R8, st8, rp8, sm8⟩ := take_ok R7 ok7 st7 fr7 k5
          have mk8 := mk6.stp st8
          have rs8 : Rps K mg S8 (vs ++ [v]) (acc ++ [q]) := (Rps.mono st8.same _ _ rs6).append (Rps.cons rp8 Rps.nil)
          obtain ⟨As9, R9, st9⟩ := R8.wipes (is := is)
          rw [wipe_kept kp5 hsub] at R9
          obtain ⟨R10, st10, mk10⟩ := (mk8.stp st9).push (ws := vs ++ [v]) R9 hD ((st16.trans st8).trans st9)
          refine ⟨vs, mk8.at', ?_, wipeE e4 is, S8, As9, acc ++ [q], vs ++ [v], st10, R10, mk10, rs8, by simp; omega, hrun⟩
          have := wk.len
          rw [rs.length]
          omega
      · have e : i = items.length := by omega
        subst e
        rw [List.drop_length] at hrun
        have hrun : (Res.ok (acc, env') : Res (List PV × Env)) = .ok (accF, envF) := hrun
        cases hrun
        obtain ⟨As9, R9, st9⟩ := Rel.restored R1 hp Rc stc.same
        have mk9 := mk.stp st9
        refine .inl ⟨wk.stop Hc sm _ (Nat.le_refl _), h1 _ _ _ _ [D] (st1.trans (stc.trans st9)) R9 ⟨⟨D, vs, rfl, mk9.at', rs, rfl⟩, fun b hb => ?_⟩ fun b hb => ?_⟩
        · obtain rfl : b = D := by simpa using hb
          exact ⟨mk9.no, mk9.fz⟩
        · obtain rfl : b = D := by simpa using hb
          exact st1.fresh (.inl hD)
theorem le_lc (hown : own.map (·.2) = is) (hc : X.calm = true) (hN : X.N.Nodup) (hi : LI X W tg iter fi) (ok : BlkOk X.N X.env.scope scope own) (hsub : ∀ j ∈ tgs t, j ∈ is)
    (hg : ∀ (s : Shared) (H : Hp) (C : Addr) (cl : List (Str × Addr)) (fp : List Addr), LG (X.blk s H scope (compEnvC scope cl C X.env) fp) W0 tg t ft)
    (ht : ∀ (s : Shared) (H : Hp) (C : Addr) (cl : List (Str × Addr)) (fp : List Addr), PTs (X.blk s H scope (compEnvC scope cl C X.env) fp) ifs (liftT X.K X.mg W0 fc))
    (he : ∀ (s : Shared) (H : Hp) (C : Addr) (cl : List (Str × Addr)) (fp : List Addr), LE (X.blk s H scope (compEnvC scope cl C X.env) fp) W0 elt fe) (hs : ∀ x, foldedSetIterable iter X.env x = pure x) :
    LE X W (.ListComp elt [⟨tg, iter, ifs, 0⟩] scope pos) (fun env => (fi env).bind fun r => match plainAt r.2 is with
    | false => .stuck
    | true => (lcGo is ft fc (fun e1 => (fe e1).bind fun q => optR (take q.1 q.2)) (fun e1 => wipeE e1 is) r.1 [] (wipeE r.2 is)).noexc.bind fun q =>
      .ok (.new (.lst q.1), restore r.2 q.2 is)) := by
  refine PE.imp (pe_lc (g := liftG X.K X.mg W0 (tgs t) ft) (tt := liftT X.K X.mg W0 fc) (te := liftE X.K X.mg W0 fe) hc hN hi ok hg ht he hs) fun σ H Q h => ?_
  rw [hown]
  exact imp_lc hsub h
theorem lts_test0 {Y : Cx} : PTs Y [] (liftT Y.K Y.mg W0 (fun env => .ok (true, env))) := by
  refine ⟨fun pins s σ H Q I h => ?_⟩
  obtain ⟨env, S, As, R, h⟩ := h
  exact pts_nil.run pins s σ H Q I (h H S As Stp.refl R)
theorem lcGo_len {is : List Nat} {ft : PV → Env → Res Env} {fc : Env → Res (Bool × Env)} {fe : Env → Res (PV × Env)} {wp : Env → Env} : ∀ {items acc : List PV} {env : Env} {r : List PV × Env}, lcGo is ft fc fe wp items acc env = .ok r → acc.length ≤ r.1.length
  | [], acc, env, r, h => by
    have h : (Res.ok (acc, env) : Res (List PV × Env)) = .ok r := h
    cases h
    exact Nat.le_refl _
  | x :: xs, acc, env, r, h => by
    unfold lcGo at h
    obtain ⟨e1, _, h⟩ := Res.bind_ok h
    obtain ⟨⟨b, e2⟩, _, h⟩ := Res.bind_ok h
    cases b with
    | false => exact lcGo_len (items := xs) h
    | true =>
      obtain ⟨⟨q, e3⟩, _, h⟩ := Res.bind_ok h
      have := lcGo_len (items := xs) h
      rw [List.length_append] at this
      exact Nat.le_trans (Nat.le_add_right _ _) this
theorem lc2Go_len {is : List Nat} {ft : PV → Env → Res Env} {fc : Env → Res (Bool × Env)} {fin : Env → List PV → Res (List PV × Env)} {wp : Env → Env} (hin : ∀ e acc r, fin e acc = .ok r → acc.length ≤ r.1.length) : ∀ {items acc : List PV} {env : Env} {r : List PV × Env}, lc2Go is ft fc fin wp items acc env = .ok r → acc.length ≤ r.1.length
  | [], acc, env, r, h => by
    have h : (Res.ok (acc, env) : Res (List PV × Env)) = .ok r := h
    cases h
    exact Nat.le_refl _
  | x :: xs, acc, env, r, h => by
    unfold lc2Go at h
    obtain ⟨e1, _, h⟩ := Res.bind_ok h
    obtain ⟨⟨b, e2⟩, _, h⟩ := Res.bind_ok h
    cases b with
    | false => exact lc2Go_len hin (items := xs) h
    | true =>
      obtain ⟨⟨q, e3⟩, k, h⟩ := Res.bind_ok h
      exact Nat.le_trans (hin _ _ _ k) (lc2Go_len hin (items := xs) h)
theorem wipe_sub {is js : List Nat} {σ : SlotV} (h : ∀ j ∈ js, j ∈ is) : wipe (wipe σ js) is = wipe σ is := by
  have e : wipe (wipe (wipe σ js) is) is = wipe σ is := wipe_kept (ts := is) (h := ⟨by simp [wipe_length], fun j n => by rw [wipe_not n, wipe_not n, wipe_not fun z => n (h j z)]⟩) fun _ z => z
  have e2 : wipe (wipe (wipe σ js) is) is = wipe (wipe σ js) is := wipe_kept (ts := is) (h := ⟨by simp [wipe_length], fun j n => by rfl⟩) fun _ z => z
  rw [← e2, e]
variable {tg1 iter1 : Expr} {ifs1 : List Expr} {is1 : List Nat} {t1 : Tg} {fi1 : Env → Res (List PV × Env)} {ft1 : PV → Env → Res Env} {fc1 : Env → Res (Bool × Env)}
theorem imp_lc2 {K : PySem.W.Frag} {mg : Str → Option Value} {σ : SlotV} {H : Hp} {Q : VK} (hv : ∀ j ∈ is1, j ∈ is) (hsub : ∀ j ∈ tgs t, j ∈ is) (hsub1 : ∀ j ∈ tgs t1, j ∈ is1)
    (h : liftE K mg W (fun env => (fi env).bind fun r => match plainAt r.2 is with
    | false => .stuck
    | true => (lc2Go is ft fc (fun e1 acc => (fi1 e1).bind fun s => lcGo is1 ft1 fc1 (fun e2 => (fe e2).bind fun q => optR (take q.1 q.2)) (fun e2 => wipeE e2 is1) s.1 acc (wipeE s.2 is1))
        (fun e1 => wipeE e1 is) r.1 [] (wipeE r.2 is)).noexc.bind fun q =>
      if q.1.length ≤ sizeLine then .ok (.new (.lst q.1), restore r.2 q.2 is) else .stuck) σ H Q) :
    tLc2 (liftI K mg W fi) (liftG K mg W0 (tgs t) ft) (liftT K mg W0 fc) (liftI K mg W0 fi1) (liftG K mg W0 (tgs t1) ft1) (liftT K mg W0 fc1) (liftE K mg W0 fe) is is1 σ H Q := by
  obtain ⟨env, S, As, R, h⟩ := h
  refine liftI.mono (bindI Stp.refl R h) ?_
  rintro J H1 ⟨items, env1, S1, As1, st1, R1, wk, h1⟩ D hD
  dsimp only at h1
  cases hp : plainAt env1 is with
  | false => rw [hp] at h1; exact False.elim h1
  | true =>
    rw [hp] at h1
    dsimp only at h1
    have hin : ∀ (e1 : Env) (acc : List PV) (r : List PV × Env), ((fi1 e1).bind fun s => lcGo is1 ft1 fc1 (fun e2 => (fe e2).bind fun q => optR (take q.1 q.2)) (fun e2 => wipeE e2 is1) s.1 acc (wipeE s.2 is1)) = .ok r → acc.length ≤ r.1.length := fun e1 acc r h => by
      obtain ⟨s, _, h⟩ := Res.bind_ok h
      exact lcGo_len h
    generalize hrun0 : lc2Go is ft fc (fun e1 acc => (fi1 e1).bind fun s => lcGo is1 ft1 fc1 (fun e2 => (fe e2).bind fun q => optR (take q.1 q.2)) (fun e2 => wipeE e2 is1) s.1 acc (wipeE s.2 is1)) (fun e1 => wipeE e1 is) items [] (wipeE env1 is) = run at h1
    cases run with
    | exc C fs e => exact False.elim h1
    | stuck => exact False.elim h1
    | ok r =>
      obtain ⟨accF, envF⟩ := r
      have h1 : Post K mg W H S As (if accF.length ≤ sizeLine then .ok (.new (.lst accF), restore env1 envF is) else .stuck) (KE K mg σ H S As Q) := h1
      split at h1
      case isFalse => exact False.elim h1
      rename_i hsz
      have h1 : KE K mg σ H S As Q (.new (.lst accF)) (restore env1 envF is) := h1
      obtain ⟨As2, R2, st2⟩ := R1.wipes (is := is)
      obtain ⟨R3, st3⟩ := R2.layN (o := .lst []) hD
      have noD : ¬ Own As2 D := fun z => R2.there z hD
      let Iv : Nat → Hp → Prop := fun i Hc => ∃ env' S' As' acc vs, Stp H1 S1 As1 Hc S' As' ∧ Rel K mg (wipe σ is) env' Hc S' As' ∧ Mk1 Hc S' As' D vs ∧ Rps K mg S' vs acc ∧
        lc2Go is ft fc (fun e1 acc => (fi1 e1).bind fun s => lcGo is1 ft1 fc1 (fun e2 => (fe e2).bind fun q => optR (take q.1 q.2)) (fun e2 => wipeE e2 is1) s.1 acc (wipeE s.2 is1)) (fun e1 => wipeE e1 is) (items.drop i) acc env' = .ok (accF, envF)
      refine ⟨fun i m Hc => m = items.length - i ∧ i ≤ items.length ∧ Iv i Hc, ⟨_, rfl, Nat.zero_le _, wipeE env1 is, S1, As2, [], [], st2.trans st3, R3, ⟨upd_same, R1.sub.free hD, noD⟩, Rps.nil, hrun0⟩, ?_⟩
      rintro i m Hc ⟨rfl, hile, env', S', As', acc, vs, stc, Rc, mk, rs, hrun⟩
      have sm : Same S1 Hc := stc.same.trans Rc.sub
      by_cases hlt : i < items.length
      · obtain ⟨hgoJ, hy⟩ := wk.item Hc sm i items[i] (List.getElem?_eq_getElem hlt)
        refine .inr ⟨hgoJ, Iv (i + 1), fun H' p' => ⟨items.length - (i + 1), by omega, rfl, hlt, p'⟩, fun x H3 y => ?_⟩
        obtain ⟨S3, R4, st4, rx⟩ := ((hy x H3 y).mono stc.same).lay Rc
        rw [List.drop_eq_getElem_cons hlt] at hrun
        unfold lc2Go at hrun
        obtain ⟨e1, k1, hrun⟩ := Res.bind_ok hrun
        obtain ⟨⟨b, e2⟩, k2, hrun⟩ := Res.bind_ok hrun
        refine ⟨env', S3, As', items[i], R4, rx, PostG.ok k1 ?_⟩
        intro σ5 H5 S5 As5 kp5 st5 R5
        have hw5 : wipe σ5 is = wipe σ is := wipe_kept kp5 hsub
        refine ⟨hw5, e1, S5, As5, R5, Post.ok' k2 ?_⟩
        intro H6 S6 As6 st6 R6
        have st16 := ((stc.trans st4).trans st5).trans st6
        have mk6 := ((mk.stp st4).stp st5).stp st6
        have rs6 : Rps K mg S6 vs acc := Rps.mono ((st4.same.trans st5.same).trans st6.same) _ _ rs
        cases b with
        | false =>
          obtain ⟨As7, R7, st7⟩ := R6.wipes (is := is)
          rw [hw5] at R7
          exact iteF ⟨wipeE e2 is, S6, As7, acc, vs, st16.trans st7, R7, mk6.stp st7, rs6, hrun⟩
        | true =>
          refine iteT ?_
          obtain ⟨⟨accI, envI⟩, k3, hrun⟩ := Res.bind_ok hrun
          have hlenF : accI.length ≤ sizeLine := Nat.le_trans (lc2Go_len hin hrun) hsz
          dsimp only at k3
          obtain ⟨⟨items1, e3⟩, k4, k5⟩ := Res.bind_ok k3
          refine ⟨e2, S6, As6, R6, Post.ok' k4 ?_⟩
          intro J1 H7 S7 As7 st7 R7 wk1
          obtain ⟨As8, R8, st8⟩ := R7.wipes (is := is1)
          have st18 := (st16.trans st7).trans st8
          have mk8 := (mk6.stp st7).stp st8
          have rs8 : Rps K mg S7 vs acc := Rps.mono st7.same _ _ rs6
          let Iv1 : Nat → Hp → Prop := fun j Hd => ∃ env' S' As' acc vs, Stp H1 S1 As1 Hd S' As' ∧ Same S7 S' ∧ Rel K mg (wipe σ5 is1) env' Hd S' As' ∧ Mk1 Hd S' As' D vs ∧ Rps K mg S' vs acc ∧
            lcGo is1 ft1 fc1 (fun e2 => (fe e2).bind fun q => optR (take q.1 q.2)) (fun e2 => wipeE e2 is1) (items1.drop j) acc env' = .ok (accI, envI)
          refine ⟨fun j m Hd => m = items1.length - j ∧ j ≤ items1.length ∧ Iv1 j Hd, ⟨_, rfl, Nat.zero_le _, wipeE e3 is1, S7, As8, acc, vs, st18, Same.refl _, R8, mk8, rs8, k5⟩, ?_⟩
          rintro j m Hd ⟨rfl, hjle, envd, Sd, Asd, accd, vsd, std, smd, Rd, mkd, rsd, hrund⟩
          have smdd : Same S7 Hd := smd.trans Rd.sub
          by_cases hjlt : j < items1.length
          · obtain ⟨hgoJ1, hy1⟩ := wk1.item Hd smdd j items1[j] (List.getElem?_eq_getElem hjlt)
            refine .inr ⟨hgoJ1, Iv1 (j + 1), fun H' p' => ⟨items1.length - (j + 1), by omega, rfl, hjlt, p'⟩, fun x1 H9 y1 => ?_⟩
            obtain ⟨S9, R9, st9, rx9⟩ := ((hy1 x1 H9 y1).mono smd).lay Rd
            rw [List.drop_eq_getElem_cons hjlt] at hrund
            unfold lcGo at hrund
            obtain ⟨f1, l1, hrund⟩ := Res.bind_ok hrund
            obtain ⟨⟨b1, f2⟩, l2, hrund⟩ := Res.bind_ok hrund
            refine ⟨envd, S9, Asd, items1[j], R9, rx9, PostG.ok l1 ?_⟩
            intro σa Ha Sa Asa kpa sta Ra
            have hwa : wipe σa is1 = wipe σ5 is1 := wipe_kept kpa hsub1
            refine ⟨hwa, f1, Sa, Asa, Ra, Post.ok' l2 ?_⟩
            intro Hb Sb Asb stb Rb
            have st1b := ((std.trans st9).trans sta).trans stb
            have mkb := ((mkd.stp st9).stp sta).stp stb
            have smb := ((smd.trans st9.same).trans sta.same).trans stb.same
            have rsb : Rps K mg Sb vsd accd := Rps.mono ((st9.same.trans sta.same).trans stb.same) _ _ rsd
            cases b1 with
            | false =>
              obtain ⟨Asc, Rc', stc'⟩ := Rb.wipes (is := is1)
              rw [hwa] at Rc'
              exact iteF ⟨wipeE f2 is1, Sb, Asc, accd, vsd, st1b.trans stc', smb, Rc', mkb.stp stc', rsb, hrund⟩
            | true =>
              refine iteT ?_
              obtain ⟨⟨q, f4⟩, l3, hrund⟩ := Res.bind_ok hrund
              obtain ⟨⟨rv, f3⟩, l4, l5⟩ := Res.bind_ok l3
              have l5 : take rv f3 = some (q, f4) := by
                dsimp only at l5
                cases z : take rv f3 with
                | none => rw [z] at l5; cases l5
                | some r => rw [z] at l5; cases l5; rfl
              refine ⟨f2, Sb, Asb, Rb, Post.ok' l4 ?_⟩
              intro v Hc2 Sc Asc B stc2 Rc2 okc frc
              obtain ⟨Sd2, Asd2, Rd2, std2, rpd, smd2⟩ := take_ok Rc2 okc stc2 frc l5
              have mkd2 := mkb.stp std2
              have rsd2 : Rps K mg Sd2 (vsd ++ [v]) (accd ++ [q]) := (Rps.mono std2.same _ _ rsb).append (Rps.cons rpd Rps.nil)
              obtain ⟨Ase, Re, ste⟩ := Rd2.wipes (is := is1)
              rw [hwa] at Re
              obtain ⟨Rf, stf, mkf⟩ := (mkd2.stp ste).push (ws := vsd ++ [v]) Re hD ((st1b.trans std2).trans ste)
              refine ⟨vsd, mkd2.at', ?_, wipeE f4 is1, Sd2, Ase, accd ++ [q], vsd ++ [v], stf, smb.trans std2.same, Rf, mkf, rsd2, hrund⟩
              have h9 := lcGo_len hrund
              rw [List.length_append] at h9
              rw [rsb.length]
              exact Nat.lt_of_lt_of_le (Nat.lt_succ_self _) (Nat.le_trans h9 hlenF)
          · have e : j = items1.length := by omega
            subst e
            rw [List.drop_length] at hrund
            have hrund : (Res.ok (accd, envd) : Res (List PV × Env)) = .ok (accI, envI) := hrund
            cases hrund
            obtain ⟨As9, R9, st9⟩ := Rd.wipes (is := is)
            rw [wipe_sub hv, hw5] at R9
            exact .inl ⟨wk1.stop Hd smdd _ (Nat.le_refl _), wipeE envI is, Sd, As9, accI, vsd, std.trans st9, R9, mkd.stp st9, rsd, hrun⟩
      · have e : i = items.length := by omega
        subst e
        rw [List.drop_length] at hrun
        have hrun : (Res.ok (acc, env') : Res (List PV × Env)) = .ok (accF, envF) := hrun
        cases hrun
        obtain ⟨As9, R9, st9⟩ := Rel.restored R1 hp Rc stc.same
        have mk9 := mk.stp st9
        refine .inl ⟨wk.stop Hc sm _ (Nat.le_refl _), h1 _ _ _ _ [D] (st1.trans (stc.trans st9)) R9 ⟨⟨D, vs, rfl, mk9.at', rs, rfl⟩, fun b hb => ?_⟩ fun b hb => ?_⟩
        · obtain rfl : b = D := by simpa using hb
          exact ⟨mk9.no, mk9.fz⟩
        · obtain rfl : b = D := by simpa using hb
          exact st1.fresh (.inl hD)
theorem le_lc2 (hown : own.map (·.2) = is) (hc : X.calm = true) (hN : X.N.Nodup) (hi : LI X W tg iter fi) (ok : BlkOk X.N X.env.scope scope own) (hv : ∀ j ∈ is1, j ∈ is) (hsub : ∀ j ∈ tgs t, j ∈ is) (hsub1 : ∀ j ∈ tgs t1, j ∈ is1)
    (hg : ∀ (s : Shared) (H : Hp) (C : Addr) (cl : List (Str × Addr)) (fp : List Addr), LG (X.blk s H scope (compEnvC scope cl C X.env) fp) W0 tg t ft)
    (ht : ∀ (s : Shared) (H : Hp) (C : Addr) (cl : List (Str × Addr)) (fp : List Addr), PTs (X.blk s H scope (compEnvC scope cl C X.env) fp) ifs (liftT X.K X.mg W0 fc))
    (hi1 : ∀ (s : Shared) (H : Hp) (C : Addr) (cl : List (Str × Addr)) (fp : List Addr), LI (X.blk s H scope (compEnvC scope cl C X.env) fp) W0 tg1 iter1 fi1)
    (hg1 : ∀ (s : Shared) (H : Hp) (C : Addr) (cl : List (Str × Addr)) (fp : List Addr), LG (X.blk s H scope (compEnvC scope cl C X.env) fp) W0 tg1 t1 ft1)
    (ht1 : ∀ (s : Shared) (H : Hp) (C : Addr) (cl : List (Str × Addr)) (fp : List Addr), PTs (X.blk s H scope (compEnvC scope cl C X.env) fp) ifs1 (liftT X.K X.mg W0 fc1))
    (he : ∀ (s : Shared) (H : Hp) (C : Addr) (cl : List (Str × Addr)) (fp : List Addr), LE (X.blk s H scope (compEnvC scope cl C X.env) fp) W0 elt fe) (hs : ∀ x, foldedSetIterable iter X.env x = pure x) (hs1 : ∀ env x, foldedSetIterable iter1 env x = pure x) :
    LE X W (.ListComp elt [⟨tg, iter, ifs, 0⟩, ⟨tg1, iter1, ifs1, 0⟩] scope pos) (fun env => (fi env).bind fun r => match plainAt r.2 is with
    | false => .stuck
    | true => (lc2Go is ft fc (fun e1 acc => (fi1 e1).bind fun s => lcGo is1 ft1 fc1 (fun e2 => (fe e2).bind fun q => optR (take q.1 q.2)) (fun e2 => wipeE e2 is1) s.1 acc (wipeE s.2 is1))
        (fun e1 => wipeE e1 is) r.1 [] (wipeE r.2 is)).noexc.bind fun q =>
      if q.1.length ≤ sizeLine then .ok (.new (.lst q.1), restore r.2 q.2 is) else .stuck) := by
  refine PE.imp (pe_lc2 (vs1 := is1) (g := liftG X.K X.mg W0 (tgs t) ft) (tt := liftT X.K X.mg W0 fc) (wi1 := liftI X.K X.mg W0 fi1) (g1 := liftG X.K X.mg W0 (tgs t1) ft1) (tt1 := liftT X.K X.mg W0 fc1) (te := liftE X.K X.mg W0 fe) hc hN hi ok (by rw [hown]; exact hv) hg ht hi1 hg1 ht1 he hs hs1) fun σ H Q h => ?_
  rw [hown]
  exact imp_lc2 hv hsub hsub1 h
end
end PL
set_option Elab.async false
set_option linter.all false
set_option maxRecDepth 100000
set_option maxHeartbeats 1000000
namespace PL
open PySem PySem.Spec PyProof.Rows L2
/-! ### statements -/
def flTo (K : PySem.W.Frag) (mg : Str → Option Value) (D : Ends) (H S : Hp) (As : Fp) (σ' : SlotV) (H' S' : Hp) (As' : Fp) : Fl → Prop
  | .nx => D.nx σ' H'
  | .bk => D.bk σ' H'
  | .ct => D.ct σ' H'
  | .rt r => ∀ v B, RvOk K mg σ' H' S' As' v r B → (∀ b ∈ B, H b = none ∨ Own As b) → D.rt v H'
def KS (K : PySem.W.Frag) (mg : Str → Option Value) (D : Ends) (H S : Hp) (As : Fp) (fl : Fl) (env : Env) : Prop :=
  ∀ σ' H' S' As', Stp H S As H' S' As' → Rel K mg σ' env H' S' As' → flTo K mg D H S As σ' H' S' As' fl
def liftS (K : PySem.W.Frag) (mg : Str → Option Value) (W : WX) (f : Env → Res (Fl × Env)) : TS := fun D σ H => ∃ env S As, Rel K mg σ env H S As ∧ Post K mg W H S As (f env) (KS K mg D H S As)
abbrev LS (X : Cx) (W : WX) (st : Stmt) (f : Env → Res (Fl × Env)) : Prop := PS X st (liftS X.K X.mg W f)
abbrev LSs (X : Cx) (W : WX) (st : List Stmt) (f : Env → Res (Fl × Env)) : Prop := PSs X st (liftS X.K X.mg W f)
section
variable {K : PySem.W.Frag} {mg : Str → Option Value} {H H' S S' H₀ S₀ : Hp} {As As' As₀ : Fp} {σ : SlotV} {env : Env} {W : WX}
theorem KS.trans {D : Ends} {fl : Fl} (st : Stp H₀ S₀ As₀ H S As) (h : KS K mg D H₀ S₀ As₀ fl env) : KS K mg D H S As fl env := by
  intro σ' H' S' As' s R
  have := h σ' H' S' As' (st.trans s) R
  cases fl with
  | rt r => exact fun v B ok fr => this v B ok fun b hb => st.fresh (fr b hb)
  | nx => exact this
  | bk => exact this
  | ct => exact this
theorem settle_ok (R : Rel K mg σ env H S As) {v : V} {rv rv' : RV} {B : List Addr} {env' : Env} (h : RvOk K mg σ H S As v rv B) (e : settle rv env = some (rv', env')) :
    ∃ S' As' B', Rel K mg σ env' H S' As' ∧ Stp H S As H S' As' ∧ RvOk K mg σ H S' As' v rv' B' ∧ ∀ b ∈ B', b ∈ B := by
  cases rv with
  | val p => cases e; exact ⟨S, As, B, R, Stp.refl, h, fun _ z => z⟩
  | new c => cases e; exact ⟨S, As, B, R, Stp.refl, h, fun _ z => z⟩
  | loc j =>
    unfold settle at e
    simp only at e
    split at e
    · rename_i c hc
      cases e
      obtain ⟨w, e1, hp, R', st'⟩ := R.freeze hc
      have : w = v := by simpa using e1.symm.trans h.1
      subst this
      exact ⟨_, _, [], R', st', ⟨hp, rfl⟩, fun b hb => by cases hb⟩
    · cases e
theorem put_ok (R : Rel K mg σ env H S As) {v : V} {rv : RV} {B : List Addr} {i : Nat} {env' : Env} (h : RvOk K mg σ H S As v rv B) (st : Stp H₀ S₀ As₀ H S As) (hB : ∀ b ∈ B, H₀ b = none ∨ Own As₀ b) (e : put i rv env = some env') :
    ∃ As', Rel K mg (σ.set i (some v)) env' H S As' ∧ Stp H₀ S₀ As₀ H S As' ∧ ∀ b, Own As' b → Own As b ∨ b ∈ B := by
  unfold put at e
  split at e
  case isFalse => cases e
  rename_i hi
  have key : ∀ {c : Cell}, (i = 0 → B = []) → CellOk K mg H S v c B → (∀ b ∈ B, ¬ Own As b ∧ S b = none) → Rel K mg (σ.set i (some v)) (env.set i (some c)) H S (updF As i B) ∧ Stp H₀ S₀ As₀ H S (updF As i B) ∧ ∀ b, Own (updF As i B) b → Own As b ∨ b ∈ B := fun {c} hz hc hb => by
    have own : ∀ b, Own (updF As i B) b → Own As b ∨ b ∈ B := fun b ⟨j, hj⟩ => by
      by_cases q : j = i
      · subst q; rw [updF_same] at hj; exact .inr hj
      · rw [updF_ne q] at hj; exact .inl ⟨j, hj⟩
    refine ⟨R.chg hi R.sub (Same.refl _) (fun _ _ _ _ => rfl) (fun j b _ z => R.free b ⟨j, z⟩) hc fun b z => ⟨fun j _ q => (hb b z).1 ⟨j, q⟩, (hb b z).2⟩, ⟨st.same, st.fr, fun b z => ?_, st.new, fun a r h => ?_⟩, own⟩
    · rcases own b z with z | z
      · exact st.own b z
      · exact (hB b z).symm
    · by_cases q : 0 = i
      · subst q
        rw [updF_same, hz rfl] at h; cases h
      · rw [updF_ne q] at h
        exact st.anc a r h
  cases rv with
  | val p =>
    cases e
    obtain ⟨h1, rfl⟩ := h
    exact ⟨_, key (c := .fz p) (fun _ => rfl) ⟨h1, rfl⟩ fun b hb => by cases hb⟩
  | new c =>
    dsimp only at e
    split at e
    · cases e
    · rename_i hz
      cases e
      exact ⟨_, key (fun z => absurd z hz) h.1 h.2⟩
  | loc j => cases e
theorem RvsOk.stp' (s : Stp H S As H' S' As') {rs : List RV} {vs : List V} {B : List Addr} (h : RvsOk K mg σ H S As vs rs B) : RvsOk K mg σ H' S' As' vs rs B := RvsOk.stp s h
end
section
variable {X : Cx} {W : WX} {e c : Expr} {st : Stmt} {a b rest : List Stmt} {pos : Pos} {fe : Env → Res (RV × Env)} {ft : Env → Res (Bool × Env)} {fa fb : Env → Res (Fl × Env)}
theorem ls_bad {f : Env → Res (Fl × Env)} (h : ∀ env, f env = .stuck) : LS X W st f := ⟨fun pins s σ H D I ⟨env, _, _, _, p⟩ => by rw [h env] at p; exact False.elim p⟩
theorem lss_nil : LSs X W [] (fun env => .ok (.nx, env)) := by
  refine PSs.imp pss_nil ?_
  rintro D σ H ⟨env, S, As, R, h⟩
  exact h σ H S As Stp.refl R
theorem seq_imp {D : Ends} {σ : SlotV} {H : Hp} {K : PySem.W.Frag} {mg : Str → Option Value} (h : liftS K mg W (fun env => (fa env).bind fun r => match r.1 with
    | .nx => fb r.2
    | f => .ok (f, r.2)) D σ H) : tSeq (liftS K mg W fa) (liftS K mg W fb) D σ H := by
  obtain ⟨env, S, As, R, h⟩ := h
  refine ⟨env, S, As, R, (Post.part Stp.refl h).mono ?_⟩
  intro fl env1 h1 σ1 H1 S1 As1 st1 R1
  cases fl with
  | nx =>
    refine ⟨env1, S1, As1, R1, ?_⟩
    have h1 : Post K mg W H S As (fb env1) (KS K mg D H S As) := h1
    have := Post.part st1 (Post.pass h1)
    exact this.mono fun fl env2 h2 => KS.trans st1 h2
  | bk => exact h1 σ1 H1 S1 As1 st1 R1
  | ct => exact h1 σ1 H1 S1 As1 st1 R1
  | rt r => exact h1 σ1 H1 S1 As1 st1 R1
theorem lss_cons (h1 : LS X W st fa) (h2 : LSs X W rest fb) : LSs X W (st :: rest) (fun env => (fa env).bind fun r => match r.1 with
    | .nx => fb r.2
    | f => .ok (f, r.2)) := PSs.imp (pss_cons h1 h2) fun _ _ _ h => seq_imp h
theorem ls_expr (he : LE X W e fe) (hs : swapsWith e none pos.line X.env = pure false) : LS X W (.Expr e pos) (fun env => (fe env).bind fun r => .ok (.nx, r.2)) := by
  refine PS.imp (ps_expr he hs) ?_
  rintro D σ H ⟨env, S, As, R, h⟩
  refine liftE.mono (bindE Stp.refl R h) ?_
  rintro v H1 ⟨rv, env1, S1, As1, B1, st1, R1, ok1, fr1, h1⟩
  exact h1 σ H1 S1 As1 st1 R1
theorem ls_doc {x : Str} {j : Nat} {p1 : Pos} : LS X W (.Expr (.Constant (.str x) j p1) pos) (fun env => .ok (.nx, env)) := by
  refine PS.imp ps_doc ?_
  rintro D σ H ⟨env, S, As, R, h⟩
  exact h σ H S As Stp.refl R
theorem ls_pass : LS X W (.Pass pos) (fun env => .ok (.nx, env)) := by
  refine PS.imp ps_pass ?_
  rintro D σ H ⟨env, S, As, R, h⟩
  exact h σ H S As Stp.refl R
theorem ls_brk : LS X W (.Break pos) (fun env => .ok (.bk, env)) := by
  refine PS.imp ps_break ?_
  rintro D σ H ⟨env, S, As, R, h⟩
  exact h σ H S As Stp.refl R
theorem ls_cnt : LS X W (.Continue pos) (fun env => .ok (.ct, env)) := by
  refine PS.imp ps_continue ?_
  rintro D σ H ⟨env, S, As, R, h⟩
  exact h σ H S As Stp.refl R
theorem asg_imp {i : Nat} {D : Ends} {σ : SlotV} {H : Hp} {K : PySem.W.Frag} {mg : Str → Option Value}
    (h : liftS K mg W (fun env => (fe env).bind fun r => (optR (settle r.1 r.2)).bind fun r => (optR (put i r.1 r.2)).bind fun e1 => .ok (.nx, e1)) D σ H) : tAsg (liftE K mg W fe) (gName i) D σ H := by
  obtain ⟨env, S, As, R, h⟩ := h
  refine liftE.mono (bindE Stp.refl R h) ?_
  rintro v H1 ⟨rv, env1, S1, As1, B1, st1, R1, ok1, fr1, h1⟩
  obtain ⟨⟨rv', env2⟩, e1, h1⟩ := h1.opt
  obtain ⟨env3, e2, h1⟩ := h1.opt
  obtain ⟨S2, As2, B2, R2, st2, ok2, sb⟩ := settle_ok R1 ok1 e1
  obtain ⟨As3, R3, st3, _⟩ := put_ok R2 ok2 (st1.trans st2) (fun b hb => fr1 b (sb b hb)) e2
  exact h1 _ H1 S2 As3 st3 R3
theorem ls_set {i : Nat} {x : Str} {pos' : Pos} (hN : X.N.Nodup) (hi : X.N[i]? = some x) (hx : Loc X.env.scope x) (he : LE X W e fe) (hs : swapsWith e (some (.Name x pos')) pos.line X.env = pure false) (hf : X.fn x = true ∨ X.env.scope.names.lookup x = some .local) :
    LS X W (.Assign [.Name x pos'] e pos) (fun env => (fe env).bind fun r => (optR (settle r.1 r.2)).bind fun r => (optR (put i r.1 r.2)).bind fun e1 => .ok (.nx, e1)) :=
  PS.imp (ps_set hN hi hx he hs hf) fun _ _ _ h => asg_imp h
theorem ls_setLc {elt tg iter : Expr} {ifs : List Expr} {scope : Scope} {own : List (Str × Nat)} {is : List Nat} {p1 pos' : Pos} {t : Tg} {fi : Env → Res (List PV × Env)} {ftg : PV → Env → Res Env} {fc : Env → Res (Bool × Env)} {i : Nat} {y : Str}
    (hown : own.map (·.2) = is) (hc : X.calm = true) (hN : X.N.Nodup) (hy : X.N[i]? = some y) (hyl : X.env.scope.names.lookup y = some .local) (hsw : swapsWith (.ListComp elt [⟨tg, iter, ifs, 0⟩] scope p1) (some (.Name y pos')) pos.line X.env = pure true)
    (hi : LI X W tg iter fi) (ok : BlkOk X.N X.env.scope scope own) (hsub : ∀ j ∈ tgs t, j ∈ is)
    (hg : ∀ (s : Shared) (H : Hp) (C : Addr) (cl : List (Str × Addr)) (fp : List Addr), LG (X.blk s H scope (compEnvC scope cl C X.env) fp) W0 tg t ftg)
    (ht : ∀ (s : Shared) (H : Hp) (C : Addr) (cl : List (Str × Addr)) (fp : List Addr), PTs (X.blk s H scope (compEnvC scope cl C X.env) fp) ifs (liftT X.K X.mg W0 fc))
    (he : ∀ (s : Shared) (H : Hp) (C : Addr) (cl : List (Str × Addr)) (fp : List Addr), LE (X.blk s H scope (compEnvC scope cl C X.env) fp) W0 elt fe) (hs : ∀ x, foldedSetIterable iter X.env x = pure x) :
    LS X W (.Assign [.Name y pos'] (.ListComp elt [⟨tg, iter, ifs, 0⟩] scope p1) pos) (fun env => ((fi env).bind fun r => match plainAt r.2 is with
    | false => .stuck
    | true => (lcGo is ftg fc (fun e1 => (fe e1).bind fun q => optR (take q.1 q.2)) (fun e1 => wipeE e1 is) r.1 [] (wipeE r.2 is)).noexc.bind fun q =>
      .ok (.new (.lst q.1), restore r.2 q.2 is)).bind fun r => (optR (settle r.1 r.2)).bind fun r => (optR (put i r.1 r.2)).bind fun e1 => .ok (.nx, e1)) := by
  refine PS.imp (ps_setLc (g := liftG X.K X.mg W0 (tgs t) ftg) (tt := liftT X.K X.mg W0 fc) (te := liftE X.K X.mg W0 fe) hc hN hy hyl hsw hi ok hg ht he hs) fun D σ H h => ?_
  rw [hown]
  exact imp_lc hsub (asg_imp h)
theorem ls_setLc2 {elt tg iter tg1 iter1 : Expr} {ifs ifs1 : List Expr} {scope : Scope} {own : List (Str × Nat)} {is is1 : List Nat} {p1 pos' : Pos} {t t1 : Tg} {fi fi1 : Env → Res (List PV × Env)} {ftg ftg1 : PV → Env → Res Env} {fc fc1 : Env → Res (Bool × Env)} {i : Nat} {y : Str}
    (hown : own.map (·.2) = is) (hc : X.calm = true) (hN : X.N.Nodup) (hy : X.N[i]? = some y) (hyl : X.env.scope.names.lookup y = some .local) (hsw : swapsWith (.ListComp elt [⟨tg, iter, ifs, 0⟩, ⟨tg1, iter1, ifs1, 0⟩] scope p1) (some (.Name y pos')) pos.line X.env = pure true)
    (hi : LI X W tg iter fi) (ok : BlkOk X.N X.env.scope scope own) (hv : ∀ j ∈ is1, j ∈ is) (hsub : ∀ j ∈ tgs t, j ∈ is) (hsub1 : ∀ j ∈ tgs t1, j ∈ is1)
    (hg : ∀ (s : Shared) (H : Hp) (C : Addr) (cl : List (Str × Addr)) (fp : List Addr), LG (X.blk s H scope (compEnvC scope cl C X.env) fp) W0 tg t ftg)
    (ht : ∀ (s : Shared) (H : Hp) (C : Addr) (cl : List (Str × Addr)) (fp : List Addr), PTs (X.blk s H scope (compEnvC scope cl C X.env) fp) ifs (liftT X.K X.mg W0 fc))
    (hi1 : ∀ (s : Shared) (H : Hp) (C : Addr) (cl : List (Str × Addr)) (fp : List Addr), LI (X.blk s H scope (compEnvC scope cl C X.env) fp) W0 tg1 iter1 fi1)
    (hg1 : ∀ (s : Shared) (H : Hp) (C : Addr) (cl : List (Str × Addr)) (fp : List Addr), LG (X.blk s H scope (compEnvC scope cl C X.env) fp) W0 tg1 t1 ftg1)
    (ht1 : ∀ (s : Shared) (H : Hp) (C : Addr) (cl : List (Str × Addr)) (fp : List Addr), PTs (X.blk s H scope (compEnvC scope cl C X.env) fp) ifs1 (liftT X.K X.mg W0 fc1))
    (he : ∀ (s : Shared) (H : Hp) (C : Addr) (cl : List (Str × Addr)) (fp : List Addr), LE (X.blk s H scope (compEnvC scope cl C X.env) fp) W0 elt fe) (hs : ∀ x, foldedSetIterable iter X.env x = pure x) (hs1 : ∀ env x, foldedSetIterable iter1 env x = pure x) :
    LS X W (.Assign [.Name y pos'] (.ListComp elt [⟨tg, iter, ifs, 0⟩, ⟨tg1, iter1, ifs1, 0⟩] scope p1) pos) (fun env => ((fi env).bind fun r => match plainAt r.2 is with
    | false => .stuck
    | true => (lc2Go is ftg fc (fun e1 acc => (fi1 e1).bind fun s => lcGo is1 ftg1 fc1 (fun e2 => (fe e2).bind fun q => optR (take q.1 q.2)) (fun e2 => wipeE e2 is1) s.1 acc (wipeE s.2 is1))
        (fun e1 => wipeE e1 is) r.1 [] (wipeE r.2 is)).noexc.bind fun q =>
      if q.1.length ≤ sizeLine then .ok (.new (.lst q.1), restore r.2 q.2 is) else .stuck).bind fun r => (optR (settle r.1 r.2)).bind fun r => (optR (put i r.1 r.2)).bind fun e1 => .ok (.nx, e1)) := by
  refine PS.imp (ps_setLc2 (vs1 := is1) (g := liftG X.K X.mg W0 (tgs t) ftg) (tt := liftT X.K X.mg W0 fc) (wi1 := liftI X.K X.mg W0 fi1) (g1 := liftG X.K X.mg W0 (tgs t1) ftg1) (tt1 := liftT X.K X.mg W0 fc1) (te := liftE X.K X.mg W0 fe) hc hN hy hyl hsw hi ok (by rw [hown]; exact hv) hg ht hi1 hg1 ht1 he hs hs1) fun D σ H h => ?_
  rw [hown]
  exact imp_lc2 hv hsub hsub1 (asg_imp h)
theorem ls_asg {tg : Expr} {t : Tg} {fg : PV → Env → Res Env} (he : LE X W e fe) (hg : LG X W tg t fg) (hs : swapsWithSole [tg] e pos.line X.env = pure false) (hw : swappedStores [tg] e X.env = pure none) (h1 : (assignEach [tg] X.env).map (·.2) = [assign tg X.env]) :
    LS X W (.Assign [tg] e pos) (fun env => (fe env).bind fun r => (optR (take r.1 r.2)).bind fun r => (fg r.1 r.2).bind fun e1 => .ok (.nx, e1)) := by
  refine PS.imp (ps_asg he hg hs hw h1) ?_
  rintro D σ H ⟨env, S, As, R, h⟩
  refine liftE.mono (bindE Stp.refl R h) ?_
  rintro v H1 ⟨rv, env1, S1, As1, B1, st1, R1, ok1, fr1, h1⟩
  obtain ⟨⟨p, env2⟩, e1, h1⟩ := h1.opt
  obtain ⟨S2, As2, R2, st2, rp, sm⟩ := take_ok R1 ok1 st1 fr1 e1
  refine ⟨env2, S2, As2, p, R2, rp, ?_⟩
  have h1 : Post X.K X.mg W H S As ((fg p env2).bind fun e1 => .ok (.nx, e1)) (KS X.K X.mg D H S As) := h1
  cases hq : fg p env2 with
  | ok e1 =>
    rw [hq] at h1
    exact fun σ' H' S' As' kp s R' => h1 σ' H' S' As' (st2.trans s) R'
  | exc C gs e1 =>
    rw [hq] at h1
    exact fun σ' H' S' As' cls d s => h1 σ' H' S' As' cls d (st2.trans s)
  | stuck => rw [hq] at h1; exact False.elim h1
theorem RvOk.thru {K : PySem.W.Frag} {mg : Str → Option Value} {σ σ' : SlotV} {H S : Hp} {As As' : Fp} {v : V} {rv : RV} {B : List Addr} (h : RvOk K mg σ H S As v rv B) (n : ∀ j, rv ≠ .loc j) (hB : ∀ b ∈ B, ¬ Own As' b) : RvOk K mg σ' H S As' v rv B := by
  cases rv with
  | val p => exact h
  | loc j => exact absurd rfl (n j)
  | new c => exact ⟨h.1, fun b hb => ⟨hB b hb, (h.2 b hb).2⟩⟩
theorem settle_no {rv rv' : RV} {env env' : Env} (e : settle rv env = some (rv', env')) : ∀ j, rv' ≠ .loc j := by
  intro j z
  subst z
  cases rv with
  | val p => cases e
  | new c => cases e
  | loc k =>
    unfold settle at e
    simp only at e
    split at e <;> cases e
theorem ls_par2 {a b : Expr} {fa fb : Env → Res (RV × Env)} {i j : Nat} {x y : Str} {px py pt pt2 : Pos} {kt k2 : Nat} (hc : X.calm = true) (hN : X.N.Nodup) (hi : X.N[i]? = some x) (hj : X.N[j]? = some y) (hij : i ≠ j)
    (hx : X.env.scope.names.lookup x = some .local) (hy : X.env.scope.names.lookup y = some .local) (ha : LE X W a fa) (hb : LE X W b fb) (h1 : starEach [a, b] X.env = (false, eval a X.env) :: starEach [b] X.env) (h2 : starEach [b] X.env = (false, eval b X.env) :: starEach [] X.env)
    (hw : swappedStores [.Tuple [.Name x px, .Name y py] kt pt] (.Tuple [a, b] k2 pt2) X.env = pure (some [x, y])) (hs : swapsWithSole [.Tuple [.Name x px, .Name y py] kt pt] (.Tuple [a, b] k2 pt2) pos.line X.env = pure false) :
    LS X W (.Assign [.Tuple [.Name x px, .Name y py] kt pt] (.Tuple [a, b] k2 pt2) pos) (fun env => (fa env).bind fun r => (fb r.2).bind fun q => (optR (settle r.1 q.2)).bind fun r => (optR (settle q.1 r.2)).bind fun q =>
    (optR (put i r.1 q.2)).bind fun e1 => (optR (put j q.1 e1)).bind fun e2 => .ok (.nx, e2)) := by
  refine PS.imp (ps_par hc hN hi hj hij hx hy (pa_cons ha (pa_cons hb pa_nil h2) h1) hw hs) ?_
  rintro D σ H ⟨env, S, As, R, h⟩
  refine liftE.mono (bindE Stp.refl R h) ?_
  rintro v H1 ⟨rv, env1, S1, As1, B1, st1, R1, ok1, fr1, h1⟩
  refine liftE.mono (bindE st1 R1 h1) ?_
  rintro w H2 ⟨rw, env2, S2, As2, B2, st2, R2, ok2, fr2, h2⟩
  obtain ⟨⟨rv', env3⟩, e1, h2⟩ := h2.opt
  obtain ⟨⟨rw', env4⟩, e2, h2⟩ := h2.opt
  obtain ⟨env5, e3, h2⟩ := h2.opt
  obtain ⟨env6, e4, h2⟩ := h2.opt
  have d12 : ∀ b ∈ B1, b ∉ B2 := fun b hb hb2 => by
    obtain ⟨n1, n2⟩ := ok1.there b hb
    exact (fr2 b hb2).elim n1 n2
  obtain ⟨S3, As3, B1', R3, st3, ok3, sb3⟩ := settle_ok R2 (ok1.stp st2) e1
  obtain ⟨S4, As4, B2', R4, st4, ok4, sb4⟩ := settle_ok R3 (ok2.stp st3) e2
  have st := ((st1.trans st2).trans st3).trans st4
  obtain ⟨As5, R5, st5, ow5⟩ := put_ok R4 (ok3.stp st4) st (fun b hb => fr1 b (sb3 b hb)) e3
  have ok5 : RvOk X.K X.mg (σ.set i (some v)) H2 S4 As5 w rw' B2' := ok4.thru (settle_no e2) fun b hb z => by
    rcases ow5 b z with z | z
    · exact (ok4.there b hb).2 z
    · exact d12 b (sb3 b z) (sb4 b hb)
  obtain ⟨As6, R6, st6, ow6⟩ := put_ok R5 ok5 st5 (fun b hb => st1.fresh (fr2 b (sb4 b hb))) e4
  exact ⟨v, w, rfl, h2 _ H2 S4 As6 st6 R6⟩
theorem ls_par3 {a b c : Expr} {fa fb fc : Env → Res (RV × Env)} {i j l : Nat} {x y z : Str} {px py pz pt pt2 : Pos} {kt k2 : Nat} (hc : X.calm = true) (hN : X.N.Nodup) (hi : X.N[i]? = some x) (hj : X.N[j]? = some y) (hl : X.N[l]? = some z) (hij : i ≠ j) (hil : i ≠ l) (hjl : j ≠ l)
    (hx : X.env.scope.names.lookup x = some .local) (hy : X.env.scope.names.lookup y = some .local) (hz : X.env.scope.names.lookup z = some .local) (ha : LE X W a fa) (hb : LE X W b fb) (hc' : LE X W c fc)
    (h1 : starEach [a, b, c] X.env = (false, eval a X.env) :: starEach [b, c] X.env) (h2 : starEach [b, c] X.env = (false, eval b X.env) :: starEach [c] X.env) (h3 : starEach [c] X.env = (false, eval c X.env) :: starEach [] X.env)
    (hw : swappedStores [.Tuple [.Name x px, .Name y py, .Name z pz] kt pt] (.Tuple [a, b, c] k2 pt2) X.env = pure (some [x, y, z])) (hs : swapsWithSole [.Tuple [.Name x px, .Name y py, .Name z pz] kt pt] (.Tuple [a, b, c] k2 pt2) pos.line X.env = pure false) :
    LS X W (.Assign [.Tuple [.Name x px, .Name y py, .Name z pz] kt pt] (.Tuple [a, b, c] k2 pt2) pos) (fun env => (fa env).bind fun r => (fb r.2).bind fun q => (fc q.2).bind fun w => (optR (settle r.1 w.2)).bind fun r => (optR (settle q.1 r.2)).bind fun q => (optR (settle w.1 q.2)).bind fun w =>
    (optR (put i r.1 w.2)).bind fun e1 => (optR (put j q.1 e1)).bind fun e2 => (optR (put l w.1 e2)).bind fun e3 => .ok (.nx, e3)) := by
  refine PS.imp (ps_par3 hc hN hi hj hl hij hil hjl hx hy hz (pa_cons ha (pa_cons hb (pa_cons hc' pa_nil h3) h2) h1) hw hs) ?_
  rintro D σ H ⟨env, S, As, R, h⟩
  refine liftE.mono (bindE Stp.refl R h) ?_
  rintro v H1 ⟨rv, env1, S1, As1, B1, st1, R1, ok1, fr1, h1⟩
  refine liftE.mono (bindE st1 R1 h1) ?_
  rintro w H2 ⟨rw, env2, S2, As2, B2, st2, R2, ok2, fr2, h2⟩
  refine liftE.mono (bindE (st1.trans st2) R2 h2) ?_
  rintro u H3 ⟨ru, env3, S3, As3, B3, st3, R3, ok3, fr3, h3⟩
  obtain ⟨⟨rv', env4⟩, e1, h3⟩ := h3.opt
  obtain ⟨⟨rw', env5⟩, e2, h3⟩ := h3.opt
  obtain ⟨⟨ru', env6⟩, e3, h3⟩ := h3.opt
  obtain ⟨env7, e4, h3⟩ := h3.opt
  obtain ⟨env8, e5, h3⟩ := h3.opt
  obtain ⟨env9, e6, h3⟩ := h3.opt
  have d12 : ∀ b ∈ B1, b ∉ B2 := fun b hb hb2 => by
    obtain ⟨n1, n2⟩ := ok1.there b hb
    exact (fr2 b hb2).elim n1 n2
  have d13 : ∀ b ∈ B1, b ∉ B3 := fun b hb hb2 => by
    obtain ⟨n1, n2⟩ := (ok1.stp st2).there b hb
    exact (fr3 b hb2).elim n1 n2
  have d23 : ∀ b ∈ B2, b ∉ B3 := fun b hb hb2 => by
    obtain ⟨n1, n2⟩ := ok2.there b hb
    exact (fr3 b hb2).elim n1 n2
  obtain ⟨S4, As4, B1', R4, st4, ok4, sb4⟩ := settle_ok R3 ((ok1.stp st2).stp st3) e1
  obtain ⟨S5, As5, B2', R5, st5, ok5, sb5⟩ := settle_ok R4 ((ok2.stp st3).stp st4) e2
  obtain ⟨S6, As6, B3', R6, st6, ok6, sb6⟩ := settle_ok R5 ((ok3.stp st4).stp st5) e3
  have st := ((((st1.trans st2).trans st3).trans st4).trans st5).trans st6
  obtain ⟨As7, R7, st7, ow7⟩ := put_ok R6 ((ok4.stp st5).stp st6) st (fun b hb => fr1 b (sb4 b hb)) e4
  have ok7 : RvOk X.K X.mg (σ.set i (some v)) H3 S6 As7 w rw' B2' := (ok5.stp st6).thru (settle_no e2) fun b hb z => by
    rcases ow7 b z with z | z
    · exact ((ok5.stp st6).there b hb).2 z
    · exact d12 b (sb4 b z) (sb5 b hb)
  obtain ⟨As8, R8, st8, ow8⟩ := put_ok R7 ok7 st7 (fun b hb => st1.fresh (fr2 b (sb5 b hb))) e5
  have ok8 : RvOk X.K X.mg ((σ.set i (some v)).set j (some w)) H3 S6 As8 u ru' B3' := ok6.thru (settle_no e3) fun b hb z => by
    rcases ow8 b z with z | z
    · rcases ow7 b z with z | z
      · exact (ok6.there b hb).2 z
      · exact d13 b (sb4 b z) (sb6 b hb)
    · exact d23 b (sb5 b z) (sb6 b hb)
  obtain ⟨As9, R9, st9, ow9⟩ := put_ok R8 ok8 st8 (fun b hb => (st1.trans st2).fresh (fr3 b (sb6 b hb))) e6
  exact ⟨v, w, u, rfl, h3 _ H3 S6 As9 st9 R9⟩
theorem iop_ints {o : Bop} {p q z : PV} (e : iopV o p q = some z) : ∃ a b c, p = .int a ∧ q = .int b ∧ z = .int c := by
  unfold iopV at e
  split at e <;> first | (cases e; exact ⟨_, _, _, rfl, rfl, rfl⟩) | cases e
theorem ls_aug {i : Nat} {x : Str} {o : Bop} {pos' : Pos} (ho : o = .add ∨ o = .sub) (hN : X.N.Nodup) (hi : X.N[i]? = some x) (hx : Loc X.env.scope x) (he : LE X W e fe) (hf : X.fn x = true ∨ X.env.scope.names.lookup x = some .local) :
    LS X W (.AugAssign (.Name x pos') (opOf o) e pos) (fun env => match get env i with
    | some (.fz p) => (fe env).bind fun r => match r.1 with
      | .val q => (optR (iopV o p q)).bind fun v => (optR (put i (.val v) r.2)).bind fun e1 => .ok (.nx, e1)
      | _ => .stuck
    | _ => .stuck) := by
  have hp : PIp X (opOf o) (fun x y H Q => ∃ a b c, x = .int a ∧ y = .int b ∧ iopV o (.int a) (.int b) = some (.int c) ∧ Q (.int c) H) := by
    intro pins s σ H x y v u Q I r1 r2 h
    obtain ⟨a, b, c, rfl, rfl, e, q⟩ := h
    rcases ho with rfl | rfl
    · cases e; exact ip_add pins s σ H _ _ v u Q I r1 r2 ⟨a, b, rfl, rfl, q⟩
    · cases e; exact ip_sub pins s σ H _ _ v u Q I r1 r2 ⟨a, b, rfl, rfl, q⟩
  refine PS.imp (ps_aug hN hi hx he hp hf) ?_
  rintro D σ H ⟨env, S, As, R, h⟩
  dsimp only at h
  cases hg : get env i with
  | none => rw [hg] at h; exact False.elim h
  | some c =>
    rw [hg] at h
    cases c with
    | fz p =>
      obtain ⟨v, v1, v2⟩ := R.cell i _ hg
      refine ⟨v, v1, liftE.mono (bindE Stp.refl R h) ?_⟩
      rintro w H1 ⟨rw, env1, S1, As1, B1, st1, R1, ok1, fr1, h1⟩
      cases rw with
      | val q =>
        obtain ⟨z, e1, h1⟩ := h1.opt
        obtain ⟨a, b, c, rfl, rfl, rfl⟩ := iop_ints e1
        obtain ⟨env2, e2, h1⟩ := Post.opt h1
        refine ⟨a, b, c, rp_int v2.1, rp_int ok1.1, e1, ?_⟩
        obtain ⟨As2, R2, st2, _⟩ := put_ok (v := .int c) (B := []) R1 (show RvOk X.K X.mg σ H1 S1 As1 (.int c) (.val (.int c)) [] from ⟨Rp.int _, rfl⟩) st1 (fun b hb => by cases hb) e2
        exact h1 _ H1 S1 As2 st2 R2
      | loc j => exact False.elim h1
      | new c => exact False.elim h1
    | lst xs => exact False.elim h
    | ls2 xs => exact False.elim h
    | obj C fs => exact False.elim h
theorem ls_if (hc : LT X W c ft) (ha : LSs X W a fa) (hb : LSs X W b fb) : LS X W (.If c a b pos) (fun env => (ft env).bind fun r => match r.1 with
    | true => fa r.2
    | false => fb r.2) := by
  refine PS.imp (ps_if hc ha hb) ?_
  rintro D σ H ⟨env, S, As, R, h⟩
  refine liftT.mono (bindT Stp.refl R h) ?_
  rintro v H1 ⟨env1, S1, As1, st1, R1, h1⟩
  cases v with
  | true => exact iteT ⟨env1, S1, As1, R1, (Post.part st1 (Post.pass h1)).mono fun fl e h => KS.trans st1 h⟩
  | false => exact iteF ⟨env1, S1, As1, R1, (Post.part st1 (Post.pass h1)).mono fun fl e h => KS.trans st1 h⟩
theorem ls_ret (he : LE X W e fe) : LS X W (.Return (some e) pos) (fun env => (fe env).bind fun r => (giveBack r.1 r.2).bind fun q => .ok (.rt q.1, q.2)) := by
  refine PS.imp (ps_ret he) ?_
  rintro D σ H ⟨env, S, As, R, h⟩
  refine liftE.mono (bindE Stp.refl R h) ?_
  rintro v H1 ⟨rv, env1, S1, As1, B1, st1, R1, ok1, fr1, h1⟩
  cases rv with
  | val p => exact h1 σ H1 S1 As1 st1 R1 v B1 ok1 fr1
  | new c => exact h1 σ H1 S1 As1 st1 R1 v B1 ok1 fr1
  | loc j =>
    dsimp only [giveBack] at h1
    cases hg : get env1 j with
    | none => rw [hg] at h1; exact False.elim h1
    | some c =>
      rw [hg] at h1
      obtain ⟨w, e1, hcw⟩ := R1.cell j c hg
      have : w = v := by simpa using e1.symm.trans ok1.1
      subst this
      have hf : ∀ b ∈ As1 j, S1 b = none := fun b hb => R1.free b ⟨j, hb⟩
      have mv : ∀ {c : Cell}, CellOk X.K X.mg H1 S1 w c (As1 j) → KS X.K X.mg D H S As (.rt (.new c)) (env1.set j none) → D.rt w H1 := fun {c} hc k => by
        obtain ⟨R2, st2⟩ := R1.drop j
        refine k _ H1 S1 _ (st1.trans st2) R2 w (As1 j) ⟨hc, fun b hb => ⟨fun ⟨k, hk⟩ => ?_, hf b hb⟩⟩ fun b hb => st1.fresh (.inr ⟨j, hb⟩)
        by_cases q : k = j
        · subst q; rw [updF_same] at hk; cases hk
        · rw [updF_ne q] at hk; exact R1.disj k j b q hk hb
      cases c with
      | fz p => exact h1 σ H1 S1 As1 st1 R1 w [] ⟨hcw.1, rfl⟩ (fun b hb => by cases hb)
      | lst xs => exact mv hcw h1
      | ls2 xs => exact mv hcw h1
      | obj C fs => exact mv hcw h1
theorem ls_retn : LS X W (.Return none pos) (fun env => .ok (.rt (.val .non), env)) := by
  refine PS.imp ps_retN ?_
  rintro D σ H ⟨env, S, As, R, h⟩
  exact h σ H S As Stp.refl R .non [] ⟨Rp.non, rfl⟩ (fun b hb => by cases hb)
theorem ls_rai {C : Str} {x : Addr} (hc : X.calm = true) (tk : Takes X W) (hm : X.mg C = some (.ref x)) (he : PMk X e (fun _ H Q => Q (.ref x) none H)) : LS X W (.Raise (some e) none pos) (fun env => .exc C [] env) := by
  refine PS.imp (ps_raise hc tk he) ?_
  rintro D σ H ⟨env, S, As, R, h⟩
  exact h σ H S As (.ref x) none Stp.refl R ⟨⟨x, hm, rfl⟩, rfl⟩
/-! ### loops -/
theorem Post.partG {α : Type} {K : PySem.W.Frag} {mg : Str → Option Value} {H S H₀ S₀ : Hp} {As As₀ : Fp} {r : Res Env} {g : Env → Res (α × Env)} {k : α → Env → Prop} (st : Stp H₀ S₀ As₀ H S As) (h : Post K mg W H₀ S₀ As₀ (r.bind g) k) : PostG K mg W H S As r (fun e => Post K mg W H₀ S₀ As₀ (g e) k) := by
  cases r with
  | ok a => exact h
  | exc C fs e => exact fun σ H' S' As' cls d s => h σ H' S' As' cls d (st.trans s)
  | stuck => exact h
theorem ls_for {tg it : Expr} {t : Tg} {fi : Env → Res (List PV × Env)} {fg : PV → Env → Res Env} {body : List Stmt} {fb : Env → Res (Fl × Env)} (hp : PassesOwn (model X.prog X.w) X.A X.env X.xe) (hc : X.calm = true) (hi : LI X W tg it fi) (hg : LG X W tg t fg) (hb : LSs X W body fb)
    (hs : ∀ x, foldedSetIterable it X.env x = pure x) : LS X W (.For tg it body [] pos) (fun env => (fi env).bind fun r => forGo fg fb r.1 r.2) := by
  refine PS.imp (ps_for hp hc hi hg hb hs) ?_
  rintro D σ H ⟨env, S, As, R, h⟩
  refine liftI.mono (bindI Stp.refl R h) ?_
  rintro J H1 ⟨items, env1, S1, As1, st1, R1, wk, h1⟩
  let Iv : Nat → L2.St → Hp → Prop := fun i σ' Hc => ∃ env' S' As', Stp H S As Hc S' As' ∧ Same S1 S' ∧ Rel X.K X.mg σ' env' Hc S' As' ∧ Post X.K X.mg W H S As (forGo fg fb (items.drop i) env') (KS X.K X.mg D H S As)
  refine ⟨fun i m σ' Hc => m = items.length - i ∧ i ≤ items.length ∧ Iv i σ' Hc, ⟨_, rfl, Nat.zero_le _, env1, S1, As1, st1, Same.refl _, R1, h1⟩, ?_⟩
  rintro i m σc Hc ⟨rfl, hile, env', S', As', stc, smc, Rc, hrun⟩
  have sm : Same S1 Hc := smc.trans Rc.sub
  by_cases hlt : i < items.length
  · obtain ⟨hgoJ, hy⟩ := wk.item Hc sm i items[i] (List.getElem?_eq_getElem hlt)
    refine .inr ⟨hgoJ, Iv (i + 1), fun σ' H' p' => ⟨items.length - (i + 1), by omega, rfl, hlt, p'⟩, fun x H3 y => ?_⟩
    obtain ⟨S3, R4, st4, rx⟩ := ((hy x H3 y).mono smc).lay Rc
    rw [List.drop_eq_getElem_cons hlt] at hrun
    unfold forGo at hrun
    refine ⟨env', S3, As', items[i], R4, rx, (Post.partG (stc.trans st4) hrun).imp ?_⟩
    intro e1 hrun σ5 H5 S5 As5 kp5 st5 R5
    have st05 := (stc.trans st4).trans st5
    have sm5 := (smc.trans st4.same).trans st5.same
    refine ⟨e1, S5, As5, R5, (Post.part st05 hrun).mono ?_⟩
    intro fl e2 h2 σ6 H6 S6 As6 st6 R6
    cases fl with
    | nx => exact ⟨e2, S6, As6, st05.trans st6, sm5.trans st6.same, R6, h2⟩
    | ct => exact ⟨e2, S6, As6, st05.trans st6, sm5.trans st6.same, R6, h2⟩
    | bk => exact h2 σ6 H6 S6 As6 (st05.trans st6) R6
    | rt r => exact fun v B ok fr => h2 σ6 H6 S6 As6 (st05.trans st6) R6 v B ok fun b hb => st05.fresh (fr b hb)
  · have e : i = items.length := by omega
    subst e
    rw [List.drop_length] at hrun
    exact .inl ⟨wk.stop Hc sm _ (Nat.le_refl _), hrun σc Hc S' As' stc Rc⟩
theorem ls_while {body : List Stmt} {fb : Env → Res (Fl × Env)} (hp : PassesOwn (model X.prog X.w) X.A X.env X.xe) (hc : LT X W c ft) (hb : LSs X W body fb) : LS X W (.While c body [] pos) (whF ft fb) := by
  refine PS.imp (ps_while hp hc hb) ?_
  rintro D σ H ⟨env, S, As, R, h⟩
  have hex : ∃ n r, whN ft fb n env = some r := by
    by_cases z : ∃ n r, whN ft fb n env = some r
    · exact z
    · rw [whF_not fun n => ?_] at h
      · exact False.elim h
      · cases q : whN ft fb n env with
        | none => rfl
        | some r => exact absurd ⟨n, r, q⟩ z
  obtain ⟨n, r, hn⟩ := hex
  rw [whF_of hn] at h
  refine ⟨fun m σ' Hc => ∃ env' S' As', Stp H S As Hc S' As' ∧ Rel X.K X.mg σ' env' Hc S' As' ∧ whN ft fb m env' = some r, ⟨n, env, S, As, Stp.refl, R, hn⟩, ?_⟩
  rintro m σc Hc ⟨env', S', As', stc, Rc, hm⟩
  cases m with
  | zero => cases hm
  | succ m =>
    unfold whN at hm
    refine ⟨env', S', As', Rc, ?_⟩
    cases ht : ft env' with
    | stuck => rw [ht] at hm; cases hm; exact False.elim h
    | exc C fs e => rw [ht] at hm; cases hm; exact fun σ' H' S' As' cls d s => h σ' H' S' As' cls d (stc.trans s)
    | ok q =>
      obtain ⟨k, e1⟩ := q
      rw [ht] at hm
      intro H2 S2 As2 st2 R2
      cases k with
      | false =>
        cases hm
        exact iteF (h σc H2 S2 As2 (stc.trans st2) R2)
      | true =>
        simp only at hm
        refine iteT ⟨fun σ' H' => ∃ m', m' < m + 1 ∧ ∃ env' S' As', Stp H S As H' S' As' ∧ Rel X.K X.mg σ' env' H' S' As' ∧ whN ft fb m' env' = some r, fun _ _ z => z, e1, S2, As2, R2, ?_⟩
        have st02 := stc.trans st2
        cases hbr : fb e1 with
        | stuck => rw [hbr] at hm; cases hm; exact False.elim h
        | exc C fs e => rw [hbr] at hm; cases hm; exact fun σ' H' S' As' cls d s => h σ' H' S' As' cls d (st02.trans s)
        | ok q =>
          obtain ⟨fl, e2⟩ := q
          rw [hbr] at hm
          intro σ3 H3 S3 As3 st3 R3
          cases fl with
          | nx => exact ⟨m, Nat.lt_succ_self _, e2, S3, As3, st02.trans st3, R3, hm⟩
          | ct => exact ⟨m, Nat.lt_succ_self _, e2, S3, As3, st02.trans st3, R3, hm⟩
          | bk => cases hm; exact h σ3 H3 S3 As3 (st02.trans st3) R3
          | rt u => cases hm; exact fun v B ok fr => h σ3 H3 S3 As3 (st02.trans st3) R3 v B ok fun b hb => st02.fresh (fr b hb)
end
end PL
set_option Elab.async false
set_option linter.all false
set_option maxRecDepth 100000
set_option maxHeartbeats 1000000
namespace PL
open PySem PySem.Spec PyProof.Rows L2
/-! ### methods of lists -/
def rM (K : PySem.W.Frag) (mg : Str → Option Value) (m : Str) : V → List V → Hp → VK → Prop := fun x vs H Q => ∃ l xs ys ps S rv zs, x = .ref l ∧ H l = some (.lst xs) ∧ Rps K mg S xs ys ∧ Rps K mg S vs ps ∧ mthL m ys ps = some (rv, zs) ∧
  ∀ v xs', Rp K mg S v rv → Rps K mg S xs' zs → Q v (upd H l (.lst xs'))
section
variable {X : Cx} {W : WX} {mg : Str → Option Value}
theorem mthL_pop (xs ps : List PV) : mthL "pop" xs ps = (match ps with
        | [] => (xs[xs.length - 1]?).map fun y => (y, xs.dropLast)
        | [.int i] => if -(2 ^ 63) ≤ i ∧ i < 2 ^ 63 then (match seqIndex? i xs.length with
          | some k => (xs[k]?).map fun y => (y, xs.eraseIdx k)
          | none => none) else none
        | _ => none) := by
  unfold mthL
  rw [if_neg (by decide), if_pos rfl]
  all_goals rfl
theorem mm_append : MtR X "list.append" (rM X.K mg "append") := by
  intro pins s σ H x vs v us Q I rx rv h
  obtain ⟨l, xs, ys, ps, S, r, zs, rfl, hl, h1, h2, h3, q⟩ := h
  refine mt_append pins s σ H _ vs v us Q I rx rv ?_
  simp only [mthL, if_pos] at h3
  split at h3
  · rename_i p
    split at h3
    · rename_i hz
      cases h3
      obtain ⟨w, r, rfl, h4, h5⟩ := h2.uncons
      have : r = [] := by unfold Rps at h5; exact h5
      subst this
      exact ⟨l, xs, w, rfl, rfl, hl, by rw [h1.length]; exact hz, q _ _ Rp.non (h1.append (Rps.cons h4 Rps.nil))⟩
    · cases h3
  · cases h3
theorem mm_pop : MtR X "list.pop" (rM X.K mg "pop") := by
  intro pins s σ H x vs v us Q I rx rv h
  obtain ⟨l, xs, ys, ps, S, r, zs, rfl, hl, h1, h2, h3, q⟩ := h
  rw [mthL_pop] at h3
  split at h3
  · simp only [Option.map_eq_some_iff] at h3
    obtain ⟨y, e, e2⟩ := h3
    cases e2
    have : vs = [] := by unfold Rps at h2; exact h2
    subst this
    obtain ⟨w, e1, e2⟩ := h1.get e
    rw [← h1.length] at e1
    exact mt_pop pins s σ H _ [] v us Q I rx rv ⟨l, xs, w, rfl, rfl, hl, e1, q _ _ e2 h1.dropLast⟩
  · rename_i i
    split at h3
    · rename_i hz
      split at h3
      · rename_i k hk
        simp only [Option.map_eq_some_iff] at h3
        obtain ⟨y, e, e2⟩ := h3
        cases e2
        obtain ⟨w, r, rfl, h4, h5⟩ := h2.uncons
        have : r = [] := by unfold Rps at h5; exact h5
        subst this
        rw [rp_int h4] at rv
        obtain ⟨u, e1, e2⟩ := h1.get e
        exact mt_popAt pins s σ H _ _ v us Q I rx rv ⟨l, xs, i, k, u, rfl, rfl, hl, hz.1, hz.2, by rw [h1.length]; exact hk, e1, q _ _ e2 h1.eraseIdx⟩
      · cases h3
    · cases h3
  · cases h3
variable {o e : Expr} {es : List Expr} {apos cpos : Pos} {fo : Env → Res (RV × Env)} {fs : Env → Res (List PV × Env)} {m : Str} {id : String}
theorem imp_mth {K : PySem.W.Frag} {σ : SlotV} {H : Hp} {Q : VK} (h : liftE K mg W (fun env => (fo env).bind fun r => mthV m fs r) σ H Q) : tBM K "list" (rM K mg m) (liftE K mg W fo) (liftTs K mg W fs) σ H Q := by
  obtain ⟨env, S, As, R, h⟩ := h
  refine liftE.mono (bindE Stp.refl R h) ?_
  rintro v H1 ⟨rv, env1, S1, As1, B1, st1, R1, ok1, fr1, h1⟩
  cases rv with
  | val p => exact False.elim h1
  | new c => exact False.elim h1
  | loc j =>
    dsimp only [mthV] at h1
    cases hg : get env1 j with
    | none => rw [hg] at h1; exact False.elim h1
    | some c =>
      rw [hg] at h1
      cases c with
      | fz p => exact False.elim h1
      | ls2 xs => exact False.elim h1
      | obj C fs => exact False.elim h1
      | lst ys0 =>
        obtain ⟨w, e1, a, vs0, rfl, ha, hr, hA⟩ := R1.cell j _ hg
        have : V.ref a = v := by simpa using e1.symm.trans ok1.1
        subst this
        refine ⟨.inl ⟨rfl, vs0, SqL.of ha⟩, liftTs.mono (bindTs st1 R1 h1) ?_⟩
        rintro vs H2 ⟨ps, env2, S2, As2, st2, R2, rs, h2⟩
        dsimp only at h2
        cases hg2 : get env2 j with
        | none => rw [hg2] at h2; exact False.elim h2
        | some c =>
          rw [hg2] at h2
          cases c with
          | fz p => exact False.elim h2
          | ls2 xs => exact False.elim h2
          | obj C fs => exact False.elim h2
          | lst ys =>
            obtain ⟨w, e2, b, xs, rfl, hb, hr2, hA2⟩ := R2.cell j _ hg2
            have : b = a := by simpa using e2.symm.trans e1
            subst this
            obtain ⟨⟨r, zs⟩, e3, h2⟩ := h2.opt
            refine ⟨b, xs, ys, ps, S2, r, zs, rfl, hb, hr2, rs, e3, fun v xs' hv hxs => ?_⟩
            have hbj : b ∈ As2 j := by rw [hA2]; exact List.mem_cons_self
            have hfz : S2 b = none := R2.free b ⟨j, hbj⟩
            have R3 := R2.chg (i := j) (v := .ref b) (c := some (.lst zs)) (B := [b]) (H' := upd H2 b (.lst xs')) (S' := S2) (get_lt hg2) (fun c o e => by rw [upd_ne fun q => by rw [q, hfz] at e; cases e]; exact R2.sub c o e) (Same.refl _)
              (fun k c n hc => upd_ne fun q => R2.disj k j c n hc (q ▸ hbj)) (fun k c n hc => R2.free c ⟨k, hc⟩) ⟨b, xs', rfl, upd_same, hxs, rfl⟩ fun c hc => by
                obtain rfl : c = b := by simpa using hc
                exact ⟨fun k n hk => R2.disj k j c n hk hbj, hfz⟩
            rw [set_self e2] at R3
            refine h2 v _ S2 _ [] ((st1.trans st2).trans ⟨Same.refl _, fun c o e n => by rw [upd_ne fun q => n ⟨j, by rw [q]; exact hbj⟩]; exact e, fun c hc => ?_, fun c hc => .inl hc, fun a r h => ?_⟩) R3 ⟨hv, rfl⟩ fun c hc => by cases hc
            · obtain ⟨k, hk⟩ := hc
              by_cases q : k = j
              · subst q
                rw [updF_same] at hk
                obtain rfl : c = b := by simpa using hk
                exact .inl ⟨k, hbj⟩
              · rw [updF_ne q] at hk
                exact .inl ⟨k, hk⟩
            · by_cases q : 0 = j
              · subst q
                rw [updF_same] at h
                cases h
                exact ⟨[], hA2⟩
              · rw [updF_ne q] at h
                exact ⟨r, h⟩
def mths : List Str := ["append", "pop"]
theorem mth_ok (hm : m ∈ mths) : ∃ id, Slot "list" m id ∧ typeOf (.builtin id) = pure (.type "method_descriptor") ∧ MtR X id (rM X.K mg m) := by
  simp only [mths, List.mem_cons, List.not_mem_nil, or_false] at hm
  rcases hm with rfl | rfl
  · exact ⟨_, PySem.F.slot_list_append, PySem.F.type_list_append, mm_append⟩
  · exact ⟨_, PySem.F.slot_list_pop, PySem.F.type_list_pop, mm_pop⟩
theorem le_mth0 (hm : m ∈ mths) (ho : LE X W o fo) (hbase : attributeBase o m X.env (eval o X.env) = eval o X.env) (hline : (apos.endLine == cpos.line) = true) :
    LE X W (.Call (.Attribute o m apos) [] [] cpos) (fun env => (fo env).bind fun r => mthV m (fun env => .ok ([], env)) r) := by
  obtain ⟨id, h1, h2, h3⟩ := mth_ok (X := X) (mg := X.mg) hm
  refine PE.imp (pe_bm0 PySem.F.plainAttrs_list h1 h2 h3 ho hbase hline) fun σ H Q h => ?_
  exact liftE.mono (imp_mth h) fun x H1 ⟨a, b⟩ => ⟨a, by
    obtain ⟨env, S, As, R, p⟩ := b
    exact p [] H1 S As Stp.refl R Rps.nil⟩
theorem le_mth (hm : m ∈ mths) (ho : LE X W o fo) (ha : LTs X W (e :: es) fs) (hbase : attributeBase o m X.env (eval o X.env) = eval o X.env)
    (hfew : ((backTo cpos (starEach (e :: es) X.env)).all (fun x => !x.1) && (backToKw cpos (keywordEach [] X.env)).all (fun x => x.1.isSome)
      && decide ((e :: es).length + ([] : List Keyword).length + (if ([] : List Keyword).isEmpty then 0 else 1) < 30)) = true) (hline : (apos.endLine == cpos.line) = true)
    (hs : starEach (e :: es) X.env = (false, eval e X.env) :: starEach es X.env) (hpl : (backTo cpos (starEach es X.env)).any (·.1) = false) :
    LE X W (.Call (.Attribute o m apos) (e :: es) [] cpos) (fun env => (fo env).bind fun r => mthV m fs r) := by
  obtain ⟨id, h1, h2, h3⟩ := mth_ok (X := X) (mg := X.mg) hm
  exact PE.imp (pe_bm PySem.F.plainAttrs_list h1 h2 h3 ho ha hbase hfew hline hs hpl) fun σ H Q h => imp_mth h
end

/-! ### how many keys -/
structure MkO (H S : Hp) (As : Fp) (D : Addr) (o : HO) : Prop where
  at' : H D = some o
  fz : S D = none
  no : ¬ Own As D
section
variable {K : PySem.W.Frag} {mg : Str → Option Value} {H H' S S' H₀ S₀ : Hp} {As As' As₀ : Fp} {σ : SlotV} {env : Env}
theorem MkO.stp {D : Addr} {o : HO} (h : MkO H S As D o) (s : Stp H S As H' S' As') : MkO H' S' As' D o := by
  refine ⟨s.fr D _ h.at' h.no, ?_, fun z => ?_⟩
  · cases e : S' D with
    | none => rfl
    | some o =>
      rcases s.new D (by rw [e]; simp) with z | z | z
      · exact absurd h.fz z
      · exact absurd z h.no
      · rw [h.at'] at z; cases z
  · rcases s.own D z with z | z
    · exact h.no z
    · rw [h.at'] at z; cases z
theorem MkO.push {D : Addr} {o o' : HO} (h : MkO H S As D o) (R : Rel K mg σ env H S As) (hn : H₀ D = none) (st : Stp H₀ S₀ As₀ H S As) :
    Rel K mg σ env (upd H D o') S As ∧ Stp H₀ S₀ As₀ (upd H D o') S As ∧ MkO (upd H D o') S As D o' := by
  refine ⟨R.grow (fun b o e => ?_) (Same.refl _) (fun b hb => upd_ne fun e => h.no (e ▸ hb)) fun b hb => R.free b hb, ⟨st.same, fun b o e n => ?_, st.own, st.new, st.anc⟩, upd_same, h.fz, h.no⟩
  · rw [upd_ne fun q => by rw [q, h.fz] at e; cases e]; exact R.sub b o e
  · rw [upd_ne fun q => by rw [q, hn] at e; cases e]; exact st.fr b o e n
end
def keyd (ks : List Int) : List (L2.Key × V) := ks.map fun k => (.inl k, V.bl true)
theorem putK_keyd (ks : List Int) (k : Int) : putK (keyd ks) (.inl k) (V.bl true) = keyd (addK ks k) := by
  unfold putK addK
  have e : ((keyd ks).any fun kv => decide (kv.1 = Sum.inl k)) = decide (k ∈ ks) := by
    induction ks with
    | nil => rfl
    | cons x xs ih =>
      show (decide ((Sum.inl x : L2.Key) = Sum.inl k) || _) = _
      have ih : ((List.map (fun k => ((Sum.inl k : L2.Key), V.bl true)) xs).any fun kv => decide (kv.1 = Sum.inl k)) = decide (k ∈ xs) := ih
      rw [ih]
      by_cases h : x = k
      · subst h; simp
      · have h' : ¬ k = x := fun z => h z.symm
        simp [h, h']
  rw [e]
  by_cases h : k ∈ ks
  · rw [if_pos (by simpa using h), if_pos h]
    unfold keyd
    rw [List.map_map]
    apply List.map_congr_left
    intro x hx
    show (if (Sum.inl x : L2.Key) = Sum.inl k then _ else _) = _
    split <;> rfl
  · rw [if_neg (by simpa using h), if_neg h]
    unfold keyd
    rw [List.map_append]
    rfl
section
variable {X : Cx} {W : WX} {kx vx tg iter : Expr} {ifs : List Expr} {scope : Scope} {own : List (Str × Nat)} {is : List Nat} {pos : Pos} {t : Tg}
  {fi : Env → Res (List PV × Env)} {ft : PV → Env → Res Env} {fc : Env → Res (Bool × Env)} {fk : Env → Res (RV × Env)}
theorem imp_dlen {K : PySem.W.Frag} {mg : Str → Option Value} {σ : SlotV} {H : Hp} {Q : VK} (hsub : ∀ j ∈ tgs t, j ∈ is)
    (h : liftE K mg W (fun env => (fi env).bind fun r => match plainAt r.2 is with
    | false => .stuck
    | true => (dkGo ft fc fk (fun e1 => wipeE e1 is) r.1 [] (wipeE r.2 is)).noexc.bind fun q =>
      .ok (.val (.int q.1.length), restore r.2 q.2 is)) σ H Q) :
    tDc (liftI K mg W fi) (liftG K mg W0 (tgs t) ft) (liftT K mg W0 fc) (liftE K mg W0 fk) (tC (.bl true)) is σ H (fun x H' => ∃ a kvs, [x] = [V.ref a] ∧ H' a = some (.dK kvs) ∧ Q (.int kvs.length) H') := by
  obtain ⟨env, S, As, R, h⟩ := h
  refine liftI.mono (bindI Stp.refl R h) ?_
  rintro J H1 ⟨items, env1, S1, As1, st1, R1, wk, h1⟩ D hD
  dsimp only at h1
  cases hp : plainAt env1 is with
  | false => rw [hp] at h1; exact False.elim h1
  | true =>
    rw [hp] at h1
    dsimp only at h1
    cases hgo : (dkGo ft fc fk (fun e1 => wipeE e1 is) items [] (wipeE env1 is)).noexc with
    | exc C fs e => cases hq : dkGo ft fc fk (fun e1 => wipeE e1 is) items [] (wipeE env1 is) <;> rw [hq] at hgo <;> cases hgo
    | stuck => rw [hgo] at h1; exact False.elim h1
    | ok r =>
      obtain ⟨accF, envF⟩ := r
      rw [hgo] at h1
      have hgo := Res.noexc_ok hgo
      have h1 : KE K mg σ H S As Q (.val (.int accF.length)) (restore env1 envF is) := h1
      obtain ⟨As2, R2, st2⟩ := R1.wipes (is := is)
      obtain ⟨R3, st3⟩ := R2.layN (o := .dK []) hD
      have noD : ¬ Own As2 D := fun z => R2.there z hD
      let Iv : Nat → Hp → Prop := fun i Hc => ∃ env' S' As' acc, Stp H1 S1 As1 Hc S' As' ∧ Rel K mg (wipe σ is) env' Hc S' As' ∧ MkO Hc S' As' D (.dK (keyd acc)) ∧ acc.length ≤ i ∧
        dkGo ft fc fk (fun e1 => wipeE e1 is) (items.drop i) acc env' = .ok (accF, envF)
      refine ⟨fun i m Hc => m = items.length - i ∧ i ≤ items.length ∧ Iv i Hc, ⟨_, rfl, Nat.zero_le _, wipeE env1 is, S1, As2, [], st2.trans st3, R3, ⟨upd_same, R1.sub.free hD, noD⟩, Nat.le_refl _, hgo⟩, ?_⟩
      rintro i m Hc ⟨rfl, hile, env', S', As', acc, stc, Rc, mk, hacc, hrun⟩
      have sm : Same S1 Hc := stc.same.trans Rc.sub
      by_cases hlt : i < items.length
      · obtain ⟨hgoJ, hy⟩ := wk.item Hc sm i items[i] (List.getElem?_eq_getElem hlt)
        refine .inr ⟨hgoJ, Iv (i + 1), fun H' p' => ⟨items.length - (i + 1), by omega, rfl, hlt, p'⟩, fun x H3 y => ?_⟩
        obtain ⟨S3, R4, st4, rx⟩ := ((hy x H3 y).mono stc.same).lay Rc
        rw [List.drop_eq_getElem_cons hlt] at hrun
        unfold dkGo at hrun
        obtain ⟨e1, k1, hrun⟩ := Res.bind_ok hrun
        obtain ⟨⟨b, e2⟩, k2, hrun⟩ := Res.bind_ok hrun
        refine ⟨env', S3, As', items[i], R4, rx, PostG.ok k1 ?_⟩
        intro σ5 H5 S5 As5 kp5 st5 R5
        refine ⟨wipe_kept kp5 hsub, e1, S5, As5, R5, Post.ok' k2 ?_⟩
        intro H6 S6 As6 st6 R6
        have st16 := ((stc.trans st4).trans st5).trans st6
        have mk6 := ((mk.stp st4).stp st5).stp st6
        cases b with
        | false =>
          obtain ⟨As7, R7, st7⟩ := R6.wipes (is := is)
          rw [wipe_kept kp5 hsub] at R7
          exact iteF ⟨wipeE e2 is, S6, As7, acc, st16.trans st7, R7, mk6.stp st7, Nat.le_succ_of_le hacc, hrun⟩
        | true =>
          refine iteT ?_
          obtain ⟨⟨rv, e3⟩, k4, hrun⟩ := Res.bind_ok hrun
          refine ⟨e2, S6, As6, R6, Post.ok' k4 ?_⟩
          intro v H7 S7 As7 B st7 R7 ok7 fr7
          dsimp only at hrun
          split at hrun
          · rename_i k
            have mk7 := mk6.stp st7
            obtain ⟨As9, R9, st9⟩ := R7.wipes (is := is)
            rw [wipe_kept kp5 hsub] at R9
            obtain ⟨R10, st10, mk10⟩ := (mk7.stp st9).push (o' := .dK (keyd (addK acc k))) R9 hD ((st16.trans st7).trans st9)
            refine ⟨keyd acc, .inl k, rp_int ok7.1, mk7.at', ?_, wipeE e3 is, S7, As9, addK acc k, ?_, ?_, ?_, ?_, hrun⟩
            · have := wk.len
              unfold keyd
              rw [List.length_map]
              omega
            · rw [putK_keyd]; exact st10
            · rw [putK_keyd]; exact R10
            · rw [putK_keyd]; exact mk10
            · unfold addK
              split
              · omega
              · rw [List.length_append, List.length_singleton]; omega
          · cases hrun
      · have e : i = items.length := by omega
        subst e
        rw [List.drop_length] at hrun
        have hrun : (Res.ok (acc, env') : Res (List Int × Env)) = .ok (accF, envF) := hrun
        cases hrun
        obtain ⟨As9, R9, st9⟩ := Rel.restored R1 hp Rc stc.same
        have mk9 := mk.stp st9
        refine .inl ⟨wk.stop Hc sm _ (Nat.le_refl _), D, keyd accF, rfl, mk9.at', ?_⟩
        have hl : (keyd accF).length = accF.length := by unfold keyd; rw [List.length_map]
        rw [hl]
        exact h1 _ _ _ _ [] (st1.trans (stc.trans st9)) R9 ⟨Rp.int _, rfl⟩ fun b hb => by cases hb
theorem le_dlen {p cpos : Pos} (hown : own.map (·.2) = is) (hc : X.calm = true) (hN : X.N.Nodup) (hgl : Gl X "len") (hm : X.mg "len" = none) (hi : LI X W tg iter fi) (ok : BlkOk X.N X.env.scope scope own) (hsub : ∀ j ∈ tgs t, j ∈ is)
    (hg : ∀ (s : Shared) (H : Hp) (C : Addr) (cl : List (Str × Addr)) (fp : List Addr), LG (X.blk s H scope (compEnvC scope cl C X.env) fp) W0 tg t ft)
    (ht : ∀ (s : Shared) (H : Hp) (C : Addr) (cl : List (Str × Addr)) (fp : List Addr), PTs (X.blk s H scope (compEnvC scope cl C X.env) fp) ifs (liftT X.K X.mg W0 fc))
    (hk : ∀ (s : Shared) (H : Hp) (C : Addr) (cl : List (Str × Addr)) (fp : List Addr), LE (X.blk s H scope (compEnvC scope cl C X.env) fp) W0 kx fk)
    (hv : ∀ (s : Shared) (H : Hp) (C : Addr) (cl : List (Str × Addr)) (fp : List Addr), PE (X.blk s H scope (compEnvC scope cl C X.env) fp) vx (tC (.bl true))) (hs : ∀ x, foldedSetIterable iter X.env x = pure x)
    (he : starEach [.DictComp kx vx [⟨tg, iter, ifs, 0⟩] scope pos] X.env = [(false, eval (.DictComp kx vx [⟨tg, iter, ifs, 0⟩] scope pos) X.env)]) :
    LE X W (.Call (.Name "len" p) [.DictComp kx vx [⟨tg, iter, ifs, 0⟩] scope pos] [] cpos) (fun env => (fi env).bind fun r => match plainAt r.2 is with
    | false => .stuck
    | true => (dkGo ft fc fk (fun e1 => wipeE e1 is) r.1 [] (wipeE r.2 is)).noexc.bind fun q =>
      .ok (.val (.int q.1.length), restore r.2 q.2 is)) := by
  refine PE.imp (pe_callB call_lenD hgl hm (by decide +kernel) (pa_cons (pe_dc (g := liftG X.K X.mg W0 (tgs t) ft) (tt := liftT X.K X.mg W0 fc) (tk := liftE X.K X.mg W0 fk) (tv := tC (.bl true)) hc hN hi ok hg ht hk hv hs) pa_nil he) (by decide) (by decide) he rfl) fun σ H Q h => ?_
  have := imp_dlen hsub h
  rw [← hown] at this
  exact this
end
end PL
set_option Elab.async false
set_option linter.all false
set_option maxRecDepth 100000
set_option maxHeartbeats 1000000
namespace PL
open PySem PySem.Spec PyProof.Rows L2
/-! ### from the text to the tree -/
structure Cfg where
  fns : List Str
  lent : List Str
  excs : List Str
def ixOf : List Str → Str → Nat → Option Nat
  | [], _, _ => none
  | y :: r, x, k => if x == y then some k else ixOf r x (k + 1)
def visB (sc : Scope) (x : Str) : Bool := match sc.names.lookup x with
  | some .local => true
  | some .cell => true
  | some .free => true
  | _ => false
def locB (sc : Scope) (x : Str) : Bool := match sc.names.lookup x with
  | some .local => true
  | some .cell => true
  | _ => false
def onlyB (sc : Scope) (x : Str) : Bool := match sc.names.lookup x with
  | some .local => true
  | _ => false
def glB (sc : Scope) (x : Str) : Bool := match sc.names.lookup x with
  | some .globalImplicit => true
  | _ => false
def plainName (x : Str) : Bool := !(x == ("__debug__" : Str)) && !(x == ("__classdict__" : Str)) && !(x == ("__name__" : Str))
def isStar : Expr → Bool
  | .Starred _ _ => true
  | _ => false
def noStar (es : List Expr) : Bool := es.all fun e => !isStar e
def isComp : Expr → Bool
  | .ListComp .. => true
  | .SetComp .. => true
  | .DictComp .. => true
  | _ => false
def isDictC : Expr → Bool
  | .DictComp .. => true
  | _ => false
def isSetE : Expr → Bool
  | .Set .. => true
  | _ => false
def isSlice : Expr → Bool
  | .Slice .. => true
  | _ => false
def bopOf : Operator → Option Bop
  | .Add => some .add | .Sub => some .sub | .Mult => some .mul | .FloorDiv => some .fdiv | .Mod => some .mod | .Pow => some .pow
  | .LShift => some .shl | .RShift => some .shr | .BitAnd => some .band | .BitOr => some .bor | .BitXor => some .bxor
  | _ => none
def copOf : CmpOp → Cop
  | .Eq => .eq | .NotEq => .ne | .Lt => .lt | .LtE => .le | .Gt => .gt | .GtE => .ge | .Is => .is | .IsNot => .isn | .In => .mem | .NotIn => .nmem
theorem opOf_bop {o : Operator} {b : Bop} (h : bopOf o = some b) : opOf b = o := by
  cases o <;> cases b <;> first | rfl | cases h
theorem cpOf_cop (o : CmpOp) : cpOf (copOf o) = o := by cases o <;> rfl
def mkEs : List E → Es
  | [] => .nil
  | e :: r => .cons e (mkEs r)
def mkTgs : List Tg → Tgs
  | [] => .nil
  | e :: r => .cons e (mkTgs r)
def allO {α : Type} : List (Option α) → Option (List α)
  | [] => some []
  | some a :: r => (allO r).map (a :: ·)
  | none :: _ => none
def conOf : Const → Option PV
  | .none => some .non
  | .bool b => some (.bl b)
  | .int i => some (.int i)
  | .str x => some (.str x)
  | _ => none
def tyNames : List Str := ["int", "bool", "str", "tuple", "list", "dict"]
def tyOf (x : Str) : Option String :=
  if x == ("int" : Str) then some "int" else if x == ("bool" : Str) then some "bool" else if x == ("str" : Str) then some "str" else if x == ("tuple" : Str) then some "tuple"
  else if x == ("list" : Str) then some "list" else if x == ("dict" : Str) then some "dict" else none
/-- the slots of a block's own names -/
def ownOf (N : List Str) (scope : Scope) : List (Str × Nat) := scope.names.filterMap fun (n, k) => match k with
  | .local => (ixOf N n 0).map fun i => (n, i)
  | .cell => (ixOf N n 0).map fun i => (n, i)
  | _ => none
def subsetB (is js : List Nat) : Bool := is.all fun i => js.contains i
section
variable (N : List Str)
/-- plain targets -/
def trTg (sc : Scope) (fb : Str → Bool) : Nat → Expr → Option Tg
  | 0, _ => none
  | n + 1, e => match e with
    | .Name x _ => if locB sc x && (fb x || onlyB sc x) then (ixOf N x 0).map .nm else none
    | .Tuple es _ _ => if noStar es then (allO (es.map (trTg sc fb n))).map fun ts => .tup (mkTgs ts) else none
    | _ => none
/-- what is walked -/
def isTupE : Expr → Bool
  | .Tuple .. => true
  | _ => false
def itE (tr : Expr → E) (sc : Scope) (tg e : Expr) : E := match e with
  | .Call (.Name f _) [a] [] _ => if f == ("range" : Str) then (if glB sc f && noStar [a] then .blt f (mkEs [tr a]) else .bad)
    else if f == ("enumerate" : Str) then (if glB sc f && noStar [a] && isTupE tg then .blt f (mkEs [tr a]) else .bad) else tr e
  | .Call (.Name f _) [a, b] [] _ => if f == ("range" : Str) then (if glB sc f && noStar [a, b] then .blt f (mkEs [tr a, tr b]) else .bad)
    else if f == ("zip" : Str) then (if glB sc f && noStar [a, b] && isTupE tg then .blt f (mkEs [tr a, tr b]) else .bad) else tr e
  | e => tr e
def tstE (tr : Expr → E) : List Expr → E
  | [] => .con (.bl true)
  | [i] => tr i
  | _ => .bad
def cellB (scope : Scope) (x : Str) : Bool := scope.names.lookup x == some .cell
def parE (tr : Expr → E) : Option Expr → E
  | none => .con .non
  | some a => match tr a with
    | .con .non => .bad
    | e => e
def andE : List E → E
  | [] => .bad
  | [a] => a
  | a :: r => .and a (andE r)
def orE : List E → E
  | [] => .bad
  | [a] => a
  | a :: r => .or a (orE r)
def isCall : Expr → Bool
  | .Call .. => true
  | _ => false
variable (c : Cfg)
def trE : Nat → Scope → (Str → Bool) → Expr → E
  | 0, _, _, _ => .bad
  | n + 1, sc, fb, e => match e with
    | .Name x _ => if plainName x then
        (if visB sc x then (match ixOf N x 0 with | some i => .var i | none => .bad)
         else if glB sc x then (match tyOf x with | some T => .con (.ty T) | none => .gco x) else .bad) else .bad
    | .Constant k _ _ => match conOf k with
      | some p => .con p
      | none => .bad
    | .BinOp a o b _ => match bopOf o with
      | some o => .bop o (trE n sc fb a) (trE n sc fb b)
      | none => .bad
    | .UnaryOp .USub a _ => .neg (trE n sc fb a)
    | .UnaryOp .Not a _ => .not (trE n sc fb a)
    | .BoolOp .And (a :: b :: r) _ => .and (trE n sc fb a) (andE ((b :: r).map (trE n sc fb)))
    | .BoolOp .Or (a :: b :: r) _ => .or (trE n sc fb a) (orE ((b :: r).map (trE n sc fb)))
    | .Compare a [o] [b] _ => if behindInMarks o b then .bad else .cmp (copOf o) (trE n sc fb a) (trE n sc fb b)
    | .Compare a [o, o'] [b, d] _ => if lastMarks [o, o'] [b, d] then .bad else .chn (copOf o) (copOf o') (trE n sc fb a) (trE n sc fb b) (trE n sc fb d)
    | .IfExp t a b _ => .ite (trE n sc fb t) (trE n sc fb a) (trE n sc fb b)
    | .Tuple es _ _ => if noStar es && decide (es.length ≤ 1000) then .tup (mkEs (es.map (trE n sc fb))) else .bad
    | .List es _ => if noStar es && decide (es.length ≤ 1000) then .lst (mkEs (es.map (trE n sc fb))) else .bad
    | .Subscript o (.Slice lo hi none _) _ => .sl (trE n sc fb o) (parE (trE n sc fb) lo) (parE (trE n sc fb) hi)
    | .Subscript o i _ => if isSlice i then .bad else .ix (trE n sc fb o) (trE n sc fb i)
    | .Call (.Name f _) (a :: es) [] _ => if plainName f && glB sc f && noStar (a :: es) then
        (if c.fns.contains f then
          (if c.lent.contains f then (match a with
            | .Name y _ => if plainName y && visB sc y then (match ixOf N y 0 with | some i => .calm f i (mkEs (es.map (trE n sc fb))) | none => .bad) else .bad
            | _ => .bad)
          else .call f (mkEs ((a :: es).map (trE n sc fb))))
        else if f == ("len" : Str) && isDictC a then (match a, es with
          | .DictComp kx (.Constant (.bool true) _ _) [⟨tg, it, ifs, 0⟩] scope _, [] =>
            (match trTg N (relS scope sc) (cellB scope) n tg with
            | some t => if blkC N sc scope (ownOf N scope) && subsetB (tgs t) ((ownOf N scope).map (·.2)) && !isSetE it then
                .dlen ((ownOf N scope).map (·.2)) t (itE (trE n sc fb) sc tg it) (tstE (trE n (relS scope sc) (cellB scope)) ifs) (trE n (relS scope sc) (cellB scope) kx) else .bad
            | none => .bad)
          | _, _ => .bad)
        else if blts.contains f then .blt f (mkEs ((a :: es).map (trE n sc fb)))
        else .bad) else .bad
    | .Call (.Attribute o m ap) [] [] cp => if mths.contains m && (ap.endLine == cp.line) && !isCall o then .mth m (trE n sc fb o) .nil else .bad
    | .Call (.Attribute o m ap) (a :: es) [] cp => if mths.contains m && (ap.endLine == cp.line) && !isCall o && noStar (a :: es) && decide ((a :: es).length < 30) then .mth m (trE n sc fb o) (mkEs ((a :: es).map (trE n sc fb))) else .bad
    | .ListComp e [⟨tg, it, ifs, 0⟩] scope _ =>
      (match trTg N (relS scope sc) (cellB scope) n tg with
      | some t => if blkC N sc scope (ownOf N scope) && subsetB (tgs t) ((ownOf N scope).map (·.2)) && !isSetE it then
          .lc ((ownOf N scope).map (·.2)) t (itE (trE n sc fb) sc tg it) (tstE (trE n (relS scope sc) (cellB scope)) ifs) (trE n (relS scope sc) (cellB scope) e) else .bad
      | none => .bad)
    | .ListComp e [⟨tg, it, ifs, 0⟩, ⟨tg1, it1, ifs1, 0⟩] scope _ =>
      (match trTg N (relS scope sc) (cellB scope) n tg, trTg N (relS scope sc) (cellB scope) n tg1 with
      | some t, some t1 => if blkC N sc scope (ownOf N scope) && subsetB (tgs t) ((ownOf N scope).map (·.2)) && subsetB (tgs t1) ((ownOf N scope).map (·.2)) && !isSetE it && !isSetE it1 then
          .lc2 ((ownOf N scope).map (·.2)) (tgs t1) t (itE (trE n sc fb) sc tg it) (tstE (trE n (relS scope sc) (cellB scope)) ifs) t1 (itE (trE n (relS scope sc) (cellB scope)) (relS scope sc) tg1 it1)
            (tstE (trE n (relS scope sc) (cellB scope)) ifs1) (trE n (relS scope sc) (cellB scope) e) else .bad
      | _, _ => .bad)
    | _ => .bad
end
end PL
set_option Elab.async false
set_option linter.all false
set_option maxRecDepth 100000
set_option maxHeartbeats 4000000
namespace PL
open PySem PySem.Spec PyProof.Rows L2
/-! ### the tree's meaning is the text's -/
structure Snd (X : Cx) (W : WX) (e : Expr) (v : Vw) : Prop where
  el : LE X W e v.e
  tl : LT X W e v.t
  il : ∀ tg, LI X W tg e v.i
def bNames : List Str := ["len", "abs", "min", "max", "sum", "all", "any", "tuple", "list", "int", "isinstance", "bool", "str", "dict", "range", "zip", "enumerate"]
structure Good (Pg : Prog) (c : Cfg) (k : Nat) (N : List Str) (sc : Scope) (fb : Str → Bool) (X : Cx) : Prop where
  hN : X.N = N
  nd : N.Nodup
  hsc : X.env.scope = sc
  calm : X.calm = true
  units : X.A.units + 65 < cLine
  room : Room k X.A
  fnb : ∀ x, fb x = true → X.fn x = true
  blts : ∀ f ∈ bNames, X.mg f = none
  defs : ∀ f ∈ c.fns, ∃ a, X.mg f = some (.ref a) ∧ FnAt X.prog X.w X.K X.mg X.base k a (evF Pg k (.fn f))
  con : ∀ x p, Pg.con x = some p → ∃ v u, X.mg x = some u ∧ RelV v u ∧ ∀ S, Rp X.K X.mg S v p
section
variable {X : Cx} {W : WX} {e : Expr} {pos : Pos}
theorem lt_bad {f : Env → Res (Bool × Env)} (h : ∀ env, f env = .stuck) : LT X W e f := ⟨fun pins s σ H Q I ⟨env, _, _, _, p⟩ => by rw [h env] at p; exact False.elim p⟩
theorem le_bad' {f : Env → Res (RV × Env)} (h : ∀ env, f env = .stuck) : LE X W e f := ⟨fun pins s σ H Q I ⟨env, _, _, _, p⟩ => by rw [h env] at p; exact False.elim p⟩
theorem li_bad {tg : Expr} {f : Env → Res (List PV × Env)} (h : ∀ env, f env = .stuck) : LI X W tg e f := ⟨fun pins s σ H Q I ⟨env, _, _, _, p⟩ => by rw [h env] at p; exact False.elim p⟩
theorem Snd.bad {F : Sem} : Snd X W e (ev F .bad) := ⟨le_bad, lt_bad fun _ => rfl, fun _ => li_bad fun _ => rfl⟩
theorem Snd.vw {f : Env → Res (RV × Env)} (h : LE X W e f) (he : ∀ whole, isTrue e X.env whole = (do let v ← whole; standAt e.pos; holding [v] (truthy v))) : Snd X W e (vw f) := ⟨h, lt_truth h he, fun _ => li_seq h⟩
theorem ixOf_ok : ∀ {N : List Str} {x : Str} {k i : Nat}, ixOf N x k = some i → k ≤ i ∧ N[i - k]? = some x
  | [], _, _, _, h => by cases h
  | y :: r, x, k, i, h => by
    unfold ixOf at h
    split at h
    · rename_i e
      cases h
      have : x = y := by simpa using e
      subst this
      exact ⟨Nat.le_refl _, by simp⟩
    · obtain ⟨h1, h2⟩ := ixOf_ok (N := r) h
      refine ⟨by omega, ?_⟩
      rw [show i - k = (i - (k + 1)) + 1 by omega, List.getElem?_cons_succ]
      exact h2
theorem ixOf_at {N : List Str} {x : Str} {i : Nat} (h : ixOf N x 0 = some i) : N[i]? = some x := (ixOf_ok h).2
theorem visB_ok {sc : Scope} {x : Str} (h : visB sc x = true) : Vis sc x := by
  unfold visB at h
  unfold Vis
  split at h <;> first | (rename_i q; first | exact .inl q | exact .inr (.inl q) | exact .inr (.inr q)) | cases h
theorem locB_ok {sc : Scope} {x : Str} (h : locB sc x = true) : L2.Loc sc x := by
  unfold locB at h
  unfold L2.Loc
  split at h <;> first | (rename_i q; first | exact .inl q | exact .inr q) | cases h
theorem onlyB_ok {sc : Scope} {x : Str} (h : onlyB sc x = true) : sc.names.lookup x = some .local := by
  unfold onlyB at h
  split at h <;> first | assumption | cases h
theorem glB_ok {sc : Scope} {x : Str} (h : glB sc x = true) : sc.names.lookup x = some .globalImplicit := by
  unfold glB at h
  split at h <;> first | assumption | cases h
theorem plain_ok {x : Str} (h : plainName x = true) : (x == ("__debug__" : Str)) = false ∧ (x == ("__classdict__" : Str)) = false ∧ x ≠ "__name__" := by
  unfold plainName at h
  simp only [Bool.and_eq_true, Bool.not_eq_true'] at h
  exact ⟨h.1.1, h.1.2, fun e => by rw [e] at h; exact absurd h.2 (by decide)⟩
theorem star_cons {e : Expr} {es : List Expr} {env : PySem.Env} (h : isStar e = false) : starEach (e :: es) env = (false, eval e env) :: starEach es env := by
  cases e <;> first | rfl | cases h
theorem noStar_cons {e : Expr} {es : List Expr} (h : noStar (e :: es) = true) : isStar e = false ∧ noStar es = true := by
  unfold noStar at h
  simp only [List.all_cons, Bool.and_eq_true, Bool.not_eq_true'] at h
  exact h
theorem star_plain {pos : Pos} {env : PySem.Env} : ∀ {es : List Expr}, noStar es = true → (backTo pos (starEach es env)).any (·.1) = false
  | [], _ => rfl
  | e :: es, h => by
    obtain ⟨h1, h2⟩ := noStar_cons h
    rw [star_cons h1]
    exact star_plain h2
theorem star_all {pos : Pos} {env : PySem.Env} : ∀ {es : List Expr}, noStar es = true → (backTo pos (starEach es env)).all (fun x => !x.1) = true
  | [], _ => rfl
  | e :: es, h => by
    obtain ⟨h1, h2⟩ := noStar_cons h
    rw [star_cons h1]
    exact star_all h2
theorem fold_ok {e : Expr} {env : PySem.Env} (h : isSetE e = false) : ∀ x, foldedSetIterable e env x = pure x := by
  intro x
  cases e <;> first | rfl | cases h
theorem slice_ok {e : Expr} (h : isSlice e = false) : PlainIx e := by
  intro o i
  cases e <;> first | rfl | cases h
variable {F : Sem}
theorem ts_len : ∀ {es : List E} {env : Env} {r : List PV × Env}, evTs F (mkEs es) env = .ok r → r.1.length = es.length
  | [], env, r, h => by
    have h : (Res.ok ([], env) : Res (List PV × Env)) = .ok r := h
    cases h; rfl
  | e :: es, env, r, h => by
    have h : (((ev F e).e env).bind fun r => (optR (take r.1 r.2)).bind fun r => (evTs F (mkEs es) r.2).bind fun q => .ok (r.1 :: q.1, q.2)) = .ok r := h
    obtain ⟨a, _, h⟩ := Res.bind_ok h
    obtain ⟨b, _, h⟩ := Res.bind_ok h
    obtain ⟨d, h1, h⟩ := Res.bind_ok h
    cases h
    rw [List.length_cons, List.length_cons, ts_len h1]
theorem hs_len : ∀ {es : List E} {env : Env} {r : List RV × Env}, evHs F (mkEs es) env = .ok r → r.1.length = es.length
  | [], env, r, h => by
    have h : (Res.ok ([], env) : Res (List RV × Env)) = .ok r := h
    cases h; rfl
  | e :: es, env, r, h => by
    have h : (((ev F e).e env).bind fun r => (evHs F (mkEs es) r.2).bind fun q => .ok (r.1 :: q.1, q.2)) = .ok r := h
    obtain ⟨a, _, h⟩ := Res.bind_ok h
    obtain ⟨d, h1, h⟩ := Res.bind_ok h
    cases h
    rw [List.length_cons, List.length_cons, hs_len h1]
theorem lts_all {tr : Expr → E} (h : ∀ e, LE X W e (ev F (tr e)).e) : ∀ {es : List Expr}, noStar es = true → LTs X W es (evTs F (mkEs (es.map tr)))
  | [], _ => lts_nil
  | e :: es, hs => by
    obtain ⟨h1, h2⟩ := noStar_cons hs
    exact lts_cons (h e) (lts_all h h2) (star_cons h1)
theorem lhs_all {tr : Expr → E} (h : ∀ e, LE X W e (ev F (tr e)).e) : ∀ {es : List Expr}, noStar es = true → LHs X W es (evHs F (mkEs (es.map tr)))
  | [], _ => lhs_nil
  | e :: es, hs => by
    obtain ⟨h1, h2⟩ := noStar_cons hs
    exact lhs_cons (h e) (lhs_all h h2) (star_cons h1)
theorem le_and1 {a : Expr} {f : Env → Res (RV × Env)} (h : LE X W a f) : LE X W (.BoolOp .And [a] pos) f := ⟨fun pins s σ H Q I q => by
  rw [arm_eval_BoolOp]
  exact h.run pins s σ H Q I q⟩
theorem le_or1 {a : Expr} {f : Env → Res (RV × Env)} (h : LE X W a f) : LE X W (.BoolOp .Or [a] pos) f := ⟨fun pins s σ H Q I q => by
  rw [arm_eval_BoolOp]
  exact h.run pins s σ H Q I q⟩

variable {Pg : Prog} {c : Cfg} {k : Nat} {N : List Str} {sc : Scope} {fb : Str → Bool}
theorem allO_map {α β : Type} {f : α → Option β} : ∀ {es : List α} {ts : List β}, allO (es.map f) = some ts → (es = [] ∧ ts = []) ∨ ∃ e r t ts', es = e :: r ∧ ts = t :: ts' ∧ f e = some t ∧ allO (r.map f) = some ts'
  | [], ts, h => by cases h; exact .inl ⟨rfl, rfl⟩
  | e :: r, ts, h => by
    rw [List.map_cons] at h
    cases q : f e with
    | none => rw [q] at h; cases h
    | some t =>
      rw [q] at h
      simp only [allO, Option.map_eq_some_iff] at h
      obtain ⟨ts', h1, rfl⟩ := h
      exact .inr ⟨e, r, t, ts', rfl, rfl, q, h1⟩
theorem tgs_stuck : ∀ {ts : List Tg} (hx : ∀ t ∈ ts, ∀ p env C fs e, evTg F t p env ≠ .exc C fs e) {ps : List PV} {env : Env}, evTgs F (mkTgs ts) ps env ≠ .stuck → ps.length = ts.length
  | [], _, [], _, _ => rfl
  | [], _, p :: ps, env, h => absurd rfl h
  | t :: ts, _, [], env, h => absurd rfl h
  | t :: ts, hx, p :: ps, env, h => by
    have h : ((evTg F t p env).bind fun e1 => evTgs F (mkTgs ts) ps e1) ≠ .stuck := h
    cases q : evTg F t p env with
    | stuck => rw [q] at h; exact absurd rfl h
    | exc C fs e => exact absurd q (hx t List.mem_cons_self _ _ _ _ _)
    | ok e1 =>
      rw [q] at h
      rw [List.length_cons, List.length_cons, tgs_stuck (ts := ts) (fun t ht => hx t (List.mem_cons_of_mem _ ht)) h]
theorem tgs_noexc : ∀ {ts : List Tg} (hx : ∀ t ∈ ts, ∀ p env C fs e, evTg F t p env ≠ .exc C fs e) (ps : List PV) (env : Env) (C fs e), evTgs F (mkTgs ts) ps env ≠ .exc C fs e
  | [], _, [], _, _, _, _ => fun h => by cases h
  | [], _, p :: ps, env, _, _, _ => fun h => by cases h
  | t :: ts, _, [], env, _, _, _ => fun h => by cases h
  | t :: ts, hx, p :: ps, env, C, fs, e => fun h => by
    have h : ((evTg F t p env).bind fun e1 => evTgs F (mkTgs ts) ps e1) = .exc C fs e := h
    cases q : evTg F t p env with
    | stuck => rw [q] at h; cases h
    | exc C fs e => exact absurd q (hx t List.mem_cons_self _ _ _ _ _)
    | ok e1 =>
      rw [q] at h
      exact tgs_noexc (fun t ht => hx t (List.mem_cons_of_mem _ ht)) ps e1 C fs e h
theorem allO_mem {α β : Type} {f : α → Option β} : ∀ {es : List α} {ts : List β}, allO (es.map f) = some ts → ∀ t ∈ ts, ∃ e ∈ es, f e = some t
  | es, ts, h, t, ht => by
    induction es generalizing ts with
    | nil => cases h; cases ht
    | cons e r ih =>
      rcases allO_map h with ⟨q, _⟩ | ⟨e', r', t', ts', e1, rfl, h2, h3⟩
      · cases q
      · cases e1
        rcases List.mem_cons.mp ht with rfl | ht
        · exact ⟨e, List.mem_cons_self, h2⟩
        · obtain ⟨e', h4, h5⟩ := ih ts' h3 ht
          exact ⟨e', List.mem_cons_of_mem _ h4, h5⟩
theorem trTg_noexc : ∀ {n : Nat} {tg : Expr} {t : Tg}, trTg N sc fb n tg = some t → ∀ p env C fs e, evTg F t p env ≠ .exc C fs e
  | 0, _, _, h => by cases h
  | n + 1, tg, t, h => by
    intro p env C fs e z
    unfold trTg at h
    split at h
    · split at h
      · simp only [Option.map_eq_some_iff] at h
        obtain ⟨i, hi, rfl⟩ := h
        have z : (if i < env.length then Res.ok (env.set i (some (.fz p))) else .stuck) = .exc C fs e := z
        split at z <;> cases z
      · cases h
    · split at h
      · simp only [Option.map_eq_some_iff] at h
        obtain ⟨ts, h1, rfl⟩ := h
        cases p with
        | tup xs => exact tgs_noexc (fun t ht => by
            obtain ⟨e, _, h2⟩ := allO_mem h1 t ht
            exact trTg_noexc h2) xs env C fs e z
        | _ => cases z
      · cases h
    · cases h
theorem asg_len {env : PySem.Env} : ∀ {es : List Expr}, noStar es = true → (assignEach es env).length = es.length ∧ (assignEach es env).findIdx? (·.1) = none
  | [], _ => ⟨rfl, rfl⟩
  | e :: es, h => by
    obtain ⟨h1, h2⟩ := noStar_cons h
    have q : assignEach (e :: es) env = (false, assign e env) :: assignEach es env := by cases e <;> first | rfl | cases h1
    obtain ⟨h3, h4⟩ := asg_len (env := env) h2
    rw [q]
    refine ⟨by rw [List.length_cons, List.length_cons, h3], ?_⟩
    rw [List.findIdx?_cons, h4]
    rfl
theorem trTg_ok (G : Good Pg c k N sc fb X) : ∀ {n : Nat} {tg : Expr} {t : Tg}, trTg N sc fb n tg = some t → LG X W tg t (evTg F t)
  | 0, _, _, h => by cases h
  | n + 1, tg, t, h => by
    unfold trTg at h
    split at h
    · rename_i x p
      split at h
      · rename_i hc
        simp only [Option.map_eq_some_iff] at h
        obtain ⟨i, hi, rfl⟩ := h
        simp only [Bool.and_eq_true, Bool.or_eq_true] at hc
        have hi := ixOf_at hi
        rw [← G.hN] at hi
        exact lg_name (by rw [G.hN]; exact G.nd) hi (by rw [G.hsc]; exact locB_ok hc.1) (hc.2.imp (G.fnb x) fun z => by rw [G.hsc]; exact onlyB_ok z)
      · cases h
    · rename_i es kk p
      split at h
      · rename_i hs
        simp only [Option.map_eq_some_iff] at h
        obtain ⟨ts, h1, rfl⟩ := h
        have key : ∀ {es : List Expr} {ts : List Tg}, noStar es = true → allO (es.map (trTg N sc fb n)) = some ts → LGs X W es (mkTgs ts) (evTgs F (mkTgs ts)) ∧ ts.length = es.length := by
          intro es
          induction es with
          | nil =>
            intro ts _ h
            cases h
            exact ⟨lgs_nil, rfl⟩
          | cons e r ih =>
            intro ts hs h
            rcases allO_map h with ⟨q, _⟩ | ⟨e', r', t, ts', e1, rfl, h2, h3⟩
            · cases q
            · cases e1
              obtain ⟨h4, h5⟩ := noStar_cons hs
              obtain ⟨h6, h7⟩ := ih h5 h3
              exact ⟨lgs_cons (trTg_ok G h2) h6 (by cases e <;> first | rfl | cases h4), by rw [List.length_cons, List.length_cons, h7]⟩
        obtain ⟨h2, h3⟩ := key hs h1
        obtain ⟨h4, h5⟩ := asg_len (env := X.env) hs
        exact lg_tup G.calm h2 h4 h5 fun ps env z => by
          rw [tgs_stuck (fun t ht => by
            obtain ⟨e, _, h2⟩ := allO_mem h1 t ht
            exact trTg_noexc h2) z, h3]
      · cases h
    · cases h
theorem Good.gl (G : Good Pg c k N sc fb X) {f : Str} (h : glB sc f = true) : Gl X f := by
  show X.env.scope.names.lookup f = _
  rw [G.hsc]; exact glB_ok h
theorem itE_ok (G : Good Pg c k N sc fb X) {tr : Expr → E} (h : ∀ e, Snd X W e (ev F (tr e))) (tg e : Expr) : LI X W tg e (ev F (itE tr sc tg e)).i := by
  unfold itE
  split
  · rename_i f p a q
    split
    · rename_i hf
      have hf : f = "range" := by simpa using hf
      subst hf
      split
      · rename_i hc
        simp only [Bool.and_eq_true] at hc
        have h1 := (noStar_cons hc.2).1
        have := li_range1 (tg := tg) (pos := q) (p := p) (G.gl hc.1) (G.blts _ (by decide)) (lhs_all (fun e => (h e).el) hc.2) (fun env r e => by rw [hs_len e]; rfl) (star_cons (es := []) h1)
        exact this
      · exact li_bad fun _ => rfl
    · split
      · rename_i hf
        have hf : f = "enumerate" := by simpa using hf
        subst hf
        split
        · rename_i hc
          simp only [Bool.and_eq_true] at hc
          obtain ⟨elts, kk, tpos, rfl⟩ : ∃ elts kk tpos, tg = .Tuple elts kk tpos := by
            cases tg <;> first | exact ⟨_, _, _, rfl⟩ | cases hc.2
          exact li_enum (pos := q) (p := p) (G.gl hc.1.1) (G.blts _ (by decide)) (lts_all (fun e => (h e).el) hc.1.2) (star_cons (es := []) (noStar_cons hc.1.2).1)
        · exact li_bad fun _ => rfl
      · exact (h _).il tg
  · rename_i f p a b q
    split
    · rename_i hf
      have hf : f = "range" := by simpa using hf
      subst hf
      split
      · rename_i hc
        simp only [Bool.and_eq_true] at hc
        obtain ⟨h1, h2⟩ := noStar_cons hc.2
        obtain ⟨h3, _⟩ := noStar_cons h2
        exact li_range2 (tg := tg) (pos := q) (p := p) (G.gl hc.1) (G.blts _ (by decide)) (lhs_all (fun e => (h e).el) hc.2) (fun env r e => by rw [hs_len e]; rfl) (by rw [star_cons h1, star_cons h3]; rfl) (star_cons (es := []) h3)
      · exact li_bad fun _ => rfl
    · split
      · rename_i hf
        have hf : f = "zip" := by simpa using hf
        subst hf
        split
        · rename_i hc
          simp only [Bool.and_eq_true] at hc
          obtain ⟨elts, kk, tpos, rfl⟩ : ∃ elts kk tpos, tg = .Tuple elts kk tpos := by
            cases tg <;> first | exact ⟨_, _, _, rfl⟩ | cases hc.2
          obtain ⟨h1, h2⟩ := noStar_cons hc.1.2
          exact li_zip (pos := q) (p := p) (G.gl hc.1.1) (G.blts _ (by decide)) (lts_all (fun e => (h e).el) hc.1.2) (star_cons h1) (star_plain h2)
        · exact li_bad fun _ => rfl
      · exact (h _).il tg
  · exact (h _).il tg
theorem tst_ok {tr : Expr → E} (h : ∀ e, LT X W0 e (ev F (tr e)).t) (ifs : List Expr) : PTs X ifs (liftT X.K X.mg W0 (ev F (tstE tr ifs)).t) := by
  unfold tstE
  split
  · exact lts_test0
  · exact pts_one (h _)
  · exact ⟨fun pins s σ H Q I ⟨env, _, _, _, p⟩ => False.elim p⟩
theorem Good.blk (G : Good Pg c k N sc fb X) (s : Shared) (H : Hp) (scope : Scope) (C : Addr) (cl : List (Str × Addr)) (fp : List Addr) : Good Pg c k N (relS scope sc) (cellB scope) (X.blk s H scope (compEnvC scope cl C X.env) fp) :=
  ⟨G.hN, G.nd, by rw [← G.hsc]; rfl, G.calm, G.units, G.room, fun x h => h, G.blts, G.defs, G.con⟩
theorem sub_ok {is js : List Nat} (h : subsetB is js = true) : ∀ j ∈ is, j ∈ js := by
  intro j hj
  have := List.all_eq_true.mp h j hj
  simpa using this

theorem conOf_ok {kc : Const} {p : PV} {j : Nat} (h : conOf kc = some p) : LE X W (.Constant kc j pos) (fun env => .ok (.val p, env)) := by
  cases kc with
  | none => cases h; exact le_con pe_non fun S => Rp.non
  | bool b => cases h; exact le_con pe_bl fun S => Rp.bl b
  | int i => cases h; exact le_con pe_int fun S => Rp.int i
  | str x => cases h; exact le_con pe_str fun S => by unfold Rp; rfl
  | _ => cases h
theorem tyOf_ok {x : Str} {T : String} (h : tyOf x = some T) : x ∈ bNames ∧ bootBuiltins x = some (.type T) := by
  unfold tyOf at h
  repeat' (split at h)
  all_goals first | cases h | skip
  all_goals (rename_i q; first
    | (have q := eq_of_beq q; subst q; exact ⟨by decide, by decide +kernel⟩))
end
end PL
set_option Elab.async false
set_option linter.all false
set_option maxRecDepth 100000
set_option maxHeartbeats 8000000
namespace PL
open PySem PySem.Spec PyProof.Rows L2
section
variable {Pg : Prog} {c : Cfg} {k : Nat} {N : List Str}
theorem Snd.of_vw {X : Cx} {W : WX} {e : Expr} {F : Sem} {ε : E} {f : Env → Res (RV × Env)} (hv : ev F ε = PL.vw f) (h : LE X W e f) (he : ∀ whole, isTrue e X.env whole = (do let v ← whole; standAt e.pos; holding [v] (truthy v))) : Snd X W e (ev F ε) := by
  rw [hv]; exact Snd.vw h he
theorem par_none {X : Cx} {W : WX} {F : Sem} {tr : Expr → E} : LP X W none (parO (isNop (parE tr none)) (ev F (parE tr none)).e) := lp_none
theorem par_some {X : Cx} {W : WX} {F : Sem} {tr : Expr → E} {a : Expr} (h : LE X W a (ev F (tr a)).e) : LP X W (some a) (parO (isNop (parE tr (some a))) (ev F (parE tr (some a))).e) := by
  show LP X W (some a) (parO (isNop (match tr a with | .con .non => .bad | e => e)) (ev F (match tr a with | .con .non => .bad | e => e)).e)
  split
  · exact lp_some le_bad
  · rename_i hn
    have e : isNop (tr a) = false := by
      unfold isNop
      split
      · rename_i q; exact absurd q hn
      · rfl
    rw [e]
    exact lp_some h
theorem and_all {X : Cx} {W : WX} {F : Sem} {tr : Expr → E} {p : Pos} (h : ∀ e, Snd X W e (ev F (tr e))) : ∀ (a : Expr) (r : List Expr), LE X W (.BoolOp .And (a :: r) p) (ev F (andE ((a :: r).map tr))).e ∧ LW X W (.BoolOp .And (a :: r) p) (ev F (andE ((a :: r).map tr))).t
  | a, [] => ⟨le_and1 (h a).el, lw_and1 (h a).tl⟩
  | a, b :: r => ⟨le_and (h a).el (and_all h b r).1, lw_and (h a).tl (and_all h b r).2⟩
theorem or_all {X : Cx} {W : WX} {F : Sem} {tr : Expr → E} {p : Pos} (h : ∀ e, Snd X W e (ev F (tr e))) : ∀ (a : Expr) (r : List Expr), LE X W (.BoolOp .Or (a :: r) p) (ev F (orE ((a :: r).map tr))).e ∧ LW X W (.BoolOp .Or (a :: r) p) (ev F (orE ((a :: r).map tr))).t
  | a, [] => ⟨le_or1 (h a).el, lw_or1 (h a).tl⟩
  | a, b :: r => ⟨le_or (h a).el (or_all h b r).1, lw_or (h a).tl (or_all h b r).2⟩
theorem trE_ok : ∀ (n : Nat) (sc : Scope) (fb : Str → Bool) (X : Cx) (W : WX) (e : Expr), Good Pg c k N sc fb X → Takes X W → Snd X W e (ev (Pg.sem k) (trE N c n sc fb e))
  | 0, sc, fb, X, W, e, G, tk => Snd.bad
  | n + 1, sc, fb, X, W, e, G, tk => by
    have ih := fun e => trE_ok n sc fb X W e G tk
    have ihb := fun s H scope C cl fp e => trE_ok n (relS scope sc) (cellB scope) (X.blk s H scope (compEnvC scope cl C X.env) fp) W0 e (G.blk s H scope C cl fp) takes0
    have tgb := fun s H scope C cl fp tg t (h : trTg N (relS scope sc) (cellB scope) n tg = some t) => trTg_ok (W := W0) (F := Pg.sem k) (G.blk s H scope C cl fp) h
    unfold trE
    split
    · -- a name
      rename_i x p
      split
      · rename_i hp
        obtain ⟨hp1, hp2, hp3⟩ := plain_ok hp
        split
        · rename_i hv
          split
          · rename_i i hi
            have hi := ixOf_at hi
            rw [← G.hN] at hi
            exact .of_vw rfl (le_var hi (by rw [G.hsc]; exact visB_ok hv) hp1 hp2) fun _ => rfl
          · exact Snd.bad
        · split
          · rename_i hg
            split
            · rename_i T hT
              obtain ⟨h1, h2⟩ := tyOf_ok hT
              exact .of_vw rfl (le_con (v := .ty T) (pe_bltn (G.gl hg) (G.blts _ h1) h2 rfl hp3 hp1) fun S => by unfold Rp; rfl) fun _ => rfl
            · refine .of_vw (f := fun env => match Pg.con x with | some p => .ok (.val p, env) | none => .stuck) rfl ?_ fun _ => rfl
              cases hc : Pg.con x with
              | none => exact le_bad
              | some q =>
                obtain ⟨v, u, h1, h2, h3⟩ := G.con x q hc
                exact le_con (v := v) ⟨fun pins s σ H Q I h => ld_glob I (G.gl hg) h1 ⟨v, H, I, h2, h⟩ hp1⟩ h3
          · exact Snd.bad
      · exact Snd.bad
    · -- a constant
      split
      · rename_i p hp
        exact .of_vw rfl (conOf_ok hp) fun _ => rfl
      · exact Snd.bad
    · -- an operation
      split
      · rename_i o ho
        have := opOf_bop ho
        subst this
        exact .of_vw rfl (le_bop o (ih _).el (ih _).el) fun _ => rfl
      · exact Snd.bad
    · exact .of_vw rfl (le_neg (ih _).el) fun _ => rfl
    · exact ⟨le_not (ih _).el, lt_not (ih _).tl, fun _ => li_bad fun _ => rfl⟩
    · rename_i a b r p
      obtain ⟨h1, h2⟩ := and_all (p := p) ih b r
      exact ⟨le_and (ih a).el h1, (lw_and (ih a).tl h2).pt, fun _ => li_bad fun _ => rfl⟩
    · rename_i a b r p
      obtain ⟨h1, h2⟩ := or_all (p := p) ih b r
      exact ⟨le_or (ih a).el h1, (lw_or (ih a).tl h2).pt, fun _ => li_bad fun _ => rfl⟩
    · split
      · exact Snd.bad
      · rename_i a o b p hm
        have hm : behindInMarks o b = false := by simpa using hm
        have e := cpOf_cop o
        rw [← e] at hm
        have h1 := le_cmp (pos := p) G.units (copOf o) (ih a).el (ih b).el hm
        have h2 := lt_cmp (pos := p) G.units (copOf o) (ih a).el (ih b).el hm
        rw [e] at h1 h2
        exact ⟨h1, h2, fun tg => li_seq h1⟩
    · split
      · exact Snd.bad
      · rename_i a o o' b d p hm
        have hm : lastMarks [o, o'] [b, d] = false := by simpa using hm
        have e := cpOf_cop o
        have e' := cpOf_cop o'
        rw [← e, ← e'] at hm
        have h1 := le_chn (pos := p) G.units (copOf o) (copOf o') (ih a).el (ih b).el (ih d).el hm
        have h2 := lt_chn (pos := p) G.units (copOf o) (copOf o') (ih a).el (ih b).el (ih d).el hm
        rw [e, e'] at h1 h2
        exact ⟨h1, h2, fun tg => li_seq h1⟩
    · rename_i t a b p
      have h1 := le_ite (pos := p) (ih t).tl (ih a).el (ih b).el
      exact ⟨h1, lt_bad fun _ => rfl, fun tg => li_seq h1⟩
    · split
      · rename_i hc
        simp only [Bool.and_eq_true, decide_eq_true_eq] at hc
        exact .of_vw rfl (le_tup (lts_all (fun e => (ih e).el) hc.1) hc.2 fun env r e => by rw [ts_len e, List.length_map]) fun _ => rfl
      · exact Snd.bad
    · split
      · rename_i hc
        simp only [Bool.and_eq_true, decide_eq_true_eq] at hc
        exact .of_vw rfl (le_lst (lts_all (fun e => (ih e).el) hc.1) hc.2 fun env r e => by rw [ts_len e, List.length_map]) fun _ => rfl
      · exact Snd.bad
    · rename_i o lo hi p q
      refine .of_vw rfl (le_sl (ih o).el (lo := lo) (hi := hi) ?_ ?_) fun _ => rfl
      · cases lo with
        | none => exact par_none (tr := trE N c n sc fb)
        | some a => exact par_some (ih a).el
      · cases hi with
        | none => exact par_none (tr := trE N c n sc fb)
        | some a => exact par_some (ih a).el
    · split
      · exact Snd.bad
      · rename_i hs
        exact .of_vw rfl (le_ix (ih _).el (ih _).el (slice_ok (by simpa using hs))) fun _ => rfl
    · -- a call of a name
      rename_i f p a es q
      split
      · rename_i hc
        simp only [Bool.and_eq_true] at hc
        obtain ⟨⟨hp, hg⟩, hst⟩ := hc
        obtain ⟨hp1, hp2, hp3⟩ := plain_ok hp
        obtain ⟨hs1, hs2⟩ := noStar_cons hst
        split
        · rename_i hf
          obtain ⟨adr, hm, F⟩ := G.defs f (by simpa using hf)
          split
          · split
            · rename_i y py
              split
              · rename_i hy
                simp only [Bool.and_eq_true] at hy
                obtain ⟨hy1, hy2, _⟩ := plain_ok hy.1
                split
                · rename_i i hi
                  have hi := ixOf_at hi
                  rw [← G.hN] at hi
                  exact .of_vw rfl (le_calm tk F G.room (G.gl hg) hm (lts_all (fun e => (ih e).el) hs2) hi (by rw [G.hsc]; exact visB_ok hy.2) hy1 hy2 hp1 (star_plain hs2)) fun _ => rfl
                · exact Snd.bad
              · exact Snd.bad
            · exact Snd.bad
          · exact .of_vw rfl (le_call tk F G.room (G.gl hg) hm (lts_all (fun e => (ih e).el) hst) hp1 (star_cons hs1) (star_plain hs2)) fun _ => rfl
        · split
          · rename_i hl
            simp only [Bool.and_eq_true] at hl
            have hl1 : f = "len" := eq_of_beq hl.1
            subst hl1
            split
            · rename_i kx j jp tg it ifs scope sp
              split
              · rename_i t ht
                split
                · rename_i hb
                  simp only [Bool.and_eq_true, Bool.not_eq_true'] at hb
                  have ok : BlkOk X.N X.env.scope scope (ownOf N scope) := by rw [G.hN, G.hsc]; exact blkOk_by hb.1.1
                  exact .of_vw rfl (le_dlen (own := ownOf N scope) rfl G.calm (by rw [G.hN]; exact G.nd) (G.gl hg) (G.blts _ (by decide)) (itE_ok G ih tg it) ok (sub_ok hb.1.2)
                    (fun s H C cl fp => tgb s H scope C cl fp tg t ht) (fun s H C cl fp => tst_ok (fun e => (ihb s H scope C cl fp e).tl) ifs) (fun s H C cl fp => (ihb s H scope C cl fp kx).el) (fun s H C cl fp => pe_bl) (fold_ok hb.2) rfl) fun _ => rfl
                · exact Snd.bad
              · exact Snd.bad
            · exact Snd.bad
          · split
            · rename_i hb
              have hb : f ∈ blts := by simpa using hb
              have hb2 : f ∈ bNames := by
                unfold blts at hb
                unfold bNames
                simp only [List.mem_cons, List.not_mem_nil, or_false] at hb ⊢
                rcases hb with h | h | h | h | h | h | h | h | h | h | h <;> simp [h]
              have h1 := le_blt (p := p) (pos := q) G.calm hb (G.gl hg) (G.blts _ hb2) (lhs_all (fun e => (ih e).el) hst) (star_cons hs1) (star_plain hs2)
              have nr : f ≠ "range" ∧ f ≠ "zip" ∧ f ≠ "enumerate" := by
                unfold blts at hb
                simp only [List.mem_cons, List.not_mem_nil, or_false] at hb
                rcases hb with h | h | h | h | h | h | h | h | h | h | h <;> (subst h; decide)
              refine ⟨h1, lt_truth h1 fun _ => rfl, fun tg => ?_⟩
              have h2 := li_seq (tg := tg) h1
              have e : (ev (Pg.sem k) (.blt f (mkEs ((a :: es).map (trE N c n sc fb))))).i = itsV (ev (Pg.sem k) (.blt f (mkEs ((a :: es).map (trE N c n sc fb))))).e := by
                funext env
                show (if f = ("range" : Str) then _ else if f = ("zip" : Str) then _ else if f = ("enumerate" : Str) then _ else _) = _
                rw [if_neg nr.1, if_neg nr.2.1, if_neg nr.2.2]
                rfl
              rw [e]
              exact h2
            · exact Snd.bad
      · exact Snd.bad
    · rename_i o m ap cp
      split
      · rename_i hc
        simp only [Bool.and_eq_true, Bool.not_eq_true'] at hc
        have hb : attributeBase o m X.env (eval o X.env) = eval o X.env := by
          cases o <;> first | rfl | cases hc.2
        exact .of_vw rfl (le_mth0 (by simpa using hc.1.1) (ih o).el hb hc.1.2) fun _ => rfl
      · exact Snd.bad
    · rename_i o m ap a es cp
      split
      · rename_i hc
        simp only [Bool.and_eq_true, Bool.not_eq_true', decide_eq_true_eq] at hc
        obtain ⟨⟨⟨⟨hm, hl⟩, ho⟩, hst⟩, hlen⟩ := hc
        obtain ⟨hs1, hs2⟩ := noStar_cons hst
        have hb : attributeBase o m X.env (eval o X.env) = eval o X.env := by
          cases o <;> first | rfl | cases ho
        refine .of_vw rfl (le_mth (by simpa using hm) (ih o).el (lts_all (fun e => (ih e).el) hst) hb ?_ hl (star_cons hs1) (star_plain hs2)) fun _ => rfl
        rw [star_all hst]
        show (true && (backToKw cp (keywordEach [] X.env)).all (fun x => x.1.isSome) && decide ((a :: es).length + 0 + 0 < 30)) = true
        simp only [Nat.add_zero, decide_eq_true hlen]
        rfl
      · exact Snd.bad
    · -- a comprehension
      rename_i e tg it ifs scope p
      split
      · rename_i t ht
        split
        · rename_i hb
          simp only [Bool.and_eq_true, Bool.not_eq_true'] at hb
          have ok : BlkOk X.N X.env.scope scope (ownOf N scope) := by rw [G.hN, G.hsc]; exact blkOk_by hb.1.1
          exact .of_vw rfl (le_lc (own := ownOf N scope) rfl G.calm (by rw [G.hN]; exact G.nd) (itE_ok G ih tg it) ok (sub_ok hb.1.2)
            (fun s H C cl fp => tgb s H scope C cl fp tg t ht) (fun s H C cl fp => tst_ok (fun e => (ihb s H scope C cl fp e).tl) ifs) (fun s H C cl fp => (ihb s H scope C cl fp e).el) (fold_ok hb.2)) fun _ => rfl
        · exact Snd.bad
      · exact Snd.bad
    · rename_i e tg it ifs tg1 it1 ifs1 scope p
      split
      · rename_i t t1 ht ht1
        split
        · rename_i hb
          simp only [Bool.and_eq_true, Bool.not_eq_true'] at hb
          obtain ⟨⟨⟨⟨hb1, hb2⟩, hb3⟩, hb4⟩, hb5⟩ := hb
          have ok : BlkOk X.N X.env.scope scope (ownOf N scope) := by rw [G.hN, G.hsc]; exact blkOk_by hb1
          exact .of_vw rfl (le_lc2 (own := ownOf N scope) rfl G.calm (by rw [G.hN]; exact G.nd) (itE_ok G ih tg it) ok (sub_ok hb3) (sub_ok hb2) (fun j hj => hj)
            (fun s H C cl fp => tgb s H scope C cl fp tg t ht) (fun s H C cl fp => tst_ok (fun e => (ihb s H scope C cl fp e).tl) ifs)
            (fun s H C cl fp => itE_ok (G.blk s H scope C cl fp) (ihb s H scope C cl fp) tg1 it1)
            (fun s H C cl fp => tgb s H scope C cl fp tg1 t1 ht1) (fun s H C cl fp => tst_ok (fun e => (ihb s H scope C cl fp e).tl) ifs1) (fun s H C cl fp => (ihb s H scope C cl fp e).el) (fold_ok hb4) (fun env => fold_ok hb5)) fun _ => rfl
        · exact Snd.bad
      · exact Snd.bad
    · exact Snd.bad
end
end PL
set_option Elab.async false
set_option linter.all false
set_option maxRecDepth 100000
set_option maxHeartbeats 4000000
namespace PL
open PySem PySem.Spec PyProof.Rows L2
section
variable {X : Cx} {W : WX} {o i e : Expr} {pos : Pos} {fo fi fe : Env → Res (RV × Env)}
theorem Res.assoc {α β γ : Type} (x : Res α) (g : α → Res β) (h : β → Res γ) : (x.bind g).bind h = x.bind fun a => (g a).bind h := by cases x <;> rfl
/-- one slot's own list written -/
theorem Rel.setL {K : PySem.W.Frag} {mg : Str → Option Value} {σ : SlotV} {env : Env} {H S : Hp} {As : Fp} (R : Rel K mg σ env H S As) {j : Nat} {ys : List PV} (hg : get env j = some (.lst ys)) :
    ∃ b xs, σ[j]? = some (some (V.ref b)) ∧ H b = some (.lst xs) ∧ Rps K mg S xs ys ∧ ∀ xs' zs, Rps K mg S xs' zs → ∃ As', Rel K mg σ (env.set j (some (.lst zs))) (upd H b (.lst xs')) S As' ∧ Stp H S As (upd H b (.lst xs')) S As' := by
  obtain ⟨w, e2, b, xs, rfl, hb, hr2, hA2⟩ := R.cell j _ hg
  have hbj : b ∈ As j := by rw [hA2]; exact List.mem_cons_self
  have hfz : S b = none := R.free b ⟨j, hbj⟩
  refine ⟨b, xs, e2, hb, hr2, fun xs' zs hxs => ?_⟩
  have R3 := R.chg (i := j) (v := .ref b) (c := some (.lst zs)) (B := [b]) (H' := upd H b (.lst xs')) (S' := S) (get_lt hg) (fun c o e => by rw [upd_ne fun q => by rw [q, hfz] at e; cases e]; exact R.sub c o e) (Same.refl _)
    (fun k c n hc => upd_ne fun q => R.disj k j c n hc (q ▸ hbj)) (fun k c n hc => R.free c ⟨k, hc⟩) ⟨b, xs', rfl, upd_same, hxs, rfl⟩ fun c hc => by
      obtain rfl : c = b := by simpa using hc
      exact ⟨fun k n hk => R.disj k j c n hk hbj, hfz⟩
  rw [set_self e2] at R3
  refine ⟨_, R3, Same.refl _, fun c o e n => by rw [upd_ne fun q => n ⟨j, by rw [q]; exact hbj⟩]; exact e, fun c hc => ?_, fun c hc => .inl hc, fun a r h => ?_⟩
  · obtain ⟨k, hk⟩ := hc
    by_cases q : k = j
    · subst q
      rw [updF_same] at hk
      obtain rfl : c = b := by simpa using hk
      exact .inl ⟨k, hbj⟩
    · rw [updF_ne q] at hk
      exact .inl ⟨k, hk⟩
  · by_cases q : 0 = j
    · subst q
      rw [updF_same] at h
      cases h
      exact ⟨[], hA2⟩
    · rw [updF_ne q] at h
      exact ⟨r, h⟩
theorem lg_ix {oe ie : E} (ho : LE X W o fo) (hi : LE X W i fi) (hs : isSlice i = false) : LG X W (.Subscript o i pos) (.ix oe ie) (fun p env => (fo env).bind fun r => match r.1 with
    | .loc j => (fi r.2).bind fun q => match q.1, get q.2 j with
      | .val (.int k), some (.lst xs) => match ixN xs.length k with
        | some n => .ok (q.2.set j (some (.lst (xs.set n p))))
        | none => .stuck
      | _, _ => .stuck
    | _ => .stuck) := by
  refine PG.imp (pg_sub ho hi set_list (by cases i <;> first | (intro _; rfl) | cases hs)) ?_
  rintro v σ H Q ⟨env, S, As, p, R, r, h⟩
  unfold PostG at h
  rw [Res.assoc] at h
  refine liftE.mono (bindE Stp.refl R h) ?_
  rintro x H1 ⟨rv, env1, S1, As1, B1, st1, R1, ok1, fr1, h1⟩
  cases rv with
  | val p => exact False.elim h1
  | new c => exact False.elim h1
  | loc j =>
    dsimp only at h1
    rw [Res.assoc] at h1
    refine liftE.mono (bindE st1 R1 h1) ?_
    rintro y H2 ⟨rv2, env2, S2, As2, B2, st2, R2, ok2, fr2, h2⟩
    dsimp only at h2
    have hk : ∃ k ys, rv2 = .val (.int k) ∧ get env2 j = some (.lst ys) := by
      cases rv2 with
      | val q =>
        cases q with
        | int k =>
          cases hg : get env2 j with
          | none => rw [hg] at h2; exact False.elim h2
          | some cc =>
            rw [hg] at h2
            cases cc with
            | lst ys => exact ⟨k, ys, rfl, rfl⟩
            | _ => exact False.elim h2
        | _ => exact False.elim h2
      | _ => exact False.elim h2
    obtain ⟨k, ys, rfl, hg⟩ := hk
    rw [hg] at h2
    dsimp only at h2
    cases hn : ixN ys.length k with
    | none => rw [hn] at h2; exact False.elim h2
    | some n =>
      rw [hn] at h2
      obtain ⟨b, xs, e2, hb, hr, fin⟩ := R2.setL hg
      have : V.ref b = x := by simpa using e2.symm.trans ok1.1
      subst this
      refine ⟨b, xs, k, n, rfl, rp_int ok2.1, hb, by rw [hr.length]; exact hn, ?_⟩
      obtain ⟨As3, R3, st3⟩ := fin (xs.set n v) (ys.set n p) (hr.set (Rp.mono (st1.same.trans st2.same) _ _ r))
      exact h2 σ _ S2 As3 ⟨rfl, fun _ _ => rfl⟩ ((st1.trans st2).trans st3) R3
/-! ### try: .. except X: return constant -/
theorem ls_tri {x : Str} {c : Addr} {body : List Stmt} {fb : Env → Res (Fl × Env)} {np p1 pos' : Pos} {F : Sem} {v : V} {p : PV} (hst : X.stack = X.env :: X.outer) (hf : X.env.frame = some X.env.locals) (hc : Names X x (.ref c)) (tk : Takes X W)
    (hb : ∀ (W : WX) (pn : List (Addr × Obj)) (xe : Value → Shared → Prop), Takes (X.tr pn xe) W → PassesOwn (model X.prog X.w) X.A X.env xe → LSs (X.tr pn xe) W body fb)
    (he : ∀ Y : Cx, PE Y e (tC v)) (hp : ∀ S, Rp X.K X.mg S v p) (hsub : ∀ C b, F.sub C x = some b → ∃ y, X.mg C = some (.ref y) ∧ PySem.W.exmOne X.K (.ref y) (.ref c) = some b) :
    LS X W (.Try body [.ExceptHandler (some (.Name x np)) none [.Return (some e) p1] pos'] [] [] pos) (fun env => tryEnd F x none (.retc p) (fb env)) := by
  refine PS.imp (ps_try_only (tb := fun W => liftS X.K X.mg W fb) (ts := fun a cls d D σ H => D.rt v H) hst hf hc tk hb (fun a oe cls d pn _ _ => pss_one (ps_ret (he _)))) ?_
  rintro D σ H ⟨env, S, As, R, h⟩
  refine ⟨env, S, As, R, ?_⟩
  dsimp only at h
  cases hr : fb env with
  | stuck => rw [hr] at h; exact False.elim h
  | ok q => rw [hr] at h; exact h
  | exc C fs e1 =>
    rw [hr] at h
    intro σ' H' S' As' cls d st R' ex
    have h : Post X.K X.mg W H S As (match F.sub C x with
      | some true => handle (.retc p) fs e1
      | some false => .exc C fs e1
      | none => .stuck) (KS X.K X.mg D H S As) := h
    cases hs : F.sub C x with
    | none => rw [hs] at h; exact False.elim h
    | some b =>
      rw [hs] at h
      obtain ⟨y, hy, hx⟩ := hsub C b hs
      obtain ⟨⟨z, hz, rfl⟩, ex2⟩ := ex
      have : y = z := by rw [hy] at hz; cases hz; rfl
      subst this
      refine ⟨b, hx, fun hb a na => ?_, fun hb => ?_⟩
      · subst hb
        exact h σ' H' S' As' st R' v [] ⟨hp _, rfl⟩ fun b hb => by cases hb
      · subst hb
        exact h σ' H' S' As' _ d st R' ⟨⟨y, hy, rfl⟩, ex2⟩
end
end PL
set_option Elab.async false
set_option linter.all false
set_option maxRecDepth 100000
set_option maxHeartbeats 4000000
namespace PL
open PySem PySem.Spec PyProof.Rows L2
/-! ### statements -/
def mkSs : List S → Ss
  | [] => .nil
  | s :: r => .cons s (mkSs r)
def swB (sc : Scope) (t : Str) (pos p1 : Pos) (scope : Scope) : Bool := onlyB sc t && (pos.line == p1.line) && !(scope.names.any fun (n, k) => n == t && (k == .local || k == .cell))
def foldB (es : List Expr) : Bool := es.all (foldedForSure 8)
def constB (es : List Expr) : Bool := es.all (constantsAlone 8)
def isTupLst : Expr → Bool
  | .Tuple .. => true
  | .List .. => true
  | _ => false
/-- no stores are swapped -/
def notLoc (sc : Scope) : Expr → Bool
  | .Name x _ => !onlyB sc x
  | _ => true
def swNone (sc : Scope) (t e : Expr) : Bool := !isTupLst t || (match e with
  | .Tuple es _ _ => foldB es || (match t with
    | .Tuple ts _ _ => ts.any (notLoc sc)
    | _ => false)
  | _ => true)
def isNameE : Expr → Bool
  | .Name .. => true
  | _ => false
def cPV : Expr → Option PV
  | .Constant k _ _ => conOf k
  | _ => none
section
variable (N : List Str) (c : Cfg) (sc : Scope)
abbrev allF : Str → Bool := fun _ => true
def asgTup (tr : Expr → E) (n : Nat) (t e : Expr) : S := if !isComp e && swNone sc t e then (match t with
    | .Tuple _ _ _ => (match trTg N sc allF n t with
        | some t => .asg t (tr e)
        | none => .bad)
    | _ => .bad) else .bad
def trS : Nat → Stmt → S
  | 0, _ => .bad
  | n + 1, st => match st with
    | .Expr (.Constant (.str _) _ _) _ => .pass
    | .Expr e _ => if isComp e then .bad else .expr (trE N c n sc allF e)
    | .Assign [.Name x px] e _ => if locB sc x then (match ixOf N x 0 with
        | some i => if isComp e then (match e with
          | .ListComp _ [_] _ _ => .asg (.nm i) (trE N c n sc allF e)
          | .ListComp _ [_, _] _ _ => .asg (.nm i) (trE N c n sc allF e)
          | _ => .bad) else .asg (.nm i) (trE N c n sc allF e)
        | none => .bad) else .bad
    | .Assign [.Tuple [.Name x px, .Name y py] kt pt] (.Tuple [a, b] k2 pt2) _ =>
      if onlyB sc x && onlyB sc y && (py.line == px.line) && !(x == y) && noStar [a, b] && !foldB [a, b] && !constB [a, b] then (match ixOf N x 0, ixOf N y 0 with
        | some i, some j => if i == j then .bad else .par2 i j (trE N c n sc allF a) (trE N c n sc allF b)
        | _, _ => .bad) else asgTup N sc (trE N c n sc allF) n (.Tuple [.Name x px, .Name y py] kt pt) (.Tuple [a, b] k2 pt2)
    | .Assign [.Tuple [.Name x px, .Name y py, .Name z pz] kt pt] (.Tuple [a, b, d] k2 pt2) _ =>
      if onlyB sc x && onlyB sc y && onlyB sc z && (py.line == px.line) && (pz.line == px.line) && !(x == y) && !(x == z) && !(y == z) && noStar [a, b, d] && !foldB [a, b, d] && !constB [a, b, d] then (match ixOf N x 0, ixOf N y 0, ixOf N z 0 with
        | some i, some j, some l => if i == j || i == l || j == l then .bad else .par3 i j l (trE N c n sc allF a) (trE N c n sc allF b) (trE N c n sc allF d)
        | _, _, _ => .bad) else asgTup N sc (trE N c n sc allF) n (.Tuple [.Name x px, .Name y py, .Name z pz] kt pt) (.Tuple [a, b, d] k2 pt2)
    | .Assign [.Tuple es kt pt] e _ => asgTup N sc (trE N c n sc allF) n (.Tuple es kt pt) e
    | .Assign [.Subscript o i p] e _ => if !isComp e && !isSlice i then .asg (.ix (trE N c n sc allF o) (trE N c n sc allF i)) (trE N c n sc allF e) else .bad
    | .AugAssign (.Name x _) o e _ => if locB sc x then (match bopOf o, ixOf N x 0 with
        | some .add, some i => .aug i .add (trE N c n sc allF e)
        | some .sub, some i => .aug i .sub (trE N c n sc allF e)
        | _, _ => .bad) else .bad
    | .If t a b _ => .ite (trE N c n sc allF t) (mkSs (a.map (trS n))) (mkSs (b.map (trS n)))
    | .For tg it b [] _ => if isSetE it then .bad else (match trTg N sc allF n tg with
        | some t => .forr t (itE (trE N c n sc allF) sc tg it) (mkSs (b.map (trS n)))
        | none => .bad)
    | .While t b [] _ => .whl (trE N c n sc allF t) (mkSs (b.map (trS n)))
    | .Return (some e) _ => .ret (trE N c n sc allF e)
    | .Return none _ => .retn
    | .Raise (some (.Call (.Name C _) [.Constant (.str _) _ _] [] _)) none _ => if c.excs.contains C && plainName C && glB sc C then .rai C else .bad
    | .Try b [.ExceptHandler (some (.Name x _)) none [.Return (some e) _] _] [] [] _ => (match cPV e with
        | some p => if plainName x && glB sc x && c.excs.contains x then .tri (mkSs (b.map (trS n))) x none (.retc p) else .bad
        | none => .bad)
    | .Pass _ => .pass
    | .Break _ => .brk
    | .Continue _ => .cnt
    | _ => .bad
end
/-- an own exception class -/
def ExF (K : PySem.W.Frag) (mg : Str → Option Value) (C : Str) : Prop := ∃ a B newId initId bmB, ExcBaseFacts B newId initId bmB ∧ PySem.W.excIn K a bmB newId = true ∧ mg C = some (.ref a) ∧ PySem.W.keepIn K (.ref a) = true ∧
  PySem.W.subIn K (.ref a) (.type "BaseException") = some true ∧ PySem.W.typeIn K (.ref a) = some (.type "type")
structure GoodS (Pg : Prog) (c : Cfg) (k : Nat) (N : List Str) (sc : Scope) (X : Cx) : Prop extends Good Pg c k N sc allF X where
  stack : X.stack = X.env :: X.outer
  frame : X.env.frame = some X.env.locals
  bk : sc.kind = .function
  passes : PassesOwn (model X.prog X.w) X.A X.env X.xe
  excs : ∀ C ∈ c.excs, ExF X.K X.mg C
  subs : ∀ C C' b, Pg.sub C C' = some b → ∃ x y, X.mg C = some (.ref x) ∧ X.mg C' = some (.ref y) ∧ PySem.W.exmOne X.K (.ref x) (.ref y) = some b
section
variable {Pg : Prog} {c : Cfg} {k : Nat} {N : List Str} {sc : Scope} {X : Cx} {W : WX}
theorem GoodS.block (G : GoodS Pg c k N sc X) : X.env.blockKind = .function := by
  unfold Env.blockKind
  rw [G.hsc, G.bk]
  rfl
theorem GoodS.tr (G : GoodS Pg c k N sc X) {pn : List (Addr × Obj)} {xe : Value → Shared → Prop} (h : PassesOwn (model X.prog X.w) X.A X.env xe) : GoodS Pg c k N sc (X.tr pn xe) :=
  { hN := G.hN, nd := G.nd, hsc := G.hsc, calm := G.calm, units := G.units, room := G.room, fnb := G.fnb, blts := G.blts, defs := G.defs, con := G.con, stack := G.stack, frame := G.frame, bk := G.bk, passes := h, excs := G.excs, subs := G.subs }
theorem sw_not {e : Expr} {t : Option Expr} {l : Nat} {env : PySem.Env} (h : isComp e = false) : swapsWith e t l env = pure false := by
  cases e <;> first | rfl | cases h
theorem sw_lc {e : Expr} {gs : List Comprehension} {scope : Scope} {p1 px : Pos} {x : Str} {l : Nat} {env : PySem.Env} (hb : env.blockKind = .function) : swapsWith (.ListComp e gs scope p1) (some (.Name x px)) l env = pure (swB env.scope x px p1 scope) := by
  show pure (env.blockKind == .function && env.kindOf x == some .local && px.line == p1.line && !(scope.names.any fun (n, k) => n == x && (k == .local || k == .cell))) = _
  rw [hb]
  unfold swB onlyB Env.kindOf
  congr 3
  cases env.scope.names.lookup x with
  | none => rfl
  | some q => cases q <;> rfl
theorem sole_not {t e : Expr} {l : Nat} {env : PySem.Env} (h : isComp e = false) : swapsWithSole [t] e l env = pure false := sw_not h
theorem sole_tgt {t e : Expr} {l : Nat} {env : PySem.Env} (h : isNameE t = false) (hc : isComp e = false) : swapsWithSole [t] e l env = pure false := sw_not hc
theorem dups2 {x y : Str} (h : ¬ x = y) : [x, y].eraseDups = [x, y] := by
  have h' : (y == x) = false := by simpa using fun e => h e.symm
  simp [List.eraseDups, List.eraseDupsBy, List.eraseDupsBy.loop, h']
theorem dups3 {x y z : Str} (h : ¬ x = y) (h2 : ¬ x = z) (h3 : ¬ y = z) : [x, y, z].eraseDups = [x, y, z] := by
  have e1 : (y == x) = false := by simpa using fun e => h e.symm
  have e2 : (z == x) = false := by simpa using fun e => h2 e.symm
  have e3 : (z == y) = false := by simpa using fun e => h3 e.symm
  simp [List.eraseDups, List.eraseDupsBy, List.eraseDupsBy.loop, e1, e2, e3]
theorem ss_two {x y : Str} {px py pt pt2 : Pos} {kt k2 : Nat} {a b : Expr} {env : PySem.Env} (hb : env.blockKind = .function) (hx : env.scope.names.lookup x = some .local) (hy : env.scope.names.lookup y = some .local) (hl : (py.line == px.line) = true) (hxy : (x == y) = false)
    (hs : noStar [a, b] = true) (hf : foldB [a, b] = false) (hc : constB [a, b] = false) : swappedStores [.Tuple [.Name x px, .Name y py] kt pt] (.Tuple [a, b] k2 pt2) env = pure (some [x, y]) := by
  obtain ⟨s1, s2⟩ := noStar_cons hs
  have s2 := (noStar_cons s2).1
  unfold foldB at hf
  unfold constB at hc
  have hx' : env.kindOf x = some .local := hx
  have hy' : env.kindOf y = some .local := hy
  have hl' : py.line = px.line := by simpa using hl
  have hxy' : ¬ x = y := by simpa using hxy
  have d := dups2 hxy'
  unfold swappedStores
  simp [hb, hf, hc, hx', hy', hl', Expr.pos, d]
  intro hh
  exfalso
  rcases hh with hh | hh
  · cases a <;> cases s1 <;> cases hh
  · cases b <;> cases s2 <;> cases hh
theorem ss_three {x y z : Str} {px py pz pt pt2 : Pos} {kt k2 : Nat} {a b d : Expr} {env : PySem.Env} (hb : env.blockKind = .function) (hx : env.scope.names.lookup x = some .local) (hy : env.scope.names.lookup y = some .local) (hz : env.scope.names.lookup z = some .local) (hl : (py.line == px.line) = true) (hl2 : (pz.line == px.line) = true) (hxy : (x == y) = false) (hxz : (x == z) = false) (hyz : (y == z) = false)
    (hs : noStar [a, b, d] = true) (hf : foldB [a, b, d] = false) (hc : constB [a, b, d] = false) : swappedStores [.Tuple [.Name x px, .Name y py, .Name z pz] kt pt] (.Tuple [a, b, d] k2 pt2) env = pure (some [x, y, z]) := by
  obtain ⟨s1, s2⟩ := noStar_cons hs
  obtain ⟨s2, s3⟩ := noStar_cons s2
  have s3 := (noStar_cons s3).1
  unfold foldB at hf
  unfold constB at hc
  have hx' : env.kindOf x = some .local := hx
  have hy' : env.kindOf y = some .local := hy
  have hz' : env.kindOf z = some .local := hz
  have hl' : py.line = px.line := by simpa using hl
  have hl2' : pz.line = px.line := by simpa using hl2
  have dd := dups3 (by simpa using hxy) (by simpa using hxz) (by simpa using hyz)
  unfold swappedStores
  simp [hb, hf, hc, hx', hy', hz', hl', hl2', Expr.pos, dd]
  intro hh
  exfalso
  rcases hh with hh | hh | hh
  · cases a <;> cases s1 <;> cases hh
  · cases b <;> cases s2 <;> cases hh
  · cases d <;> cases s3 <;> cases hh
theorem names_lt {sc : Scope} {env : PySem.Env} (he : env.scope = sc) (l : Nat) : ∀ {ts : List Expr}, ts.any (notLoc sc) = true → (ts.filterMap fun
    | .Name id pos => if env.kindOf id == some .local && pos.line == l then some id else none
    | _ => none).length < ts.length
  | t :: ts, h => by
    have le : ∀ (ts : List Expr), (ts.filterMap fun
      | .Name id pos => if env.kindOf id == some .local && pos.line == l then some id else none
      | _ => none).length ≤ ts.length := fun ts => List.length_filterMap_le ..
    rw [List.filterMap_cons, List.length_cons]
    by_cases hn : notLoc sc t = true
    · have e : (match t with
        | .Name id pos => if env.kindOf id == some .local && pos.line == l then some id else none
        | _ => none) = none := by
        cases t <;> first | rfl | skip
        rename_i x p
        have hx : onlyB sc x = false := by simpa [notLoc] using hn
        have : (env.kindOf x == some .local) = false := by
          unfold Env.kindOf
          rw [he]
          unfold onlyB at hx
          cases q : sc.names.lookup x with
          | none => rfl
          | some z => rw [q] at hx; cases z <;> first | rfl | cases hx
        dsimp only
        rw [this]
        rfl
      split
      · exact Nat.lt_succ_of_le (le ts)
      · rename_i q
        rw [e] at q; cases q
    · have h : ts.any (notLoc sc) = true := by
        rw [List.any_cons] at h
        simpa [hn] using h
      have ih := names_lt he l h
      split
      · omega
      · rw [List.length_cons]; omega
theorem ss_none {sc : Scope} {t e : Expr} {env : PySem.Env} (he : env.scope = sc) (h : swNone sc t e = true) : swappedStores [t] e env = pure none := by
  unfold swappedStores
  unfold swNone at h
  cases t <;> first | rfl | skip
  · cases e <;> first | rfl | skip
    rename_i es ke pe
    have h : es.all (foldedForSure 8) = true := by simpa [isTupLst, foldB] using h
    simp only [h, if_true]
    repeat' (first | rfl | split)
  · cases e <;> first | rfl | skip
    rename_i ts kt pt es ke pe
    have h : es.all (foldedForSure 8) = true ∨ ts.any (notLoc sc) = true := by simpa [isTupLst, foldB] using h
    rcases h with h | h
    · simp only [h, if_true]
      repeat' (first | rfl | split)
    · have hl := names_lt he ((ts.head?.map (·.pos.line)).getD 0) h
      dsimp only
      split
      · rfl
      · split
        · rfl
        · split
          · rfl
          · rename_i q
            exact absurd (by rw [Bool.or_eq_true]; exact .inl (by rw [bne_iff_ne]; exact Nat.ne_of_lt hl)) q
theorem asgTup_ok {tr : Expr → E} {n : Nat} {t e : Expr} {pos : Pos} (G : GoodS Pg c k N sc X) (h : ∀ e, LE X W e (ev (Pg.sem k) (tr e)).e) : LS X W (.Assign [t] e pos) (evS (Pg.sem k) (asgTup N sc tr n t e)) := by
  unfold asgTup
  split
  · rename_i hc
    simp only [Bool.and_eq_true, Bool.not_eq_true'] at hc
    split
    · split
      · rename_i es kt pt t ht
        have hg := trTg_ok (W := W) (F := Pg.sem k) G.toGood ht
        have ht' : ∃ ts, t = .tup ts := by
          cases n with
          | zero => cases ht
          | succ n =>
            unfold trTg at ht
            dsimp only at ht
            split at ht
            · simp only [Option.map_eq_some_iff] at ht
              obtain ⟨ts, _, rfl⟩ := ht
              exact ⟨_, rfl⟩
            · cases ht
        obtain ⟨ts, rfl⟩ := ht'
        exact ls_asg (h e) hg (sole_not hc.1) (ss_none G.hsc hc.2) rfl
      · exact ls_bad fun _ => rfl
    · exact ls_bad fun _ => rfl
  · exact ls_bad fun _ => rfl
theorem raise_ok {C m : Str} {j : Nat} {p p2 q pos : Pos} (G : GoodS Pg c k N sc X) (tk : Takes X W) (hC : C ∈ c.excs) (hg : Gl X C) (hp : (C == ("__debug__" : Str)) = false) : LS X W (.Raise (some (.Call (.Name C p) [.Constant (.str m) j p2] [] q)) none pos) (fun env => .exc C [] env) := by
  obtain ⟨a, B, newId, initId, bmB, h1, h2, h3, h4, h5, h6⟩ := G.excs C hC
  exact ls_rai G.calm tk h3 (pmk_own h1 h2 h3 h4 (raises_own h5 h6) hg hp)
theorem lss_all {F : Sem} {tr : Stmt → S} (h : ∀ st, LS X W st (evS F (tr st))) : ∀ (sts : List Stmt), LSs X W sts (evSs F (mkSs (sts.map tr)))
  | [] => lss_nil
  | st :: r => lss_cons (h st) (lss_all h r)
theorem cPV_ok {e : Expr} {p : PV} (h : cPV e = some p) : ∃ v, (∀ Y : Cx, PE Y e (tC v)) ∧ ∀ (K : PySem.W.Frag) (mg : Str → Option Value) (S : Hp), Rp K mg S v p := by
  cases e with
  | Constant kc j q =>
    have h : conOf kc = some p := h
    cases kc with
    | none => cases h; exact ⟨.non, fun Y => pe_non, fun K mg S => Rp.non⟩
    | bool b => cases h; exact ⟨.bl b, fun Y => pe_bl, fun K mg S => Rp.bl b⟩
    | int i => cases h; exact ⟨.int i, fun Y => pe_int, fun K mg S => Rp.int i⟩
    | str x => cases h; exact ⟨.str x, fun Y => pe_str, fun K mg S => by unfold Rp; rfl⟩
    | _ => cases h
  | _ => cases h
theorem ls_lc_asg (G : GoodS Pg c k N sc X) (tk : Takes X W) {n i : Nat} {x : Str} {px p1 pos : Pos} {elt : Expr} {g : List Comprehension} {scope : Scope} (hi : X.N[i]? = some x) (hx : L2.Loc X.env.scope x) :
    LS X W (.Assign [.Name x px] (.ListComp elt g scope p1) pos) (evS (Pg.sem k) (.asg (.nm i) (trE N c n sc allF (.ListComp elt g scope p1)))) := by
  cases hw : swB X.env.scope x px p1 scope with
  | false => exact ls_set (by rw [G.hN]; exact G.nd) hi hx (trE_ok n sc allF X W _ G.toGood tk).el (by rw [sw_lc G.block, hw]) (.inl (G.fnb x rfl))
  | true =>
    cases n with
    | zero => exact ls_bad fun _ => rfl
    | succ n =>
      have ih := fun e => trE_ok n sc allF X W e G.toGood tk
      have ihb := fun s H scope C cl fp e => trE_ok n (relS scope sc) (cellB scope) (X.blk s H scope (compEnvC scope cl C X.env) fp) W0 e (G.toGood.blk s H scope C cl fp) takes0
      have tgb := fun s H scope C cl fp tg t (h : trTg N (relS scope sc) (cellB scope) n tg = some t) => trTg_ok (W := W0) (F := Pg.sem k) (G.toGood.blk s H scope C cl fp) h
      have hl : X.env.scope.names.lookup x = some .local := by
        unfold swB at hw
        simp only [Bool.and_eq_true] at hw
        exact onlyB_ok hw.1.1
      have nd : X.N.Nodup := by rw [G.hN]; exact G.nd
      unfold trE
      split
      all_goals first | contradiction | skip
      · rename_i e tg it ifs sc2 p heq
        cases heq
        split
        · rename_i t ht
          split
          · rename_i hb
            simp only [Bool.and_eq_true, Bool.not_eq_true'] at hb
            have ok : BlkOk X.N X.env.scope scope (ownOf N scope) := by rw [G.hN, G.hsc]; exact blkOk_by hb.1.1
            exact ls_setLc (own := ownOf N scope) rfl G.calm nd hi hl (by rw [sw_lc G.block, hw]) (itE_ok G.toGood ih tg it) ok (sub_ok hb.1.2)
              (fun s H C cl fp => tgb s H scope C cl fp tg t ht) (fun s H C cl fp => tst_ok (fun e => (ihb s H scope C cl fp e).tl) ifs) (fun s H C cl fp => (ihb s H scope C cl fp elt).el) (fold_ok hb.2)
          · exact ls_bad fun _ => rfl
        · exact ls_bad fun _ => rfl
      · rename_i e tg it ifs tg1 it1 ifs1 sc2 p heq
        cases heq
        split
        · rename_i t t1 ht ht1
          split
          · rename_i hb
            simp only [Bool.and_eq_true, Bool.not_eq_true'] at hb
            obtain ⟨⟨⟨⟨hb1, hb2⟩, hb3⟩, hb4⟩, hb5⟩ := hb
            have ok : BlkOk X.N X.env.scope scope (ownOf N scope) := by rw [G.hN, G.hsc]; exact blkOk_by hb1
            exact ls_setLc2 (own := ownOf N scope) rfl G.calm nd hi hl (by rw [sw_lc G.block, hw]) (itE_ok G.toGood ih tg it) ok (sub_ok hb3) (sub_ok hb2) (fun j hj => hj)
              (fun s H C cl fp => tgb s H scope C cl fp tg t ht) (fun s H C cl fp => tst_ok (fun e => (ihb s H scope C cl fp e).tl) ifs)
              (fun s H C cl fp => itE_ok (G.toGood.blk s H scope C cl fp) (ihb s H scope C cl fp) tg1 it1)
              (fun s H C cl fp => tgb s H scope C cl fp tg1 t1 ht1) (fun s H C cl fp => tst_ok (fun e => (ihb s H scope C cl fp e).tl) ifs1) (fun s H C cl fp => (ihb s H scope C cl fp elt).el) (fold_ok hb4) (fun env => fold_ok hb5)
          · exact ls_bad fun _ => rfl
        · exact ls_bad fun _ => rfl
      · exact ls_bad fun _ => rfl
theorem trS_ok : ∀ (n : Nat) (st : Stmt) (X : Cx) (W : WX), GoodS Pg c k N sc X → Takes X W → LS X W st (evS (Pg.sem k) (trS N c sc n st))
  | 0, st, X, W, G, tk => ls_bad fun _ => rfl
  | n + 1, st, X, W, G, tk => by
    have ihe := fun e => trE_ok n sc allF X W e G.toGood tk
    have ih := fun st => trS_ok n st X W G tk
    have nd : X.N.Nodup := by rw [G.hN]; exact G.nd
    have loc : ∀ {x : Str}, locB sc x = true → L2.Loc X.env.scope x := fun h => by rw [G.hsc]; exact locB_ok h
    have only : ∀ {x : Str}, onlyB sc x = true → X.env.scope.names.lookup x = some .local := fun h => by rw [G.hsc]; exact onlyB_ok h
    have at' : ∀ {x : Str} {i : Nat}, ixOf N x 0 = some i → X.N[i]? = some x := fun h => by rw [G.hN]; exact ixOf_at h
    have bd : ∀ {st : Stmt}, LS X W st (evS (Pg.sem k) .bad) := ls_bad fun _ => rfl
    unfold trS
    split
    · exact ls_doc
    · split
      · exact bd
      · rename_i hc
        exact ls_expr (ihe _).el (sw_not (by simpa using hc))
    · -- x = e
      rename_i x px e pos
      split
      · rename_i hx
        split
        · rename_i i hi
          split
          · split
            · exact ls_lc_asg G tk (at' hi) (loc hx)
            · exact ls_lc_asg G tk (at' hi) (loc hx)
            · exact bd
          · rename_i hc
            exact ls_set nd (at' hi) (loc hx) (ihe _).el (sw_not (by simpa using hc)) (.inl (G.fnb x rfl))
        · exact bd
      · exact bd
    · rename_i x px y py kt pt a b k2 pt2 pos
      split
      · rename_i hc
        simp only [Bool.and_eq_true, Bool.not_eq_true'] at hc
        obtain ⟨⟨⟨⟨⟨⟨h1, h2⟩, h3⟩, h4⟩, h5⟩, h6⟩, h7⟩ := hc
        obtain ⟨s1, s2⟩ := noStar_cons h5
        obtain ⟨s2, _⟩ := noStar_cons s2
        split
        · rename_i i j hi hj
          split
          · exact bd
          · rename_i hij
            exact ls_par2 G.calm nd (at' hi) (at' hj) (by simpa using hij) (only h1) (only h2) (ihe a).el (ihe b).el (by rw [star_cons s1, star_cons s2]) (by rw [star_cons s2]) (ss_two G.block (only h1) (only h2) h3 h4 h5 h6 h7) (sole_not rfl)
        · exact bd
      · exact asgTup_ok G fun e => (ihe e).el
    · rename_i x px y py z pz kt pt a b d k2 pt2 pos
      split
      · rename_i hc
        simp only [Bool.and_eq_true, Bool.not_eq_true'] at hc
        obtain ⟨⟨⟨⟨⟨⟨⟨⟨⟨⟨h1, h2⟩, h2z⟩, h3⟩, h3z⟩, h4⟩, h4y⟩, h4z⟩, h5⟩, h6⟩, h7⟩ := hc
        obtain ⟨s1, s2⟩ := noStar_cons h5
        obtain ⟨s2, s3⟩ := noStar_cons s2
        obtain ⟨s3, _⟩ := noStar_cons s3
        split
        · rename_i i j l hi hj hl
          split
          · exact bd
          · rename_i hij
            simp only [Bool.or_eq_true, not_or, beq_iff_eq] at hij
            exact ls_par3 G.calm nd (at' hi) (at' hj) (at' hl) hij.1.1 hij.1.2 hij.2 (only h1) (only h2) (only h2z) (ihe a).el (ihe b).el (ihe d).el (by rw [star_cons s1, star_cons s2, star_cons s3]) (by rw [star_cons s2, star_cons s3]) (by rw [star_cons s3])
              (ss_three G.block (only h1) (only h2) (only h2z) h3 h3z h4 h4y h4z h5 h6 h7) (sole_not rfl)
        · exact bd
      · exact asgTup_ok G fun e => (ihe e).el
    · exact asgTup_ok G fun e => (ihe e).el
    · rename_i o i p e pos
      split
      · rename_i hc
        simp only [Bool.and_eq_true, Bool.not_eq_true'] at hc
        exact ls_asg (t := .ix (trE N c n sc allF o) (trE N c n sc allF i)) (ihe e).el (lg_ix (ihe o).el (ihe i).el hc.2) (sole_not hc.1) (ss_none G.hsc rfl) rfl
      · exact bd
    · rename_i x px o e pos
      split
      · rename_i hx
        split
        · rename_i i ho hi
          have := opOf_bop ho
          subst this
          exact ls_aug (.inl rfl) nd (at' hi) (loc hx) (ihe e).el (.inl (G.fnb x rfl))
        · rename_i i ho hi
          have := opOf_bop ho
          subst this
          exact ls_aug (.inr rfl) nd (at' hi) (loc hx) (ihe e).el (.inl (G.fnb x rfl))
        · exact bd
      · exact bd
    · exact ls_if (ihe _).tl (lss_all ih _) (lss_all ih _)
    · rename_i tg it b pos
      split
      · exact bd
      · rename_i hs
        split
        · rename_i t ht
          exact ls_for G.passes G.calm (itE_ok G.toGood ihe tg it) (trTg_ok (W := W) (F := Pg.sem k) G.toGood ht) (lss_all ih b) (fold_ok (by simpa using hs))
        · exact bd
    · exact ls_while G.passes (ihe _).tl (lss_all ih _)
    · exact ls_ret (ihe _).el
    · exact ls_retn
    · rename_i C p m j p2 q pos
      split
      · rename_i hc
        simp only [Bool.and_eq_true] at hc
        exact raise_ok G tk (by simpa using hc.1.1) (G.toGood.gl hc.2) (plain_ok hc.1.2).1
      · exact bd
    · rename_i b x np e p1 p2 pos
      split
      · rename_i p hp
        obtain ⟨v, hv, hr⟩ := cPV_ok hp
        split
        · rename_i hc
          simp only [Bool.and_eq_true] at hc
          obtain ⟨a, _, _, _, _, _, _, hm, _⟩ := G.excs x (by simpa using hc.2)
          exact ls_tri G.stack G.frame ⟨G.toGood.gl hc.1.2, (plain_ok hc.1.1).1, .inl hm⟩ tk (fun W' pn xe tk' ps => lss_all (fun st => trS_ok n st _ W' (G.tr ps) tk') b) hv (fun S => hr _ _ S) fun C b hC => by
            obtain ⟨y, z, h1, h2, h3⟩ := G.subs C x b hC
            rw [hm] at h2
            cases h2
            exact ⟨y, h1, h3⟩
        · exact bd
      · exact bd
    · exact ls_pass
    · exact ls_brk
    · exact ls_cnt
    · exact bd
end
end PL
set_option Elab.async false
set_option linter.all false
set_option maxRecDepth 100000
set_option maxHeartbeats 4000000
namespace PL
open PySem PySem.Spec PyProof.Rows L2
/-! ### defs -/
theorem getE_replicate (n i : Nat) : get (List.replicate n none) i = none := by
  unfold get
  by_cases h : i < n
  · rw [List.getElem?_replicate, if_pos h]; rfl
  · rw [List.getElem?_eq_none (by simpa using h)]; rfl
theorem get_app_lt {env e2 : Env} {i : Nat} (h : i < env.length) : get (env ++ e2) i = get env i := by
  unfold get; rw [List.getElem?_append_left h]
theorem get_app_ge {env e2 : Env} {i : Nat} (h : env.length ≤ i) : get (env ++ e2) i = get e2 (i - env.length) := by
  unfold get; rw [List.getElem?_append_right h]
theorem get_vals {ps : List PV} {i : Nat} {c : Cell} (h : get ((vals ps).map fun a => some (cellOf a)) i = some c) : ∃ p, ps[i]? = some p ∧ c = .fz p := by
  unfold get vals at h
  rw [List.map_map, List.getElem?_map] at h
  cases e : ps[i]? with
  | none => rw [e] at h; cases h
  | some p => rw [e] at h; cases h; exact ⟨p, rfl, rfl⟩
section
variable {K : PySem.W.Frag} {mg : Str → Option Value} {H S : Hp}
/-- at a def's entry -/
theorem start_rel {N : List Str} {d : Def} {vs : List V} {args : List Arg} {B : List Addr} (hd : d.ns = N.length) (hl : args.length = d.np) (hv : vs.length = d.np) (hle : d.np ≤ d.ns) (sub : Same S H) (ha : ArgsOk K mg H S vs args B) (hB : ∀ b ∈ B, S b = none) :
    Rel K mg (L2.start N vs) (env0 d args) H S (fun i => if i = 0 then B else []) := by
  have env_at : ∀ {i c}, get (env0 d args) i = some c → i < args.length ∧ get (args.map fun a => some (cellOf a)) i = some c := fun {i c} h => by
    unfold env0 at h
    by_cases hi : i < args.length
    · rw [get_app_lt (by simpa using hi)] at h
      exact ⟨hi, h⟩
    · rw [get_app_ge (by simpa using hi), getE_replicate] at h
      cases h
  have σ_at : ∀ {i v}, vs[i]? = some v → (L2.start N vs)[i]? = some (some v) := fun {i v} h => by
    unfold L2.start
    have hi := (List.getElem?_eq_some_iff.mp h).1
    rw [List.getElem?_append_left (by simpa using hi), List.getElem?_map, h]
    rfl
  refine ⟨sub, ?_, fun i c h => ?_, fun i h => ?_, fun i j a n h1 h2 => ?_, fun a h => ?_⟩
  · unfold L2.start env0
    simp only [List.length_append, List.length_map, List.length_replicate]
    omega
  · obtain ⟨hi, h⟩ := env_at h
    cases args with
    | nil => cases hi
    | cons a as =>
      cases a with
      | own c0 =>
        obtain ⟨v, r, ps, rfl, rfl, hc, hr⟩ := ha
        cases i with
        | zero =>
          have : c0 = c := by
            unfold get at h
            simpa [cellOf] using h
          subst this
          exact ⟨v, σ_at rfl, hc⟩
        | succ i =>
          have h : get ((vals ps).map fun a => some (cellOf a)) i = some c := by
            unfold get at h ⊢
            simpa using h
          obtain ⟨p, h1, rfl⟩ := get_vals h
          obtain ⟨w, h2, h3⟩ := hr.get h1
          exact ⟨w, σ_at (by rw [List.getElem?_cons_succ]; exact h2), h3, rfl⟩
      | val p =>
        obtain ⟨ps, rfl, rfl, hr⟩ := ha
        have h : get ((vals (p :: ps)).map fun a => some (cellOf a)) i = some c := h
        obtain ⟨q, h1, rfl⟩ := get_vals h
        obtain ⟨w, h2, h3⟩ := hr.get h1
        refine ⟨w, σ_at h2, h3, ?_⟩
        split <;> rfl
  · show (if i = 0 then B else []) = []
    split
    · rename_i e
      subst e
      cases args with
      | nil => exact ha.2
      | cons a as =>
        have e : get (env0 d (a :: as)) 0 = some (cellOf a) := rfl
        rw [e] at h; cases h
    · rfl
  · try dsimp only at h1 h2
    split at h1
    · split at h2
      · omega
      · cases h2
    · cases h1
  · obtain ⟨i, hi⟩ := h
    dsimp only at hi
    split at hi
    · exact hB a hi
    · cases hi
theorem own_start {B : List Addr} {b : Addr} : Own (fun i => if i = 0 then B else []) b ↔ b ∈ B := by
  constructor
  · rintro ⟨i, hi⟩
    try dsimp only at hi
    split at hi
    · exact hi
    · cases hi
  · intro h
    exact ⟨0, h⟩
/-- what a run leaves is what the promise wants -/
theorem end_reading {N : List Str} {d : Def} {vs : List V} {args : List Arg} {B : List Addr} {F : Sem} {Q : VK} {E : XK} (hd : d.ns = N.length) (hl : args.length = d.np) (hv : vs.length = d.np) (hle : d.np ≤ d.ns) (sub : Same S H) (ha : ArgsOk K mg H S vs args B) (hB : ∀ b ∈ B, S b = none)
    (h : match endDef args (evSs F d.body (env0 d args)) with
      | .ok r out => ∀ v H' S' Bo Br, CallEnd K mg H S B H' S' Bo Br → RetOk K mg H' S' v r Br → OutOk K mg H' S' vs out Bo → Q v H'
      | .exc C fs => ∀ cls d H' S', CallEnd K mg H S B H' S' [] [] → ExOk K mg H' S' C fs cls d → E cls d H'
      | .stuck => False) :
    liftS K mg (fun cls d _ H => E cls d H) (evSs F d.body) { nx := fun _ H' => Q .non H', rt := Q } (L2.start N vs) H := by
  refine ⟨env0 d args, S, _, start_rel hd hl hv hle sub ha hB, ?_⟩
  have fin : ∀ {σ' : SlotV} {env' : Env} {H' S' : Hp} {As' : Fp} {Br : List Addr}, Stp H S (fun i => if i = 0 then B else []) H' S' As' → Rel K mg σ' env' H' S' As' → (∀ b ∈ Br, (H b = none ∨ b ∈ B) ∧ ¬ Own As' b ∧ S' b = none) → ∀ Bo, (∀ b ∈ Bo, Own As' b) → CallEnd K mg H S B H' S' Bo Br :=
    fun {σ' env' H' S' As' Br} st R hb Bo hbo => by
      refine ⟨R.sub, st.same, fun b o e n => st.fr b o e fun z => n (own_start.mp z), fun b z => ?_, fun b z z2 => (hb b z).2.1 (hbo b z2), fun b z => (st.new b z).imp id fun q => q.imp own_start.mp id⟩
      rcases z with z | z
      · have q := hbo b z
        exact ⟨(st.own b q).imp own_start.mp id, R.free b q⟩
      · exact ⟨(hb b z).1.symm, (hb b z).2.2⟩
  have out : ∀ {σ' : SlotV} {env' : Env} {H' S' : Hp} {As' : Fp} {c : Cell}, Stp H S (fun i => if i = 0 then B else []) H' S' As' → Rel K mg σ' env' H' S' As' → isOwn args = true → get env' 0 = some c → isFz c = false → OutOk K mg H' S' vs (some c) (As' 0) :=
    fun {σ' env' H' S' As' c} st R ho hg hf => by
      obtain ⟨w, e1, hc⟩ := R.cell 0 c hg
      obtain ⟨a, r, e2, rfl⟩ := hc.rooted hf
      obtain ⟨r', e3⟩ := st.anc a r e2
      have e3 : B = a :: r' := e3
      cases args with
      | nil => cases ho
      | cons x as =>
        cases x with
        | val p => cases ho
        | own c0 =>
          obtain ⟨v, r, ps, rfl, rfl, hc0, hr⟩ := ha
          have := hc0.root e3
          subst this
          exact ⟨_, _, rfl, hc⟩
  cases hr : evSs F d.body (env0 d args) with
  | stuck => rw [hr] at h; exact False.elim h
  | exc C fs env1 =>
    rw [hr] at h
    intro σ' H' S' As' cls dd st R ex
    exact h cls dd H' S' (fin st R (fun b hb => by cases hb) [] fun b hb => by cases hb) ex
  | ok q =>
    obtain ⟨fl, env1⟩ := q
    rw [hr] at h
    intro σ' H' S' As' st R
    cases fl with
    | bk => exact False.elim h
    | ct => exact False.elim h
    | nx =>
      show Q .non H'
      rw [show endDef args (.ok (.nx, env1)) = (if isOwn args = true then (match get env1 0 with | some c => if isFz c = true then .stuck else .ok (.val .non) (some c) | none => .stuck) else .ok (.val .non) none) from rfl] at h
      by_cases ho : isOwn args = true
      · rw [if_pos ho] at h
        cases hg : get env1 0 with
        | none => rw [hg] at h; exact False.elim h
        | some c =>
          rw [hg] at h
          dsimp only at h
          by_cases hf : isFz c = true
          · rw [if_pos hf] at h; exact False.elim h
          · rw [if_neg hf] at h
            exact h .non H' S' (As' 0) [] (fin st R (fun b hb => by cases hb) _ fun b hb => ⟨0, hb⟩) ⟨Rp.non, rfl⟩ (out st R ho hg (by simpa using hf))
      · rw [if_neg ho] at h
        exact h .non H' S' [] [] (fin st R (fun b hb => by cases hb) _ fun b hb => by cases hb) ⟨Rp.non, rfl⟩ rfl
    | rt r =>
      intro v Br ok fr
      have hbr : ∀ b ∈ Br, (H b = none ∨ b ∈ B) ∧ ¬ Own As' b ∧ S' b = none := fun b hb => by
        refine ⟨(fr b hb).imp id own_start.mp, ?_⟩
        cases r with
        | val p => rw [ok.2] at hb; cases hb
        | loc j => rw [ok.2] at hb; cases hb
        | new c => exact ok.2 b hb
      have key : ∀ r', (match r' with | .loc _ => False | _ => True) → RetOk K mg H' S' v r' Br → endDef args (.ok (.rt r', env1)) = (if isOwn args = true then (match get env1 0 with | some c => if isFz c = true then .stuck else .ok r' (some c) | none => .stuck) else .ok r' none) →
          (match endDef args (.ok (.rt r', env1)) with
          | .ok r out => ∀ v H' S' Bo Br, CallEnd K mg H S B H' S' Bo Br → RetOk K mg H' S' v r Br → OutOk K mg H' S' vs out Bo → Q v H'
          | .exc C fs => ∀ cls d H' S', CallEnd K mg H S B H' S' [] [] → ExOk K mg H' S' C fs cls d → E cls d H'
          | .stuck => False) → Q v H' := fun r' _ rok e h => by
        rw [e] at h
        by_cases ho : isOwn args = true
        · rw [if_pos ho] at h
          cases hg : get env1 0 with
          | none => rw [hg] at h; exact False.elim h
          | some c =>
            rw [hg] at h
            dsimp only at h
            by_cases hf : isFz c = true
            · rw [if_pos hf] at h; exact False.elim h
            · rw [if_neg hf] at h
              exact h v H' S' (As' 0) Br (fin st R hbr _ fun b hb => ⟨0, hb⟩) rok (out st R ho hg (by simpa using hf))
        · rw [if_neg ho] at h
          exact h v H' S' [] Br (fin st R hbr _ fun b hb => by cases hb) rok rfl
      cases r with
      | loc j => exact False.elim h
      | val p => exact key (.val p) trivial ok rfl h
      | new c => exact key (.new c) trivial ok.1 rfl h
end
section
variable {P : Program} {w : World} {K : PySem.W.Frag} {mg : Str → Option Value} {base : Heap} {Pg : Prog} {c : Cfg}
/-- what the top has written, for the program's tree -/
structure Top (Pg : Prog) (c : Cfg) (K : PySem.W.Frag) (mg : Str → Option Value) : Prop where
  blts : ∀ f ∈ bNames, mg f = none
  defs : ∀ x ∈ c.fns, ∃ f fd st N ps fuel, mg x = some (.ref f) ∧ Fun K x x st f fd ∧ FnScope N ps (defScope st) ∧ Binds K fd ps [] ∧ ps.length ≤ N.length ∧
    Pg.defs (.fn x) = some ⟨ps.length, N.length, mkSs ((defBody st).map (trS N c (defScope st) fuel))⟩
  con : ∀ x p, Pg.con x = some p → ∃ v u, mg x = some u ∧ RelV v u ∧ ∀ S, Rp K mg S v p
  excs : ∀ C ∈ c.excs, ExF K mg C
  subs : ∀ C C' b, Pg.sub C C' = some b → ∃ x y, mg C = some (.ref x) ∧ mg C' = some (.ref y) ∧ PySem.W.exmOne K (.ref x) (.ref y) = some b
theorem fn_okk (T : Top Pg c K mg) {k : Nat} (ih : ∀ y ∈ c.fns, ∃ a, mg y = some (.ref a) ∧ FnAt P w K mg base k a (evF Pg k (.fn y))) {x : Str} {f : Addr} {fd : FuncData} {st : Stmt} {N ps : List Str} {fuel : Nat}
    (h2 : Fun K x x st f fd) (h3 : FnScope N ps (defScope st)) (h5 : ps.length ≤ N.length) (h6 : Pg.defs (.fn x) = some ⟨ps.length, N.length, mkSs ((defBody st).map (trS N c (defScope st) fuel))⟩) :
    FnOk P w K mg base (L2.CX P w) (k + 1) f fd ps (spL K mg ps.length (evF Pg (k + 1) (.fn x))) ∧ ∀ args, evF Pg (k + 1) (.fn x) args ≠ .stuck → args.length = ps.length := by
  have hm : ∀ args, evF Pg (k + 1) (.fn x) args = runD (Pg.sem k) ⟨ps.length, N.length, mkSs ((defBody st).map (trS N c (defScope st) fuel))⟩ args := fun args => by
    show (match Pg.defs (.fn x) with | some d => runD (Pg.sem k) d args | none => .stuck) = _
    rw [h6]
  refine ⟨h2.okX h3 (fun vs H Q E q => q.1) ?_, fun args z => ?_⟩
  · intro cdv A outer s H vs Q E hr hsp
    obtain ⟨hv, args, S, B, sub, ha, hB, hp⟩ := hsp
    let X := cxOf (L2.CX P w) P w K mg base N x (defScope st) f cdv A outer s H E
    have G : GoodS Pg c k N (defScope st) X := {
      hN := rfl
      nd := h3.nd
      hsc := rfl
      calm := rfl
      units := by
        have := hr.un
        show (A.deeper _).units + 65 < cLine
        omega
      room := hr
      fnb := fun _ _ => rfl
      blts := T.blts
      defs := ih
      con := T.con
      stack := rfl
      frame := rfl
      bk := h3.kind
      passes := passes_of (E₁ := fun e' s'' => L2.CX P w outer H s E e' s'') (K := fun e s'' => L2.CX P w outer H s E e s'') rfl
      excs := T.excs
      subs := T.subs }
    have tk : Takes X (fun cls d _ H => E cls d H) := takes_of (E₁ := fun e' s'' => L2.CX P w outer H s E e' s'') rfl rfl rfl rfl
    refine ⟨_, lss_all (fun st' => trS_ok fuel st' X _ G tk) (defBody st), ?_⟩
    rw [hm] at hp
    unfold runD at hp
    by_cases hc : args.length = ps.length ∧ ps.length ≤ N.length
    · rw [if_pos hc] at hp
      exact end_reading (d := ⟨ps.length, N.length, mkSs ((defBody st).map (trS N c (defScope st) fuel))⟩) rfl hc.1 hv h5 sub ha hB hp
    · rw [if_neg hc] at hp
      exact False.elim hp
  · rw [hm] at z
    unfold runD at z
    by_cases hc : args.length = ps.length ∧ ps.length ≤ N.length
    · exact hc.1
    · rw [if_neg hc] at z
      exact absurd rfl z
theorem fn_at (T : Top Pg c K mg) : ∀ (k : Nat), ∀ x ∈ c.fns, ∃ f, mg x = some (.ref f) ∧ FnAt P w K mg base k f (evF Pg k (.fn x))
  | 0, x, hx => by
    obtain ⟨f, fd, st, N, ps, fuel, h1, h2, h3, h4, h5, h6⟩ := T.defs x hx
    refine ⟨f, h1, ⟨fd, ps, ⟨fun vs H Q E q => q.1, fun A outer s H args us vs Q E _ _ _ _ hs => ?_⟩, h4, fun args z => absurd rfl z⟩, h2.kp⟩
    obtain ⟨_, _, _, _, _, _, _, z⟩ := hs
    exact False.elim z
  | k + 1, x, hx => by
    obtain ⟨f, fd, st, N, ps, fuel, h1, h2, h3, h4, h5, h6⟩ := T.defs x hx
    obtain ⟨a, b⟩ := fn_okk T (fn_at T k) h2 h3 h5 h6
    exact ⟨f, h1, ⟨fd, ps, a, h4, b⟩, h2.kp⟩
end
end PL
set_option Elab.async false
set_option linter.all false
set_option maxRecDepth 100000
set_option maxHeartbeats 4000000
namespace PL
open PySem PySem.Spec PyProof.Rows L2
/-! ### the law's end -/
section
variable {P : Program} {w : World} {K : PySem.W.Frag} {mg : Str → Option Value} {base : Heap} {Pg : Prog} {c : Cfg}
/-- a def as the text says -/
structure DF (K : PySem.W.Frag) (x : Str) (st : Stmt) (ps : List Str) : Prop where
  ex : ∃ f fd, PySem.W.nsIn K mainGlobals x = some (some (.ref f)) ∧ Fun K x x st f fd ∧ Binds K fd ps [] ∧ ∀ (s : Shared) (us : List Value), us.length = ps.length → BindsTo s fd ⟨us, []⟩ (ps.zip us)
theorem df_mk {x : Str} {st : Stmt} {ps : List Str} {f : Addr} {oc : Value} {od an : Option Addr} {osl : Array (Option Value)} {kV doc pm cdv ct : Value} (a : PySem.W.nsIn K mainGlobals x = some (some (.ref f)))
    (l : K.lookup f = some ⟨oc, od, .func (PySem.W.fnOf x x (defArgs st) (defBody st) (defScope st) .none kV doc pm an cdv ct), osl⟩) (c : PySem.W.codeIn K cdv x = true) (k : PySem.W.keepIn K (.ref f) = true)
    (b : ∀ (kV doc pm : Value) (an : Option Addr) (cdv ct : Value) (us : List Value), us.length = ps.length → bindArgs (PySem.W.fnOf x x (defArgs st) (defBody st) (defScope st) .none kV doc pm an cdv ct) ⟨us, []⟩ = pure (ps.zip us)) : DF K x st ps :=
  ⟨f, _, a, fun_mk l c k, (fun_mk l c k).binds b, fun s us h => .of_eq (b _ _ _ _ _ _ us h)⟩
def DOk (Pg : Prog) (c : Cfg) (K : PySem.W.Frag) (mg : Str → Option Value) (x : Str) : Prop := ∃ f fd st N ps fuel, mg x = some (.ref f) ∧ Fun K x x st f fd ∧ FnScope N ps (defScope st) ∧ Binds K fd ps [] ∧ ps.length ≤ N.length ∧
    Pg.defs (.fn x) = some ⟨ps.length, N.length, mkSs ((defBody st).map (trS N c (defScope st) fuel))⟩
theorem DF.ok {x : Str} {st : Stmt} {ps : List Str} {h : Heap} (D : DF K x st ps) (X : K.In h) (G : h.Ns mainGlobals mg) (N : List Str) (fuel : Nat) (S : FnScope N ps (defScope st)) (hl : ps.length ≤ N.length)
    (hp : Pg.defs (.fn x) = some ⟨ps.length, N.length, mkSs ((defBody st).map (trS N c (defScope st) fuel))⟩) : DOk Pg c K mg x := by
  obtain ⟨f, fd, h1, h2, h3, _⟩ := D.ex
  exact ⟨f, fd, st, N, ps, fuel, PySem.W.mg_of X G h1, h2, S, h3, hl, hp⟩
theorem all_nil {α : Type} {p : α → Prop} : ∀ y ∈ ([] : List α), p y := fun y h => by cases h
theorem all_cons {α : Type} {p : α → Prop} {x : α} {r : List α} (h : p x) (h2 : ∀ y ∈ r, p y) : ∀ y ∈ x :: r, p y := fun y hy => by
  rcases List.mem_cons.mp hy with rfl | hy
  · exact h
  · exact h2 y hy
theorem exm_by {a b : Addr} {t : Bool} (h1 : PySem.W.subIn K (.ref b) (.type "BaseException") = some true) (h2 : PySem.W.isClsIn K b = true) (h3 : PySem.W.typeIn K (.ref b) = some (.type "type")) (h4 : PySem.W.subIn K (.ref a) (.ref b) = some t) :
    PySem.W.exmOne K (.ref a) (.ref b) = some t := by
  have e1 : (PySem.W.subIn K (.ref b) (.type "BaseException") == some true) = true := by rw [h1] <;> rfl
  have e2 : ((PySem.W.clsIn K b).isSome && PySem.W.typeIn K (.ref b) == some (.type "type")) = true := by
    have h2' : (PySem.W.clsIn K b).isSome = true := h2
    rw [h2', h3] <;> rfl
  show (if (PySem.W.subIn K (.ref b) (.type "BaseException") == some true) = true then (if ((PySem.W.clsIn K b).isSome && PySem.W.typeIn K (.ref b) == some (.type "type")) = true then PySem.W.subIn K (.ref a) (.ref b) else none) else none) = some t
  rw [if_pos e1, if_pos e2]
  exact h4
/-- an own exception class at a -/
def ExA (K : PySem.W.Frag) (a : Addr) : Prop := ∃ B newId initId bmB, ExcBaseFacts B newId initId bmB ∧ PySem.W.excIn K a bmB newId = true ∧ PySem.W.keepIn K (.ref a) = true ∧ PySem.W.subIn K (.ref a) (.type "BaseException") = some true ∧ PySem.W.typeIn K (.ref a) = some (.type "type") ∧ PySem.W.isClsIn K a = true
def ExN (K : PySem.W.Frag) (C : Str) : Prop := ∃ a, PySem.W.nsIn K mainGlobals C = some (some (.ref a)) ∧ ExA K a
theorem exn_mk {C : Str} {a : Addr} {B newId initId : String} {bmB : List Value} (F : ExcBaseFacts B newId initId bmB) (g : PySem.W.nsIn K mainGlobals C = some (some (.ref a))) (q : PySem.W.excIn K a bmB newId = true) (k : PySem.W.keepIn K (.ref a) = true)
    (b : PySem.W.subIn K (.ref a) (.type "BaseException") = some true) (t : PySem.W.typeIn K (.ref a) = some (.type "type")) (i : PySem.W.isClsIn K a = true) : ExN K C :=
  ⟨a, g, B, newId, initId, bmB, F, q, k, b, t, i⟩
theorem ExN.f {C : Str} {h : Heap} (e : ExN K C) (X : K.In h) (G : h.Ns mainGlobals mg) : ExF K mg C := by
  obtain ⟨a, h1, B, newId, initId, bmB, F, q, k, b, t, i⟩ := e
  exact ⟨a, B, newId, initId, bmB, F, q, PySem.W.mg_of X G h1, k, b, t⟩
def SubN (K : PySem.W.Frag) (C C' : Str) (t : Bool) : Prop := ∃ a b, PySem.W.nsIn K mainGlobals C = some (some (.ref a)) ∧ PySem.W.nsIn K mainGlobals C' = some (some (.ref b)) ∧ PySem.W.subIn K (.ref a) (.ref b) = some t
theorem subn_mk {C C' : Str} {t : Bool} {a b : Addr} (h1 : PySem.W.nsIn K mainGlobals C = some (some (.ref a))) (h2 : PySem.W.nsIn K mainGlobals C' = some (some (.ref b))) (h3 : PySem.W.subIn K (.ref a) (.ref b) = some t) : SubN K C C' t := ⟨a, b, h1, h2, h3⟩
theorem SubN.ok {C C' : Str} {t : Bool} {h : Heap} (s : SubN K C C' t) (e : ExN K C') (X : K.In h) (G : h.Ns mainGlobals mg) : ∃ x y, mg C = some (.ref x) ∧ mg C' = some (.ref y) ∧ PySem.W.exmOne K (.ref x) (.ref y) = some t := by
  obtain ⟨a, b, h1, h2, h3⟩ := s
  obtain ⟨b', h4, B, newId, initId, bmB, F, q, k, bb, tt, i⟩ := e
  have : b = b' := by rw [h2] at h4; cases h4; rfl
  subst this
  exact ⟨a, b, PySem.W.mg_of X G h1, PySem.W.mg_of X G h2, exm_by bb i tt h3⟩
/-- what is wanted of the law's def -/
def spLaw (K : PySem.W.Frag) : Sp := fun vs H Q E => ∃ (a : Addr) (ns : List Int), vs = [V.ref a] ∧ ns.length ≤ 63 ∧ SqL K H a (ns.map V.int) ∧ ∀ H', Q (.bl true) H'
theorem law_fn (T : Top Pg c K mg) (k : Nat) {st : Stmt} {N : List Str} {fuel : Nat} {h : Heap} (D : DF K "law" st ["script"]) (X : K.In h) (G : h.Ns mainGlobals mg) {fa : Addr} (hfa : mg "law" = some (.ref fa))
    (S : FnScope N ["script"] (defScope st)) (hl : 1 ≤ N.length) (hp : Pg.defs (.fn "law") = some ⟨1, N.length, mkSs ((defBody st).map (trS N c (defScope st) fuel))⟩)
    (hm : ∀ ns : List Int, ns.length ≤ 63 → evF Pg (k + 1) (.fn "law") [.val (.scr ns)] = .ok (.val (.bl true)) none) :
    ∃ fd : FuncData, (∀ (s : Shared) (u : Value), BindsTo s fd ⟨[u], []⟩ [("script", u)]) ∧ ∀ base : Heap, K.In base → base.Ns mainGlobals mg → FnOk P w K mg base (L2.CX P w) (k + 1) fa fd ["script"] (spLaw K) := by
  obtain ⟨f, fd, h1, h2, h3, h4⟩ := D.ex
  have e := hfa.symm.trans (PySem.W.mg_of X G h1)
  cases e
  refine ⟨fd, fun s u => h4 s [u] rfl, fun base _ _ => ?_⟩
  obtain ⟨a, _⟩ := fn_okk (P := P) (w := w) (base := base) T (fn_at T k) h2 S hl hp
  refine a.imp fun vs H Q E q => ?_
  obtain ⟨a, ns, rfl, hn, hS, q⟩ := q
  refine ⟨rfl, [.val (.scr ns)], H, [], Same.refl _, ⟨[], rfl, rfl, Rps.cons ?_ Rps.nil⟩, fun b hb => (by cases hb), ?_⟩
  · unfold Rp
    exact ⟨a, rfl, hS⟩
  · rw [hm ns hn]
    intro v H' S' Bo Br ce rt ot
    have : v = .bl true := rp_bl rt.1
    rw [this]
    exact q H'
theorem law_walk {l : PySem.W.OpenLaw} {q : Program} {loose : List Str} {XP : (Str → Option Value) → Heap → Prop} {YP : World → Heap → Prop} {d : DefRec} {K : Params → PySem.W.Frag} {k : Nat} (hn : l.most = some 63) (hdf : d.params.defaults = []) (hr : Room k callerA)
    (hY : ∀ (w : World) (h : Heap), YP w h → (K w.params).In h)
    (F : ∀ (w : World) (mg : Str → Option Value) (fa : Addr) (h : Heap), (K w.params).In h → h.Ns mainGlobals mg → mg d.name = some (.ref fa) →
      ∃ fd : FuncData, (∀ (s : Shared) (u : Value), BindsTo s fd ⟨[u], []⟩ [("script", u)]) ∧ ∀ base : Heap, (K w.params).In base → base.Ns mainGlobals mg → FnOk l.prog w (K w.params) mg base (L2.CX l.prog w) k fa fd ["script"] (spLaw (K w.params))) :
    PySem.W.WalkO q loose XP YP l.row.toRowW d [] (fun f vs => PySem.call f vs) :=
  L2.walk_of (n := 63) (k := k) (x := "script") (CX := fun w => L2.CX l.prog w) (sp := fun w => spLaw (K w.params)) hn (by decide) hdf hr hY F (fun _ _ a ns hl _ hS => ⟨a, ns, rfl, hl, hS, fun _ => rfl⟩) fun w H s e s' z => by
    obtain ⟨_, _, _, _, _, _, _, _, _, _, _, _, z⟩ := z
    exact z.elim
end
end PL
set_option Elab.async false
set_option linter.all false
set_option maxRecDepth 100000
set_option maxHeartbeats 4000000
namespace PL
open PySem PySem.Spec PyProof.Rows L2
/-! ### running the tree -/
theorem bind_ok {α β : Type} (a : α) (f : α → Res β) : (Res.ok a).bind f = f a := rfl
/-- what follows is left alone until its turn -/
structure Dum {α β : Type} (f : α → Res β) : Type where
def dum {α β : Type} (f : α → Res β) : Dum f := ⟨⟩
def bndD {α β : Type} (x : Res α) (f : α → Res β) (_ : Dum f) : Res β := x.bind f
theorem toB {α β : Type} (x : Res α) (f : α → Res β) : x.bind f = bndD x f (dum f) := rfl
theorem bndD_ok {α β : Type} (a : α) (f : α → Res β) (d : Dum f) : bndD (Res.ok a) f d = f a := rfl
theorem bndD_exc {α β : Type} (C fs e) (f : α → Res β) (d : Dum f) : bndD (Res.exc C fs e : Res α) f d = .exc C fs e := rfl
theorem bind_exc {α β : Type} (C fs e) (f : α → Res β) : (Res.exc C fs e : Res α).bind f = .exc C fs e := rfl
theorem optR_some {α : Type} (a : α) : optR (some a) = .ok a := rfl
theorem get_zero (a : Option Cell) (l : Env) : get (a :: l) 0 = a := rfl
theorem get_succ (a : Option Cell) (l : Env) (n : Nat) : get (a :: l) (n + 1) = get l n := by unfold get; rw [List.getElem?_cons_succ]
section
variable (F : Sem) (env : Env)
theorem v_var (i) : (ev F (.var i)).e env = match get env i with
    | some (.fz p) => .ok (.val p, env)
    | some _ => .ok (.loc i, env)
    | none => .stuck := rfl
theorem v_con (p) : (ev F (.con p)).e env = .ok (.val p, env) := rfl
theorem v_bop (o a b) : (ev F (.bop o a b)).e env = ((ev F a).e env).bind fun r => ((ev F b).e r.2).bind fun q =>
    (optR (rd q.2 r.1)).bind fun x => (optR (rd q.2 q.1)).bind fun y => (optR (bopV o x y)).bind fun v => .ok (mkV v, q.2) := rfl
theorem v_neg (a) : (ev F (.neg a)).e env = ((ev F a).e env).bind fun r => match r.1 with
    | .val (.int i) => .ok (.val (.int (-i)), r.2)
    | _ => .stuck := rfl
theorem v_not (a) : (ev F (.not a)).e env = ((ev F a).e env).bind fun r => match r.1 with
    | .val (.bl b) => .ok (.val (.bl (!b)), r.2)
    | _ => .stuck := rfl
theorem t_not (a) : (ev F (.not a)).t env = ((ev F a).t env).bind fun r => .ok (!r.1, r.2) := rfl
theorem v_and (a b) : (ev F (.and a b)).e env = ((ev F a).e env).bind fun r => match r.1 with
    | .val (.bl true) => (ev F b).e r.2
    | .val (.bl false) => .ok (.val (.bl false), r.2)
    | _ => .stuck := rfl
theorem t_and (a b) : (ev F (.and a b)).t env = ((ev F a).t env).bind fun r => match r.1 with
    | true => (ev F b).t r.2
    | false => .ok (false, r.2) := rfl
theorem v_or (a b) : (ev F (.or a b)).e env = ((ev F a).e env).bind fun r => match r.1 with
    | .val (.bl true) => .ok (.val (.bl true), r.2)
    | .val (.bl false) => (ev F b).e r.2
    | _ => .stuck := rfl
theorem t_or (a b) : (ev F (.or a b)).t env = ((ev F a).t env).bind fun r => match r.1 with
    | true => .ok (true, r.2)
    | false => (ev F b).t r.2 := rfl
theorem v_cmp (o a b) : (ev F (.cmp o a b)).e env = ((ev F a).e env).bind fun r => ((ev F b).e r.2).bind fun q =>
    (optR (rd q.2 r.1)).bind fun x => (optR (rd q.2 q.1)).bind fun y => (optR (copV o x y)).bind fun v => .ok (.val (.bl v), q.2) := rfl
theorem t_cmp (o a b) : (ev F (.cmp o a b)).t env = ((ev F a).e env).bind fun r => ((ev F b).e r.2).bind fun q =>
    (optR (rd q.2 r.1)).bind fun x => (optR (rd q.2 q.1)).bind fun y => (optR (copV o x y)).bind fun v => .ok (v, q.2) := by
  show truV (ev F (.cmp o a b)).e env = _
  unfold truV
  rw [v_cmp, Res.assoc]
  congr 1; funext r
  rw [Res.assoc]
  congr 1; funext q
  rw [Res.assoc]
  congr 1; funext x
  rw [Res.assoc]
  congr 1; funext y
  rw [Res.assoc]
  rfl
theorem v_chn (o o' a b c) : (ev F (.chn o o' a b c)).e env = ((ev F a).e env).bind fun r => ((ev F b).e r.2).bind fun q =>
    (optR (rd q.2 r.1)).bind fun x => (optR (rd q.2 q.1)).bind fun y => (optR (copV o x y)).bind fun v => match v with
    | false => .ok (.val (.bl false), q.2)
    | true => ((ev F c).e q.2).bind fun w => (optR (rd w.2 q.1)).bind fun y => (optR (rd w.2 w.1)).bind fun z =>
      (optR (copV o' y z)).bind fun v => .ok (.val (.bl v), w.2) := rfl
theorem t_chn (o o' a b c) : (ev F (.chn o o' a b c)).t env = truV (ev F (.chn o o' a b c)).e env := rfl
theorem v_ite (t a b) : (ev F (.ite t a b)).e env = ((ev F t).t env).bind fun r => match r.1 with
    | true => (ev F a).e r.2
    | false => (ev F b).e r.2 := rfl
theorem i_ite (t a b) : (ev F (.ite t a b)).i env = itsV (ev F (.ite t a b)).e env := rfl
theorem v_tup (es) : (ev F (.tup es)).e env = (evTs F es env).bind fun r => .ok (.val (.tup r.1), r.2) := rfl
theorem v_lst (es) : (ev F (.lst es)).e env = (evTs F es env).bind fun r => .ok (.new (.lst r.1), r.2) := rfl
theorem v_call (f es) : (ev F (.call f es)).e env = (evTs F es env).bind fun r => endCall none r.2 (F.fn (.fn f) (vals r.1)) := rfl
theorem t_call (f es) : (ev F (.call f es)).t env = truV (ev F (.call f es)).e env := rfl
theorem i_call (f es) : (ev F (.call f es)).i env = itsV (ev F (.call f es)).e env := rfl
theorem v_calm (f i es) : (ev F (.calm f i es)).e env = match get env i with
    | none => .stuck
    | some (.fz _) => .stuck
    | some _ => (evTs F es env).bind fun r => (lend r.2 i).bind fun c => endCall (some i) r.2 (F.fn (.fn f) (.own c :: vals r.1)) := rfl
theorem t_calm (f i es) : (ev F (.calm f i es)).t env = truV (ev F (.calm f i es)).e env := rfl
theorem v_blt (f es) : (ev F (.blt f es)).e env = (evHs F es env).bind fun r => (optR (rds r.2 r.1)).bind fun ps => (optR (bltV f ps)).bind fun v => .ok (mkV v, r.2) := rfl
theorem t_blt (f es) : (ev F (.blt f es)).t env = truV (ev F (.blt f es)).e env := rfl
theorem t_var (i) : (ev F (.var i)).t env = truV (ev F (.var i)).e env := rfl
theorem t_con (p) : (ev F (.con p)).t env = truV (ev F (.con p)).e env := rfl
theorem i_blt (f es) : (ev F (.blt f es)).i env = if f = ("range" : Str) then rngV (evHs F es) env else if f = ("zip" : Str) then zipV (evTs F es) env else if f = ("enumerate" : Str) then enuV (evTs F es) env else itsV (ev F (.blt f es)).e env := rfl
theorem i_range (es) : (ev F (.blt "range" es)).i env = rngV (evHs F es) env := by rw [i_blt, if_pos rfl]
theorem i_zip (es) : (ev F (.blt "zip" es)).i env = zipV (evTs F es) env := by rw [i_blt, if_neg (by decide), if_pos rfl]
theorem i_enum (es) : (ev F (.blt "enumerate" es)).i env = enuV (evTs F es) env := by rw [i_blt, if_neg (by decide), if_neg (by decide), if_pos rfl]
theorem i_var (i) : (ev F (.var i)).i env = itsV (ev F (.var i)).e env := rfl
theorem v_mth (m o es) : (ev F (.mth m o es)).e env = ((ev F o).e env).bind fun r => mthV m (evTs F es) r := rfl
theorem v_ix (o i) : (ev F (.ix o i)).e env = ((ev F o).e env).bind fun r => ((ev F i).e r.2).bind fun q =>
    (optR (rd q.2 r.1)).bind fun x => (optR (rd q.2 q.1)).bind fun y => (optR (ixP x y)).bind fun v => .ok (.val v, q.2) := rfl
theorem t_ix (o i) : (ev F (.ix o i)).t env = truV (ev F (.ix o i)).e env := rfl
theorem i_ix (o i) : (ev F (.ix o i)).i env = itsV (ev F (.ix o i)).e env := rfl
theorem v_sl (o lo hi) : (ev F (.sl o lo hi)).e env = ((ev F o).e env).bind fun r => (parO (isNop lo) (ev F lo).e r.2).bind fun l => (parO (isNop hi) (ev F hi).e l.2).bind fun h =>
    (optR (rd h.2 r.1)).bind fun x => (optR (slP x l.1 h.1)).bind fun v => .ok (mkV v, h.2) := rfl
theorem i_sl (o lo hi) : (ev F (.sl o lo hi)).i env = itsV (ev F (.sl o lo hi)).e env := rfl
theorem v_lc (own t it c e) : (ev F (.lc own t it c e)).e env = ((ev F it).i env).bind fun r => match plainAt r.2 own with
    | false => .stuck
    | true => (lcGo own (evTg F t) (ev F c).t (fun e1 => ((ev F e).e e1).bind fun q => optR (take q.1 q.2)) (fun e1 => wipeE e1 own) r.1 [] (wipeE r.2 own)).noexc.bind fun q =>
      .ok (.new (.lst q.1), restore r.2 q.2 own) := rfl
theorem i_lc (own t it c e) : (ev F (.lc own t it c e)).i env = itsV (ev F (.lc own t it c e)).e env := rfl
theorem v_dlen (own t it c k) : (ev F (.dlen own t it c k)).e env = ((ev F it).i env).bind fun r => match plainAt r.2 own with
    | false => .stuck
    | true => (dkGo (evTg F t) (ev F c).t (ev F k).e (fun e1 => wipeE e1 own) r.1 [] (wipeE r.2 own)).noexc.bind fun q =>
      .ok (.val (.int q.1.length), restore r.2 q.2 own) := rfl
theorem v_lc2 (own own2 t it c t2 it2 c2 e) : (ev F (.lc2 own own2 t it c t2 it2 c2 e)).e env = ((ev F it).i env).bind fun r => match plainAt r.2 own with
    | false => .stuck
    | true => (lc2Go own (evTg F t) (ev F c).t (fun e1 acc => ((ev F it2).i e1).bind fun s => lcGo own2 (evTg F t2) (ev F c2).t (fun e2 => ((ev F e).e e2).bind fun q => optR (take q.1 q.2)) (fun e2 => wipeE e2 own2) s.1 acc (wipeE s.2 own2))
        (fun e1 => wipeE e1 own) r.1 [] (wipeE r.2 own)).noexc.bind fun q =>
      if q.1.length ≤ sizeLine then .ok (.new (.lst q.1), restore r.2 q.2 own) else .stuck := rfl
theorem ts_nil : evTs F .nil env = .ok ([], env) := rfl
theorem ts_cons (e es) : evTs F (.cons e es) env = ((ev F e).e env).bind fun r => (optR (take r.1 r.2)).bind fun r => (evTs F es r.2).bind fun q => .ok (r.1 :: q.1, q.2) := rfl
theorem hs_nil : evHs F .nil env = .ok ([], env) := rfl
theorem hs_cons (e es) : evHs F (.cons e es) env = ((ev F e).e env).bind fun r => (evHs F es r.2).bind fun q => .ok (r.1 :: q.1, q.2) := rfl
theorem g_nm (i p) : evTg F (.nm i) p env = if i < env.length then .ok (env.set i (some (.fz p))) else .stuck := rfl
theorem g_tup (ts p) : evTg F (.tup ts) p env = match p with
    | .tup xs => evTgs F ts xs env
    | _ => .stuck := rfl
theorem g_ix (o i p) : evTg F (.ix o i) p env = ((ev F o).e env).bind fun r => match r.1 with
    | .loc j => ((ev F i).e r.2).bind fun q => match q.1, get q.2 j with
      | .val (.int k), some (.lst xs) => match ixN xs.length k with
        | some n => .ok (q.2.set j (some (.lst (xs.set n p))))
        | none => .stuck
      | _, _ => .stuck
    | _ => .stuck := rfl
theorem gs_nil (xs) : evTgs F .nil xs env = match xs with
    | [] => .ok env
    | _ => .stuck := rfl
theorem gs_cons (t ts xs) : evTgs F (.cons t ts) xs env = match xs with
    | x :: xs => (evTg F t x env).bind fun e1 => evTgs F ts xs e1
    | [] => .stuck := rfl
theorem s_expr (e) : evS F (.expr e) env = ((ev F e).e env).bind fun r => .ok (.nx, r.2) := rfl
theorem s_set (i e) : evS F (.asg (.nm i) e) env = ((ev F e).e env).bind fun r => (optR (settle r.1 r.2)).bind fun r => (optR (put i r.1 r.2)).bind fun e1 => .ok (.nx, e1) := rfl
theorem s_asgT (ts e) : evS F (.asg (.tup ts) e) env = ((ev F e).e env).bind fun r => (optR (take r.1 r.2)).bind fun r => (evTg F (.tup ts) r.1 r.2).bind fun e1 => .ok (.nx, e1) := rfl
theorem s_asgX (o i e) : evS F (.asg (.ix o i) e) env = ((ev F e).e env).bind fun r => (optR (take r.1 r.2)).bind fun r => (evTg F (.ix o i) r.1 r.2).bind fun e1 => .ok (.nx, e1) := rfl
theorem s_par2 (i j a b) : evS F (.par2 i j a b) env = ((ev F a).e env).bind fun r => ((ev F b).e r.2).bind fun q => (optR (settle r.1 q.2)).bind fun r => (optR (settle q.1 r.2)).bind fun q =>
    (optR (put i r.1 q.2)).bind fun e1 => (optR (put j q.1 e1)).bind fun e2 => .ok (.nx, e2) := rfl
theorem s_par3 (i j k a b c) : evS F (.par3 i j k a b c) env = ((ev F a).e env).bind fun r => ((ev F b).e r.2).bind fun q => ((ev F c).e q.2).bind fun w => (optR (settle r.1 w.2)).bind fun r => (optR (settle q.1 r.2)).bind fun q => (optR (settle w.1 q.2)).bind fun w =>
    (optR (put i r.1 w.2)).bind fun e1 => (optR (put j q.1 e1)).bind fun e2 => (optR (put k w.1 e2)).bind fun e3 => .ok (.nx, e3) := rfl
theorem s_aug (i o e) : evS F (.aug i o e) env = match get env i with
    | some (.fz p) => ((ev F e).e env).bind fun r => match r.1 with
      | .val q => (optR (iopV o p q)).bind fun v => (optR (put i (.val v) r.2)).bind fun e1 => .ok (.nx, e1)
      | _ => .stuck
    | _ => .stuck := rfl
theorem s_ite (t a b) : evS F (.ite t a b) env = ((ev F t).t env).bind fun r => match r.1 with
    | true => evSs F a r.2
    | false => evSs F b r.2 := rfl
theorem s_for (t it b) : evS F (.forr t it b) env = ((ev F it).i env).bind fun r => forGo (evTg F t) (evSs F b) r.1 r.2 := rfl
theorem s_whl (t b) : evS F (.whl t b) env = whF (ev F t).t (evSs F b) env := rfl
theorem s_ret (e) : evS F (.ret e) env = ((ev F e).e env).bind fun r => (giveBack r.1 r.2).bind fun q => .ok (.rt q.1, q.2) := rfl
theorem s_retn : evS F .retn env = .ok (.rt (.val .non), env) := rfl
theorem s_rai (C) : evS F (.rai C) env = .exc C [] env := rfl
theorem s_tri (b C n h) : evS F (.tri b C n h) env = tryEnd F C n h (evSs F b env) := rfl
theorem s_brk : evS F .brk env = .ok (.bk, env) := rfl
theorem s_cnt : evS F .cnt env = .ok (.ct, env) := rfl
theorem s_pass : evS F .pass env = .ok (.nx, env) := rfl
theorem ss_nil : evSs F .nil env = .ok (.nx, env) := rfl
theorem ss_cons (s ss) : evSs F (.cons s ss) env = (evS F s env).bind fun r => match r.1 with
    | .nx => evSs F ss r.2
    | f => .ok (f, r.2) := rfl
end
theorem rd_val (env p) : rd env (.val p) = some p := rfl
theorem rd_new (env xs) : rd env (.new (.lst xs)) = some (.lst xs) := rfl
theorem rd_loc (env j) : rd env (.loc j) = match get env j with
    | some (.ls2 _) => none
    | some c => some c.pv
    | none => none := rfl
theorem take_val (env p) : take (.val p) env = some (p, env) := rfl
theorem take_new (env c) : take (.new c) env = some (c.pv, env) := rfl
theorem take_loc (env j) : take (.loc j) env = match get env j with
    | some c => some (c.pv, env.set j (some (.fz c.pv)))
    | none => none := rfl
theorem settle_val (env p) : settle (.val p) env = some (.val p, env) := rfl
theorem settle_new (env c) : settle (.new c) env = some (.new c, env) := rfl
theorem settle_loc (env j) : settle (.loc j) env = match get env j with
    | some c => some (.val c.pv, env.set j (some (.fz c.pv)))
    | none => none := rfl
theorem give_val (env p) : giveBack (.val p) env = .ok (.val p, env) := rfl
theorem give_new (env c) : giveBack (.new c) env = .ok (.new c, env) := rfl
theorem give_loc (env j) : giveBack (.loc j) env = match get env j with
    | some (.fz p) => .ok (.val p, env)
    | some c => .ok (.new c, env.set j none)
    | none => .stuck := rfl
theorem pv_fz (p) : (Cell.fz p).pv = p := rfl
theorem pv_lst (xs) : (Cell.lst xs).pv = .lst xs := rfl
theorem mk_sc (p) : mkV (.sc p) = .val p := rfl
theorem mk_tup (p) : mkV (.tup p) = .val (.tup p) := rfl
theorem mk_lst (p) : mkV (.lst p) = .new (.lst p) := rfl
theorem rds_nil (env) : rds env [] = some [] := rfl
theorem rds_cons (env r rs) : rds env (r :: rs) = match rd env r, rds env rs with
    | some p, some ps => some (p :: ps)
    | _, _ => none := rfl
theorem vals_nil : vals [] = [] := rfl
theorem vals_cons (p ps) : vals (p :: ps) = .val p :: vals ps := rfl
theorem endC_none (env r) : endCall none env (.ok r none) = .ok (r, env) := rfl
theorem endC_some (env r c i) : endCall (some i) env (.ok r (some c)) = .ok (r, env.set i (some c)) := rfl
theorem endC_exc (env C fs) : endCall none env (.exc C fs) = .exc C fs env := rfl
theorem blt_len (p) : bltV "len" [p] = (lenP p).map fun n => .sc (.int n) := by
  unfold bltV
  rw [if_pos rfl]
  dsimp only
  cases h : lenP p <;> rfl
theorem blt_isi (p T) : bltV "isinstance" [p, .ty T] = (isiP p T).map fun b => .sc (.bl b) := bltV_isinstance _
theorem blt_int (i) : bltV "int" [.int i] = some (.sc (.int i)) := bltV_int _
theorem blt_abs (i) : bltV "abs" [.int i] = some (.sc (.int (if i < 0 then -i else i))) := bltV_abs _
theorem blt_all (xs) : bltV "all" [.lst xs] = (asBls xs).map fun ns => .sc (.bl (ns.all id)) := bltV_all _
theorem blt_any (xs) : bltV "any" [.lst xs] = (asBls xs).map fun ns => .sc (.bl (ns.any id)) := bltV_any _
theorem blt_sum (xs) : bltV "sum" [.lst xs] = (asInts xs).map fun ns => .sc (.int ns.sum) := bltV_sum _
theorem blt_tupL (xs) : bltV "tuple" [.lst xs] = some (.tup xs) := bltV_tuple _
theorem blt_tupT (xs) : bltV "tuple" [.tup xs] = some (.sc (.tup xs)) := bltV_tuple _
theorem set_zero (a b : Option Cell) (l : Env) : List.set (a :: l) 0 b = b :: l := rfl
theorem set_succ (a b : Option Cell) (l : Env) (n : Nat) : List.set (a :: l) (n + 1) b = a :: List.set l n b := rfl
theorem put_val (i p env) : put i (.val p) env = if i < env.length then some (env.set i (some (.fz p))) else none := rfl
theorem put_new (i c env) : put i (.new c) env = if i < env.length then (if i = 0 then none else some (env.set i (some c))) else none := rfl
/-- the equations of a run, together -/
theorem EV : type_of% @v_var ∧ type_of% @v_con ∧ type_of% @v_bop ∧ type_of% @v_neg ∧ type_of% @v_not ∧ type_of% @t_not ∧ type_of% @v_and ∧ type_of% @t_and ∧ type_of% @v_or ∧ type_of% @t_or ∧ type_of% @v_cmp ∧ type_of% @t_cmp ∧ type_of% @v_chn ∧ type_of% @t_chn ∧ type_of% @v_ite ∧ type_of% @i_ite ∧ type_of% @v_tup ∧ type_of% @v_lst ∧ type_of% @v_call ∧ type_of% @t_call ∧ type_of% @i_call ∧ type_of% @v_calm ∧ type_of% @t_calm ∧ type_of% @v_blt ∧ type_of% @t_blt ∧ type_of% @t_var ∧ type_of% @t_con ∧ type_of% @i_range ∧ type_of% @i_zip ∧ type_of% @i_enum ∧ type_of% @i_var ∧ type_of% @v_mth ∧ type_of% @v_ix ∧ type_of% @t_ix ∧ type_of% @i_ix ∧ type_of% @v_sl ∧ type_of% @i_sl :=
  ⟨@v_var, @v_con, @v_bop, @v_neg, @v_not, @t_not, @v_and, @t_and, @v_or, @t_or, @v_cmp, @t_cmp, @v_chn, @t_chn, @v_ite, @i_ite, @v_tup, @v_lst, @v_call, @t_call, @i_call, @v_calm, @t_calm, @v_blt, @t_blt, @t_var, @t_con, @i_range, @i_zip, @i_enum, @i_var, @v_mth, @v_ix, @t_ix, @i_ix, @v_sl, @i_sl⟩
theorem EL : type_of% @ts_nil ∧ type_of% @ts_cons ∧ type_of% @hs_nil ∧ type_of% @hs_cons ∧ type_of% @g_nm ∧ type_of% @g_tup ∧ type_of% @g_ix ∧ type_of% @gs_nil ∧ type_of% @gs_cons :=
  ⟨@ts_nil, @ts_cons, @hs_nil, @hs_cons, @g_nm, @g_tup, @g_ix, @gs_nil, @gs_cons⟩
theorem ES : type_of% @s_expr ∧ type_of% @s_set ∧ type_of% @s_asgT ∧ type_of% @s_asgX ∧ type_of% @s_par2 ∧ type_of% @s_par3 ∧ type_of% @s_aug ∧ type_of% @s_ite ∧ type_of% @s_ret ∧ type_of% @s_retn ∧ type_of% @s_rai ∧ type_of% @s_brk ∧ type_of% @s_cnt ∧ type_of% @s_pass ∧ type_of% @ss_nil ∧ type_of% @ss_cons :=
  ⟨@s_expr, @s_set, @s_asgT, @s_asgX, @s_par2, @s_par3, @s_aug, @s_ite, @s_ret, @s_retn, @s_rai, @s_brk, @s_cnt, @s_pass, @ss_nil, @ss_cons⟩
theorem EO : type_of% @bndD_ok ∧ type_of% @bndD_exc ∧ type_of% @optR_some ∧ type_of% @get_zero ∧ type_of% @get_succ ∧ type_of% @rd_val ∧ type_of% @rd_new ∧ type_of% @rd_loc ∧ type_of% @take_val ∧ type_of% @take_new ∧ type_of% @take_loc ∧ type_of% @settle_val ∧ type_of% @settle_new ∧ type_of% @settle_loc ∧ type_of% @give_val ∧ type_of% @give_new ∧ type_of% @give_loc ∧ type_of% @pv_fz ∧ type_of% @pv_lst ∧ type_of% @mk_sc ∧ type_of% @mk_tup ∧ type_of% @mk_lst ∧ type_of% @rds_nil ∧ type_of% @rds_cons ∧ type_of% @vals_nil ∧ type_of% @vals_cons ∧ type_of% @endC_none ∧ type_of% @endC_some ∧ type_of% @endC_exc ∧ type_of% @set_zero ∧ type_of% @set_succ ∧ type_of% @put_val ∧ type_of% @put_new :=
  ⟨@bndD_ok, @bndD_exc, @optR_some, @get_zero, @get_succ, @rd_val, @rd_new, @rd_loc, @take_val, @take_new, @take_loc, @settle_val, @settle_new, @settle_loc, @give_val, @give_new, @give_loc, @pv_fz, @pv_lst, @mk_sc, @mk_tup, @mk_lst, @rds_nil, @rds_cons, @vals_nil, @vals_cons, @endC_none, @endC_some, @endC_exc, @set_zero, @set_succ, @put_val, @put_new⟩
theorem EB : type_of% @blt_len ∧ type_of% @blt_isi ∧ type_of% @blt_int ∧ type_of% @blt_abs ∧ type_of% @blt_all ∧ type_of% @blt_any ∧ type_of% @blt_sum ∧ type_of% @blt_tupL ∧ type_of% @blt_tupT :=
  ⟨@blt_len, @blt_isi, @blt_int, @blt_abs, @blt_all, @blt_any, @blt_sum, @blt_tupL, @blt_tupT⟩
end PL
set_option Elab.async false
set_option linter.all false
set_option maxRecDepth 100000
set_option maxHeartbeats 4000000
namespace PL
open PySem PySem.Spec PyProof.Rows L2
/-! ### loops of runs -/
section
variable {α : Type} {bind : PV → Env → Res Env} {test : Env → Res (Bool × Env)} {elt : Env → Res (PV × Env)} {wipe : Env → Env} {own : List Nat} {φ : α → PV}
/-- one turn of a comprehension -/
def lcTurn (bind : PV → Env → Res Env) (test : Env → Res (Bool × Env)) (elt : Env → Res (PV × Env)) (wipe : Env → Env) (x : PV) (env : Env) : Res (Option PV × Env) :=
  (bind x env).bind fun e1 => (test e1).bind fun b => match b.1 with
    | true => (elt b.2).bind fun r => .ok (some r.1, wipe r.2)
    | false => .ok (none, wipe b.2)
theorem lcGo_cons (x : PV) (xs acc : List PV) (env : Env) : lcGo own bind test elt wipe (x :: xs) acc env = (lcTurn bind test elt wipe x env).bind fun r => lcGo own bind test elt wipe xs (acc ++ r.1.toList) r.2 := by
  unfold lcTurn
  show ((bind x env).bind fun e1 => (test e1).bind fun b => match b.1 with
    | true => (elt b.2).bind fun r => lcGo own bind test elt wipe xs (acc ++ [r.1]) (wipe r.2)
    | false => lcGo own bind test elt wipe xs acc (wipe b.2)) = _
  rw [Res.assoc]
  congr 1; funext e1
  rw [Res.assoc]
  congr 1; funext b
  cases b.1 with
  | true =>
    dsimp only
    rw [Res.assoc]
    rfl
  | false =>
    simp [bind_ok]
/-- a state goes through the turns -/
def goV {σ : Type} (g : α → σ → Option PV) (step : α → σ → σ) : List α → σ → List PV
  | [], _ => []
  | a :: r, s => (g a s).toList ++ goV g step r (step a s)
def goS {σ : Type} (step : α → σ → σ) : List α → σ → σ
  | [], s => s
  | a :: r, s => goS step r (step a s)
theorem lcGo_st {σ : Type} {I : σ → Prop} {W : σ → Env} {g : α → σ → Option PV} {step : α → σ → σ} : ∀ (xs : List α) (acc : List PV) (s : σ), I s → (∀ a ∈ xs, ∀ s, I s → lcTurn bind test elt wipe (φ a) (W s) = .ok (g a s, W (step a s)) ∧ I (step a s)) →
    lcGo own bind test elt wipe (xs.map φ) acc (W s) = .ok (acc ++ goV g step xs s, W (goS step xs s)) ∧ I (goS step xs s)
  | [], acc, s, hi, _ => ⟨by
      show Res.ok (acc, W s) = _
      rw [show goV g step [] s = [] from rfl, List.append_nil]
      rfl, hi⟩
  | a :: r, acc, s, hi, h => by
    obtain ⟨h1, h2⟩ := h a List.mem_cons_self s hi
    rw [List.map_cons, lcGo_cons, h1, bind_ok]
    obtain ⟨h3, h4⟩ := lcGo_st r (acc ++ (g a s).toList) (step a s) h2 fun b hb => h b (List.mem_cons_of_mem _ hb)
    refine ⟨?_, h4⟩
    rw [h3]
    show Res.ok (acc ++ (g a s).toList ++ goV g step r (step a s), _) = Res.ok (acc ++ ((g a s).toList ++ goV g step r (step a s)), _)
    rw [List.append_assoc]
    rfl
theorem lcGo_fm {w : Env} {g : α → Option PV} : ∀ (xs : List α) (acc : List PV), (∀ a ∈ xs, lcTurn bind test elt wipe (φ a) w = .ok (g a, w)) → lcGo own bind test elt wipe (xs.map φ) acc w = .ok (acc ++ xs.filterMap g, w)
  | [], acc, _ => by
    show Res.ok (acc, w) = _
    rw [List.filterMap_nil, List.append_nil]
  | a :: r, acc, h => by
    rw [List.map_cons, lcGo_cons, h a List.mem_cons_self, bind_ok]
    show lcGo own bind test elt wipe (r.map φ) (acc ++ (g a).toList) w = _
    rw [lcGo_fm r _ fun b hb => h b (List.mem_cons_of_mem _ hb), List.filterMap_cons]
    cases g a with
    | none => simp
    | some q => simp
theorem lcGo_map {w : Env} {g : α → PV} (xs : List α) (acc : List PV) (h : ∀ a ∈ xs, lcTurn bind test elt wipe (φ a) w = .ok (some (g a), w)) : lcGo own bind test elt wipe (xs.map φ) acc w = .ok (acc ++ xs.map g, w) := by
  rw [lcGo_fm (g := fun a => some (g a)) xs acc h]
  congr 3
  induction xs with
  | nil => rfl
  | cons a r ih => rw [List.filterMap_cons, List.map_cons, ih fun b hb => h b (List.mem_cons_of_mem _ hb)]
theorem lcGo_filter {w : Env} {p : α → Bool} {g : α → PV} (xs : List α) (acc : List PV) (h : ∀ a ∈ xs, lcTurn bind test elt wipe (φ a) w = .ok (if p a then some (g a) else none, w)) : lcGo own bind test elt wipe (xs.map φ) acc w = .ok (acc ++ (xs.filter p).map g, w) := by
  rw [lcGo_fm (g := fun a => if p a then some (g a) else none) xs acc h]
  congr 3
  clear h
  induction xs with
  | nil => rfl
  | cons a r ih =>
    rw [List.filterMap_cons, List.filter_cons]
    cases p a with
    | true => simp [ih]
    | false => simp [ih]
/-- two clauses -/
theorem lc2Go_map {inner : Env → List PV → Res (List PV × Env)} {w : Env} {g : α → List PV} : ∀ (xs : List α) (acc : List PV), (∀ a ∈ xs, ∀ acc, ((bind (φ a) w).bind fun e1 => (test e1).bind fun b => match b.1 with
      | true => (inner b.2 acc).bind fun r => .ok (r.1, wipe r.2)
      | false => .ok (acc, wipe b.2)) = .ok (acc ++ g a, w)) → lc2Go own bind test inner wipe (xs.map φ) acc w = .ok (acc ++ (xs.map g).flatten, w)
  | [], acc, _ => by
    show Res.ok (acc, w) = _
    simp
  | a :: r, acc, h => by
    have e : lc2Go own bind test inner wipe ((a :: r).map φ) acc w = (((bind (φ a) w).bind fun e1 => (test e1).bind fun b => match b.1 with
      | true => (inner b.2 acc).bind fun r => .ok (r.1, wipe r.2)
      | false => .ok (acc, wipe b.2))).bind fun q => lc2Go own bind test inner wipe (r.map φ) q.1 q.2 := by
      show ((bind (φ a) w).bind fun e1 => (test e1).bind fun b => match b.1 with
        | true => (inner b.2 acc).bind fun q => lc2Go own bind test inner wipe (r.map φ) q.1 (wipe q.2)
        | false => lc2Go own bind test inner wipe (r.map φ) acc (wipe b.2)) = _
      rw [Res.assoc]
      congr 1; funext e1
      rw [Res.assoc]
      congr 1; funext b
      cases b.1 with
      | true =>
        dsimp only
        rw [Res.assoc]
        rfl
      | false => rfl
    rw [e, h a List.mem_cons_self, bind_ok, lc2Go_map r _ fun b hb => h b (List.mem_cons_of_mem _ hb)]
    simp
theorem dkGo_map {fe : Env → Res (RV × Env)} {w : Env} {g : α → Int} : ∀ (xs : List α) (acc : List Int), (∀ a ∈ xs, ((bind (φ a) w).bind fun e1 => (test e1).bind fun b => match b.1 with
      | true => (fe b.2).bind fun r => match r.1 with
        | .val (.int k) => .ok (some k, wipe r.2)
        | _ => .stuck
      | false => .ok (none, wipe b.2)) = .ok (some (g a), w)) → dkGo bind test fe wipe (xs.map φ) acc w = .ok ((xs.map g).foldl addK acc, w)
  | [], acc, _ => rfl
  | a :: r, acc, h => by
    have e : dkGo bind test fe wipe ((a :: r).map φ) acc w = (((bind (φ a) w).bind fun e1 => (test e1).bind fun b => match b.1 with
      | true => (fe b.2).bind fun r => match r.1 with
        | .val (.int k) => .ok (some k, wipe r.2)
        | _ => .stuck
      | false => .ok (none, wipe b.2))).bind fun (q : Option Int × Env) => dkGo bind test fe wipe (r.map φ) (match q.1 with | some k => addK acc k | none => acc) q.2 := by
      show ((bind (φ a) w).bind fun e1 => (test e1).bind fun b => match b.1 with
        | true => (fe b.2).bind fun q => match q.1 with
          | .val (.int k) => dkGo bind test fe wipe (r.map φ) (addK acc k) (wipe q.2)
          | _ => .stuck
        | false => dkGo bind test fe wipe (r.map φ) acc (wipe b.2)) = _
      rw [Res.assoc]
      congr 1; funext e1
      rw [Res.assoc]
      congr 1; funext b
      cases b.1 with
      | true =>
        dsimp only
        rw [Res.assoc]
        congr 1; funext q
        obtain ⟨q1, q2⟩ := q
        cases q1 with
        | val z => cases z <;> rfl
        | loc j => rfl
        | new c => rfl
      | false => rfl
    rw [e, h a List.mem_cons_self, bind_ok]
    show dkGo bind test fe wipe (r.map φ) (addK acc (g a)) w = _
    rw [dkGo_map r _ fun b hb => h b (List.mem_cons_of_mem _ hb)]
    rfl
end
section
variable {bind : PV → Env → Res Env} {body : Env → Res (Fl × Env)}
theorem forGo_inv {P : List PV → Env → Prop} : ∀ {items pre : List PV} {env : Env}, (∀ pre' x post, pre ++ items = pre' ++ x :: post → ∀ env, P pre' env → ∃ env' f, (bind x env).bind body = .ok (f, env') ∧ (f = .nx ∨ f = .ct) ∧ P (pre' ++ [x]) env') → P pre env →
    ∃ env', forGo bind body items env = .ok (.nx, env') ∧ P (pre ++ items) env'
  | [], pre, env, _, h => ⟨env, rfl, by rw [List.append_nil]; exact h⟩
  | x :: xs, pre, env, H, h => by
    obtain ⟨e1, f, h1, h2, h3⟩ := H pre x xs rfl env h
    obtain ⟨e2, h4, h5⟩ := forGo_inv (items := xs) (pre := pre ++ [x]) (env := e1) (fun pre' y post e env' p => H pre' y post (by rw [← e]; simp) env' p) h3
    refine ⟨e2, ?_, by rw [List.append_assoc] at h5; exact h5⟩
    show ((bind x env).bind fun e1 => (body e1).bind fun r => match r.1 with
      | .nx => forGo bind body xs r.2
      | .ct => forGo bind body xs r.2
      | .bk => .ok (.nx, r.2)
      | .rt v => .ok (.rt v, r.2)) = _
    rw [← Res.assoc, h1, bind_ok]
    rcases h2 with rfl | rfl <;> exact h4
theorem forGo_all {P : Env → Prop} {items : List PV} {env : Env} (H : ∀ x ∈ items, ∀ env, P env → ∃ env', (bind x env).bind body = .ok (.nx, env') ∧ P env') (h : P env) : ∃ env', forGo bind body items env = .ok (.nx, env') ∧ P env' :=
  forGo_inv (P := fun _ => P) (pre := []) (fun pre' x post e env' p => let ⟨e1, h1, h2⟩ := H x (by rw [show items = pre' ++ x :: post from e]; simp) env' p; ⟨e1, .nx, h1, .inl rfl, h2⟩) h
end
theorem noexc_ok {α : Type} (a : α) : (Res.ok a : Res α).noexc = .ok a := rfl
theorem pl_fz (own : List Nat) (i : Nat) (env : Env) : plainAt env (i :: own) = ((match get env i with
  | none => true
  | some (.fz _) => true
  | _ => false) && plainAt env own) := rfl
theorem pl_nil (env : Env) : plainAt env [] = true := rfl
theorem wp_nil (env : Env) : wipeE env [] = env := rfl
theorem wp_cons (env : Env) (i r) : wipeE env (i :: r) = (wipeE env r).set i none := rfl
theorem rs_nil (old env : Env) : restore old env [] = env := rfl
theorem rs_cons (old env : Env) (i r) : restore old env (i :: r) = (restore old env r).set i (get old i) := rfl
theorem EP : type_of% @noexc_ok ∧ type_of% @pl_fz ∧ type_of% @pl_nil ∧ type_of% @wp_nil ∧ type_of% @wp_cons ∧ type_of% @rs_nil ∧ type_of% @rs_cons :=
  ⟨@noexc_ok, @pl_fz, @pl_nil, @wp_nil, @wp_cons, @rs_nil, @rs_cons⟩
end PL
set_option Elab.async false
set_option linter.all false
set_option maxRecDepth 100000
set_option maxHeartbeats 4000000
namespace PL
open PySem PySem.Spec PyProof.Rows L2
theorem shp_int (i : Int) : shp (.int i) = true := rfl
theorem eqP_int (i j : Int) : eqP (.int i) (.int j) = decide (i = j) := by
  show PyData.eqv (.int i) (.int j) = _
  by_cases h : i = j
  · subst h; simp [PyData.eqv]
  · simp [PyData.eqv, h]
theorem cop_eq_int (i j : Int) : copV .eq (.int i) (.int j) = some (decide (i = j)) := by
  show (if shp (.int i) = true ∧ shp (.int j) = true then some (eqP (.int i) (.int j)) else none) = _
  rw [if_pos ⟨rfl, rfl⟩, eqP_int]
theorem cop_ne_int (i j : Int) : copV .ne (.int i) (.int j) = some (!decide (i = j)) := by
  show (if shp (.int i) = true ∧ shp (.int j) = true then some (!eqP (.int i) (.int j)) else none) = _
  rw [if_pos ⟨rfl, rfl⟩, eqP_int]
theorem tr_non : truP .non = some false := rfl
theorem tr_bl : ∀ b, truP (.bl b) = some b := fun _ => rfl
theorem tr_int : ∀ i, truP (.int i) = some (i != 0) := fun _ => rfl
theorem tr_tup : ∀ xs, truP (.tup xs) = some (!xs.isEmpty) := fun _ => rfl
theorem tr_lst : ∀ xs, truP (.lst xs) = some (!xs.isEmpty) := fun _ => rfl
theorem ln_tup : ∀ xs, lenP (.tup xs) = some xs.length := fun _ => rfl
theorem ln_lst : ∀ xs, lenP (.lst xs) = some xs.length := fun _ => rfl
theorem ln_scr : ∀ xs, lenP (.scr xs) = some xs.length := fun _ => rfl
theorem cp_lt : ∀ i j, copV .lt (.int i) (.int j) = some (decide (i < j)) := fun _ _ => rfl
theorem cp_le : ∀ i j, copV .le (.int i) (.int j) = some (decide (i ≤ j)) := fun _ _ => rfl
theorem cp_gt : ∀ i j, copV .gt (.int i) (.int j) = some (decide (j < i)) := fun _ _ => rfl
theorem cp_ge : ∀ i j, copV .ge (.int i) (.int j) = some (decide (j ≤ i)) := fun _ _ => rfl
theorem cp_eqi : ∀ i j, copV .eq (.int i) (.int j) = some (decide (i = j)) := fun i j => cop_eq_int i j
theorem cp_nei : ∀ i j, copV .ne (.int i) (.int j) = some (!decide (i = j)) := fun i j => cop_ne_int i j
theorem cp_eqb : ∀ i j, copV .eq (.bl i) (.bl j) = some (decide (i = j)) := fun i j => by cases i <;> cases j <;> rfl
theorem cp_neb : ∀ i j, copV .ne (.bl i) (.bl j) = some (!decide (i = j)) := fun i j => by cases i <;> cases j <;> rfl
theorem cp_isb : ∀ i j, copV .is (.bl i) (.bl j) = some (decide (i = j)) := fun _ _ => rfl
theorem cp_isnb : ∀ i j, copV .isn (.bl i) (.bl j) = some (!decide (i = j)) := fun _ _ => rfl
theorem is_non : copV .is (.non) .non = some true := rfl
theorem isn_non : copV .isn (.non) .non = some false := rfl
theorem ii_non_int : isiP (.non) "int" = some false := rfl
theorem ii_non_bool : isiP (.non) "bool" = some false := rfl
theorem ii_non_str : isiP (.non) "str" = some false := rfl
theorem ii_non_tuple : isiP (.non) "tuple" = some false := rfl
theorem ii_non_list : isiP (.non) "list" = some false := rfl
theorem ii_non_dict : isiP (.non) "dict" = some false := rfl
theorem is_bl : ∀ a, copV .is (.bl a) .non = some false := fun _ => rfl
theorem isn_bl : ∀ a, copV .isn (.bl a) .non = some true := fun _ => rfl
theorem ii_bl_int : ∀ a, isiP (.bl a) "int" = some true := fun _ => rfl
theorem ii_bl_bool : ∀ a, isiP (.bl a) "bool" = some true := fun _ => rfl
theorem ii_bl_str : ∀ a, isiP (.bl a) "str" = some false := fun _ => rfl
theorem ii_bl_tuple : ∀ a, isiP (.bl a) "tuple" = some false := fun _ => rfl
theorem ii_bl_list : ∀ a, isiP (.bl a) "list" = some false := fun _ => rfl
theorem ii_bl_dict : ∀ a, isiP (.bl a) "dict" = some false := fun _ => rfl
theorem is_int : ∀ a, copV .is (.int a) .non = some false := fun _ => rfl
theorem isn_int : ∀ a, copV .isn (.int a) .non = some true := fun _ => rfl
theorem ii_int_int : ∀ a, isiP (.int a) "int" = some true := fun _ => rfl
theorem ii_int_bool : ∀ a, isiP (.int a) "bool" = some false := fun _ => rfl
theorem ii_int_str : ∀ a, isiP (.int a) "str" = some false := fun _ => rfl
theorem ii_int_tuple : ∀ a, isiP (.int a) "tuple" = some false := fun _ => rfl
theorem ii_int_list : ∀ a, isiP (.int a) "list" = some false := fun _ => rfl
theorem ii_int_dict : ∀ a, isiP (.int a) "dict" = some false := fun _ => rfl
theorem is_str : ∀ a, copV .is (.str a) .non = some false := fun _ => rfl
theorem isn_str : ∀ a, copV .isn (.str a) .non = some true := fun _ => rfl
theorem ii_str_int : ∀ a, isiP (.str a) "int" = some false := fun _ => rfl
theorem ii_str_bool : ∀ a, isiP (.str a) "bool" = some false := fun _ => rfl
theorem ii_str_str : ∀ a, isiP (.str a) "str" = some true := fun _ => rfl
theorem ii_str_tuple : ∀ a, isiP (.str a) "tuple" = some false := fun _ => rfl
theorem ii_str_list : ∀ a, isiP (.str a) "list" = some false := fun _ => rfl
theorem ii_str_dict : ∀ a, isiP (.str a) "dict" = some false := fun _ => rfl
theorem is_tup : ∀ a, copV .is (.tup a) .non = some false := fun _ => rfl
theorem isn_tup : ∀ a, copV .isn (.tup a) .non = some true := fun _ => rfl
theorem ii_tup_int : ∀ a, isiP (.tup a) "int" = some false := fun _ => rfl
theorem ii_tup_bool : ∀ a, isiP (.tup a) "bool" = some false := fun _ => rfl
theorem ii_tup_str : ∀ a, isiP (.tup a) "str" = some false := fun _ => rfl
theorem ii_tup_tuple : ∀ a, isiP (.tup a) "tuple" = some true := fun _ => rfl
theorem ii_tup_list : ∀ a, isiP (.tup a) "list" = some false := fun _ => rfl
theorem ii_tup_dict : ∀ a, isiP (.tup a) "dict" = some false := fun _ => rfl
theorem is_lst : ∀ a, copV .is (.lst a) .non = some false := fun _ => rfl
theorem isn_lst : ∀ a, copV .isn (.lst a) .non = some true := fun _ => rfl
theorem ii_lst_int : ∀ a, isiP (.lst a) "int" = some false := fun _ => rfl
theorem ii_lst_bool : ∀ a, isiP (.lst a) "bool" = some false := fun _ => rfl
theorem ii_lst_str : ∀ a, isiP (.lst a) "str" = some false := fun _ => rfl
theorem ii_lst_tuple : ∀ a, isiP (.lst a) "tuple" = some false := fun _ => rfl
theorem ii_lst_list : ∀ a, isiP (.lst a) "list" = some true := fun _ => rfl
theorem ii_lst_dict : ∀ a, isiP (.lst a) "dict" = some false := fun _ => rfl
theorem bo_add : ∀ i j, bopV .add (.int i) (.int j) = some (.sc (.int (i + j))) := fun _ _ => rfl
theorem bo_sub : ∀ i j, bopV .sub (.int i) (.int j) = some (.sc (.int (i - j))) := fun _ _ => rfl
theorem bo_mul : ∀ i j, mulOk i j = true → bopV .mul (.int i) (.int j) = some (.sc (.int (i * j))) := fun i j h => if_pos h
theorem bo_mod : ∀ i j, j ≠ 0 → bopV .mod (.int i) (.int j) = some (.sc (.int (i.fmod j))) := fun i j h => if_pos h
theorem bo_fdiv : ∀ i j, j ≠ 0 → Builtin.divisionGoesByPylong i j = false → bopV .fdiv (.int i) (.int j) = some (.sc (.int (i.fdiv j))) := fun i j h h2 => if_pos ⟨h, h2⟩
theorem bo_addt : ∀ xs ys, xs.length + ys.length ≤ sizeLine → bopV .add (.tup xs) (.tup ys) = some (.tup (xs ++ ys)) := fun i j h => if_pos h
theorem bo_addl : ∀ xs ys, xs.length + ys.length ≤ sizeLine → bopV .add (.lst xs) (.lst ys) = some (.lst (xs ++ ys)) := fun i j h => if_pos h
theorem ix_tup : ∀ xs i, ixP (.tup xs) (.int i) = atI xs i := fun _ _ => rfl
theorem ix_lst : ∀ xs i, ixP (.lst xs) (.int i) = atI xs i := fun _ _ => rfl
theorem it_tup : ∀ xs, itemsP (.tup xs) = some xs := fun _ => rfl
theorem it_lst : ∀ xs, itemsP (.lst xs) = some xs := fun _ => rfl
theorem it_scr : ∀ xs, itemsP (.scr xs) = some (xs.map .int) := fun _ => rfl
theorem io_add : ∀ i j, iopV .add (.int i) (.int j) = some (.int (i + j)) := fun _ _ => rfl
theorem io_sub : ∀ i j, iopV .sub (.int i) (.int j) = some (.int (i - j)) := fun _ _ => rfl
theorem its_eq : ∀ e env, itsV e env = (e env).bind fun r => (optR (take r.1 r.2)).bind fun r => (optR (itemsP r.1)).bind fun xs => .ok (xs, r.2) := fun _ _ => rfl
theorem tru_eq : ∀ e env, truV e env = (e env).bind fun r => (optR (rd r.2 r.1)).bind fun p => (optR (truP p)).bind fun b => .ok (b, r.2) := fun _ _ => rfl
/-- a range, behind its arguments -/
def rngB (r : List RV × Env) : Res (List PV × Env) := match r.1 with
  | [.val (.int j)] => if bnd j ∧ j.toNat ≤ sizeLine then .ok (rangeP 0 j.toNat, r.2) else .stuck
  | [.val (.int i), .val (.int j)] => if bnd i ∧ bnd j ∧ (j - i).toNat ≤ sizeLine then .ok (rangeP i (j - i).toNat, r.2) else .stuck
  | _ => .stuck
theorem rng_eq : ∀ (h : Env → Res (List RV × Env)) env, rngV h env = (h env).bind rngB := fun _ _ => rfl
theorem zip_eq : ∀ h env, zipV h env = (h env).bind fun r => match r.1 with | [.lst xs, .lst ys] => .ok (zipP xs ys, r.2) | [.tup xs, .tup ys] => .ok (zipP xs ys, r.2) | _ => .stuck := fun _ _ => rfl
theorem enu_eq : ∀ h env, enuV h env = (h env).bind fun r => match r.1 with | [.lst xs] => .ok (enumP 0 xs, r.2) | _ => .stuck := fun _ _ => rfl
theorem isf_fz : ∀ p, isFz (.fz p) = true := fun _ => rfl
theorem isf_lst : ∀ p, isFz (.lst p) = false := fun _ => rfl
theorem io_val : ∀ p r, isOwn (.val p :: r) = false := fun _ _ => rfl
theorem io_own : ∀ p r, isOwn (.own p :: r) = true := fun _ _ => rfl
theorem io_nil : isOwn [] = false := rfl
theorem ed_nx : ∀ args env, endDef args (.ok (.nx, env)) = if isOwn args = true then (match get env 0 with | some c => if isFz c = true then .stuck else .ok (.val .non) (some c) | none => .stuck) else .ok (.val .non) none := fun _ _ => rfl
theorem ed_rv : ∀ args env p, endDef args (.ok (.rt (.val p), env)) = if isOwn args = true then (match get env 0 with | some c => if isFz c = true then .stuck else .ok (.val p) (some c) | none => .stuck) else .ok (.val p) none := fun _ _ _ => rfl
theorem ed_rn : ∀ args env p, endDef args (.ok (.rt (.new p), env)) = if isOwn args = true then (match get env 0 with | some c => if isFz c = true then .stuck else .ok (.new p) (some c) | none => .stuck) else .ok (.new p) none := fun _ _ _ => rfl
theorem ed_ex : ∀ args C fs env, endDef args (.exc C fs env) = .exc C fs := fun _ _ _ _ => rfl
theorem rd_eq : ∀ F d args, runD F d args = if args.length = d.np ∧ d.np ≤ d.ns then endDef args (evSs F d.body (env0 d args)) else .stuck := fun _ _ _ => rfl
theorem e0_eq : ∀ d args, env0 d args = args.map (fun a => some (cellOf a)) ++ List.replicate (d.ns - d.np) none := fun _ _ => rfl
theorem co_v : ∀ p, cellOf (.val p) = .fz p := fun _ => rfl
theorem co_o : ∀ p, cellOf (.own p) = p := fun _ => rfl
theorem lend_l : ∀ env i, lend env i = match get env i with
  | some (.fz _) => .stuck
  | some c => .ok c
  | none => .stuck := fun _ _ => rfl
theorem sem_fn : ∀ (P : Prog) n, (P.sem n).fn = evF P n := fun _ _ => rfl
theorem sem_con : ∀ (P : Prog) n, (P.sem n).con = P.con := fun _ _ => rfl
theorem sem_sub : ∀ (P : Prog) n, (P.sem n).sub = P.sub := fun _ _ => rfl
theorem li_len0 {α : Type} : ([] : List α).length = 0 := rfl
theorem li_len {α : Type} (a : α) (l : List α) : (a :: l).length = l.length + 1 := rfl
theorem li_rep0 {α : Type} (a : α) : List.replicate 0 a = [] := rfl
theorem li_repS {α : Type} (a : α) (n : Nat) : List.replicate (n + 1) a = a :: List.replicate n a := rfl
theorem li_app0 {α : Type} (l : List α) : [] ++ l = l := rfl
theorem li_appc {α : Type} (a : α) (l m : List α) : (a :: l) ++ m = a :: (l ++ m) := rfl
theorem li_map0 {α β : Type} (f : α → β) : [].map f = [] := rfl
theorem li_mapc {α β : Type} (f : α → β) (a : α) (l : List α) : (a :: l).map f = f a :: l.map f := rfl
theorem op_mapS {α β : Type} (f : α → β) (a : α) : (some a).map f = some (f a) := rfl
theorem RV0 : type_of% @tr_non ∧ type_of% @tr_bl ∧ type_of% @tr_int ∧ type_of% @tr_tup ∧ type_of% @tr_lst ∧ type_of% @ln_tup ∧ type_of% @ln_lst ∧ type_of% @ln_scr ∧ type_of% @cp_lt ∧ type_of% @cp_le ∧ type_of% @cp_gt ∧ type_of% @cp_ge ∧ type_of% @cp_eqi ∧ type_of% @cp_nei ∧ type_of% @cp_eqb ∧ type_of% @cp_neb ∧ type_of% @cp_isb ∧ type_of% @cp_isnb ∧ type_of% @is_non ∧ type_of% @isn_non ∧ type_of% @ii_non_int ∧ type_of% @ii_non_bool ∧ type_of% @ii_non_str ∧ type_of% @ii_non_tuple ∧ type_of% @ii_non_list ∧ type_of% @ii_non_dict ∧ type_of% @is_bl ∧ type_of% @isn_bl ∧ type_of% @ii_bl_int ∧ type_of% @ii_bl_bool ∧ type_of% @ii_bl_str ∧ type_of% @ii_bl_tuple ∧ type_of% @ii_bl_list ∧ type_of% @ii_bl_dict ∧ type_of% @is_int ∧ type_of% @isn_int ∧ type_of% @ii_int_int ∧ type_of% @ii_int_bool ∧ type_of% @ii_int_str ∧ type_of% @ii_int_tuple :=
  ⟨@tr_non, @tr_bl, @tr_int, @tr_tup, @tr_lst, @ln_tup, @ln_lst, @ln_scr, @cp_lt, @cp_le, @cp_gt, @cp_ge, @cp_eqi, @cp_nei, @cp_eqb, @cp_neb, @cp_isb, @cp_isnb, @is_non, @isn_non, @ii_non_int, @ii_non_bool, @ii_non_str, @ii_non_tuple, @ii_non_list, @ii_non_dict, @is_bl, @isn_bl, @ii_bl_int, @ii_bl_bool, @ii_bl_str, @ii_bl_tuple, @ii_bl_list, @ii_bl_dict, @is_int, @isn_int, @ii_int_int, @ii_int_bool, @ii_int_str, @ii_int_tuple⟩
theorem RV1 : type_of% @ii_int_list ∧ type_of% @ii_int_dict ∧ type_of% @is_str ∧ type_of% @isn_str ∧ type_of% @ii_str_int ∧ type_of% @ii_str_bool ∧ type_of% @ii_str_str ∧ type_of% @ii_str_tuple ∧ type_of% @ii_str_list ∧ type_of% @ii_str_dict ∧ type_of% @is_tup ∧ type_of% @isn_tup ∧ type_of% @ii_tup_int ∧ type_of% @ii_tup_bool ∧ type_of% @ii_tup_str ∧ type_of% @ii_tup_tuple ∧ type_of% @ii_tup_list ∧ type_of% @ii_tup_dict ∧ type_of% @is_lst ∧ type_of% @isn_lst ∧ type_of% @ii_lst_int ∧ type_of% @ii_lst_bool ∧ type_of% @ii_lst_str ∧ type_of% @ii_lst_tuple ∧ type_of% @ii_lst_list ∧ type_of% @ii_lst_dict ∧ type_of% @bo_add ∧ type_of% @bo_sub ∧ type_of% @bo_mul ∧ type_of% @bo_mod ∧ type_of% @bo_fdiv ∧ type_of% @bo_addt ∧ type_of% @bo_addl ∧ type_of% @ix_tup ∧ type_of% @ix_lst ∧ type_of% @it_tup ∧ type_of% @it_lst ∧ type_of% @it_scr ∧ type_of% @io_add ∧ type_of% @io_sub :=
  ⟨@ii_int_list, @ii_int_dict, @is_str, @isn_str, @ii_str_int, @ii_str_bool, @ii_str_str, @ii_str_tuple, @ii_str_list, @ii_str_dict, @is_tup, @isn_tup, @ii_tup_int, @ii_tup_bool, @ii_tup_str, @ii_tup_tuple, @ii_tup_list, @ii_tup_dict, @is_lst, @isn_lst, @ii_lst_int, @ii_lst_bool, @ii_lst_str, @ii_lst_tuple, @ii_lst_list, @ii_lst_dict, @bo_add, @bo_sub, @bo_mul, @bo_mod, @bo_fdiv, @bo_addt, @bo_addl, @ix_tup, @ix_lst, @it_tup, @it_lst, @it_scr, @io_add, @io_sub⟩
theorem RV2 : type_of% @its_eq ∧ type_of% @tru_eq ∧ type_of% @rng_eq ∧ type_of% @zip_eq ∧ type_of% @enu_eq ∧ type_of% @isf_fz ∧ type_of% @isf_lst ∧ type_of% @io_val ∧ type_of% @io_own ∧ type_of% @io_nil ∧ type_of% @ed_nx ∧ type_of% @ed_rv ∧ type_of% @ed_rn ∧ type_of% @ed_ex ∧ type_of% @rd_eq ∧ type_of% @e0_eq ∧ type_of% @co_v ∧ type_of% @co_o ∧ type_of% @lend_l ∧ type_of% @sem_fn ∧ type_of% @sem_con ∧ type_of% @sem_sub ∧ type_of% @li_len0 ∧ type_of% @li_len ∧ type_of% @li_rep0 ∧ type_of% @li_repS ∧ type_of% @li_app0 ∧ type_of% @li_appc ∧ type_of% @li_map0 ∧ type_of% @li_mapc ∧ type_of% @op_mapS ∧ type_of% @Bool.not_true ∧ type_of% @Bool.not_false ∧ type_of% @Bool.true_and ∧ type_of% @Bool.false_and ∧ type_of% @Bool.and_true ∧ type_of% @Bool.and_false :=
  ⟨@its_eq, @tru_eq, @rng_eq, @zip_eq, @enu_eq, @isf_fz, @isf_lst, @io_val, @io_own, @io_nil, @ed_nx, @ed_rv, @ed_rn, @ed_ex, @rd_eq, @e0_eq, @co_v, @co_o, @lend_l, @sem_fn, @sem_con, @sem_sub, @li_len0, @li_len, @li_rep0, @li_repS, @li_app0, @li_appc, @li_map0, @li_mapc, @op_mapS, @Bool.not_true, @Bool.not_false, @Bool.true_and, @Bool.false_and, @Bool.and_true, @Bool.and_false⟩
/-- all of a run -/
theorem RU : type_of% @EV ∧ type_of% @EL ∧ type_of% @ES ∧ type_of% @EO ∧ type_of% @EB ∧ type_of% @EP ∧ type_of% @RV0 ∧ type_of% @RV1 ∧ type_of% @RV2 :=
  ⟨@EV, @EL, @ES, @EO, @EB, @EP, @RV0, @RV1, @RV2⟩
end PL
set_option Elab.async false
set_option linter.all false
set_option maxRecDepth 100000
set_option maxHeartbeats 4000000
namespace PL
open PySem PySem.Spec PyProof.Rows L2
/-! ### what each law's own helpers do -/
def h_draw : Def := ⟨2, 4, (.cons (.ite (.and (.cmp .eq (.ix (.var 0) (.con (.int (2)))) (.con (.int (0)))) (.cmp .lt (.ix (.var 0) (.con (.int (1)))) (.blt "len" (.cons (.ix (.var 0) (.con (.int (0)))) .nil)))) (.cons (.asg (.nm 2) (.ix (.ix (.var 0) (.con (.int (0)))) (.ix (.var 0) (.con (.int (1))))))
  (.cons (.asg (.ix (.var 0) (.con (.int (1)))) (.bop .add (.ix (.var 0) (.con (.int (1)))) (.con (.int (1)))))
  (.cons (.ite (.cmp .ge (.var 2) (.bop .pow (.con (.int (10))) (.con (.int (18))))) (.cons (.asg (.ix (.var 0) (.con (.int (2)))) (.var 2))
  .nil) .nil)
  (.cons (.asg (.ix (.var 0) (.con (.int (3)))) (.bop .mod (.blt "int" (.cons (.bop .add (.bop .add (.bop .mul (.ix (.var 0) (.con (.int (3)))) (.con (.int (48271)))) (.var 2)) (.con (.int (13)))) .nil)) (.con (.int (2147483647)))))
  .nil)))) .nil)
  (.cons (.ite (.cmp .gt (.ix (.var 0) (.con (.int (2)))) (.con (.int (0)))) (.cons (.asg (.nm 3) (.bop .mod (.blt "int" (.cons (.ix (.var 0) (.con (.int (2)))) .nil)) (.var 1)))
  (.cons (.asg (.ix (.var 0) (.con (.int (2)))) (.bop .fdiv (.ix (.var 0) (.con (.int (2)))) (.var 1)))
  (.cons (.ret (.var 3))
  .nil))) .nil)
  (.cons (.asg (.ix (.var 0) (.con (.int (3)))) (.bop .mod (.blt "int" (.cons (.bop .add (.bop .mul (.ix (.var 0) (.con (.int (3)))) (.con (.int (69621)))) (.con (.int (7)))) .nil)) (.con (.int (2147483629)))))
  (.cons (.ret (.bop .mod (.blt "int" (.cons (.bop .fdiv (.ix (.var 0) (.con (.int (3)))) (.con (.int (11)))) .nil)) (.var 1)))
  .nil))))⟩
def h_same : Def := ⟨2, 3, (.cons (.ite (.or (.blt "isinstance" (.cons (.var 1) (.cons (.con (.ty "tuple")) .nil))) (.blt "isinstance" (.cons (.var 1) (.cons (.con (.ty "list")) .nil)))) (.cons (.ite (.or (.cmp .ne (.blt "isinstance" (.cons (.var 1) (.cons (.con (.ty "tuple")) .nil))) (.blt "isinstance" (.cons (.var 0) (.cons (.con (.ty "tuple")) .nil)))) (.cmp .ne (.blt "isinstance" (.cons (.var 1) (.cons (.con (.ty "list")) .nil))) (.blt "isinstance" (.cons (.var 0) (.cons (.con (.ty "list")) .nil))))) (.cons (.ret (.con (.bl false)))
  .nil) .nil)
  (.cons (.ite (.cmp .ne (.blt "len" (.cons (.var 0) .nil)) (.blt "len" (.cons (.var 1) .nil))) (.cons (.ret (.con (.bl false)))
  .nil) .nil)
  (.cons (.ret (.cmp .eq (.blt "len" (.cons (.lc [2] (.nm 2) (.blt "range" (.cons (.blt "len" (.cons (.var 1) .nil)) .nil)) (.not (.call "_law_same" (.cons (.ix (.var 0) (.var 2)) (.cons (.ix (.var 1) (.var 2)) .nil)))) (.var 2)) .nil)) (.con (.int (0)))))
  .nil))) .nil)
  (.cons (.ite (.blt "isinstance" (.cons (.var 1) (.cons (.con (.ty "str")) .nil))) (.cons (.ret (.and (.blt "isinstance" (.cons (.var 0) (.cons (.con (.ty "str")) .nil))) (.cmp .eq (.var 0) (.var 1))))
  .nil) .nil)
  (.cons (.ite (.cmp .is (.var 1) (.con .non)) (.cons (.ret (.cmp .is (.var 0) (.con .non)))
  .nil) .nil)
  (.cons (.ite (.or (.blt "isinstance" (.cons (.var 1) (.cons (.con (.ty "bool")) .nil))) (.blt "isinstance" (.cons (.var 0) (.cons (.con (.ty "bool")) .nil)))) (.cons (.ret (.and (.blt "isinstance" (.cons (.var 1) (.cons (.con (.ty "bool")) .nil))) (.and (.blt "isinstance" (.cons (.var 0) (.cons (.con (.ty "bool")) .nil))) (.cmp .eq (.var 0) (.var 1)))))
  .nil) .nil)
  (.cons (.ret (.and (.blt "isinstance" (.cons (.var 0) (.cons (.con (.ty "int")) .nil))) (.and (.blt "isinstance" (.cons (.var 1) (.cons (.con (.ty "int")) .nil))) (.cmp .eq (.var 0) (.var 1)))))
  .nil)))))⟩
theorem mulOk_of {i j : Int} (h1 : i.natAbs < 2 ^ 1000) (h2 : j.natAbs < 2 ^ 1000) : mulOk i j = true := by
  unfold mulOk
  rw [decide_eq_true_iff]
  have a : i.natAbs.log2 ≤ 1000 := by
    by_cases z : i.natAbs = 0
    · rw [z]; decide
    · exact Nat.le_of_lt ((Nat.log2_lt z).2 h1)
  have b : j.natAbs.log2 ≤ 1000 := by
    by_cases z : j.natAbs = 0
    · rw [z]; decide
    · exact Nat.le_of_lt ((Nat.log2_lt z).2 h2)
  omega
theorem pyl_of {x y : Int} (h : y.natAbs < 2 ^ 1000) : Builtin.divisionGoesByPylong x y = false := by
  have b : y.natAbs.log2 ≤ 1000 := by
    by_cases z : y.natAbs = 0
    · rw [z]; decide
    · exact Nat.le_of_lt ((Nat.log2_lt z).2 h)
  unfold Builtin.divisionGoesByPylong
  have e : decide ((if (y == 0) = true then 0 else y.natAbs.log2 / 30 + 1) > 300) = false := by
    rw [decide_eq_false_iff_not]
    split <;> omega
  simp only [e, Bool.false_and]
theorem pow_le (a b : Nat) (h : a ≤ 2 ^ 64) : a < 2 ^ 1000 := Nat.lt_of_le_of_lt h (by decide)
theorem sz1 {n : Nat} (h : n ≤ 16000000) : n ≤ sizeLine := by rw [sizeLine_eq]; omega
theorem ix_at {xs : List PV} {j : Nat} {v : PV} (h : xs[j]? = some v) : atI xs (j : Int) = some v := atI_nat h
/-- the state of the draws -/
structure DS where
  xs : List Int
  pos : Nat
  big : Int
  seed : Int
def DS.ok (d : DS) : Prop := d.xs.length ≤ 63 ∧ 0 ≤ d.big ∧ 0 ≤ d.seed ∧ d.seed < 2147483647
def cellD (d : DS) : Cell := .lst [.lst (d.xs.map .int), .int d.pos, .int d.big, .int d.seed]
theorem at0 (a b c d : PV) : atI [a, b, c, d] 0 = some a := rfl
theorem at1 (a b c d : PV) : atI [a, b, c, d] 1 = some b := rfl
theorem at2 (a b c d : PV) : atI [a, b, c, d] 2 = some c := rfl
theorem at3 (a b c d : PV) : atI [a, b, c, d] 3 = some d := rfl
theorem ix4 (i : Int) (n : Nat) (h : ixN 4 i = some n) : ixN 4 i = some n := h
theorem fmod_rng {a b : Int} (h : 0 < b) : 0 ≤ a.fmod b ∧ a.fmod b < b := ⟨Int.fmod_nonneg_of_pos a h, Int.fmod_lt_of_pos a h⟩
theorem pow18 : bopV .pow (.int 10) (.int 18) = some (.sc (.int 1000000000000000000)) := by
  show (if (0 : Int) ≤ 18 ∧ (18 : Int) ≤ 1000000 ∧ (10 : Int).natAbs < 2 ^ 64 then some (VR.sc (.int (10 ^ (18 : Int).toNat))) else none) = _
  rw [if_pos (by decide)]
  rfl
theorem ix40 : ixN 4 0 = some 0 := rfl
theorem ix41 : ixN 4 1 = some 1 := rfl
theorem ix42 : ixN 4 2 = some 2 := rfl
theorem ix43 : ixN 4 3 = some 3 := rfl
theorem ls0 {α : Type} (a b : α) (l : List α) : List.set (a :: l) 0 b = b :: l := rfl
theorem lsS {α : Type} (a b : α) (l : List α) (n : Nat) : List.set (a :: l) (n + 1) b = a :: List.set l n b := rfl
theorem seedOk {a c : Int} (h : 0 ≤ a ∧ a < 2147483647) (hc : c.natAbs < 2 ^ 64) : mulOk a c = true := mulOk_of (pow_le _ 0 (by omega)) (pow_le _ 0 (by omega))
theorem draw_ex (d : DS) (L : Int) (hd : d.ok) (hL : 1 ≤ L ∧ L ≤ 1000000) : ∃ p : Int × DS, (∀ F, runD F h_draw [.own (cellD d), .val (.int L)] = .ok (.val (.int p.1)) (some (cellD p.2))) ∧ 0 ≤ p.1 ∧ p.1 < L ∧ p.2.ok := by
  obtain ⟨h1, h2, h3, h4⟩ := hd
  have hL0 : L ≠ 0 := by omega
  have hLs : L.natAbs < 2 ^ 1000 := pow_le _ 0 (by omega)
  have m1 : mulOk d.seed 48271 = true := seedOk ⟨h3, h4⟩ (by decide)
  -- the end, from any state
  have fin : ∀ (d1 : DS) (o : Option Cell), d1.ok → ∃ p : Int × DS, (∀ F, evSs F (match h_draw.body with | .cons _ r => r | r => r) [some (cellD d1), some (.fz (.int L)), o, none] = .ok (.rt (.val (.int p.1)), [some (cellD p.2), some (.fz (.int L)), o, (if 0 < d1.big then some (.fz (.int p.1)) else none)])) ∧ 0 ≤ p.1 ∧ p.1 < L ∧ p.2.ok := by
    intro d1 o ⟨k1, k2, k3, k4⟩
    by_cases hb : 0 < d1.big
    · refine ⟨(d1.big.fmod L, ⟨d1.xs, d1.pos, d1.big.fdiv L, d1.seed⟩), fun F => ?_, (fmod_rng (by omega)).1, (fmod_rng (by omega)).2, k1, ?_, k3, k4⟩
      · simp only [↓toB, RU, Nat.reduceAdd, Nat.reduceSub, Nat.reduceLT, Nat.reduceLeDiff, Nat.reduceEqDiff, true_and, and_true, if_true, if_false, reduceIte, Bool.false_eq_true, reduceCtorEq, Int.reduceNeg, h_draw, cellD, at0, at1, at2, at3, hb, decide_true, ix40, ix41, ix42, ix43, ls0, lsS, bo_mod _ _ hL0, bo_fdiv _ _ hL0 (pyl_of hLs)]
      · exact Int.fdiv_nonneg k2 (by omega)
    · have m2 : mulOk d1.seed 69621 = true := seedOk ⟨k3, k4⟩ (by decide)
      have rg := fmod_rng (a := d1.seed * 69621 + 7) (b := 2147483629) (by decide)
      refine ⟨((((d1.seed * 69621 + 7).fmod 2147483629).fdiv 11).fmod L, ⟨d1.xs, d1.pos, d1.big, (d1.seed * 69621 + 7).fmod 2147483629⟩), fun F => ?_, (fmod_rng (by omega)).1, (fmod_rng (by omega)).2, k1, k2, rg.1, by show (d1.seed * 69621 + 7).fmod 2147483629 < 2147483647; omega⟩
      simp only [↓toB, RU, Nat.reduceAdd, Nat.reduceSub, Nat.reduceLT, Nat.reduceLeDiff, Nat.reduceEqDiff, true_and, and_true, if_true, if_false, reduceIte, Bool.false_eq_true, reduceCtorEq, Int.reduceNeg, h_draw, cellD, at0, at1, at2, at3, hb, decide_false, ix40, ix41, ix42, ix43, ls0, lsS, bo_mod _ _ hL0, bo_mul _ _ m2, bo_mod _ 2147483629 (by decide), bo_fdiv _ 11 (by decide) (pyl_of (x := (d1.seed * 69621 + 7).fmod 2147483629) (pow_le _ 0 (by decide)))]
  -- the first part: a cell is read, or not
  have fst : ∃ (d1 : DS) (o : Option Cell), d1.ok ∧ ∀ F, evS F (match h_draw.body with | .cons s _ => s | _ => .pass) [some (cellD d), some (.fz (.int L)), none, none] = .ok (.nx, [some (cellD d1), some (.fz (.int L)), o, none]) := by
    by_cases hb : d.big = 0
    · by_cases hp : (d.pos : Int) < (d.xs.length : Int)
      · have hp' : d.pos < d.xs.length := by omega
        have e1 : atI (d.xs.map PV.int) (d.pos : Int) = some (.int d.xs[d.pos]) := ix_at (by rw [List.getElem?_map, List.getElem?_eq_getElem hp']; rfl)
        have rg := fmod_rng (a := d.seed * 48271 + d.xs[d.pos] + 13) (b := 2147483647) (by decide)
        by_cases hx : 1000000000000000000 ≤ d.xs[d.pos]
        · refine ⟨⟨d.xs, d.pos + 1, d.xs[d.pos], (d.seed * 48271 + d.xs[d.pos] + 13).fmod 2147483647⟩, some (.fz (.int d.xs[d.pos])), ⟨h1, by show (0 : Int) ≤ d.xs[d.pos]; omega, rg.1, rg.2⟩, fun F => ?_⟩
          simp only [↓toB, RU, Nat.reduceAdd, Nat.reduceSub, Nat.reduceLT, Nat.reduceLeDiff, Nat.reduceEqDiff, true_and, and_true, if_true, if_false, reduceIte, Bool.false_eq_true, reduceCtorEq, Int.reduceNeg, h_draw, cellD, at0, at1, at2, at3, hb, hp, hx, List.length_map, decide_true, ix40, ix41, ix42, ix43, ls0, lsS, bo_mul _ _ m1, bo_mod _ 2147483647 (by decide), e1, pow18]
          rfl
        · refine ⟨⟨d.xs, d.pos + 1, d.big, (d.seed * 48271 + d.xs[d.pos] + 13).fmod 2147483647⟩, some (.fz (.int d.xs[d.pos])), ⟨h1, h2, rg.1, rg.2⟩, fun F => ?_⟩
          simp only [↓toB, RU, Nat.reduceAdd, Nat.reduceSub, Nat.reduceLT, Nat.reduceLeDiff, Nat.reduceEqDiff, true_and, and_true, if_true, if_false, reduceIte, Bool.false_eq_true, reduceCtorEq, Int.reduceNeg, h_draw, cellD, at0, at1, at2, at3, hb, hp, hx, List.length_map, decide_true, decide_false, ix40, ix41, ix42, ix43, ls0, lsS, bo_mul _ _ m1, bo_mod _ 2147483647 (by decide), e1, pow18]
          rfl
      · refine ⟨d, none, ⟨h1, h2, h3, h4⟩, fun F => ?_⟩
        simp only [↓toB, RU, Nat.reduceAdd, Nat.reduceSub, Nat.reduceLT, Nat.reduceLeDiff, Nat.reduceEqDiff, true_and, and_true, if_true, if_false, reduceIte, Bool.false_eq_true, reduceCtorEq, Int.reduceNeg, h_draw, cellD, at0, at1, at2, at3, hb, hp, List.length_map, decide_true, decide_false]
    · refine ⟨d, none, ⟨h1, h2, h3, h4⟩, fun F => ?_⟩
      simp only [↓toB, RU, Nat.reduceAdd, Nat.reduceSub, Nat.reduceLT, Nat.reduceLeDiff, Nat.reduceEqDiff, true_and, and_true, if_true, if_false, reduceIte, Bool.false_eq_true, reduceCtorEq, Int.reduceNeg, h_draw, cellD, at0, at1, at2, at3, hb, decide_false]
  obtain ⟨d1, o, k1, k2⟩ := fst
  obtain ⟨p, q1, q2, q3, q4⟩ := fin d1 o k1
  refine ⟨p, fun F => ?_, q2, q3, q4⟩
  have e : evSs F h_draw.body [some (cellD d), some (.fz (.int L)), none, none] = .ok (.rt (.val (.int p.1)), [some (cellD p.2), some (.fz (.int L)), o, (if 0 < d1.big then some (.fz (.int p.1)) else none)]) := by
    have := k2 F
    have q1 := q1 F
    show (evS F (match h_draw.body with | .cons s _ => s | _ => .pass) _).bind _ = _
    rw [this]
    exact q1
  rw [rd_eq, if_pos ⟨rfl, by decide⟩, show env0 h_draw [.own (cellD d), .val (.int L)] = [some (cellD d), some (.fz (.int L)), none, none] from rfl, e]
  rfl
open Classical in
noncomputable def drawP (d : DS) (L : Int) : Int × DS := if h : d.ok ∧ 1 ≤ L ∧ L ≤ 1000000 then (draw_ex d L h.1 h.2).choose else (0, d)
noncomputable def drawV (d : DS) (L : Int) : Int := (drawP d L).1
noncomputable def drawS (d : DS) (L : Int) : DS := (drawP d L).2
theorem draw_run (F : Sem) {d : DS} {L : Int} (hd : d.ok) (hL : 1 ≤ L ∧ L ≤ 1000000) : runD F h_draw [.own (cellD d), .val (.int L)] = .ok (.val (.int (drawV d L))) (some (cellD (drawS d L))) := by
  unfold drawV drawS drawP
  rw [dif_pos ⟨hd, hL⟩]
  exact (draw_ex d L hd hL).choose_spec.1 F
theorem draw_rng {d : DS} {L : Int} (hd : d.ok) (hL : 1 ≤ L ∧ L ≤ 1000000) : 0 ≤ drawV d L ∧ drawV d L < L := by
  unfold drawV drawP
  rw [dif_pos ⟨hd, hL⟩]
  have := (draw_ex d L hd hL).choose_spec
  exact ⟨this.2.1, this.2.2.1⟩
theorem draw_ok {d : DS} {L : Int} (hd : d.ok) (hL : 1 ≤ L ∧ L ≤ 1000000) : (drawS d L).ok := by
  unfold drawS drawP
  rw [dif_pos ⟨hd, hL⟩]
  exact (draw_ex d L hd hL).choose_spec.2.2.2
theorem rangeP_map : ∀ (n : Nat) (lo : Int), rangeP lo n = (List.range n).map fun (k : Nat) => PV.int (lo + (k : Int))
  | 0, _ => rfl
  | n + 1, lo => by
    show PV.int lo :: rangeP (lo + 1) n = _
    rw [rangeP_map n, List.range_succ_eq_map, List.map_cons, List.map_map]
    congr 1
    · simp
    · apply List.map_congr_left
      intro k _
      show PV.int (lo + 1 + (k : Int)) = PV.int (lo + ((k + 1 : Nat) : Int))
      congr 1
      push_cast
      omega
theorem range0 (n : Nat) : rangeP 0 n = (List.range n).map fun (k : Nat) => PV.int (k : Int) := by
  rw [rangeP_map]
  apply List.map_congr_left
  intro k _
  rw [Int.zero_add]
theorem bnd_of {n : Nat} (h : n ≤ 1000000) : bnd (n : Int) := by
  unfold bnd
  constructor <;> omega
theorem rngN (n : Nat) (env : Env) (h : n ≤ 1000000) : rngB ([.val (.int (n : Int))], env) = .ok ((List.range n).map fun (k : Nat) => PV.int (k : Int), env) := by
  show (if bnd (n : Int) ∧ ((n : Int)).toNat ≤ sizeLine then Res.ok (rangeP 0 ((n : Int)).toNat, env) else .stuck) = _
  rw [if_pos ⟨bnd_of h, by rw [Int.toNat_natCast]; exact sz1 (by omega)⟩, Int.toNat_natCast, range0]
theorem rngNN (m n : Nat) (env : Env) (hm : m ≤ 1000000) (h : n ≤ 1000000) : rngB ([.val (.int (m : Int)), .val (.int (n : Int))], env) = .ok ((List.range (n - m)).map fun (k : Nat) => PV.int ((m + k : Nat) : Int), env) := by
  have e : ((n : Int) - (m : Int)).toNat = n - m := by omega
  show (if bnd (m : Int) ∧ bnd (n : Int) ∧ ((n : Int) - (m : Int)).toNat ≤ sizeLine then Res.ok (rangeP (m : Int) ((n : Int) - (m : Int)).toNat, env) else .stuck) = _
  rw [if_pos ⟨bnd_of hm, bnd_of h, by rw [e]; exact sz1 (by omega)⟩, e, rangeP_map]
  congr 2
/-- values that may be compared by _law_same, d deep -/
def deep : Nat → PV → Prop
  | 0, _ => False
  | d + 1, p => match p with
    | .int _ => True
    | .bl _ => True
    | .non => True
    | .tup xs => xs.length ≤ 1000 ∧ ∀ x ∈ xs, deep d x
    | .lst xs => xs.length ≤ 1000 ∧ ∀ x ∈ xs, deep d x
    | _ => False
theorem len_nil0 {α : Type} : ((([] : List α).length : Nat) : Int) = 0 := rfl
section
variable {Pg : Prog}
theorem same_c (hS : Pg.defs (.fn "_law_same") = some h_same) (n : Nat) (args : List Arg) : evF Pg (n + 1) (.fn "_law_same") args = runD (Pg.sem n) h_same args := by
  show (match Pg.defs (.fn "_law_same") with | some d => runD (Pg.sem n) d args | none => .stuck) = _
  rw [hS]
theorem same_ok (hS : Pg.defs (.fn "_law_same") = some h_same) : ∀ (d : Nat) (p : PV), deep d p → ∀ n, evF Pg (n + d) (.fn "_law_same") [.val p, .val p] = .ok (.val (.bl true)) none
  | 0, _, h, _ => False.elim h
  | d + 1, p, h, n => by
    show evF Pg (n + d + 1) _ _ = _
    rw [same_c hS]
    cases p with
    | int i => simp only [↓toB, RU, Nat.reduceAdd, Nat.reduceSub, Nat.reduceLT, Nat.reduceLeDiff, Nat.reduceEqDiff, true_and, and_true, if_true, if_false, reduceIte, Bool.false_eq_true, reduceCtorEq, Int.reduceNeg, h_same, decide_true]
    | bl i => simp only [↓toB, RU, Nat.reduceAdd, Nat.reduceSub, Nat.reduceLT, Nat.reduceLeDiff, Nat.reduceEqDiff, true_and, and_true, if_true, if_false, reduceIte, Bool.false_eq_true, reduceCtorEq, Int.reduceNeg, h_same, decide_true]
    | non => simp only [↓toB, RU, Nat.reduceAdd, Nat.reduceSub, Nat.reduceLT, Nat.reduceLeDiff, Nat.reduceEqDiff, true_and, and_true, if_true, if_false, reduceIte, Bool.false_eq_true, reduceCtorEq, Int.reduceNeg, h_same, decide_true]
    | tup xs =>
      obtain ⟨h1, h2⟩ := h
      have b := fun env => rngN xs.length env (by omega)
      simp only [↓toB, RU, Nat.reduceAdd, Nat.reduceSub, Nat.reduceLT, Nat.reduceLeDiff, Nat.reduceEqDiff, true_and, and_true, if_true, if_false, reduceIte, Bool.false_eq_true, reduceCtorEq, Int.reduceNeg, h_same, decide_true, decide_false, v_lc, b]
      rw [lcGo_filter (φ := fun k : Nat => PV.int (k : Int)) (p := fun _ => false) (g := fun k => .int k) (List.range xs.length) []]
      · have e : (List.range xs.length).filter (fun _ => false) = [] := List.filter_eq_nil_iff.mpr (by simp)
        simp only [↓toB, RU, Nat.reduceAdd, Nat.reduceSub, Nat.reduceLT, Nat.reduceLeDiff, Nat.reduceEqDiff, true_and, and_true, if_true, if_false, reduceIte, Bool.false_eq_true, reduceCtorEq, Int.reduceNeg, e]
        rfl
      · intro k hk
        have hk : k < xs.length := List.mem_range.mp hk
        have e := ix_at (List.getElem?_eq_getElem hk)
        have ih := same_ok hS d xs[k] (h2 _ (List.getElem_mem hk)) n
        simp only [lcTurn, ↓toB, RU, Nat.reduceAdd, Nat.reduceSub, Nat.reduceLT, Nat.reduceLeDiff, Nat.reduceEqDiff, true_and, and_true, if_true, if_false, reduceIte, Bool.false_eq_true, reduceCtorEq, Int.reduceNeg, e, ih]
    | lst xs =>
      obtain ⟨h1, h2⟩ := h
      have b := fun env => rngN xs.length env (by omega)
      simp only [↓toB, RU, Nat.reduceAdd, Nat.reduceSub, Nat.reduceLT, Nat.reduceLeDiff, Nat.reduceEqDiff, true_and, and_true, if_true, if_false, reduceIte, Bool.false_eq_true, reduceCtorEq, Int.reduceNeg, h_same, decide_true, decide_false, v_lc, b]
      rw [lcGo_filter (φ := fun k : Nat => PV.int (k : Int)) (p := fun _ => false) (g := fun k => .int k) (List.range xs.length) []]
      · have e : (List.range xs.length).filter (fun _ => false) = [] := List.filter_eq_nil_iff.mpr (by simp)
        simp only [↓toB, RU, Nat.reduceAdd, Nat.reduceSub, Nat.reduceLT, Nat.reduceLeDiff, Nat.reduceEqDiff, true_and, and_true, if_true, if_false, reduceIte, Bool.false_eq_true, reduceCtorEq, Int.reduceNeg, e]
        rfl
      · intro k hk
        have hk : k < xs.length := List.mem_range.mp hk
        have e := ix_at (List.getElem?_eq_getElem hk)
        have ih := same_ok hS d xs[k] (h2 _ (List.getElem_mem hk)) n
        simp only [lcTurn, ↓toB, RU, Nat.reduceAdd, Nat.reduceSub, Nat.reduceLT, Nat.reduceLeDiff, Nat.reduceEqDiff, true_and, and_true, if_true, if_false, reduceIte, Bool.false_eq_true, reduceCtorEq, Int.reduceNeg, e, ih]
    | str _ => exact False.elim h
    | ty _ => exact False.elim h
    | scr _ => exact False.elim h
    | obj _ _ => exact False.elim h
end
end PL
namespace PL
open PySem PySem.Spec PyProof.Rows L2
def cfg : Cfg := ⟨["is_whole", "is_table", "look_at_table", "shared", "shared_of", "least_row", "turned", "dot", "times", "product", "cleared", "reduced", "positive", "rank", "_law_draws", "_law_draw", "_law_same", "_law_table", "_law_shared", "_law_bad", "law"], ["_law_draw", "_law_table"], ["FrameError", "BadRows"]⟩
def topS (i : Nat) : Stmt := PySem.Challenge.pw_frameshold_k00_tables_and_least_rows.main.body.getD i (.Pass ⟨0, 0, 0, 0⟩)
def d_is_whole : Def := ⟨1, 1, (.cons (.ret (.and (.blt "isinstance" (.cons (.var 0) (.cons (.con (.ty "int")) .nil))) (.not (.blt "isinstance" (.cons (.var 0) (.cons (.con (.ty "bool")) .nil))))))
  .nil)⟩
def d_is_table : Def := ⟨1, 3, (.cons (.ite (.or (.not (.blt "isinstance" (.cons (.var 0) (.cons (.con (.ty "tuple")) .nil)))) (.not (.blt "all" (.cons (.lc [1] (.nm 1) (.var 0) (.con (.bl true)) (.blt "isinstance" (.cons (.var 1) (.cons (.con (.ty "tuple")) .nil)))) .nil)))) (.cons (.ret (.con (.bl false)))
  .nil) .nil)
  (.cons (.ite (.not (.blt "all" (.cons (.lc2 [1, 2] [2] (.nm 1) (.var 0) (.con (.bl true)) (.nm 2) (.var 1) (.con (.bl true)) (.call "is_whole" (.cons (.var 2) .nil))) .nil))) (.cons (.ret (.con (.bl false)))
  .nil) .nil)
  (.cons (.ret (.cmp .lt (.dlen [1] (.nm 1) (.var 0) (.con (.bl true)) (.blt "len" (.cons (.var 1) .nil))) (.con (.int (2)))))
  .nil)))⟩
def d_look_at_table : Def := ⟨1, 1, (.cons (.ite (.not (.call "is_table" (.cons (.var 0) .nil))) (.cons (.rai "BadRows")
  .nil) .nil)
  .nil)⟩
def d_shared : Def := ⟨2, 2, (.cons (.par2 0 1 (.blt "abs" (.cons (.var 0) .nil)) (.blt "abs" (.cons (.var 1) .nil)))
  (.cons (.whl (.cmp .ne (.var 1) (.con (.int (0)))) (.cons (.par2 0 1 (.var 1) (.bop .mod (.var 0) (.var 1)))
  .nil))
  (.cons (.ret (.var 0))
  .nil)))⟩
def d_shared_of : Def := ⟨1, 3, (.cons (.asg (.nm 1) (.con (.int (0))))
  (.cons (.forr (.nm 2) (.var 0) (.cons (.asg (.nm 1) (.call "shared" (.cons (.var 1) (.cons (.var 2) .nil))))
  .nil))
  (.cons (.ret (.var 1))
  .nil)))⟩
def d_least_row : Def := ⟨1, 3, (.cons (.asg (.nm 1) (.call "shared_of" (.cons (.var 0) .nil)))
  (.cons (.ite (.cmp .eq (.var 1) (.con (.int (0)))) (.cons (.ret (.blt "tuple" (.cons (.var 0) .nil)))
  .nil) .nil)
  (.cons (.ite (.cmp .lt (.ix (.lc [2] (.nm 2) (.var 0) (.cmp .ne (.var 2) (.con (.int (0)))) (.var 2)) (.con (.int (0)))) (.con (.int (0)))) (.cons (.asg (.nm 1) (.neg (.var 1)))
  .nil) .nil)
  (.cons (.ret (.blt "tuple" (.cons (.lc [2] (.nm 2) (.var 0) (.con (.bl true)) (.bop .fdiv (.var 2) (.var 1))) .nil)))
  .nil))))⟩
def d_turned : Def := ⟨2, 4, (.cons (.ret (.blt "tuple" (.cons (.lc [2] (.nm 2) (.blt "range" (.cons (.var 1) .nil)) (.con (.bl true)) (.blt "tuple" (.cons (.lc [3] (.nm 3) (.var 0) (.con (.bl true)) (.ix (.var 3) (.var 2))) .nil))) .nil)))
  .nil)⟩
def d_dot : Def := ⟨2, 4, (.cons (.ret (.blt "sum" (.cons (.lc [2, 3] (.tup (.cons (.nm 2) (.cons (.nm 3) .nil))) (.blt "zip" (.cons (.var 0) (.cons (.var 1) .nil))) (.con (.bl true)) (.bop .mul (.var 2) (.var 3))) .nil)))
  .nil)⟩
def d_times : Def := ⟨2, 3, (.cons (.ret (.blt "tuple" (.cons (.lc [2] (.nm 2) (.var 0) (.con (.bl true)) (.call "dot" (.cons (.var 2) (.cons (.var 1) .nil)))) .nil)))
  .nil)⟩
def d_product : Def := ⟨3, 6, (.cons (.asg (.nm 3) (.call "turned" (.cons (.var 1) (.cons (.var 2) .nil))))
  (.cons (.ret (.blt "tuple" (.cons (.lc [4] (.nm 4) (.var 0) (.con (.bl true)) (.blt "tuple" (.cons (.lc [5] (.nm 5) (.var 3) (.con (.bl true)) (.call "dot" (.cons (.var 4) (.cons (.var 5) .nil)))) .nil))) .nil)))
  .nil))⟩
def d_cleared : Def := ⟨3, 8, (.cons (.ite (.cmp .eq (.ix (.var 0) (.var 2)) (.con (.int (0)))) (.cons (.ret (.var 0))
  .nil) .nil)
  (.cons (.asg (.nm 3) (.call "shared" (.cons (.ix (.var 0) (.var 2)) (.cons (.ix (.var 1) (.var 2)) .nil))))
  (.cons (.asg (.tup (.cons (.nm 4) (.cons (.nm 5) .nil))) (.tup (.cons (.bop .fdiv (.ix (.var 1) (.var 2)) (.var 3)) (.cons (.bop .fdiv (.ix (.var 0) (.var 2)) (.var 3)) .nil))))
  (.cons (.ret (.call "least_row" (.cons (.lc [6, 7] (.tup (.cons (.nm 6) (.cons (.nm 7) .nil))) (.blt "zip" (.cons (.var 0) (.cons (.var 1) .nil))) (.con (.bl true)) (.bop .sub (.bop .mul (.var 4) (.var 6)) (.bop .mul (.var 5) (.var 7)))) .nil)))
  .nil))))⟩
def d_reduced : Def := ⟨1, 9, (.cons (.expr (.call "look_at_table" (.cons (.var 0) .nil)))
  (.cons (.asg (.nm 1) (.lc [6] (.nm 6) (.var 0) (.con (.bl true)) (.call "least_row" (.cons (.var 6) .nil))))
  (.cons (.asg (.nm 2) (.lst .nil))
  (.cons (.asg (.nm 3) (.ite (.cmp .gt (.blt "len" (.cons (.var 0) .nil)) (.con (.int (0)))) (.blt "len" (.cons (.ix (.var 0) (.con (.int (0)))) .nil)) (.con (.int (0)))))
  (.cons (.forr (.nm 4) (.blt "range" (.cons (.var 3) .nil)) (.cons (.asg (.nm 5) (.lc [6] (.nm 6) (.var 1) (.cmp .ne (.ix (.var 6) (.var 4)) (.con (.int (0)))) (.var 6)))
  (.cons (.ite (.cmp .gt (.blt "len" (.cons (.var 5) .nil)) (.con (.int (0)))) (.cons (.asg (.nm 7) .bad)
  (.cons (.asg (.nm 7) (.call "least_row" (.cons (.var 7) .nil)))
  (.cons (.expr .bad)
  (.cons (.asg (.nm 1) (.lc [6] (.nm 6) (.var 1) (.con (.bl true)) (.call "cleared" (.cons (.var 6) (.cons (.var 7) (.cons (.var 4) .nil))))))
  (.cons (.asg (.nm 1) (.lc [6] (.nm 6) (.var 1) (.blt "any" (.cons (.lc [8] (.nm 8) (.var 6) (.con (.bl true)) (.cmp .ne (.var 8) (.con (.int (0))))) .nil)) (.var 6)))
  (.cons (.asg (.nm 2) (.bop .add (.lc [6] (.nm 6) (.var 2) (.con (.bl true)) (.call "positive" (.cons (.call "cleared" (.cons (.var 6) (.cons (.var 7) (.cons (.var 4) .nil)))) .nil))) (.lst (.cons (.var 7) .nil))))
  .nil)))))) .nil)
  .nil)))
  (.cons (.ret (.blt "tuple" (.cons (.var 2) .nil)))
  .nil))))))⟩
def d_positive : Def := ⟨1, 1, (.cons (.ret (.call "least_row" (.cons (.var 0) .nil)))
  .nil)⟩
def d_rank : Def := ⟨1, 1, (.cons (.ret (.blt "len" (.cons (.call "reduced" (.cons (.var 0) .nil)) .nil)))
  .nil)⟩
def d__law_draws : Def := ⟨1, 1, (.cons (.ret (.lst (.cons (.blt "list" (.cons (.var 0) .nil)) (.cons (.con (.int (0))) (.cons (.con (.int (0))) (.cons (.con (.int (1))) .nil))))))
  .nil)⟩
def d__law_draw : Def := ⟨2, 4, (.cons (.ite (.and (.cmp .eq (.ix (.var 0) (.con (.int (2)))) (.con (.int (0)))) (.cmp .lt (.ix (.var 0) (.con (.int (1)))) (.blt "len" (.cons (.ix (.var 0) (.con (.int (0)))) .nil)))) (.cons (.asg (.nm 2) (.ix (.ix (.var 0) (.con (.int (0)))) (.ix (.var 0) (.con (.int (1))))))
  (.cons (.asg (.ix (.var 0) (.con (.int (1)))) (.bop .add (.ix (.var 0) (.con (.int (1)))) (.con (.int (1)))))
  (.cons (.ite (.cmp .ge (.var 2) (.bop .pow (.con (.int (10))) (.con (.int (18))))) (.cons (.asg (.ix (.var 0) (.con (.int (2)))) (.var 2))
  .nil) .nil)
  (.cons (.asg (.ix (.var 0) (.con (.int (3)))) (.bop .mod (.blt "int" (.cons (.bop .add (.bop .add (.bop .mul (.ix (.var 0) (.con (.int (3)))) (.con (.int (48271)))) (.var 2)) (.con (.int (13)))) .nil)) (.con (.int (2147483647)))))
  .nil)))) .nil)
  (.cons (.ite (.cmp .gt (.ix (.var 0) (.con (.int (2)))) (.con (.int (0)))) (.cons (.asg (.nm 3) (.bop .mod (.blt "int" (.cons (.ix (.var 0) (.con (.int (2)))) .nil)) (.var 1)))
  (.cons (.asg (.ix (.var 0) (.con (.int (2)))) (.bop .fdiv (.ix (.var 0) (.con (.int (2)))) (.var 1)))
  (.cons (.ret (.var 3))
  .nil))) .nil)
  (.cons (.asg (.ix (.var 0) (.con (.int (3)))) (.bop .mod (.blt "int" (.cons (.bop .add (.bop .mul (.ix (.var 0) (.con (.int (3)))) (.con (.int (69621)))) (.con (.int (7)))) .nil)) (.con (.int (2147483629)))))
  (.cons (.ret (.bop .mod (.blt "int" (.cons (.bop .fdiv (.ix (.var 0) (.con (.int (3)))) (.con (.int (11)))) .nil)) (.var 1)))
  .nil))))⟩
def d__law_same : Def := ⟨2, 3, (.cons (.ite (.or (.blt "isinstance" (.cons (.var 1) (.cons (.con (.ty "tuple")) .nil))) (.blt "isinstance" (.cons (.var 1) (.cons (.con (.ty "list")) .nil)))) (.cons (.ite (.or (.cmp .ne (.blt "isinstance" (.cons (.var 1) (.cons (.con (.ty "tuple")) .nil))) (.blt "isinstance" (.cons (.var 0) (.cons (.con (.ty "tuple")) .nil)))) (.cmp .ne (.blt "isinstance" (.cons (.var 1) (.cons (.con (.ty "list")) .nil))) (.blt "isinstance" (.cons (.var 0) (.cons (.con (.ty "list")) .nil))))) (.cons (.ret (.con (.bl false)))
  .nil) .nil)
  (.cons (.ite (.cmp .ne (.blt "len" (.cons (.var 0) .nil)) (.blt "len" (.cons (.var 1) .nil))) (.cons (.ret (.con (.bl false)))
  .nil) .nil)
  (.cons (.ret (.cmp .eq (.blt "len" (.cons (.lc [2] (.nm 2) (.blt "range" (.cons (.blt "len" (.cons (.var 1) .nil)) .nil)) (.not (.call "_law_same" (.cons (.ix (.var 0) (.var 2)) (.cons (.ix (.var 1) (.var 2)) .nil)))) (.var 2)) .nil)) (.con (.int (0)))))
  .nil))) .nil)
  (.cons (.ite (.blt "isinstance" (.cons (.var 1) (.cons (.con (.ty "str")) .nil))) (.cons (.ret (.and (.blt "isinstance" (.cons (.var 0) (.cons (.con (.ty "str")) .nil))) (.cmp .eq (.var 0) (.var 1))))
  .nil) .nil)
  (.cons (.ite (.cmp .is (.var 1) (.con .non)) (.cons (.ret (.cmp .is (.var 0) (.con .non)))
  .nil) .nil)
  (.cons (.ite (.or (.blt "isinstance" (.cons (.var 1) (.cons (.con (.ty "bool")) .nil))) (.blt "isinstance" (.cons (.var 0) (.cons (.con (.ty "bool")) .nil)))) (.cons (.ret (.and (.blt "isinstance" (.cons (.var 1) (.cons (.con (.ty "bool")) .nil))) (.and (.blt "isinstance" (.cons (.var 0) (.cons (.con (.ty "bool")) .nil))) (.cmp .eq (.var 0) (.var 1)))))
  .nil) .nil)
  (.cons (.ret (.and (.blt "isinstance" (.cons (.var 0) (.cons (.con (.ty "int")) .nil))) (.and (.blt "isinstance" (.cons (.var 1) (.cons (.con (.ty "int")) .nil))) (.cmp .eq (.var 0) (.var 1)))))
  .nil)))))⟩
def d__law_table : Def := ⟨4, 6, (.cons (.ret (.blt "tuple" (.cons (.lc [4] (.nm 4) (.blt "range" (.cons (.var 1) .nil)) (.con (.bl true)) (.blt "tuple" (.cons (.lc [5] (.nm 5) (.blt "range" (.cons (.var 2) .nil)) (.con (.bl true)) (.bop .sub (.calm "_law_draw" 0 (.cons (.bop .add (.bop .mul (.con (.int (2))) (.var 3)) (.con (.int (1)))) .nil)) (.var 3))) .nil))) .nil)))
  .nil)⟩
def d__law_shared : Def := ⟨2, 2, (.cons (.par2 0 1 (.blt "abs" (.cons (.var 0) .nil)) (.blt "abs" (.cons (.var 1) .nil)))
  (.cons (.whl (.cmp .ne (.var 1) (.con (.int (0)))) (.cons (.par2 0 1 (.var 1) (.bop .mod (.blt "int" (.cons (.var 0) .nil)) (.var 1)))
  .nil))
  (.cons (.ret (.var 0))
  .nil)))⟩
def d__law_bad : Def := ⟨2, 2, (.cons (.tri (.cons (.expr (.ite (.var 1) (.call "look_at_table" (.cons (.var 0) .nil)) (.call "rank" (.cons (.var 0) .nil))))
  .nil) "BadRows" none (.retc (.bl true)))
  (.cons (.ret (.con (.bl false)))
  .nil))⟩
def s_law_1 : S := (.asg (.nm 1) (.call "_law_draws" (.cons (.var 0) .nil)))
def s_law_2_1 : S := (.asg (.tup (.cons (.nm 12) (.cons (.nm 13) .nil))) (.tup (.cons (.bop .add (.con (.int (1))) (.calm "_law_draw" 1 (.cons (.con (.int (4))) .nil))) (.cons (.bop .add (.con (.int (1))) (.calm "_law_draw" 1 (.cons (.con (.int (5))) .nil))) .nil))))
def s_law_2_2 : S := (.asg (.nm 3) (.calm "_law_table" 1 (.cons (.var 12) (.cons (.var 13) (.cons (.con (.int (12))) .nil)))))
def s_law_2_3 : S := (.ite (.or (.cmp .isn (.call "is_table" (.cons (.var 3) .nil)) (.con (.bl true))) (.or (.call "_law_bad" (.cons (.var 3) (.cons (.con (.bl true)) .nil))) (.not (.call "_law_same" (.cons (.call "turned" (.cons (.var 3) (.cons (.var 13) .nil))) (.cons (.blt "tuple" (.cons (.lc [17] (.nm 17) (.blt "range" (.cons (.var 13) .nil)) (.con (.bl true)) (.blt "tuple" (.cons (.lc [14] (.nm 14) (.var 3) (.con (.bl true)) (.ix (.var 14) (.var 17))) .nil))) .nil)) .nil)))))) (.cons (.ret (.con (.bl false)))
  .nil) .nil)
def s_law_2_4 : S := (.asg (.tup (.cons (.nm 14) (.cons (.nm 15) .nil))) (.tup (.cons (.ix (.var 3) (.calm "_law_draw" 1 (.cons (.var 12) .nil))) (.cons (.ix (.calm "_law_table" 1 (.cons (.con (.int (1))) (.cons (.var 13) (.cons (.con (.int (9))) .nil)))) (.con (.int (0)))) .nil))))
def s_law_2_5 : S := (.asg (.nm 4) (.con (.int (0))))
def s_law_2_6_1 : S := (.asg (.nm 4) (.call "_law_shared" (.cons (.var 4) (.cons (.var 5) .nil))))
def s_law_2_6 : S := (.forr (.nm 5) (.var 14) (.cons s_law_2_6_1 .nil))
def s_law_2_7 : S := (.ite (.or (.not (.call "_law_same" (.cons (.call "shared" (.cons (.ix (.var 14) (.con (.int (0)))) (.cons (.ix (.var 15) (.con (.int (0)))) .nil))) (.cons (.call "_law_shared" (.cons (.ix (.var 14) (.con (.int (0)))) (.cons (.ix (.var 15) (.con (.int (0)))) .nil))) .nil)))) (.not (.call "_law_same" (.cons (.call "shared_of" (.cons (.var 14) .nil)) (.cons (.var 4) .nil))))) (.cons (.ret (.con (.bl false)))
  .nil) .nil)
def s_law_2_8 : S := (.asg (.nm 6) (.lc [5] (.nm 5) (.var 14) (.cmp .ne (.var 5) (.con (.int (0)))) (.var 5)))
def s_law_2_9 : S := (.asg (.nm 7) (.ite (.cmp .eq (.var 4) (.con (.int (0)))) (.blt "tuple" (.cons (.var 14) .nil)) (.blt "tuple" (.cons (.lc [5] (.nm 5) (.var 14) (.con (.bl true)) (.bop .mul (.blt "int" (.cons (.bop .fdiv (.var 5) (.var 4)) .nil)) (.ite (.cmp .gt (.ix (.var 6) (.con (.int (0)))) (.con (.int (0)))) (.con (.int (1))) (.neg (.con (.int (1))))))) .nil))))
def s_law_2_10 : S := (.ite (.or (.not (.call "_law_same" (.cons (.call "least_row" (.cons (.var 14) .nil)) (.cons (.var 7) .nil)))) (.not (.call "_law_same" (.cons (.call "dot" (.cons (.var 14) (.cons (.var 15) .nil))) (.cons (.blt "sum" (.cons (.lc [17] (.nm 17) (.blt "range" (.cons (.var 13) .nil)) (.con (.bl true)) (.bop .mul (.ix (.var 14) (.var 17)) (.ix (.var 15) (.var 17)))) .nil)) .nil))))) (.cons (.ret (.con (.bl false)))
  .nil) .nil)
def s_law_2_11 : S := (.ite (.not (.call "_law_same" (.cons (.call "times" (.cons (.var 3) (.cons (.var 15) .nil))) (.cons (.blt "tuple" (.cons (.lc [10] (.nm 10) (.var 3) (.con (.bl true)) (.blt "sum" (.cons (.lc [17] (.nm 17) (.blt "range" (.cons (.var 13) .nil)) (.con (.bl true)) (.bop .mul (.ix (.var 10) (.var 17)) (.ix (.var 15) (.var 17)))) .nil))) .nil)) .nil)))) (.cons (.ret (.con (.bl false)))
  .nil) .nil)
def s_law_2_12 : S := (.asg (.nm 8) (.calm "_law_table" 1 (.cons (.var 13) (.cons (.con (.int (3))) (.cons (.con (.int (5))) .nil)))))
def s_law_2_13 : S := (.asg (.nm 9) (.lst .nil))
def s_law_2_14_1 : S := (.expr (.mth "append" (.var 9) (.cons (.blt "tuple" (.cons (.lc [16] (.nm 16) (.blt "range" (.cons (.con (.int (3))) .nil)) (.con (.bl true)) (.blt "sum" (.cons (.lc [17] (.nm 17) (.blt "range" (.cons (.var 13) .nil)) (.con (.bl true)) (.bop .mul (.ix (.var 10) (.var 17)) (.ix (.ix (.var 8) (.var 17)) (.var 16)))) .nil))) .nil)) .nil)))
def s_law_2_14 : S := (.forr (.nm 10) (.var 3) (.cons s_law_2_14_1 .nil))
def s_law_2_15 : S := (.ite (.not (.call "_law_same" (.cons (.call "product" (.cons (.var 3) (.cons (.var 8) (.cons (.con (.int (3))) .nil)))) (.cons (.blt "tuple" (.cons (.var 9) .nil)) .nil)))) (.cons (.ret (.con (.bl false)))
  .nil) .nil)
def s_law_2_16 : S := (.asg (.nm 11) (.ix (.lst (.cons (.con .non) (.cons (.blt "list" (.cons (.var 3) .nil)) (.cons (.tup (.cons (.con (.int (1))) .nil)) (.cons (.bop .add (.var 3) (.tup (.cons (.bop .add (.ix (.var 3) (.con (.int (0)))) (.tup (.cons (.con (.int (1))) .nil))) .nil))) (.cons (.tup (.cons (.tup (.cons (.con (.bl true)) .nil)) .nil)) (.cons (.tup (.cons (.tup (.cons (.con (.str "1")) .nil)) .nil)) (.cons (.tup (.cons (.con (.str "ab")) .nil)) .nil)))))))) (.calm "_law_draw" 1 (.cons (.con (.int (7))) .nil))))
def s_law_2_17 : S := (.ite (.or (.cmp .isn (.call "is_table" (.cons (.var 11) .nil)) (.con (.bl false))) (.or (.not (.call "_law_bad" (.cons (.var 11) (.cons (.con (.bl true)) .nil)))) (.not (.call "_law_bad" (.cons (.var 11) (.cons (.con (.bl false)) .nil)))))) (.cons (.ret (.con (.bl false)))
  .nil) .nil)
def s_law_2 : S := (.forr (.nm 2) (.blt "range" (.cons (.con (.int (6))) .nil)) (.cons s_law_2_1 (.cons s_law_2_2 (.cons s_law_2_3 (.cons s_law_2_4 (.cons s_law_2_5 (.cons s_law_2_6 (.cons s_law_2_7 (.cons s_law_2_8 (.cons s_law_2_9 (.cons s_law_2_10 (.cons s_law_2_11 (.cons s_law_2_12 (.cons s_law_2_13 (.cons s_law_2_14 (.cons s_law_2_15 (.cons s_law_2_16 (.cons s_law_2_17 .nil))))))))))))))))))
def s_law_3 : S := (.ret (.and (.cmp .is (.call "is_table" (.cons (.tup .nil) .nil)) (.con (.bl true))) (.and (.cmp .is (.call "is_whole" (.cons (.con (.int (3))) .nil)) (.con (.bl true))) (.and (.cmp .is (.call "is_whole" (.cons (.con (.bl true)) .nil)) (.con (.bl false))) (.and (.cmp .is (.call "is_whole" (.cons (.con (.str "3")) .nil)) (.con (.bl false))) (.cmp .eq (.call "shared" (.cons (.con (.int (0))) (.cons (.con (.int (0))) .nil))) (.con (.int (0)))))))))
def d_law : Def := ⟨1, 18, (.cons s_law_1 (.cons s_law_2 (.cons s_law_3 .nil)))⟩
def defsOf (x : Str) : Option Def :=
  if x == ("is_whole" : Str) then some d_is_whole else if x == ("is_table" : Str) then some d_is_table else if x == ("look_at_table" : Str) then some d_look_at_table else if x == ("shared" : Str) then some d_shared else if x == ("shared_of" : Str) then some d_shared_of else if x == ("least_row" : Str) then some d_least_row else if x == ("turned" : Str) then some d_turned else if x == ("dot" : Str) then some d_dot else if x == ("times" : Str) then some d_times else if x == ("product" : Str) then some d_product else if x == ("cleared" : Str) then some d_cleared else if x == ("reduced" : Str) then some d_reduced else if x == ("positive" : Str) then some d_positive else if x == ("rank" : Str) then some d_rank else if x == ("_law_draws" : Str) then some d__law_draws else if x == ("_law_draw" : Str) then some d__law_draw else if x == ("_law_same" : Str) then some d__law_same else if x == ("_law_table" : Str) then some d__law_table else if x == ("_law_shared" : Str) then some d__law_shared else if x == ("_law_bad" : Str) then some d__law_bad else if x == ("law" : Str) then some d_law else none
def subOf (a b : Str) : Option Bool :=
  if a == ("FrameError" : Str) && b == ("FrameError" : Str) then some true else if a == ("FrameError" : Str) && b == ("BadRows" : Str) then some false else if a == ("BadRows" : Str) && b == ("FrameError" : Str) then some true else if a == ("BadRows" : Str) && b == ("BadRows" : Str) then some true else none
def pg : Prog := ⟨fun k => match k with | .fn x => defsOf x | .mt _ _ => none, fun _ => none, subOf⟩
theorem sc_is_whole : FnScope ["value"] ["value"] (defScope (topS 4)) := ⟨rfl, rfl, rfl, by decide +kernel, rfl, by decide +kernel, by decide +kernel⟩
theorem at_is_whole : pg.defs (.fn "is_whole") = some d_is_whole := by kernel_rfl
theorem tr_is_whole : pg.defs (.fn "is_whole") = some ⟨1, 1, mkSs ((defBody (topS 4)).map (trS ["value"] cfg (defScope (topS 4)) 60))⟩ := by kernel_rfl
theorem sc_is_table : FnScope ["value", "row", "one"] ["value"] (defScope (topS 5)) := ⟨rfl, rfl, rfl, by decide +kernel, rfl, by decide +kernel, by decide +kernel⟩
theorem at_is_table : pg.defs (.fn "is_table") = some d_is_table := by kernel_rfl
theorem tr_is_table : pg.defs (.fn "is_table") = some ⟨1, 3, mkSs ((defBody (topS 5)).map (trS ["value", "row", "one"] cfg (defScope (topS 5)) 60))⟩ := by kernel_rfl
theorem sc_look_at_table : FnScope ["value"] ["value"] (defScope (topS 6)) := ⟨rfl, rfl, rfl, by decide +kernel, rfl, by decide +kernel, by decide +kernel⟩
theorem at_look_at_table : pg.defs (.fn "look_at_table") = some d_look_at_table := by kernel_rfl
theorem tr_look_at_table : pg.defs (.fn "look_at_table") = some ⟨1, 1, mkSs ((defBody (topS 6)).map (trS ["value"] cfg (defScope (topS 6)) 60))⟩ := by kernel_rfl
theorem sc_shared : FnScope ["first", "other"] ["first", "other"] (defScope (topS 7)) := ⟨rfl, rfl, rfl, by decide +kernel, rfl, by decide +kernel, by decide +kernel⟩
theorem at_shared : pg.defs (.fn "shared") = some d_shared := by kernel_rfl
theorem tr_shared : pg.defs (.fn "shared") = some ⟨2, 2, mkSs ((defBody (topS 7)).map (trS ["first", "other"] cfg (defScope (topS 7)) 60))⟩ := by kernel_rfl
theorem sc_shared_of : FnScope ["row", "found", "one"] ["row"] (defScope (topS 8)) := ⟨rfl, rfl, rfl, by decide +kernel, rfl, by decide +kernel, by decide +kernel⟩
theorem at_shared_of : pg.defs (.fn "shared_of") = some d_shared_of := by kernel_rfl
theorem tr_shared_of : pg.defs (.fn "shared_of") = some ⟨1, 3, mkSs ((defBody (topS 8)).map (trS ["row", "found", "one"] cfg (defScope (topS 8)) 60))⟩ := by kernel_rfl
theorem sc_least_row : FnScope ["row", "part", "one"] ["row"] (defScope (topS 9)) := ⟨rfl, rfl, rfl, by decide +kernel, rfl, by decide +kernel, by decide +kernel⟩
theorem at_least_row : pg.defs (.fn "least_row") = some d_least_row := by kernel_rfl
theorem tr_least_row : pg.defs (.fn "least_row") = some ⟨1, 3, mkSs ((defBody (topS 9)).map (trS ["row", "part", "one"] cfg (defScope (topS 9)) 60))⟩ := by kernel_rfl
theorem sc_turned : FnScope ["table", "width", "at", "row"] ["table", "width"] (defScope (topS 10)) := ⟨rfl, rfl, rfl, by decide +kernel, rfl, by decide +kernel, by decide +kernel⟩
theorem at_turned : pg.defs (.fn "turned") = some d_turned := by kernel_rfl
theorem tr_turned : pg.defs (.fn "turned") = some ⟨2, 4, mkSs ((defBody (topS 10)).map (trS ["table", "width", "at", "row"] cfg (defScope (topS 10)) 60))⟩ := by kernel_rfl
theorem sc_dot : FnScope ["first", "other", "one", "two"] ["first", "other"] (defScope (topS 11)) := ⟨rfl, rfl, rfl, by decide +kernel, rfl, by decide +kernel, by decide +kernel⟩
theorem at_dot : pg.defs (.fn "dot") = some d_dot := by kernel_rfl
theorem tr_dot : pg.defs (.fn "dot") = some ⟨2, 4, mkSs ((defBody (topS 11)).map (trS ["first", "other", "one", "two"] cfg (defScope (topS 11)) 60))⟩ := by kernel_rfl
theorem sc_times : FnScope ["table", "row", "line"] ["table", "row"] (defScope (topS 12)) := ⟨rfl, rfl, rfl, by decide +kernel, rfl, by decide +kernel, by decide +kernel⟩
theorem at_times : pg.defs (.fn "times") = some d_times := by kernel_rfl
theorem tr_times : pg.defs (.fn "times") = some ⟨2, 3, mkSs ((defBody (topS 12)).map (trS ["table", "row", "line"] cfg (defScope (topS 12)) 60))⟩ := by kernel_rfl
theorem sc_product : FnScope ["first", "other", "width", "columns", "row", "column"] ["first", "other", "width"] (defScope (topS 13)) := ⟨rfl, rfl, rfl, by decide +kernel, rfl, by decide +kernel, by decide +kernel⟩
theorem at_product : pg.defs (.fn "product") = some d_product := by kernel_rfl
theorem tr_product : pg.defs (.fn "product") = some ⟨3, 6, mkSs ((defBody (topS 13)).map (trS ["first", "other", "width", "columns", "row", "column"] cfg (defScope (topS 13)) 60))⟩ := by kernel_rfl
theorem sc_cleared : FnScope ["row", "head", "at", "part", "one", "two", "a", "b"] ["row", "head", "at"] (defScope (topS 14)) := ⟨rfl, rfl, rfl, by decide +kernel, rfl, by decide +kernel, by decide +kernel⟩
theorem at_cleared : pg.defs (.fn "cleared") = some d_cleared := by kernel_rfl
theorem tr_cleared : pg.defs (.fn "cleared") = some ⟨3, 8, mkSs ((defBody (topS 14)).map (trS ["row", "head", "at", "part", "one", "two", "a", "b"] cfg (defScope (topS 14)) 60))⟩ := by kernel_rfl
theorem sc_reduced : FnScope ["table", "left", "found", "width", "at", "heads", "row", "head", "one"] ["table"] (defScope (topS 15)) := ⟨rfl, rfl, rfl, by decide +kernel, rfl, by decide +kernel, by decide +kernel⟩
theorem at_reduced : pg.defs (.fn "reduced") = some d_reduced := by kernel_rfl
theorem tr_reduced : pg.defs (.fn "reduced") = some ⟨1, 9, mkSs ((defBody (topS 15)).map (trS ["table", "left", "found", "width", "at", "heads", "row", "head", "one"] cfg (defScope (topS 15)) 60))⟩ := by kernel_rfl
theorem sc_positive : FnScope ["row"] ["row"] (defScope (topS 16)) := ⟨rfl, rfl, rfl, by decide +kernel, rfl, by decide +kernel, by decide +kernel⟩
theorem at_positive : pg.defs (.fn "positive") = some d_positive := by kernel_rfl
theorem tr_positive : pg.defs (.fn "positive") = some ⟨1, 1, mkSs ((defBody (topS 16)).map (trS ["row"] cfg (defScope (topS 16)) 60))⟩ := by kernel_rfl
theorem sc_rank : FnScope ["table"] ["table"] (defScope (topS 17)) := ⟨rfl, rfl, rfl, by decide +kernel, rfl, by decide +kernel, by decide +kernel⟩
theorem at_rank : pg.defs (.fn "rank") = some d_rank := by kernel_rfl
theorem tr_rank : pg.defs (.fn "rank") = some ⟨1, 1, mkSs ((defBody (topS 17)).map (trS ["table"] cfg (defScope (topS 17)) 60))⟩ := by kernel_rfl
theorem sc__law_draws : FnScope ["script"] ["script"] (defScope (topS 19)) := ⟨rfl, rfl, rfl, by decide +kernel, rfl, by decide +kernel, by decide +kernel⟩
theorem at__law_draws : pg.defs (.fn "_law_draws") = some d__law_draws := by kernel_rfl
theorem tr__law_draws : pg.defs (.fn "_law_draws") = some ⟨1, 1, mkSs ((defBody (topS 19)).map (trS ["script"] cfg (defScope (topS 19)) 60))⟩ := by kernel_rfl
theorem sc__law_draw : FnScope ["draws", "limit", "cell", "value"] ["draws", "limit"] (defScope (topS 20)) := ⟨rfl, rfl, rfl, by decide +kernel, rfl, by decide +kernel, by decide +kernel⟩
theorem at__law_draw : pg.defs (.fn "_law_draw") = some d__law_draw := by kernel_rfl
theorem tr__law_draw : pg.defs (.fn "_law_draw") = some ⟨2, 4, mkSs ((defBody (topS 20)).map (trS ["draws", "limit", "cell", "value"] cfg (defScope (topS 20)) 60))⟩ := by kernel_rfl
theorem sc__law_same : FnScope ["actual", "expected", "k"] ["actual", "expected"] (defScope (topS 21)) := ⟨rfl, rfl, rfl, by decide +kernel, rfl, by decide +kernel, by decide +kernel⟩
theorem at__law_same : pg.defs (.fn "_law_same") = some d__law_same := by kernel_rfl
theorem tr__law_same : pg.defs (.fn "_law_same") = some ⟨2, 3, mkSs ((defBody (topS 21)).map (trS ["actual", "expected", "k"] cfg (defScope (topS 21)) 60))⟩ := by kernel_rfl
theorem sc__law_table : FnScope ["draws", "high", "wide", "most", "row", "k"] ["draws", "high", "wide", "most"] (defScope (topS 22)) := ⟨rfl, rfl, rfl, by decide +kernel, rfl, by decide +kernel, by decide +kernel⟩
theorem at__law_table : pg.defs (.fn "_law_table") = some d__law_table := by kernel_rfl
theorem tr__law_table : pg.defs (.fn "_law_table") = some ⟨4, 6, mkSs ((defBody (topS 22)).map (trS ["draws", "high", "wide", "most", "row", "k"] cfg (defScope (topS 22)) 60))⟩ := by kernel_rfl
theorem sc__law_shared : FnScope ["one", "two"] ["one", "two"] (defScope (topS 25)) := ⟨rfl, rfl, rfl, by decide +kernel, rfl, by decide +kernel, by decide +kernel⟩
theorem at__law_shared : pg.defs (.fn "_law_shared") = some d__law_shared := by kernel_rfl
theorem tr__law_shared : pg.defs (.fn "_law_shared") = some ⟨2, 2, mkSs ((defBody (topS 25)).map (trS ["one", "two"] cfg (defScope (topS 25)) 60))⟩ := by kernel_rfl
theorem sc__law_bad : FnScope ["value", "looked"] ["value", "looked"] (defScope (topS 26)) := ⟨rfl, rfl, rfl, by decide +kernel, rfl, by decide +kernel, by decide +kernel⟩
theorem at__law_bad : pg.defs (.fn "_law_bad") = some d__law_bad := by kernel_rfl
theorem tr__law_bad : pg.defs (.fn "_law_bad") = some ⟨2, 2, mkSs ((defBody (topS 26)).map (trS ["value", "looked"] cfg (defScope (topS 26)) 60))⟩ := by kernel_rfl
theorem sc_law : FnScope ["script", "draws", "turn", "table", "whole", "one", "first", "due", "more", "made", "line", "bad", "high", "wide", "row", "other", "at", "k"] ["script"] (defScope (topS 27)) := ⟨rfl, rfl, rfl, by decide +kernel, rfl, by decide +kernel, by decide +kernel⟩
theorem at_law : pg.defs (.fn "law") = some d_law := by kernel_rfl
theorem tr_law : pg.defs (.fn "law") = some ⟨1, 18, mkSs ((defBody (topS 27)).map (trS ["script", "draws", "turn", "table", "whole", "one", "first", "due", "more", "made", "line", "bad", "high", "wide", "row", "other", "at", "k"] cfg (defScope (topS 27)) 60))⟩ := by kernel_rfl
theorem sub_of {a b : Str} {t : Bool} (h : subOf a b = some t) : (a = "FrameError" ∧ b = "FrameError" ∧ t = true) ∨ (a = "FrameError" ∧ b = "BadRows" ∧ t = false) ∨ (a = "BadRows" ∧ b = "FrameError" ∧ t = true) ∨ (a = "BadRows" ∧ b = "BadRows" ∧ t = true) := by
  unfold subOf at h
  repeat' (split at h)
  all_goals first | cases h | skip
  all_goals (rename_i q; have q' := Bool.and_eq_true_iff.mp q; have q1 := eq_of_beq q'.1; have q2 := eq_of_beq q'.2; subst q1; subst q2; first | exact .inl ⟨rfl, rfl, rfl⟩ | exact .inr (.inl ⟨rfl, rfl, rfl⟩) | exact .inr (.inr (.inl ⟨rfl, rfl, rfl⟩)) | exact .inr (.inr (.inr (⟨rfl, rfl, rfl⟩))))
end PL

namespace PL
open PySem PySem.Spec PyProof.Rows L2
theorem c_is_whole (n : Nat) (args : List Arg) : evF pg (n + 1) (.fn "is_whole") args = runD (pg.sem n) d_is_whole args := by
  show (match pg.defs (.fn "is_whole") with | some d => runD (pg.sem n) d args | none => .stuck) = _
  rw [at_is_whole]
theorem c_is_table (n : Nat) (args : List Arg) : evF pg (n + 1) (.fn "is_table") args = runD (pg.sem n) d_is_table args := by
  show (match pg.defs (.fn "is_table") with | some d => runD (pg.sem n) d args | none => .stuck) = _
  rw [at_is_table]
theorem c_look_at_table (n : Nat) (args : List Arg) : evF pg (n + 1) (.fn "look_at_table") args = runD (pg.sem n) d_look_at_table args := by
  show (match pg.defs (.fn "look_at_table") with | some d => runD (pg.sem n) d args | none => .stuck) = _
  rw [at_look_at_table]
theorem c_shared (n : Nat) (args : List Arg) : evF pg (n + 1) (.fn "shared") args = runD (pg.sem n) d_shared args := by
  show (match pg.defs (.fn "shared") with | some d => runD (pg.sem n) d args | none => .stuck) = _
  rw [at_shared]
theorem c_shared_of (n : Nat) (args : List Arg) : evF pg (n + 1) (.fn "shared_of") args = runD (pg.sem n) d_shared_of args := by
  show (match pg.defs (.fn "shared_of") with | some d => runD (pg.sem n) d args | none => .stuck) = _
  rw [at_shared_of]
theorem c_least_row (n : Nat) (args : List Arg) : evF pg (n + 1) (.fn "least_row") args = runD (pg.sem n) d_least_row args := by
  show (match pg.defs (.fn "least_row") with | some d => runD (pg.sem n) d args | none => .stuck) = _
  rw [at_least_row]
theorem c_turned (n : Nat) (args : List Arg) : evF pg (n + 1) (.fn "turned") args = runD (pg.sem n) d_turned args := by
  show (match pg.defs (.fn "turned") with | some d => runD (pg.sem n) d args | none => .stuck) = _
  rw [at_turned]
theorem c_dot (n : Nat) (args : List Arg) : evF pg (n + 1) (.fn "dot") args = runD (pg.sem n) d_dot args := by
  show (match pg.defs (.fn "dot") with | some d => runD (pg.sem n) d args | none => .stuck) = _
  rw [at_dot]
theorem c_times (n : Nat) (args : List Arg) : evF pg (n + 1) (.fn "times") args = runD (pg.sem n) d_times args := by
  show (match pg.defs (.fn "times") with | some d => runD (pg.sem n) d args | none => .stuck) = _
  rw [at_times]
theorem c_product (n : Nat) (args : List Arg) : evF pg (n + 1) (.fn "product") args = runD (pg.sem n) d_product args := by
  show (match pg.defs (.fn "product") with | some d => runD (pg.sem n) d args | none => .stuck) = _
  rw [at_product]
theorem c_cleared (n : Nat) (args : List Arg) : evF pg (n + 1) (.fn "cleared") args = runD (pg.sem n) d_cleared args := by
  show (match pg.defs (.fn "cleared") with | some d => runD (pg.sem n) d args | none => .stuck) = _
  rw [at_cleared]
theorem c_reduced (n : Nat) (args : List Arg) : evF pg (n + 1) (.fn "reduced") args = runD (pg.sem n) d_reduced args := by
  show (match pg.defs (.fn "reduced") with | some d => runD (pg.sem n) d args | none => .stuck) = _
  rw [at_reduced]
theorem c_positive (n : Nat) (args : List Arg) : evF pg (n + 1) (.fn "positive") args = runD (pg.sem n) d_positive args := by
  show (match pg.defs (.fn "positive") with | some d => runD (pg.sem n) d args | none => .stuck) = _
  rw [at_positive]
theorem c_rank (n : Nat) (args : List Arg) : evF pg (n + 1) (.fn "rank") args = runD (pg.sem n) d_rank args := by
  show (match pg.defs (.fn "rank") with | some d => runD (pg.sem n) d args | none => .stuck) = _
  rw [at_rank]
theorem c__law_draws (n : Nat) (args : List Arg) : evF pg (n + 1) (.fn "_law_draws") args = runD (pg.sem n) d__law_draws args := by
  show (match pg.defs (.fn "_law_draws") with | some d => runD (pg.sem n) d args | none => .stuck) = _
  rw [at__law_draws]
theorem c__law_draw (n : Nat) (args : List Arg) : evF pg (n + 1) (.fn "_law_draw") args = runD (pg.sem n) d__law_draw args := by
  show (match pg.defs (.fn "_law_draw") with | some d => runD (pg.sem n) d args | none => .stuck) = _
  rw [at__law_draw]
theorem c__law_same (n : Nat) (args : List Arg) : evF pg (n + 1) (.fn "_law_same") args = runD (pg.sem n) d__law_same args := by
  show (match pg.defs (.fn "_law_same") with | some d => runD (pg.sem n) d args | none => .stuck) = _
  rw [at__law_same]
theorem c__law_table (n : Nat) (args : List Arg) : evF pg (n + 1) (.fn "_law_table") args = runD (pg.sem n) d__law_table args := by
  show (match pg.defs (.fn "_law_table") with | some d => runD (pg.sem n) d args | none => .stuck) = _
  rw [at__law_table]
theorem c__law_shared (n : Nat) (args : List Arg) : evF pg (n + 1) (.fn "_law_shared") args = runD (pg.sem n) d__law_shared args := by
  show (match pg.defs (.fn "_law_shared") with | some d => runD (pg.sem n) d args | none => .stuck) = _
  rw [at__law_shared]
theorem c__law_bad (n : Nat) (args : List Arg) : evF pg (n + 1) (.fn "_law_bad") args = runD (pg.sem n) d__law_bad args := by
  show (match pg.defs (.fn "_law_bad") with | some d => runD (pg.sem n) d args | none => .stuck) = _
  rw [at__law_bad]
theorem c_law (n : Nat) (args : List Arg) : evF pg (n + 1) (.fn "law") args = runD (pg.sem n) d_law args := by
  show (match pg.defs (.fn "law") with | some d => runD (pg.sem n) d args | none => .stuck) = _
  rw [at_law]
theorem CA : type_of% @c_is_whole ∧ type_of% @c_is_table ∧ type_of% @c_look_at_table ∧ type_of% @c_shared ∧ type_of% @c_shared_of ∧ type_of% @c_least_row ∧ type_of% @c_turned ∧ type_of% @c_dot ∧ type_of% @c_times ∧ type_of% @c_product ∧ type_of% @c_cleared ∧ type_of% @c_reduced ∧ type_of% @c_positive ∧ type_of% @c_rank ∧ type_of% @c__law_draws ∧ type_of% @c__law_draw ∧ type_of% @c__law_same ∧ type_of% @c__law_table ∧ type_of% @c__law_shared ∧ type_of% @c__law_bad ∧ type_of% @c_law :=
  ⟨@c_is_whole, @c_is_table, @c_look_at_table, @c_shared, @c_shared_of, @c_least_row, @c_turned, @c_dot, @c_times, @c_product, @c_cleared, @c_reduced, @c_positive, @c_rank, @c__law_draws, @c__law_draw, @c__law_same, @c__law_table, @c__law_shared, @c__law_bad, @c_law⟩
end PL

set_option Elab.async false
set_option linter.all false
set_option maxRecDepth 100000
set_option maxHeartbeats 1000000
namespace PL
open PySem PySem.Spec PyProof.Rows L2
abbrev iR (r : List Int) : PV := .tup (r.map .int)
abbrev tR (t : List (List Int)) : PV := .tup (t.map iR)
theorem asBls_map {α : Type} (f : α → Bool) : ∀ xs : List α, asBls (xs.map fun a => .bl (f a)) = some (xs.map f)
  | [] => rfl
  | a :: r => by show (asBls (r.map fun a => .bl (f a))).map (f a :: ·) = _; rw [asBls_map f r]; rfl
theorem asInts_map {α : Type} (f : α → Int) : ∀ xs : List α, asInts (xs.map fun a => .int (f a)) = some (xs.map f)
  | [] => rfl
  | a :: r => by show (asInts (r.map fun a => .int (f a))).map (f a :: ·) = _; rw [asInts_map f r]; rfl
theorem r_wh_int (n) (i : Int) : evF pg (n + 1) (.fn "is_whole") [.val (.int i)] = .ok (.val (.bl true)) none := by
  rw [c_is_whole]
  rfl
theorem r_wh_bl (n) (i : Bool) : evF pg (n + 1) (.fn "is_whole") [.val (.bl i)] = .ok (.val (.bl false)) none := by
  rw [c_is_whole]
  rfl
theorem r_wh_str (n) (i : Str) : evF pg (n + 1) (.fn "is_whole") [.val (.str i)] = .ok (.val (.bl false)) none := by
  rw [c_is_whole]
  rfl
theorem all_true {α : Type} (xs : List α) : (xs.map fun _ => true).all id = true := by simp
theorem r_is_table (n) (t : List (List Int)) (hz : t.flatten.length ≤ sizeLine) : evF pg (n + 2) (.fn "is_table") [.val (tR t)] = .ok (.val (.bl (decide ((((t.map fun r => (r.length : Int)).foldl addK []).length : Int) < 2)))) none := by
  rw [c_is_table]
  simp only [↓toB, RU, Nat.reduceAdd, Nat.reduceSub, Nat.reduceLT, Nat.reduceLeDiff, Nat.reduceEqDiff, true_and, and_true, if_true, if_false, reduceIte, Bool.false_eq_true, reduceCtorEq, Int.reduceNeg, d_is_table, v_lc, v_dlen, v_lc2]
  rw [lcGo_map (φ := iR) (g := fun _ => .bl true) t []]
  · simp only [↓toB, RU, Nat.reduceAdd, Nat.reduceSub, Nat.reduceLT, Nat.reduceLeDiff, Nat.reduceEqDiff, true_and, and_true, if_true, if_false, reduceIte, Bool.false_eq_true, reduceCtorEq, Int.reduceNeg, asBls_map, all_true, v_lc, v_dlen, v_lc2]
    rw [lc2Go_map (φ := iR) (g := fun r => r.map fun _ => .bl true) t []]
    · simp only [↓toB, RU, Nat.reduceAdd, Nat.reduceSub, Nat.reduceLT, Nat.reduceLeDiff, Nat.reduceEqDiff, true_and, and_true, if_true, if_false, reduceIte, Bool.false_eq_true, reduceCtorEq, Int.reduceNeg]
      have e : (t.map fun r => r.map fun (_ : Int) => PV.bl true).flatten = t.flatten.map fun _ => .bl true := by rw [List.map_flatten]
      rw [e]
      rw [if_pos (by rw [List.length_map]; exact hz)]
      simp only [↓toB, RU, Nat.reduceAdd, Nat.reduceSub, Nat.reduceLT, Nat.reduceLeDiff, Nat.reduceEqDiff, true_and, and_true, if_true, if_false, reduceIte, Bool.false_eq_true, reduceCtorEq, Int.reduceNeg, asBls_map, all_true, v_lc, v_dlen, v_lc2]
      rw [dkGo_map (φ := iR) (g := fun r => (r.length : Int)) t []]
      · simp only [↓toB, RU, Nat.reduceAdd, Nat.reduceSub, Nat.reduceLT, Nat.reduceLeDiff, Nat.reduceEqDiff, true_and, and_true, if_true, if_false, reduceIte, Bool.false_eq_true, reduceCtorEq, Int.reduceNeg]
      · intro r _
        simp only [↓toB, RU, Nat.reduceAdd, Nat.reduceSub, Nat.reduceLT, Nat.reduceLeDiff, Nat.reduceEqDiff, true_and, and_true, if_true, if_false, reduceIte, Bool.false_eq_true, reduceCtorEq, Int.reduceNeg]
        simp
    · intro r _ acc
      simp only [↓toB, RU, Nat.reduceAdd, Nat.reduceSub, Nat.reduceLT, Nat.reduceLeDiff, Nat.reduceEqDiff, true_and, and_true, if_true, if_false, reduceIte, Bool.false_eq_true, reduceCtorEq, Int.reduceNeg]
      rw [lcGo_map (φ := PV.int) (g := fun _ => .bl true) r acc]
      · simp only [↓toB, RU, Nat.reduceAdd, Nat.reduceSub, Nat.reduceLT, Nat.reduceLeDiff, Nat.reduceEqDiff, true_and, and_true, if_true, if_false, reduceIte, Bool.false_eq_true, reduceCtorEq, Int.reduceNeg]
      · intro i _
        simp only [lcTurn, ↓toB, RU, Nat.reduceAdd, Nat.reduceSub, Nat.reduceLT, Nat.reduceLeDiff, Nat.reduceEqDiff, true_and, and_true, if_true, if_false, reduceIte, Bool.false_eq_true, reduceCtorEq, Int.reduceNeg, r_wh_int]
  · intro r _
    simp only [lcTurn, ↓toB, RU, Nat.reduceAdd, Nat.reduceSub, Nat.reduceLT, Nat.reduceLeDiff, Nat.reduceEqDiff, true_and, and_true, if_true, if_false, reduceIte, Bool.false_eq_true, reduceCtorEq, Int.reduceNeg]
theorem fmod_nat (a b : Nat) : (a : Int).fmod (b : Int) = ((a % b : Nat) : Int) := by
  rw [Int.fmod_eq_emod_of_nonneg _ (by omega)]
  exact (Int.natCast_emod a b).symm
theorem abs_nat (i : Int) : (if i < 0 then -i else i) = (i.natAbs : Int) := by
  split <;> omega
/-- the loop of shared -/
theorem gcd_loop (F : Sem) {t : E} {b : Ss} (ht : t = .cmp .ne (.var 1) (.con (.int 0))) (hb : ∀ x y : Nat, y ≠ 0 → evSs F b [some (.fz (.int x)), some (.fz (.int y))] = .ok (.nx, [some (.fz (.int y)), some (.fz (.int ((x % y : Nat) : Int)))])) :
    ∀ (y x : Nat), whF (ev F t).t (evSs F b) [some (.fz (.int x)), some (.fz (.int y))] = .ok (.nx, [some (.fz (.int (Nat.gcd x y : Nat))), some (.fz (.int 0))]) := by
  intro y
  induction y using Nat.strongRecOn with
  | _ y ih =>
    intro x
    rw [whF_eq, ht]
    by_cases hy : y = 0
    · subst hy
      simp only [↓toB, RU, Nat.reduceAdd, Nat.reduceSub, Nat.reduceLT, Nat.reduceLeDiff, Nat.reduceEqDiff, true_and, and_true, if_true, if_false, reduceIte, Bool.false_eq_true, reduceCtorEq, Int.reduceNeg]
      rw [show decide (((0 : Nat) : Int) = 0) = true from rfl]
      simp only [↓toB, RU, Nat.reduceAdd, Nat.reduceSub, Nat.reduceLT, Nat.reduceLeDiff, Nat.reduceEqDiff, true_and, and_true, if_true, if_false, reduceIte, Bool.false_eq_true, reduceCtorEq, Int.reduceNeg, Nat.gcd_zero_right]
      rfl
    · have e : decide ((y : Int) = 0) = false := by rw [decide_eq_false_iff_not]; omega
      simp only [↓toB, RU, Nat.reduceAdd, Nat.reduceSub, Nat.reduceLT, Nat.reduceLeDiff, Nat.reduceEqDiff, true_and, and_true, if_true, if_false, reduceIte, Bool.false_eq_true, reduceCtorEq, Int.reduceNeg, e, hb x y hy]
      rw [← ht, ih (x % y) (Nat.mod_lt _ (Nat.pos_of_ne_zero hy)) y, Nat.gcd_comm y (x % y), ← Nat.gcd_rec y x, Nat.gcd_comm]
theorem r_shared (n) (i j : Int) : evF pg (n + 1) (.fn "shared") [.val (.int i), .val (.int j)] = .ok (.val (.int (Int.gcd i j))) none := by
  rw [c_shared]
  simp only [↓toB, RU, Nat.reduceAdd, Nat.reduceSub, Nat.reduceLT, Nat.reduceLeDiff, Nat.reduceEqDiff, true_and, and_true, if_true, if_false, reduceIte, Bool.false_eq_true, reduceCtorEq, Int.reduceNeg, d_shared, s_whl, abs_nat]
  rw [gcd_loop _ rfl]
  · simp only [↓toB, RU, Nat.reduceAdd, Nat.reduceSub, Nat.reduceLT, Nat.reduceLeDiff, Nat.reduceEqDiff, true_and, and_true, if_true, if_false, reduceIte, Bool.false_eq_true, reduceCtorEq, Int.reduceNeg]
    rfl
  · intro x y hy
    have e : ((y : Nat) : Int) ≠ 0 := by omega
    simp only [↓toB, RU, Nat.reduceAdd, Nat.reduceSub, Nat.reduceLT, Nat.reduceLeDiff, Nat.reduceEqDiff, true_and, and_true, if_true, if_false, reduceIte, Bool.false_eq_true, reduceCtorEq, Int.reduceNeg, bo_mod _ _ e, fmod_nat]
theorem r_lshared (n) (i j : Int) : evF pg (n + 1) (.fn "_law_shared") [.val (.int i), .val (.int j)] = .ok (.val (.int (Int.gcd i j))) none := by
  rw [c__law_shared]
  simp only [↓toB, RU, Nat.reduceAdd, Nat.reduceSub, Nat.reduceLT, Nat.reduceLeDiff, Nat.reduceEqDiff, true_and, and_true, if_true, if_false, reduceIte, Bool.false_eq_true, reduceCtorEq, Int.reduceNeg, d__law_shared, s_whl, abs_nat]
  rw [gcd_loop _ rfl]
  · simp only [↓toB, RU, Nat.reduceAdd, Nat.reduceSub, Nat.reduceLT, Nat.reduceLeDiff, Nat.reduceEqDiff, true_and, and_true, if_true, if_false, reduceIte, Bool.false_eq_true, reduceCtorEq, Int.reduceNeg]
    rfl
  · intro x y hy
    have e : ((y : Nat) : Int) ≠ 0 := by omega
    simp only [↓toB, RU, Nat.reduceAdd, Nat.reduceSub, Nat.reduceLT, Nat.reduceLeDiff, Nat.reduceEqDiff, true_and, and_true, if_true, if_false, reduceIte, Bool.false_eq_true, reduceCtorEq, Int.reduceNeg, bo_mod _ _ e, fmod_nat]

theorem forGo_st {α σ : Type} {bind : PV → Env → Res Env} {body : Env → Res (Fl × Env)} {φ : α → PV} {W : σ → Env} {step : α → σ → σ} {I : σ → Prop} : ∀ (xs : List α) (s : σ), I s → (∀ a ∈ xs, ∀ s, I s → (bind (φ a) (W s)).bind body = .ok (.nx, W (step a s)) ∧ I (step a s)) →
    forGo bind body (xs.map φ) (W s) = .ok (.nx, W (xs.foldl (fun s a => step a s) s)) ∧ I (xs.foldl (fun s a => step a s) s)
  | [], s, h, _ => ⟨rfl, h⟩
  | a :: r, s, h, H => by
    obtain ⟨h1, h2⟩ := H a List.mem_cons_self s h
    obtain ⟨h3, h4⟩ := forGo_st r (step a s) h2 fun b hb => H b (List.mem_cons_of_mem _ hb)
    refine ⟨?_, h4⟩
    show ((bind (φ a) (W s)).bind fun e1 => (body e1).bind fun r' => match r'.1 with
      | .nx => forGo bind body (r.map φ) r'.2
      | .ct => forGo bind body (r.map φ) r'.2
      | .bk => .ok (.nx, r'.2)
      | .rt v => .ok (.rt v, r'.2)) = _
    rw [← Res.assoc, h1, bind_ok]
    exact h3
/-- the part that all entries share -/
def gcdL (r : List Int) : Int := r.foldl (fun s a => (Int.gcd s a : Int)) 0
theorem fold_snd {α β γ : Type} (f : β → α → β) (g : α → γ) : ∀ (xs : List α) (s : γ × β), (xs.foldl (fun (s : γ × β) a => (g a, f s.2 a)) s).2 = xs.foldl f s.2
  | [], _ => rfl
  | a :: r, s => fold_snd f g r (g a, f s.2 a)
theorem r_shared_of (n) (r : List Int) : evF pg (n + 2) (.fn "shared_of") [.val (iR r)] = .ok (.val (.int (gcdL r))) none := by
  rw [c_shared_of]
  simp only [↓toB, RU, Nat.reduceAdd, Nat.reduceSub, Nat.reduceLT, Nat.reduceLeDiff, Nat.reduceEqDiff, true_and, and_true, if_true, if_false, reduceIte, Bool.false_eq_true, reduceCtorEq, Int.reduceNeg, d_shared_of, s_for]
  have h := (forGo_st (φ := PV.int) (I := fun _ => True) (W := fun s : Option Cell × Int => [some (.fz (iR r)), some (.fz (.int s.2)), s.1]) (step := fun a s => (some (.fz (.int a)), (Int.gcd s.2 a : Int)))
    (bind := evTg (pg.sem (n + 1)) (.nm 2)) (body := evSs (pg.sem (n + 1)) (.cons (.asg (.nm 1) (.call "shared" (.cons (.var 1) (.cons (.var 2) .nil)))) .nil)) r (none, 0) trivial ?_).1
  · rw [h]
    simp only [↓toB, RU, Nat.reduceAdd, Nat.reduceSub, Nat.reduceLT, Nat.reduceLeDiff, Nat.reduceEqDiff, true_and, and_true, if_true, if_false, reduceIte, Bool.false_eq_true, reduceCtorEq, Int.reduceNeg, fold_snd (fun s a => (Int.gcd s a : Int)) (fun a => some (Cell.fz (.int a)))]
    rfl
  · intro a _ s _
    refine ⟨?_, trivial⟩
    simp only [↓toB, RU, Nat.reduceAdd, Nat.reduceSub, Nat.reduceLT, Nat.reduceLeDiff, Nat.reduceEqDiff, true_and, and_true, if_true, if_false, reduceIte, Bool.false_eq_true, reduceCtorEq, Int.reduceNeg, r_shared]

def small (r : List Int) : Prop := r.length ≤ 1000 ∧ ∀ x ∈ r, x.natAbs ≤ 1000000
theorem gcd_le_add (x y : Nat) : Nat.gcd x y ≤ x + y := by
  by_cases h : x = 0
  · subst h; simp
  · have := Nat.gcd_le_left y (Nat.pos_of_ne_zero h); omega
theorem gcdL_bd : ∀ (r : List Int) (s : Int) (B : Nat), (∀ x ∈ r, x.natAbs ≤ B) → (r.foldl (fun s a => (Int.gcd s a : Int)) s).natAbs ≤ s.natAbs + r.length * B
  | [], s, B, _ => by simp
  | a :: r, s, B, h => by
    have ih := gcdL_bd r (Int.gcd s a) B fun x hx => h x (List.mem_cons_of_mem _ hx)
    have h1 := gcd_le_add s.natAbs a.natAbs
    have h2 := h a List.mem_cons_self
    have h3 : ((Int.gcd s a : Nat) : Int).natAbs = Nat.gcd s.natAbs a.natAbs := by rw [Int.natAbs_natCast]; rfl
    rw [h3] at ih
    rw [List.foldl_cons, List.length_cons, Nat.add_mul]
    omega
theorem gcdL_small {r : List Int} (h : small r) : (gcdL r).natAbs < 2 ^ 1000 := by
  have := gcdL_bd r 0 1000000 h.2
  have h1 := h.1
  refine pow_le _ 0 ?_
  unfold gcdL
  have : r.length * 1000000 ≤ 1000 * 1000000 := Nat.mul_le_mul_right _ h1
  have : (0 : Int).natAbs = 0 := rfl
  omega
theorem gcdL_nonneg (r : List Int) : 0 ≤ gcdL r := by
  have key : ∀ (r : List Int) (s : Int), 0 ≤ s → 0 ≤ r.foldl (fun s a => (Int.gcd s a : Int)) s := by
    intro r
    induction r with
    | nil => intro s h; exact h
    | cons a r ih => intro s _; exact ih _ (Int.natCast_nonneg _)
  exact key r 0 (Int.le_refl _)
theorem gcdL_dvd (r : List Int) : ∀ a ∈ r, gcdL r ∣ a := by
  have key : ∀ (r : List Int) (s : Int), (r.foldl (fun s a => (Int.gcd s a : Int)) s ∣ s) ∧ ∀ a ∈ r, r.foldl (fun s a => (Int.gcd s a : Int)) s ∣ a := by
    intro r
    induction r with
    | nil => intro s; exact ⟨Int.dvd_refl _, fun a h => by cases h⟩
    | cons b r ih =>
      intro s
      obtain ⟨h1, h2⟩ := ih (Int.gcd s b)
      refine ⟨Int.dvd_trans h1 (Int.gcd_dvd_left ..), fun a ha => ?_⟩
      rcases List.mem_cons.mp ha with rfl | ha
      · exact Int.dvd_trans h1 (Int.gcd_dvd_right ..)
      · exact h2 a ha
  exact (key r 0).2
theorem gcdL_zero (r : List Int) (h : ∀ a ∈ r, a = 0) : gcdL r = 0 := by
  unfold gcdL
  induction r with
  | nil => rfl
  | cons a r ih =>
    have := h a List.mem_cons_self
    subst this
    exact ih fun b hb => h b (List.mem_cons_of_mem _ hb)
theorem at_head (x : PV) (xs : List PV) : atI (x :: xs) 0 = some x := ix_at (j := 0) rfl
def leastL (r : List Int) : List Int := if gcdL r = 0 then r else r.map fun x => x.fdiv (if (r.filter fun x => !decide (x = 0)).headD 0 < 0 then -gcdL r else gcdL r)
theorem r_least (n) (r : List Int) (hs : small r) : evF pg (n + 3) (.fn "least_row") [.val (iR r)] = .ok (.val (iR (leastL r))) none := by
  rw [c_least_row]
  have hg := gcdL_small hs
  by_cases h0 : gcdL r = 0
  · simp only [↓toB, RU, Nat.reduceAdd, Nat.reduceSub, Nat.reduceLT, Nat.reduceLeDiff, Nat.reduceEqDiff, true_and, and_true, if_true, if_false, reduceIte, Bool.false_eq_true, reduceCtorEq, Int.reduceNeg, d_least_row, r_shared_of, h0, decide_true, leastL]
  · have e0 : decide (gcdL r = 0) = false := decide_eq_false h0
    obtain ⟨x, xs, hx⟩ : ∃ x xs, r.filter (fun x => !decide (x = 0)) = x :: xs := by
      cases q : r.filter (fun x => !decide (x = 0)) with
      | nil =>
        exact absurd (gcdL_zero r fun a ha => by
          have := List.filter_eq_nil_iff.mp q a ha
          simpa using this) h0
      | cons x xs => exact ⟨x, xs, rfl⟩
    simp only [↓toB, RU, Nat.reduceAdd, Nat.reduceSub, Nat.reduceLT, Nat.reduceLeDiff, Nat.reduceEqDiff, true_and, and_true, if_true, if_false, reduceIte, Bool.false_eq_true, reduceCtorEq, Int.reduceNeg, d_least_row, r_shared_of, e0, v_lc]
    rw [lcGo_filter (φ := PV.int) (p := fun x => !decide (x = 0)) (g := fun i => .int i) r []]
    · simp only [↓toB, RU, Nat.reduceAdd, Nat.reduceSub, Nat.reduceLT, Nat.reduceLeDiff, Nat.reduceEqDiff, true_and, and_true, if_true, if_false, reduceIte, Bool.false_eq_true, reduceCtorEq, Int.reduceNeg, hx, at_head]
      by_cases hn : x < 0
      · have hg' : (-gcdL r).natAbs < 2 ^ 1000 := by rw [Int.natAbs_neg]; exact hg
        have h0' : -gcdL r ≠ 0 := by omega
        simp only [↓toB, RU, Nat.reduceAdd, Nat.reduceSub, Nat.reduceLT, Nat.reduceLeDiff, Nat.reduceEqDiff, true_and, and_true, if_true, if_false, reduceIte, Bool.false_eq_true, reduceCtorEq, Int.reduceNeg, hn, decide_true, v_lc]
        rw [lcGo_map (φ := PV.int) (g := fun i => .int (i.fdiv (-gcdL r))) r []]
        · simp only [↓toB, RU, Nat.reduceAdd, Nat.reduceSub, Nat.reduceLT, Nat.reduceLeDiff, Nat.reduceEqDiff, true_and, and_true, if_true, if_false, reduceIte, Bool.false_eq_true, reduceCtorEq, Int.reduceNeg]
          unfold leastL iR
          rw [if_neg h0, hx]
          simp only [List.headD_cons, hn, if_true, List.map_map]
          rfl
        · intro a _
          simp only [lcTurn, ↓toB, RU, Nat.reduceAdd, Nat.reduceSub, Nat.reduceLT, Nat.reduceLeDiff, Nat.reduceEqDiff, true_and, and_true, if_true, if_false, reduceIte, Bool.false_eq_true, reduceCtorEq, Int.reduceNeg, bo_fdiv a _ h0' (pyl_of hg')]
      · simp only [↓toB, RU, Nat.reduceAdd, Nat.reduceSub, Nat.reduceLT, Nat.reduceLeDiff, Nat.reduceEqDiff, true_and, and_true, if_true, if_false, reduceIte, Bool.false_eq_true, reduceCtorEq, Int.reduceNeg, hn, decide_false, v_lc]
        rw [lcGo_map (φ := PV.int) (g := fun i => .int (i.fdiv (gcdL r))) r []]
        · simp only [↓toB, RU, Nat.reduceAdd, Nat.reduceSub, Nat.reduceLT, Nat.reduceLeDiff, Nat.reduceEqDiff, true_and, and_true, if_true, if_false, reduceIte, Bool.false_eq_true, reduceCtorEq, Int.reduceNeg]
          unfold leastL iR
          rw [if_neg h0, hx]
          simp only [List.headD_cons, hn, if_false, List.map_map]
          rfl
        · intro a _
          simp only [lcTurn, ↓toB, RU, Nat.reduceAdd, Nat.reduceSub, Nat.reduceLT, Nat.reduceLeDiff, Nat.reduceEqDiff, true_and, and_true, if_true, if_false, reduceIte, Bool.false_eq_true, reduceCtorEq, Int.reduceNeg, bo_fdiv a _ h0 (pyl_of hg)]
    · intro a _
      by_cases ha : a = 0
      · subst ha; simp only [lcTurn, ↓toB, RU, Nat.reduceAdd, Nat.reduceSub, Nat.reduceLT, Nat.reduceLeDiff, Nat.reduceEqDiff, true_and, and_true, if_true, if_false, reduceIte, Bool.false_eq_true, reduceCtorEq, Int.reduceNeg, decide_true]
      · simp only [lcTurn, ↓toB, RU, Nat.reduceAdd, Nat.reduceSub, Nat.reduceLT, Nat.reduceLeDiff, Nat.reduceEqDiff, true_and, and_true, if_true, if_false, reduceIte, Bool.false_eq_true, reduceCtorEq, Int.reduceNeg, ha, decide_false]
theorem zipP_map : ∀ (r s : List Int), zipP (r.map PV.int) (s.map PV.int) = (r.zip s).map fun p => PV.tup [.int p.1, .int p.2]
  | [], s => by cases s <;> rfl
  | a :: r, [] => rfl
  | a :: r, b :: s => by
    show PV.tup [.int a, .int b] :: zipP (r.map PV.int) (s.map PV.int) = _
    rw [zipP_map r s]
    rfl
def dotL (r s : List Int) : Int := ((r.zip s).map fun p => p.1 * p.2).sum
theorem mul_small {a b : Int} (ha : a.natAbs ≤ 1000000) (hb : b.natAbs ≤ 1000000) : mulOk a b = true := mulOk_of (pow_le _ 0 (by omega)) (pow_le _ 0 (by omega))
theorem r_dot (n) (r s : List Int) (hr : small r) (hs : small s) : evF pg (n + 1) (.fn "dot") [.val (iR r), .val (iR s)] = .ok (.val (.int (dotL r s))) none := by
  rw [c_dot]
  simp only [↓toB, RU, Nat.reduceAdd, Nat.reduceSub, Nat.reduceLT, Nat.reduceLeDiff, Nat.reduceEqDiff, true_and, and_true, if_true, if_false, reduceIte, Bool.false_eq_true, reduceCtorEq, Int.reduceNeg, d_dot, v_lc, zipP_map]
  rw [lcGo_map (φ := fun p : Int × Int => PV.tup [.int p.1, .int p.2]) (g := fun p => .int (p.1 * p.2)) (r.zip s) []]
  · simp only [↓toB, RU, Nat.reduceAdd, Nat.reduceSub, Nat.reduceLT, Nat.reduceLeDiff, Nat.reduceEqDiff, true_and, and_true, if_true, if_false, reduceIte, Bool.false_eq_true, reduceCtorEq, Int.reduceNeg, asInts_map]
    rfl
  · intro p hp
    have h1 := hr.2 p.1 (List.of_mem_zip hp).1
    have h2 := hs.2 p.2 (List.of_mem_zip hp).2
    simp only [lcTurn, ↓toB, RU, Nat.reduceAdd, Nat.reduceSub, Nat.reduceLT, Nat.reduceLeDiff, Nat.reduceEqDiff, true_and, and_true, if_true, if_false, reduceIte, Bool.false_eq_true, reduceCtorEq, Int.reduceNeg, bo_mul _ _ (mul_small h1 h2)]
def turnL (t : List (List Int)) (w : Nat) : List (List Int) := (List.range w).map fun k => t.map fun r => r.getD k 0
theorem getI {r : List Int} {k : Nat} (h : k < r.length) : atI (r.map PV.int) (k : Int) = some (.int (r.getD k 0)) := ix_at (by
  rw [List.getElem?_map, List.getElem?_eq_getElem h, List.getD_eq_getElem?_getD, List.getElem?_eq_getElem h]; rfl)
theorem r_turned (n) (t : List (List Int)) (w : Nat) (hw : w ≤ 1000) (ht : ∀ r ∈ t, w ≤ r.length) : evF pg (n + 1) (.fn "turned") [.val (tR t), .val (.int (w : Int))] = .ok (.val (tR (turnL t w))) none := by
  rw [c_turned]
  simp only [↓toB, RU, Nat.reduceAdd, Nat.reduceSub, Nat.reduceLT, Nat.reduceLeDiff, Nat.reduceEqDiff, true_and, and_true, if_true, if_false, reduceIte, Bool.false_eq_true, reduceCtorEq, Int.reduceNeg, d_turned, v_lc, fun env => rngN w env (by omega)]
  rw [lcGo_map (φ := fun k : Nat => PV.int (k : Int)) (g := fun k => iR (t.map fun r => r.getD k 0)) (List.range w) []]
  · simp only [↓toB, RU, Nat.reduceAdd, Nat.reduceSub, Nat.reduceLT, Nat.reduceLeDiff, Nat.reduceEqDiff, true_and, and_true, if_true, if_false, reduceIte, Bool.false_eq_true, reduceCtorEq, Int.reduceNeg]
    unfold tR turnL
    rw [List.map_map]
    rfl
  · intro k hk
    have hk : k < w := List.mem_range.mp hk
    simp only [lcTurn, ↓toB, RU, Nat.reduceAdd, Nat.reduceSub, Nat.reduceLT, Nat.reduceLeDiff, Nat.reduceEqDiff, true_and, and_true, if_true, if_false, reduceIte, Bool.false_eq_true, reduceCtorEq, Int.reduceNeg, v_lc]
    rw [lcGo_map (φ := iR) (g := fun r => .int (r.getD k 0)) t []]
    · simp only [↓toB, RU, Nat.reduceAdd, Nat.reduceSub, Nat.reduceLT, Nat.reduceLeDiff, Nat.reduceEqDiff, true_and, and_true, if_true, if_false, reduceIte, Bool.false_eq_true, reduceCtorEq, Int.reduceNeg]
      unfold iR
      rw [List.map_map]
      rfl
    · intro r hr
      have := ht r hr
      simp only [lcTurn, ↓toB, RU, Nat.reduceAdd, Nat.reduceSub, Nat.reduceLT, Nat.reduceLeDiff, Nat.reduceEqDiff, true_and, and_true, if_true, if_false, reduceIte, Bool.false_eq_true, reduceCtorEq, Int.reduceNeg, getI (r := r) (k := k) (by omega)]
theorem r_times (n) (t : List (List Int)) (r : List Int) (ht : ∀ q ∈ t, small q) (hr : small r) : evF pg (n + 2) (.fn "times") [.val (tR t), .val (iR r)] = .ok (.val (iR (t.map fun q => dotL q r))) none := by
  rw [c_times]
  simp only [↓toB, RU, Nat.reduceAdd, Nat.reduceSub, Nat.reduceLT, Nat.reduceLeDiff, Nat.reduceEqDiff, true_and, and_true, if_true, if_false, reduceIte, Bool.false_eq_true, reduceCtorEq, Int.reduceNeg, d_times, v_lc]
  rw [lcGo_map (φ := iR) (g := fun q => .int (dotL q r)) t []]
  · simp only [↓toB, RU, Nat.reduceAdd, Nat.reduceSub, Nat.reduceLT, Nat.reduceLeDiff, Nat.reduceEqDiff, true_and, and_true, if_true, if_false, reduceIte, Bool.false_eq_true, reduceCtorEq, Int.reduceNeg]
    unfold iR
    rw [List.map_map]
    rfl
  · intro q hq
    simp only [lcTurn, ↓toB, RU, Nat.reduceAdd, Nat.reduceSub, Nat.reduceLT, Nat.reduceLeDiff, Nat.reduceEqDiff, true_and, and_true, if_true, if_false, reduceIte, Bool.false_eq_true, reduceCtorEq, Int.reduceNeg, r_dot _ q r (ht q hq) hr]
theorem r_product (n) (t u : List (List Int)) (w : Nat) (hw : w ≤ 1000) (ht : ∀ q ∈ t, small q) (hu : ∀ q ∈ u, w ≤ q.length) (hv : ∀ q ∈ turnL u w, small q) : evF pg (n + 2) (.fn "product") [.val (tR t), .val (tR u), .val (.int (w : Int))] = .ok (.val (tR (t.map fun q => (turnL u w).map fun c => dotL q c))) none := by
  rw [c_product]
  simp only [↓toB, RU, Nat.reduceAdd, Nat.reduceSub, Nat.reduceLT, Nat.reduceLeDiff, Nat.reduceEqDiff, true_and, and_true, if_true, if_false, reduceIte, Bool.false_eq_true, reduceCtorEq, Int.reduceNeg, d_product, v_lc, r_turned _ u w hw hu]
  rw [lcGo_map (φ := iR) (g := fun q => iR ((turnL u w).map fun c => dotL q c)) t []]
  · simp only [↓toB, RU, Nat.reduceAdd, Nat.reduceSub, Nat.reduceLT, Nat.reduceLeDiff, Nat.reduceEqDiff, true_and, and_true, if_true, if_false, reduceIte, Bool.false_eq_true, reduceCtorEq, Int.reduceNeg]
    unfold tR
    rw [List.map_map]
    rfl
  · intro q hq
    simp only [lcTurn, ↓toB, RU, Nat.reduceAdd, Nat.reduceSub, Nat.reduceLT, Nat.reduceLeDiff, Nat.reduceEqDiff, true_and, and_true, if_true, if_false, reduceIte, Bool.false_eq_true, reduceCtorEq, Int.reduceNeg, v_lc]
    rw [lcGo_map (φ := iR) (g := fun c => .int (dotL q c)) (turnL u w) []]
    · simp only [↓toB, RU, Nat.reduceAdd, Nat.reduceSub, Nat.reduceLT, Nat.reduceLeDiff, Nat.reduceEqDiff, true_and, and_true, if_true, if_false, reduceIte, Bool.false_eq_true, reduceCtorEq, Int.reduceNeg]
      unfold iR
      rw [List.map_map]
      rfl
    · intro c hc
      simp only [lcTurn, ↓toB, RU, Nat.reduceAdd, Nat.reduceSub, Nat.reduceLT, Nat.reduceLeDiff, Nat.reduceEqDiff, true_and, and_true, if_true, if_false, reduceIte, Bool.false_eq_true, reduceCtorEq, Int.reduceNeg, r_dot _ q c (ht q hq) (hv c hc)]
end PL
set_option Elab.async false
set_option linter.all false
set_option maxRecDepth 100000
set_option maxHeartbeats 4000000
namespace PL
open PySem PySem.Spec PyProof.Rows L2
theorem lcGo_ex {α β σ : Type} {bind : PV → Env → Res Env} {test : Env → Res (Bool × Env)} {elt : Env → Res (PV × Env)} {wipe : Env → Env} {own : List Nat} {φ : α → PV} {I : σ → Prop} {W : σ → Env} {ψ : β → PV} {R : β → Prop} :
    ∀ (xs : List α) (acc : List PV) (s : σ), I s → (∀ a ∈ xs, ∀ s, I s → ∃ b s', lcTurn bind test elt wipe (φ a) (W s) = .ok (some (ψ b), W s') ∧ R b ∧ I s') →
    ∃ (bs : List β) (s' : σ), lcGo own bind test elt wipe (xs.map φ) acc (W s) = .ok (acc ++ bs.map ψ, W s') ∧ bs.length = xs.length ∧ (∀ b ∈ bs, R b) ∧ I s'
  | [], acc, s, hi, _ => ⟨[], s, by
      show Res.ok (acc, W s) = _
      rw [List.map_nil, List.append_nil], rfl, fun b hb => (by cases hb), hi⟩
  | a :: r, acc, s, hi, h => by
    obtain ⟨b, s1, h1, h2, h3⟩ := h a List.mem_cons_self s hi
    obtain ⟨bs, s2, h4, h5, h6, h7⟩ := lcGo_ex (I := I) (R := R) (ψ := ψ) (W := W) r (acc ++ [ψ b]) s1 h3 fun c hc => h c (List.mem_cons_of_mem _ hc)
    refine ⟨b :: bs, s2, ?_, by rw [List.length_cons, List.length_cons, h5], fun c hc => ?_, h7⟩
    · rw [List.map_cons, lcGo_cons, h1, bind_ok]
      show lcGo own bind test elt wipe (r.map φ) (acc ++ [ψ b]) (W s1) = _
      rw [h4, List.append_assoc]
      rfl
    · rcases List.mem_cons.mp hc with rfl | hc
      · exact h2
      · exact h6 c hc
theorem r_draw (n) {d : DS} {L : Int} (hd : d.ok) (hL : 1 ≤ L ∧ L ≤ 1000000) : ∃ (v : Nat) (d' : DS), evF pg (n + 1) (.fn "_law_draw") [.own (cellD d), .val (.int L)] = .ok (.val (.int (v : Int))) (some (cellD d')) ∧ (v : Int) < L ∧ d'.ok := by
  obtain ⟨h1, h2⟩ := draw_rng hd hL
  refine ⟨(drawV d L).toNat, drawS d L, ?_, by omega, draw_ok hd hL⟩
  rw [c__law_draw, Int.toNat_of_nonneg h1]
  exact draw_run _ hd hL
theorem r_draws (n) (ns : List Int) : evF pg (n + 1) (.fn "_law_draws") [.val (.scr ns)] = .ok (.new (cellD ⟨ns, 0, 0, 1⟩)) none := by
  rw [c__law_draws]
  simp only [↓toB, RU, Nat.reduceAdd, Nat.reduceSub, Nat.reduceLT, Nat.reduceLeDiff, Nat.reduceEqDiff, true_and, and_true, if_true, if_false, reduceIte, Bool.false_eq_true, reduceCtorEq, Int.reduceNeg, d__law_draws, show bltV "list" [.scr ns] = some (.lst (ns.map .int)) from bltV_list _]
  rfl
theorem lc_ex {α β σ : Type} {F : Sem} {own : List Nat} {t : Tg} {it c e : E} {env env1 : Env} {xs : List α} {φ : α → PV} {ψ : β → PV} {I : σ → Prop} {W : σ → Env} {R : β → Prop} {s : σ} (hi : (ev F it).i env = .ok (xs.map φ, env1)) (hp : plainAt env1 own = true) (hw : wipeE env1 own = W s) (hs : I s)
    (H : ∀ a ∈ xs, ∀ s, I s → ∃ b s', lcTurn (evTg F t) (ev F c).t (fun e1 => ((ev F e).e e1).bind fun q => optR (take q.1 q.2)) (fun e1 => wipeE e1 own) (φ a) (W s) = .ok (some (ψ b), W s') ∧ R b ∧ I s') :
    ∃ (bs : List β) (s' : σ), (ev F (.lc own t it c e)).e env = .ok (.new (.lst (bs.map ψ)), restore env1 (W s') own) ∧ bs.length = xs.length ∧ (∀ b ∈ bs, R b) ∧ I s' := by
  obtain ⟨bs, s', h1, h2, h3, h4⟩ := lcGo_ex (own := own) xs [] s hs H
  refine ⟨bs, s', ?_, h2, h3, h4⟩
  rw [v_lc, hi, bind_ok]
  dsimp only
  rw [hp]
  dsimp only
  rw [hw, h1]
  rfl
abbrev eRow : E := .lc [5] (.nm 5) (.blt "range" (.cons (.var 2) .nil)) (.con (.bl true)) (.bop .sub (.calm "_law_draw" 0 (.cons (.bop .add (.bop .mul (.con (.int (2))) (.var 3)) (.con (.int (1)))) .nil)) (.var 3))
theorem r_row (n) (w m : Nat) (hw : w ≤ 1000) (hm : m ≤ 1000) {d : DS} (hd : d.ok) (k1 k4 : Option Cell) : ∃ (r : List Int) (d' : DS), (ev (pg.sem (n + 1)) eRow).e [some (cellD d), k1, some (.fz (.int (w : Int))), some (.fz (.int (m : Int))), k4, none] =
    .ok (.new (.lst (r.map .int)), [some (cellD d'), k1, some (.fz (.int (w : Int))), some (.fz (.int (m : Int))), k4, none]) ∧ r.length = w ∧ (∀ x ∈ r, x.natAbs ≤ m) ∧ d'.ok := by
  obtain ⟨bs, s', h1, h2, h3, h4⟩ := lc_ex (F := pg.sem (n + 1)) (own := [5]) (t := .nm 5) (it := .blt "range" (.cons (.var 2) .nil)) (c := .con (.bl true)) (e := .bop .sub (.calm "_law_draw" 0 (.cons (.bop .add (.bop .mul (.con (.int (2))) (.var 3)) (.con (.int (1)))) .nil)) (.var 3))
    (env := [some (cellD d), k1, some (.fz (.int (w : Int))), some (.fz (.int (m : Int))), k4, none]) (env1 := [some (cellD d), k1, some (.fz (.int (w : Int))), some (.fz (.int (m : Int))), k4, none])
    (φ := fun k : Nat => PV.int (k : Int)) (ψ := PV.int) (R := fun x : Int => x.natAbs ≤ m) (I := DS.ok) (W := fun s => [some (cellD s), k1, some (.fz (.int (w : Int))), some (.fz (.int (m : Int))), k4, none]) (xs := List.range w) (s := d)
    (by simp only [↓toB, RU, Nat.reduceAdd, Nat.reduceSub, Nat.reduceLT, Nat.reduceLeDiff, Nat.reduceEqDiff, true_and, and_true, if_true, if_false, reduceIte, Bool.false_eq_true, reduceCtorEq, Int.reduceNeg, fun env => rngN w env (by omega)]) rfl rfl hd (fun a ha s hs => by
      obtain ⟨v, d', e1, e2, e3⟩ := r_draw n hs (L := 2 * (m : Int) + 1) (by omega)
      refine ⟨(v : Int) - m, d', ?_, by omega, e3⟩
      have e1' : evF pg (n + 1) (.fn "_law_draw") [.own (.lst [.lst (s.xs.map .int), .int s.pos, .int s.big, .int s.seed]), .val (.int (2 * (m : Int) + 1))] = .ok (.val (.int (v : Int))) (some (cellD d')) := e1
      have m2 : mulOk 2 (m : Int) = true := mulOk_of (pow_le _ 0 (by decide)) (pow_le _ 0 (by omega))
      simp only [lcTurn, ↓toB, RU, Nat.reduceAdd, Nat.reduceSub, Nat.reduceLT, Nat.reduceLeDiff, Nat.reduceEqDiff, true_and, and_true, if_true, if_false, reduceIte, Bool.false_eq_true, reduceCtorEq, Int.reduceNeg, cellD, bo_mul _ _ m2, e1'])
  exact ⟨bs, s', h1, by rw [h2, List.length_range], h3, h4⟩
theorem r_table (n) (h w m : Nat) (hh : h ≤ 1000) (hw : w ≤ 1000) (hm : m ≤ 1000) {d : DS} (hd : d.ok) : ∃ (t : List (List Int)) (d' : DS), evF pg (n + 2) (.fn "_law_table") [.own (cellD d), .val (.int (h : Int)), .val (.int (w : Int)), .val (.int (m : Int))] = .ok (.val (tR t)) (some (cellD d')) ∧
    t.length = h ∧ (∀ r ∈ t, r.length = w ∧ ∀ x ∈ r, x.natAbs ≤ m) ∧ d'.ok := by
  obtain ⟨bs, s', h1, h2, h3, h4⟩ := lc_ex (F := pg.sem (n + 1)) (own := [4]) (t := .nm 4) (it := .blt "range" (.cons (.var 1) .nil)) (c := .con (.bl true)) (e := .blt "tuple" (.cons eRow .nil))
    (env := [some (cellD d), some (.fz (.int (h : Int))), some (.fz (.int (w : Int))), some (.fz (.int (m : Int))), none, none]) (env1 := [some (cellD d), some (.fz (.int (h : Int))), some (.fz (.int (w : Int))), some (.fz (.int (m : Int))), none, none])
    (φ := fun k : Nat => PV.int (k : Int)) (ψ := iR) (R := fun r : List Int => r.length = w ∧ ∀ x ∈ r, x.natAbs ≤ m) (I := DS.ok) (W := fun s => [some (cellD s), some (.fz (.int (h : Int))), some (.fz (.int (w : Int))), some (.fz (.int (m : Int))), none, none]) (xs := List.range h) (s := d)
    (by simp only [↓toB, RU, Nat.reduceAdd, Nat.reduceSub, Nat.reduceLT, Nat.reduceLeDiff, Nat.reduceEqDiff, true_and, and_true, if_true, if_false, reduceIte, Bool.false_eq_true, reduceCtorEq, Int.reduceNeg, fun env => rngN h env (by omega)]) rfl rfl hd (fun a ha s hs => by
      obtain ⟨r, d', e1, e2, e3, e4⟩ := r_row n w m hw hm hs (some (.fz (.int (h : Int)))) (some (.fz (.int (a : Int))))
      refine ⟨r, d', ?_, ⟨e2, e3⟩, e4⟩
      simp only [lcTurn, ↓toB, RU, Nat.reduceAdd, Nat.reduceSub, Nat.reduceLT, Nat.reduceLeDiff, Nat.reduceEqDiff, true_and, and_true, if_true, if_false, reduceIte, Bool.false_eq_true, reduceCtorEq, Int.reduceNeg, e1])
  refine ⟨bs, s', ?_, by rw [h2, List.length_range], h3, h4⟩
  rw [c__law_table]
  have h1' := h1
  simp only [↓toB, RU, Nat.reduceAdd, Nat.reduceSub, Nat.reduceLT, Nat.reduceLeDiff, Nat.reduceEqDiff, true_and, and_true, if_true, if_false, reduceIte, Bool.false_eq_true, reduceCtorEq, Int.reduceNeg, d__law_table] at h1' ⊢
  rw [h1']
  simp only [↓toB, RU, Nat.reduceAdd, Nat.reduceSub, Nat.reduceLT, Nat.reduceLeDiff, Nat.reduceEqDiff, true_and, and_true, if_true, if_false, reduceIte, Bool.false_eq_true, reduceCtorEq, Int.reduceNeg, cellD]
end PL
set_option Elab.async false
set_option linter.all false
set_option maxRecDepth 100000
set_option maxHeartbeats 4000000
namespace PL
open PySem PySem.Spec PyProof.Rows L2
theorem all_keys (w : Nat) : ∀ (t : List (List Int)) (ks : List Int), (∀ r ∈ t, r.length = w) → (ks = [] ∨ ks = [(w : Int)]) → (t.map fun r => (r.length : Int)).foldl addK ks = (if t = [] then ks else [(w : Int)])
  | [], ks, _, _ => rfl
  | r :: t, ks, h, hk => by
    have e : addK ks (r.length : Int) = [(w : Int)] := by
      rw [h r List.mem_cons_self]
      rcases hk with rfl | rfl
      · rfl
      · unfold addK; rw [if_pos (by simp)]
    rw [List.map_cons, List.foldl_cons, e, all_keys w t _ (fun q hq => h q (List.mem_cons_of_mem _ hq)) (.inr rfl)]
    simp
def goodT (t : List (List Int)) (w : Nat) : Prop := (∀ r ∈ t, r.length = w) ∧ t.length ≤ 10 ∧ w ≤ 10
theorem flat_len (w : Nat) : ∀ (t : List (List Int)), (∀ r ∈ t, r.length ≤ w) → t.flatten.length ≤ t.length * w
  | [], _ => by simp
  | r :: t, h => by
    have ih := flat_len w t fun q hq => h q (List.mem_cons_of_mem _ hq)
    have h1 := h r List.mem_cons_self
    rw [List.flatten_cons, List.length_append, List.length_cons, Nat.add_mul]
    omega
theorem r_isT_good (n) {t : List (List Int)} {w : Nat} (h : goodT t w) : evF pg (n + 2) (.fn "is_table") [.val (tR t)] = .ok (.val (.bl true)) none := by
  have hf := flat_len w t fun r hr => Nat.le_of_eq (h.1 r hr)
  have h2 : t.length * w ≤ 10 * 10 := Nat.mul_le_mul h.2.1 h.2.2
  rw [r_is_table n t (sz1 (by omega)), all_keys w t [] h.1 (.inl rfl)]
  split <;> rfl
theorem r_isT_odd (n) {t : List (List Int)} {w : Nat} (h : goodT t w) (ht : t ≠ []) (r : List Int) (hr : r.length = w + 1) : evF pg (n + 2) (.fn "is_table") [.val (tR (t ++ [r]))] = .ok (.val (.bl false)) none := by
  have hf := flat_len (w + 1) (t ++ [r]) fun q hq => by
    rcases List.mem_append.mp hq with q' | q'
    · have := h.1 q q'; omega
    · have : q = r := by simpa using q'
      subst this; omega
  have h1 := h.2.1
  have h0 := h.2.2
  have h2 : (t ++ [r]).length * (w + 1) ≤ 11 * 11 := Nat.mul_le_mul (by rw [List.length_append, List.length_singleton]; omega) (by omega)
  rw [r_is_table n (t ++ [r]) (sz1 (by omega)), List.map_append, List.foldl_append, all_keys w t [] h.1 (.inl rfl), if_neg ht]
  have e : addK [(w : Int)] (r.length : Int) = [(w : Int), ((w + 1 : Nat) : Int)] := by
    unfold addK
    rw [hr, if_neg (by simp only [List.mem_singleton]; omega)]
    rfl
  show FRes.ok (.val (.bl (decide ((((addK [(w : Int)] (r.length : Int)).length : Nat) : Int) < 2)))) none = _
  rw [e]
  rfl
theorem r_isT_non (n) : evF pg (n + 2) (.fn "is_table") [.val .non] = .ok (.val (.bl false)) none := by
  rw [c_is_table]
  simp only [↓toB, RU, Nat.reduceAdd, Nat.reduceSub, Nat.reduceLT, Nat.reduceLeDiff, Nat.reduceEqDiff, true_and, and_true, if_true, if_false, reduceIte, Bool.false_eq_true, reduceCtorEq, Int.reduceNeg, d_is_table]
theorem r_isT_lst (n) (xs : List PV) : evF pg (n + 2) (.fn "is_table") [.val (.lst xs)] = .ok (.val (.bl false)) none := by
  rw [c_is_table]
  simp only [↓toB, RU, Nat.reduceAdd, Nat.reduceSub, Nat.reduceLT, Nat.reduceLeDiff, Nat.reduceEqDiff, true_and, and_true, if_true, if_false, reduceIte, Bool.false_eq_true, reduceCtorEq, Int.reduceNeg, d_is_table]
theorem r_isT_one (n) (p : PV) (hp : isiP p "tuple" = some false) : evF pg (n + 2) (.fn "is_table") [.val (.tup [p])] = .ok (.val (.bl false)) none := by
  rw [c_is_table]
  simp only [↓toB, RU, Nat.reduceAdd, Nat.reduceSub, Nat.reduceLT, Nat.reduceLeDiff, Nat.reduceEqDiff, true_and, and_true, if_true, if_false, reduceIte, Bool.false_eq_true, reduceCtorEq, Int.reduceNeg, d_is_table, v_lc]
  rw [show ([p] : List PV) = [p].map id from rfl, lcGo_map (φ := id) (g := fun _ => .bl false) [p] []]
  · simp only [↓toB, RU, Nat.reduceAdd, Nat.reduceSub, Nat.reduceLT, Nat.reduceLeDiff, Nat.reduceEqDiff, true_and, and_true, if_true, if_false, reduceIte, Bool.false_eq_true, reduceCtorEq, Int.reduceNeg, show asBls [PV.bl false] = some [false] from rfl]
    rfl
  · intro a ha
    have : a = p := by simpa using ha
    subst this
    simp only [lcTurn, ↓toB, RU, Nat.reduceAdd, Nat.reduceSub, Nat.reduceLT, Nat.reduceLeDiff, Nat.reduceEqDiff, true_and, and_true, if_true, if_false, reduceIte, Bool.false_eq_true, reduceCtorEq, Int.reduceNeg, id, hp]
theorem r_isT_two (n) (p : PV) (hp : evF pg (n + 1) (.fn "is_whole") [.val p] = .ok (.val (.bl false)) none) : evF pg (n + 2) (.fn "is_table") [.val (.tup [.tup [p]])] = .ok (.val (.bl false)) none := by
  rw [c_is_table]
  simp only [↓toB, RU, Nat.reduceAdd, Nat.reduceSub, Nat.reduceLT, Nat.reduceLeDiff, Nat.reduceEqDiff, true_and, and_true, if_true, if_false, reduceIte, Bool.false_eq_true, reduceCtorEq, Int.reduceNeg, d_is_table, v_lc]
  rw [show ([.tup [p]] : List PV) = [.tup [p]].map id from rfl, lcGo_map (φ := id) (g := fun _ => .bl true) [.tup [p]] []]
  · simp only [↓toB, RU, Nat.reduceAdd, Nat.reduceSub, Nat.reduceLT, Nat.reduceLeDiff, Nat.reduceEqDiff, true_and, and_true, if_true, if_false, reduceIte, Bool.false_eq_true, reduceCtorEq, Int.reduceNeg, show asBls [PV.bl true] = some [true] from rfl, v_lc2, li_map0, li_mapc]
    rw [show ([true] : List Bool).all id = true from rfl]
    simp only [↓toB, RU, Nat.reduceAdd, Nat.reduceSub, Nat.reduceLT, Nat.reduceLeDiff, Nat.reduceEqDiff, true_and, and_true, if_true, if_false, reduceIte, Bool.false_eq_true, reduceCtorEq, Int.reduceNeg, v_lc2, id]
    rw [show ([.tup [p]] : List PV) = [.tup [p]].map id from rfl, lc2Go_map (φ := id) (g := fun _ => [.bl false]) [.tup [p]] []]
    · simp only [↓toB, RU, Nat.reduceAdd, Nat.reduceSub, Nat.reduceLT, Nat.reduceLeDiff, Nat.reduceEqDiff, true_and, and_true, if_true, if_false, reduceIte, Bool.false_eq_true, reduceCtorEq, Int.reduceNeg, show ([([PV.bl false] : List PV)].flatten) = [.bl false] from rfl, show 1 ≤ sizeLine from by decide, show asBls [PV.bl false] = some [false] from rfl]
      rfl
    · intro a ha acc
      have : a = .tup [p] := by simpa using ha
      subst this
      simp only [↓toB, RU, Nat.reduceAdd, Nat.reduceSub, Nat.reduceLT, Nat.reduceLeDiff, Nat.reduceEqDiff, true_and, and_true, if_true, if_false, reduceIte, Bool.false_eq_true, reduceCtorEq, Int.reduceNeg, id]
      rw [show ([p] : List PV) = [p].map id from rfl, lcGo_map (φ := id) (g := fun _ => .bl false) [p] acc]
      · simp only [↓toB, RU, Nat.reduceAdd, Nat.reduceSub, Nat.reduceLT, Nat.reduceLeDiff, Nat.reduceEqDiff, true_and, and_true, if_true, if_false, reduceIte, Bool.false_eq_true, reduceCtorEq, Int.reduceNeg]
      · intro a ha
        have : a = p := by simpa using ha
        subst this
        simp only [lcTurn, ↓toB, RU, Nat.reduceAdd, Nat.reduceSub, Nat.reduceLT, Nat.reduceLeDiff, Nat.reduceEqDiff, true_and, and_true, if_true, if_false, reduceIte, Bool.false_eq_true, reduceCtorEq, Int.reduceNeg, id, hp]
  · intro a ha
    have : a = .tup [p] := by simpa using ha
    subst this
    simp only [lcTurn, ↓toB, RU, Nat.reduceAdd, Nat.reduceSub, Nat.reduceLT, Nat.reduceLeDiff, Nat.reduceEqDiff, true_and, and_true, if_true, if_false, reduceIte, Bool.false_eq_true, reduceCtorEq, Int.reduceNeg, id]
theorem r_look (n) {p : PV} {b : Bool} (h : evF pg (n + 2) (.fn "is_table") [.val p] = .ok (.val (.bl b)) none) : evF pg (n + 3) (.fn "look_at_table") [.val p] = if b then .ok (.val .non) none else .exc "BadRows" [] := by
  rw [c_look_at_table]
  cases b <;> simp only [↓toB, RU, Nat.reduceAdd, Nat.reduceSub, Nat.reduceLT, Nat.reduceLeDiff, Nat.reduceEqDiff, true_and, and_true, if_true, if_false, reduceIte, Bool.false_eq_true, reduceCtorEq, Int.reduceNeg, d_look_at_table, h]
theorem r_rank (n) {p : PV} (h : evF pg (n + 2) (.fn "is_table") [.val p] = .ok (.val (.bl false)) none) : evF pg (n + 5) (.fn "rank") [.val p] = .exc "BadRows" [] := by
  have hl := r_look n h
  simp only [↓toB, RU, Nat.reduceAdd, Nat.reduceSub, Nat.reduceLT, Nat.reduceLeDiff, Nat.reduceEqDiff, true_and, and_true, if_true, if_false, reduceIte, Bool.false_eq_true, reduceCtorEq, Int.reduceNeg] at hl
  have hr : evF pg (n + 4) (.fn "reduced") [.val p] = .exc "BadRows" [] := by
    rw [c_reduced]
    simp only [↓toB, RU, Nat.reduceAdd, Nat.reduceSub, Nat.reduceLT, Nat.reduceLeDiff, Nat.reduceEqDiff, true_and, and_true, if_true, if_false, reduceIte, Bool.false_eq_true, reduceCtorEq, Int.reduceNeg, d_reduced, hl]
  rw [c_rank]
  simp only [↓toB, RU, Nat.reduceAdd, Nat.reduceSub, Nat.reduceLT, Nat.reduceLeDiff, Nat.reduceEqDiff, true_and, and_true, if_true, if_false, reduceIte, Bool.false_eq_true, reduceCtorEq, Int.reduceNeg, d_rank, hr]
theorem pg_sub : pg.sub = subOf := rfl
theorem sub_bad : subOf "BadRows" "BadRows" = some true := by decide +kernel
theorem r_bad1 (n) {p : PV} {b : Bool} (h : evF pg (n + 4) (.fn "is_table") [.val p] = .ok (.val (.bl b)) none) : evF pg (n + 6) (.fn "_law_bad") [.val p, .val (.bl true)] = .ok (.val (.bl (!b))) none := by
  have hl := r_look (n + 2) h
  rw [c__law_bad]
  cases b with
  | true =>
    simp only [↓toB, RU, Nat.reduceAdd, Nat.reduceSub, Nat.reduceLT, Nat.reduceLeDiff, Nat.reduceEqDiff, true_and, and_true, if_true, if_false, reduceIte, Bool.false_eq_true, reduceCtorEq, Int.reduceNeg] at hl
    simp only [↓toB, RU, Nat.reduceAdd, Nat.reduceSub, Nat.reduceLT, Nat.reduceLeDiff, Nat.reduceEqDiff, true_and, and_true, if_true, if_false, reduceIte, Bool.false_eq_true, reduceCtorEq, Int.reduceNeg, d__law_bad, s_tri, hl, tryEnd]
  | false =>
    simp only [↓toB, RU, Nat.reduceAdd, Nat.reduceSub, Nat.reduceLT, Nat.reduceLeDiff, Nat.reduceEqDiff, true_and, and_true, if_true, if_false, reduceIte, Bool.false_eq_true, reduceCtorEq, Int.reduceNeg] at hl
    simp only [↓toB, RU, Nat.reduceAdd, Nat.reduceSub, Nat.reduceLT, Nat.reduceLeDiff, Nat.reduceEqDiff, true_and, and_true, if_true, if_false, reduceIte, Bool.false_eq_true, reduceCtorEq, Int.reduceNeg, d__law_bad, s_tri, hl, tryEnd, pg_sub, sub_bad, handle]
theorem r_bad0 (n) {p : PV} (h : evF pg (n + 2) (.fn "is_table") [.val p] = .ok (.val (.bl false)) none) : evF pg (n + 6) (.fn "_law_bad") [.val p, .val (.bl false)] = .ok (.val (.bl true)) none := by
  have hl := r_rank n h
  rw [c__law_bad]
  simp only [↓toB, RU, Nat.reduceAdd, Nat.reduceSub, Nat.reduceLT, Nat.reduceLeDiff, Nat.reduceEqDiff, true_and, and_true, if_true, if_false, reduceIte, Bool.false_eq_true, reduceCtorEq, Int.reduceNeg, d__law_bad, s_tri, hl, tryEnd, pg_sub, sub_bad, handle]
end PL
set_option Elab.async false
set_option linter.all false
set_option maxRecDepth 100000
set_option maxHeartbeats 4000000
namespace PL
open PySem PySem.Spec PyProof.Rows L2
theorem hS : pg.defs (.fn "_law_same") = some h_same := at__law_same
theorem sm1 (i : Int) : evF pg 40 (.fn "_law_same") [.val (.int i), .val (.int i)] = .ok (.val (.bl true)) none := same_ok hS 1 (.int i) trivial 39
theorem deep_row (r : List Int) (h : r.length ≤ 1000) (d : Nat) : deep (d + 2) (iR r) := ⟨by rw [List.length_map]; exact h, fun x hx => by
  obtain ⟨i, _, rfl⟩ := List.mem_map.mp hx
  exact trivial⟩
theorem sm2 (r : List Int) (h : r.length ≤ 1000) : evF pg 40 (.fn "_law_same") [.val (iR r), .val (iR r)] = .ok (.val (.bl true)) none := same_ok hS 2 (iR r) (deep_row r h 0) 38
theorem sm3 (t : List (List Int)) (h : t.length ≤ 1000) (hr : ∀ r ∈ t, r.length ≤ 1000) : evF pg 40 (.fn "_law_same") [.val (tR t), .val (tR t)] = .ok (.val (.bl true)) none := same_ok hS 3 (tR t) ⟨by rw [List.length_map]; exact h, fun x hx => by
  obtain ⟨r, hr', rfl⟩ := List.mem_map.mp hx
  exact deep_row r (hr r hr') 0⟩ 37
abbrev dC (d : DS) : Option Cell := some (.lst [.lst (d.xs.map .int), .int d.pos, .int d.big, .int d.seed])
theorem a1 {d : DS} (hd : d.ok) (x0 x2 x3 x4 x5 x6 x7 x8 x9 x10 x11 x12 x13 x14 x15 : Option Cell) : ∃ (h w : Nat) (d' : DS), evS (pg.sem 40) s_law_2_1 [x0, dC d, x2, x3, x4, x5, x6, x7, x8, x9, x10, x11, x12, x13, x14, x15, none, none] =
    .ok (.nx, [x0, dC d', x2, x3, x4, x5, x6, x7, x8, x9, x10, x11, some (.fz (.int (h : Int))), some (.fz (.int (w : Int))), x14, x15, none, none]) ∧ 1 ≤ h ∧ h ≤ 4 ∧ 1 ≤ w ∧ w ≤ 5 ∧ d'.ok := by
  obtain ⟨v1, d1, e1, b1, k1⟩ := r_draw 39 hd (L := 4) (by decide)
  obtain ⟨v2, d2, e2, b2, k2⟩ := r_draw 39 k1 (L := 5) (by decide)
  refine ⟨v1 + 1, v2 + 1, d2, ?_, by omega, by omega, by omega, by omega, k2⟩
  simp only [cellD, Nat.reduceAdd] at e1 e2
  have c1 : 1 + (v1 : Int) = ((v1 + 1 : Nat) : Int) := by omega
  have c2 : 1 + (v2 : Int) = ((v2 + 1 : Nat) : Int) := by omega
  simp only [↓toB, RU, Nat.reduceAdd, Nat.reduceSub, Nat.reduceLT, Nat.reduceLeDiff, Nat.reduceEqDiff, true_and, and_true, if_true, if_false, reduceIte, Bool.false_eq_true, reduceCtorEq, Int.reduceNeg, s_law_2_1, dC, e1, e2, c1, c2]
theorem a2 {d : DS} (hd : d.ok) {h w : Nat} (hh : h ≤ 4) (hw : w ≤ 5) (x0 x2 x3 x4 x5 x6 x7 x8 x9 x10 x11 x14 x15 : Option Cell) : ∃ (t : List (List Int)) (d' : DS), evS (pg.sem 40) s_law_2_2 [x0, dC d, x2, x3, x4, x5, x6, x7, x8, x9, x10, x11, some (.fz (.int (h : Int))), some (.fz (.int (w : Int))), x14, x15, none, none] =
    .ok (.nx, [x0, dC d', x2, some (.fz (tR t)), x4, x5, x6, x7, x8, x9, x10, x11, some (.fz (.int (h : Int))), some (.fz (.int (w : Int))), x14, x15, none, none]) ∧ t.length = h ∧ (∀ r ∈ t, r.length = w ∧ ∀ x ∈ r, x.natAbs ≤ 12) ∧ d'.ok := by
  obtain ⟨t, d', e, h1, h2, h3⟩ := r_table 38 h w 12 (by omega) (by omega) (by decide) hd
  refine ⟨t, d', ?_, h1, h2, h3⟩
  have e' : evF pg 40 (.fn "_law_table") [.own (.lst [.lst (d.xs.map .int), .int d.pos, .int d.big, .int d.seed]), .val (.int (h : Int)), .val (.int (w : Int)), .val (.int 12)] = .ok (.val (tR t)) (some (cellD d')) := e
  simp only [↓toB, RU, Nat.reduceAdd, Nat.reduceSub, Nat.reduceLT, Nat.reduceLeDiff, Nat.reduceEqDiff, true_and, and_true, if_true, if_false, reduceIte, Bool.false_eq_true, reduceCtorEq, Int.reduceNeg, s_law_2_2, dC, cellD, e']
theorem turn_eq (t : List (List Int)) (w : Nat) : tR (turnL t w) = .tup ((List.range w).map fun k => iR (t.map fun r => r.getD k 0)) := by
  unfold tR turnL
  rw [List.map_map]
  rfl
theorem a3 {d : DS} {t : List (List Int)} {w : Nat} (hg : goodT t w) (x0 x2 x4 x5 x6 x7 x8 x9 x10 x11 x12 x14 x15 : Option Cell) (h14 : x14 = none ∨ ∃ p, x14 = some (.fz p)) : evS (pg.sem 40) s_law_2_3 [x0, dC d, x2, some (.fz (tR t)), x4, x5, x6, x7, x8, x9, x10, x11, x12, some (.fz (.int (w : Int))), x14, x15, none, none] =
    .ok (.nx, [x0, dC d, x2, some (.fz (tR t)), x4, x5, x6, x7, x8, x9, x10, x11, x12, some (.fz (.int (w : Int))), x14, x15, none, none]) := by
  have e1 : evF pg 40 (.fn "is_table") [.val (tR t)] = .ok (.val (.bl true)) none := r_isT_good 38 hg
  have e2 : evF pg 40 (.fn "_law_bad") [.val (tR t), .val (.bl true)] = .ok (.val (.bl false)) none := r_bad1 34 (r_isT_good 36 hg)
  have e3 : evF pg 40 (.fn "turned") [.val (tR t), .val (.int (w : Int))] = .ok (.val (.tup ((List.range w).map fun k => iR (t.map fun r => r.getD k 0)))) none := by
    rw [← turn_eq]
    exact r_turned 39 t w (by have := hg.2.2; omega) fun r hr => Nat.le_of_eq (hg.1 r hr).symm
  have e4 : evF pg 40 (.fn "_law_same") [.val (.tup ((List.range w).map fun k => iR (t.map fun r => r.getD k 0))), .val (.tup ((List.range w).map fun k => iR (t.map fun r => r.getD k 0)))] = .ok (.val (.bl true)) none := by
    rw [← turn_eq]
    refine sm3 _ ?_ ?_
    · unfold turnL; rw [List.length_map, List.length_range]; have := hg.2.2; omega
    · intro r hr
      obtain ⟨k, _, rfl⟩ := List.mem_map.mp hr
      rw [List.length_map]; have := hg.2.1; omega
  have hw := hg.2.2
  have key : (ev (pg.sem 40) (.lc [17] (.nm 17) (.blt "range" (.cons (.var 13) .nil)) (.con (.bl true)) (.blt "tuple" (.cons (.lc [14] (.nm 14) (.var 3) (.con (.bl true)) (.ix (.var 14) (.var 17))) .nil)))).e [x0, dC d, x2, some (.fz (tR t)), x4, x5, x6, x7, x8, x9, x10, x11, x12, some (.fz (.int (w : Int))), x14, x15, none, none] =
      .ok (.new (.lst ((List.range w).map fun k => iR (t.map fun r => r.getD k 0))), [x0, dC d, x2, some (.fz (tR t)), x4, x5, x6, x7, x8, x9, x10, x11, x12, some (.fz (.int (w : Int))), x14, x15, none, none]) := by
    simp only [↓toB, RU, Nat.reduceAdd, Nat.reduceSub, Nat.reduceLT, Nat.reduceLeDiff, Nat.reduceEqDiff, true_and, and_true, if_true, if_false, reduceIte, Bool.false_eq_true, reduceCtorEq, Int.reduceNeg, v_lc, dC, fun env => rngN w env (by omega)]
    rw [lcGo_map (φ := fun k : Nat => PV.int (k : Int)) (g := fun k => iR (t.map fun r => r.getD k 0)) (List.range w) []]
    · simp only [↓toB, RU, Nat.reduceAdd, Nat.reduceSub, Nat.reduceLT, Nat.reduceLeDiff, Nat.reduceEqDiff, true_and, and_true, if_true, if_false, reduceIte, Bool.false_eq_true, reduceCtorEq, Int.reduceNeg]
    · intro k hk
      have hk : k < w := List.mem_range.mp hk
      rcases h14 with rfl | ⟨p, rfl⟩
      · simp only [lcTurn, ↓toB, RU, Nat.reduceAdd, Nat.reduceSub, Nat.reduceLT, Nat.reduceLeDiff, Nat.reduceEqDiff, true_and, and_true, if_true, if_false, reduceIte, Bool.false_eq_true, reduceCtorEq, Int.reduceNeg, v_lc]
        rw [lcGo_map (φ := iR) (g := fun r => .int (r.getD k 0)) t []]
        · simp only [↓toB, RU, Nat.reduceAdd, Nat.reduceSub, Nat.reduceLT, Nat.reduceLeDiff, Nat.reduceEqDiff, true_and, and_true, if_true, if_false, reduceIte, Bool.false_eq_true, reduceCtorEq, Int.reduceNeg]
          unfold iR
          rw [List.map_map]
          rfl
        · intro r hr
          have := hg.1 r hr
          simp only [lcTurn, ↓toB, RU, Nat.reduceAdd, Nat.reduceSub, Nat.reduceLT, Nat.reduceLeDiff, Nat.reduceEqDiff, true_and, and_true, if_true, if_false, reduceIte, Bool.false_eq_true, reduceCtorEq, Int.reduceNeg, getI (r := r) (k := k) (by omega)]
      · simp only [lcTurn, ↓toB, RU, Nat.reduceAdd, Nat.reduceSub, Nat.reduceLT, Nat.reduceLeDiff, Nat.reduceEqDiff, true_and, and_true, if_true, if_false, reduceIte, Bool.false_eq_true, reduceCtorEq, Int.reduceNeg, v_lc]
        rw [lcGo_map (φ := iR) (g := fun r => .int (r.getD k 0)) t []]
        · simp only [↓toB, RU, Nat.reduceAdd, Nat.reduceSub, Nat.reduceLT, Nat.reduceLeDiff, Nat.reduceEqDiff, true_and, and_true, if_true, if_false, reduceIte, Bool.false_eq_true, reduceCtorEq, Int.reduceNeg]
          unfold iR
          rw [List.map_map]
          rfl
        · intro r hr
          have := hg.1 r hr
          simp only [lcTurn, ↓toB, RU, Nat.reduceAdd, Nat.reduceSub, Nat.reduceLT, Nat.reduceLeDiff, Nat.reduceEqDiff, true_and, and_true, if_true, if_false, reduceIte, Bool.false_eq_true, reduceCtorEq, Int.reduceNeg, getI (r := r) (k := k) (by omega)]
  simp only [↓toB, RU, Nat.reduceAdd, Nat.reduceSub, Nat.reduceLT, Nat.reduceLeDiff, Nat.reduceEqDiff, true_and, and_true, if_true, if_false, reduceIte, Bool.false_eq_true, reduceCtorEq, Int.reduceNeg, s_law_2_3, e1, e2, e3, key, e4, decide_true]
end PL
set_option Elab.async false
set_option linter.all false
set_option maxRecDepth 100000
set_option maxHeartbeats 4000000
namespace PL
open PySem PySem.Spec PyProof.Rows L2
theorem a4 {d : DS} (hd : d.ok) {t : List (List Int)} {h w : Nat} (hl : t.length = h) (hh : 1 ≤ h ∧ h ≤ 4) (hw : w ≤ 5) (x0 x2 x4 x5 x6 x7 x8 x9 x10 x11 x14 x15 : Option Cell) : ∃ (r q : List Int) (d' : DS), evS (pg.sem 40) s_law_2_4 [x0, dC d, x2, some (.fz (tR t)), x4, x5, x6, x7, x8, x9, x10, x11, some (.fz (.int (h : Int))), some (.fz (.int (w : Int))), x14, x15, none, none] =
    .ok (.nx, [x0, dC d', x2, some (.fz (tR t)), x4, x5, x6, x7, x8, x9, x10, x11, some (.fz (.int (h : Int))), some (.fz (.int (w : Int))), some (.fz (iR r)), some (.fz (iR q)), none, none]) ∧ r ∈ t ∧ q.length = w ∧ (∀ x ∈ q, x.natAbs ≤ 9) ∧ d'.ok := by
  obtain ⟨v, d1, e1, b1, k1⟩ := r_draw 39 hd (L := (h : Int)) (by omega)
  obtain ⟨u, d2, e2, ul, ur, k2⟩ := r_table 38 1 w 9 (by decide) (by omega) (by decide) k1
  obtain ⟨q, rfl⟩ : ∃ q, u = [q] := by
    match u, ul with
    | [q], _ => exact ⟨q, rfl⟩
  have hv : v < t.length := by omega
  refine ⟨t[v], q, d2, ?_, List.getElem_mem hv, (ur q (by simp)).1, (ur q (by simp)).2, k2⟩
  have e1' : evF pg 40 (.fn "_law_draw") [.own (.lst [.lst (d.xs.map .int), .int d.pos, .int d.big, .int d.seed]), .val (.int (h : Int))] = .ok (.val (.int (v : Int))) (some (cellD d1)) := e1
  have e2' : evF pg 40 (.fn "_law_table") [.own (.lst [.lst (d1.xs.map .int), .int d1.pos, .int d1.big, .int d1.seed]), .val (.int 1), .val (.int (w : Int)), .val (.int 9)] = .ok (.val (tR [q])) (some (cellD d2)) := e2
  have e3 : atI (t.map iR) (v : Int) = some (iR t[v]) := ix_at (by rw [List.getElem?_map, List.getElem?_eq_getElem hv]; rfl)
  simp only [↓toB, RU, Nat.reduceAdd, Nat.reduceSub, Nat.reduceLT, Nat.reduceLeDiff, Nat.reduceEqDiff, true_and, and_true, if_true, if_false, reduceIte, Bool.false_eq_true, reduceCtorEq, Int.reduceNeg, s_law_2_4, dC, cellD, e1', e2', e3, at_head]
theorem a5 (x0 x1 x2 x3 x4 x5 x6 x7 x8 x9 x10 x11 x12 x13 x14 x15 : Option Cell) : evS (pg.sem 40) s_law_2_5 [x0, x1, x2, x3, x4, x5, x6, x7, x8, x9, x10, x11, x12, x13, x14, x15, none, none] =
    .ok (.nx, [x0, x1, x2, x3, some (.fz (.int 0)), x5, x6, x7, x8, x9, x10, x11, x12, x13, x14, x15, none, none]) := by
  simp only [↓toB, RU, Nat.reduceAdd, Nat.reduceSub, Nat.reduceLT, Nat.reduceLeDiff, Nat.reduceEqDiff, true_and, and_true, if_true, if_false, reduceIte, Bool.false_eq_true, reduceCtorEq, Int.reduceNeg, s_law_2_5]
theorem fold_fst {α β γ : Type} (f : β → α → β) (g : α → γ) : ∀ (xs : List α) (s : γ × β), xs ≠ [] → ∃ a, (xs.foldl (fun (s : γ × β) a => (g a, f s.2 a)) s).1 = g a
  | [a], s, _ => ⟨a, rfl⟩
  | a :: b :: r, s, _ => fold_fst f g (b :: r) (g a, f s.2 a) (by simp)
theorem a6 (r : List Int) (hr : r ≠ []) (x0 x1 x2 x3 x5 x6 x7 x8 x9 x10 x11 x12 x13 x15 : Option Cell) : ∃ p, evS (pg.sem 40) s_law_2_6 [x0, x1, x2, x3, some (.fz (.int 0)), x5, x6, x7, x8, x9, x10, x11, x12, x13, some (.fz (iR r)), x15, none, none] =
    .ok (.nx, [x0, x1, x2, x3, some (.fz (.int (gcdL r))), some (.fz p), x6, x7, x8, x9, x10, x11, x12, x13, some (.fz (iR r)), x15, none, none]) := by
  obtain ⟨a, ha⟩ := fold_fst (fun s a => (Int.gcd s a : Int)) (fun a => some (Cell.fz (.int a))) r (x5, 0) hr
  refine ⟨.int a, ?_⟩
  simp only [↓toB, RU, Nat.reduceAdd, Nat.reduceSub, Nat.reduceLT, Nat.reduceLeDiff, Nat.reduceEqDiff, true_and, and_true, if_true, if_false, reduceIte, Bool.false_eq_true, reduceCtorEq, Int.reduceNeg, s_law_2_6, s_for]
  have h := (forGo_st (φ := PV.int) (I := fun _ => True) (W := fun s : Option Cell × Int => [x0, x1, x2, x3, some (.fz (.int s.2)), s.1, x6, x7, x8, x9, x10, x11, x12, x13, some (.fz (iR r)), x15, none, none]) (step := fun a s => (some (.fz (.int a)), (Int.gcd s.2 a : Int)))
    (bind := evTg (pg.sem 40) (.nm 5)) (body := evSs (pg.sem 40) (.cons s_law_2_6_1 .nil)) r (x5, 0) trivial ?_).1
  · rw [h]
    simp only [fold_snd (fun s a => (Int.gcd s a : Int)) (fun a => some (Cell.fz (.int a))), ha]
    rfl
  · intro a _ s _
    refine ⟨?_, trivial⟩
    simp only [↓toB, RU, Nat.reduceAdd, Nat.reduceSub, Nat.reduceLT, Nat.reduceLeDiff, Nat.reduceEqDiff, true_and, and_true, if_true, if_false, reduceIte, Bool.false_eq_true, reduceCtorEq, Int.reduceNeg, s_law_2_6_1, fun i j => r_lshared 39 i j]
theorem getI0 {r : List Int} (h : 0 < r.length) : atI (r.map PV.int) 0 = some (.int (r.getD 0 0)) := getI (k := 0) h
theorem a7 (r q : List Int) (hr : 0 < r.length) (hq : 0 < q.length) (x0 x1 x2 x3 x5 x6 x7 x8 x9 x10 x11 x12 x13 : Option Cell) : evS (pg.sem 40) s_law_2_7 [x0, x1, x2, x3, some (.fz (.int (gcdL r))), x5, x6, x7, x8, x9, x10, x11, x12, x13, some (.fz (iR r)), some (.fz (iR q)), none, none] =
    .ok (.nx, [x0, x1, x2, x3, some (.fz (.int (gcdL r))), x5, x6, x7, x8, x9, x10, x11, x12, x13, some (.fz (iR r)), some (.fz (iR q)), none, none]) := by
  have e1 := fun i j => r_shared 39 i j
  have e2 := fun i j => r_lshared 39 i j
  have e3 : evF pg 40 (.fn "shared_of") [.val (iR r)] = .ok (.val (.int (gcdL r))) none := r_shared_of 38 r
  simp only [Nat.reduceAdd] at e1 e2
  simp only [↓toB, RU, Nat.reduceAdd, Nat.reduceSub, Nat.reduceLT, Nat.reduceLeDiff, Nat.reduceEqDiff, true_and, and_true, if_true, if_false, reduceIte, Bool.false_eq_true, reduceCtorEq, Int.reduceNeg, s_law_2_7, getI0 hr, getI0 hq, e1, e2, e3, sm1]
theorem a8 (r : List Int) (p : PV) (x0 x1 x2 x3 x4 x6 x7 x8 x9 x10 x11 x12 x13 x15 : Option Cell) : evS (pg.sem 40) s_law_2_8 [x0, x1, x2, x3, x4, some (.fz p), x6, x7, x8, x9, x10, x11, x12, x13, some (.fz (iR r)), x15, none, none] =
    .ok (.nx, [x0, x1, x2, x3, x4, some (.fz p), some (.lst ((r.filter fun x => !decide (x = 0)).map .int)), x7, x8, x9, x10, x11, x12, x13, some (.fz (iR r)), x15, none, none]) := by
  simp only [↓toB, RU, Nat.reduceAdd, Nat.reduceSub, Nat.reduceLT, Nat.reduceLeDiff, Nat.reduceEqDiff, true_and, and_true, if_true, if_false, reduceIte, Bool.false_eq_true, reduceCtorEq, Int.reduceNeg, s_law_2_8, v_lc]
  rw [lcGo_filter (φ := PV.int) (p := fun x => !decide (x = 0)) (g := fun i => .int i) r []]
  · simp only [↓toB, RU, Nat.reduceAdd, Nat.reduceSub, Nat.reduceLT, Nat.reduceLeDiff, Nat.reduceEqDiff, true_and, and_true, if_true, if_false, reduceIte, Bool.false_eq_true, reduceCtorEq, Int.reduceNeg]
  · intro a _
    by_cases ha : a = 0
    · subst ha; simp only [lcTurn, ↓toB, RU, Nat.reduceAdd, Nat.reduceSub, Nat.reduceLT, Nat.reduceLeDiff, Nat.reduceEqDiff, true_and, and_true, if_true, if_false, reduceIte, Bool.false_eq_true, reduceCtorEq, Int.reduceNeg, decide_true]
    · simp only [lcTurn, ↓toB, RU, Nat.reduceAdd, Nat.reduceSub, Nat.reduceLT, Nat.reduceLeDiff, Nat.reduceEqDiff, true_and, and_true, if_true, if_false, reduceIte, Bool.false_eq_true, reduceCtorEq, Int.reduceNeg, ha, decide_false]
theorem fdiv_sign {x g : Int} (hg : g ≠ 0) (h : g ∣ x) : x.fdiv g * (-1) = x.fdiv (-g) ∧ (x.fdiv g).natAbs ≤ x.natAbs := by
  obtain ⟨k, rfl⟩ := h
  rw [Int.mul_fdiv_cancel_left _ hg]
  refine ⟨?_, ?_⟩
  · rw [show g * k = -g * -k by rw [Int.neg_mul_neg], Int.mul_fdiv_cancel_left _ (by omega)]
    omega
  · rw [Int.natAbs_mul]
    exact Nat.le_mul_of_pos_left _ (by omega)
theorem a9 (r : List Int) (hs : small r) (p : PV) (x0 x1 x2 x3 x7 x8 x9 x10 x11 x12 x13 x15 : Option Cell) : evS (pg.sem 40) s_law_2_9 [x0, x1, x2, x3, some (.fz (.int (gcdL r))), some (.fz p), some (.lst ((r.filter fun x => !decide (x = 0)).map .int)), x7, x8, x9, x10, x11, x12, x13, some (.fz (iR r)), x15, none, none] =
    .ok (.nx, [x0, x1, x2, x3, some (.fz (.int (gcdL r))), some (.fz p), some (.lst ((r.filter fun x => !decide (x = 0)).map .int)), some (.fz (iR (leastL r))), x8, x9, x10, x11, x12, x13, some (.fz (iR r)), x15, none, none]) := by
  by_cases h0 : gcdL r = 0
  · simp only [↓toB, RU, Nat.reduceAdd, Nat.reduceSub, Nat.reduceLT, Nat.reduceLeDiff, Nat.reduceEqDiff, true_and, and_true, if_true, if_false, reduceIte, Bool.false_eq_true, reduceCtorEq, Int.reduceNeg, s_law_2_9, h0, decide_true, leastL]
  · have e0 : decide (gcdL r = 0) = false := decide_eq_false h0
    have hg := gcdL_small hs
    obtain ⟨x, xs, hx⟩ : ∃ x xs, r.filter (fun x => !decide (x = 0)) = x :: xs := by
      cases q : r.filter (fun x => !decide (x = 0)) with
      | nil =>
        exact absurd (gcdL_zero r fun a ha => by
          have := List.filter_eq_nil_iff.mp q a ha
          simpa using this) h0
      | cons x xs => exact ⟨x, xs, rfl⟩
    have hx0 : x ≠ 0 := by
      have : x ∈ r.filter (fun x => !decide (x = 0)) := by rw [hx]; simp
      simpa using (List.mem_filter.mp this).2
    have hval : ∀ a ∈ r, a.fdiv (gcdL r) * (if 0 < x then 1 else -1) = a.fdiv (if x < 0 then -gcdL r else gcdL r) := fun a ha => by
      obtain ⟨h1, _⟩ := fdiv_sign h0 (gcdL_dvd r a ha)
      by_cases hp : 0 < x
      · rw [if_pos hp, if_neg (by omega), Int.mul_one]
      · rw [if_neg hp, if_pos (by omega), h1]
    simp only [↓toB, RU, Nat.reduceAdd, Nat.reduceSub, Nat.reduceLT, Nat.reduceLeDiff, Nat.reduceEqDiff, true_and, and_true, if_true, if_false, reduceIte, Bool.false_eq_true, reduceCtorEq, Int.reduceNeg, s_law_2_9, e0, v_lc, hx]
    rw [lcGo_map (φ := PV.int) (g := fun a => .int (a.fdiv (gcdL r) * (if 0 < x then 1 else -1))) r []]
    · simp only [↓toB, RU, Nat.reduceAdd, Nat.reduceSub, Nat.reduceLT, Nat.reduceLeDiff, Nat.reduceEqDiff, true_and, and_true, if_true, if_false, reduceIte, Bool.false_eq_true, reduceCtorEq, Int.reduceNeg]
      have e : (r.map fun a => PV.int (a.fdiv (gcdL r) * (if 0 < x then 1 else -1))) = (leastL r).map PV.int := by
        unfold leastL
        rw [if_neg h0, List.map_map, hx]
        apply List.map_congr_left
        intro a ha
        rw [hval a ha]
        rfl
      rw [e]
    · intro a ha
      obtain ⟨_, h2⟩ := fdiv_sign h0 (gcdL_dvd r a ha)
      have h3 := hs.2 a ha
      by_cases hp : 0 < x
      · have m : mulOk (a.fdiv (gcdL r)) 1 = true := mulOk_of (pow_le _ 0 (by omega)) (pow_le _ 0 (by decide))
        simp only [lcTurn, ↓toB, RU, Nat.reduceAdd, Nat.reduceSub, Nat.reduceLT, Nat.reduceLeDiff, Nat.reduceEqDiff, true_and, and_true, if_true, if_false, reduceIte, Bool.false_eq_true, reduceCtorEq, Int.reduceNeg, bo_fdiv a _ h0 (pyl_of hg), at_head, hp, decide_true, bo_mul _ _ m]
      · have m : mulOk (a.fdiv (gcdL r)) (-1) = true := mulOk_of (pow_le _ 0 (by omega)) (pow_le _ 0 (by decide))
        simp only [lcTurn, ↓toB, RU, Nat.reduceAdd, Nat.reduceSub, Nat.reduceLT, Nat.reduceLeDiff, Nat.reduceEqDiff, true_and, and_true, if_true, if_false, reduceIte, Bool.false_eq_true, reduceCtorEq, Int.reduceNeg, bo_fdiv a _ h0 (pyl_of hg), at_head, hp, decide_false, bo_mul _ _ m]
end PL
set_option Elab.async false
set_option linter.all false
set_option maxRecDepth 100000
set_option maxHeartbeats 4000000
namespace PL
open PySem PySem.Spec PyProof.Rows L2
theorem lc_val {F : Sem} {own : List Nat} {t : Tg} {it c e : E} {env env1 env2 env3 : Env} {items ys : List PV} (hi : (ev F it).i env = .ok (items, env1)) (hp : plainAt env1 own = true)
    (hg : lcGo own (evTg F t) (ev F c).t (fun e1 => ((ev F e).e e1).bind fun q => optR (take q.1 q.2)) (fun e1 => wipeE e1 own) items [] (wipeE env1 own) = .ok (ys, env2)) (hr : restore env1 env2 own = env3) : (ev F (.lc own t it c e)).e env = .ok (.new (.lst ys), env3) := by
  rw [v_lc, hi, bind_ok]
  dsimp only
  rw [hp]
  dsimp only
  rw [hg, ← hr]
  rfl
theorem dot_idx : ∀ (r q : List Int) (w : Nat), r.length = w → q.length = w → dotL r q = ((List.range w).map fun k => r.getD k 0 * q.getD k 0).sum
  | [], [], _, h, _ => by subst h; rfl
  | a :: r, b :: q, w, h1, h2 => by
    obtain ⟨v, rfl⟩ : ∃ v, w = v + 1 := ⟨r.length, h1.symm⟩
    have ih := dot_idx r q v (by simpa using h1) (by simpa using h2)
    rw [List.range_succ_eq_map, List.map_cons, List.map_map, List.sum_cons]
    show ((a :: r).zip (b :: q) |>.map fun p => p.1 * p.2).sum = _
    rw [List.zip_cons_cons, List.map_cons, List.sum_cons]
    have : ((r.zip q).map fun p => p.1 * p.2).sum = dotL r q := rfl
    rw [this, ih]
    rfl
  | [], b :: q, w, h1, h2 => by subst h1; cases h2
  | a :: r, [], w, h1, h2 => by subst h2; cases h1
theorem leastL_len (r : List Int) : (leastL r).length = r.length := by
  unfold leastL
  split
  · rfl
  · rw [List.length_map]
theorem getD_small {r : List Int} (h : small r) (k : Nat) : (r.getD k 0).natAbs ≤ 1000000 := by
  rw [List.getD_eq_getElem?_getD]
  cases e : r[k]? with
  | none => show (0 : Int).natAbs ≤ 1000000; decide
  | some x =>
    obtain ⟨hk, rfl⟩ := List.getElem?_eq_some_iff.mp e
    exact h.2 _ (List.getElem_mem hk)
theorem a10 (r q : List Int) (w : Nat) (hr : r.length = w) (hq : q.length = w) (hw : w ≤ 5) (sr : small r) (sq : small q) (x0 x1 x2 x3 x4 x5 x6 x8 x9 x10 x11 x12 : Option Cell) : evS (pg.sem 40) s_law_2_10 [x0, x1, x2, x3, x4, x5, x6, some (.fz (iR (leastL r))), x8, x9, x10, x11, x12, some (.fz (.int (w : Int))), some (.fz (iR r)), some (.fz (iR q)), none, none] =
    .ok (.nx, [x0, x1, x2, x3, x4, x5, x6, some (.fz (iR (leastL r))), x8, x9, x10, x11, x12, some (.fz (.int (w : Int))), some (.fz (iR r)), some (.fz (iR q)), none, none]) := by
  have e1 : evF pg 40 (.fn "least_row") [.val (iR r)] = .ok (.val (iR (leastL r))) none := r_least 37 r sr
  have e2 : evF pg 40 (.fn "dot") [.val (iR r), .val (iR q)] = .ok (.val (.int (dotL r q))) none := r_dot 39 r q sr sq
  have e3 := sm2 (leastL r) (by rw [leastL_len]; omega)
  simp only [↓toB, RU, Nat.reduceAdd, Nat.reduceSub, Nat.reduceLT, Nat.reduceLeDiff, Nat.reduceEqDiff, true_and, and_true, if_true, if_false, reduceIte, Bool.false_eq_true, reduceCtorEq, Int.reduceNeg, s_law_2_10, e1, e2, e3, v_lc, fun env => rngN w env (by omega)]
  rw [lcGo_map (φ := fun k : Nat => PV.int (k : Int)) (g := fun k => .int (r.getD k 0 * q.getD k 0)) (List.range w) []]
  · simp only [↓toB, RU, Nat.reduceAdd, Nat.reduceSub, Nat.reduceLT, Nat.reduceLeDiff, Nat.reduceEqDiff, true_and, and_true, if_true, if_false, reduceIte, Bool.false_eq_true, reduceCtorEq, Int.reduceNeg, asInts_map, ← dot_idx r q w hr hq, sm1]
  · intro k hk
    have hk : k < w := List.mem_range.mp hk
    simp only [lcTurn, ↓toB, RU, Nat.reduceAdd, Nat.reduceSub, Nat.reduceLT, Nat.reduceLeDiff, Nat.reduceEqDiff, true_and, and_true, if_true, if_false, reduceIte, Bool.false_eq_true, reduceCtorEq, Int.reduceNeg, getI (r := r) (k := k) (by omega), getI (r := q) (k := k) (by omega), bo_mul _ _ (mul_small (getD_small sr k) (getD_small sq k))]
theorem a11 (t : List (List Int)) (q : List Int) (w : Nat) (ht : ∀ r ∈ t, r.length = w) (hl : t.length ≤ 10) (hq : q.length = w) (hw : w ≤ 5) (st : ∀ r ∈ t, small r) (sq : small q) (x0 x1 x2 x4 x5 x6 x7 x8 x9 x10 x11 x12 x14 : Option Cell) (h10 : x10 = none ∨ ∃ p, x10 = some (.fz p)) : evS (pg.sem 40) s_law_2_11 [x0, x1, x2, some (.fz (tR t)), x4, x5, x6, x7, x8, x9, x10, x11, x12, some (.fz (.int (w : Int))), x14, some (.fz (iR q)), none, none] =
    .ok (.nx, [x0, x1, x2, some (.fz (tR t)), x4, x5, x6, x7, x8, x9, x10, x11, x12, some (.fz (.int (w : Int))), x14, some (.fz (iR q)), none, none]) := by
  have e1 : evF pg 40 (.fn "times") [.val (tR t), .val (iR q)] = .ok (.val (.tup (t.map fun l => .int (dotL l q)))) none := by
    have := r_times 38 t q st sq
    rw [show iR (t.map fun l => dotL l q) = .tup (t.map fun l => .int (dotL l q)) by unfold iR; rw [List.map_map]; rfl] at this
    exact this
  have e3 : evF pg 40 (.fn "_law_same") [.val (.tup (t.map fun l => .int (dotL l q))), .val (.tup (t.map fun l => .int (dotL l q)))] = .ok (.val (.bl true)) none := by
    have := sm2 (t.map fun l => dotL l q) (by rw [List.length_map]; omega)
    rw [show iR (t.map fun l => dotL l q) = .tup (t.map fun l => .int (dotL l q)) by unfold iR; rw [List.map_map]; rfl] at this
    exact this
  have key : (ev (pg.sem 40) (.lc [10] (.nm 10) (.var 3) (.con (.bl true)) (.blt "sum" (.cons (.lc [17] (.nm 17) (.blt "range" (.cons (.var 13) .nil)) (.con (.bl true)) (.bop .mul (.ix (.var 10) (.var 17)) (.ix (.var 15) (.var 17)))) .nil)))).e [x0, x1, x2, some (.fz (tR t)), x4, x5, x6, x7, x8, x9, x10, x11, x12, some (.fz (.int (w : Int))), x14, some (.fz (iR q)), none, none] =
      .ok (.new (.lst (t.map fun l => .int (dotL l q))), [x0, x1, x2, some (.fz (tR t)), x4, x5, x6, x7, x8, x9, x10, x11, x12, some (.fz (.int (w : Int))), x14, some (.fz (iR q)), none, none]) := by
    have go : ∀ l ∈ t, lcTurn (evTg (pg.sem 40) (.nm 10)) (ev (pg.sem 40) (.con (.bl true))).t (fun e1 => ((ev (pg.sem 40) (.blt "sum" (.cons (.lc [17] (.nm 17) (.blt "range" (.cons (.var 13) .nil)) (.con (.bl true)) (.bop .mul (.ix (.var 10) (.var 17)) (.ix (.var 15) (.var 17)))) .nil))).e e1).bind fun q => optR (take q.1 q.2)) (fun e1 => wipeE e1 [10]) (iR l)
        [x0, x1, x2, some (.fz (tR t)), x4, x5, x6, x7, x8, x9, none, x11, x12, some (.fz (.int (w : Int))), x14, some (.fz (iR q)), none, none] = .ok (some (.int (dotL l q)), [x0, x1, x2, some (.fz (tR t)), x4, x5, x6, x7, x8, x9, none, x11, x12, some (.fz (.int (w : Int))), x14, some (.fz (iR q)), none, none]) := by
      intro l hl'
      have h1 := ht l hl'
      simp only [lcTurn, ↓toB, RU, Nat.reduceAdd, Nat.reduceSub, Nat.reduceLT, Nat.reduceLeDiff, Nat.reduceEqDiff, true_and, and_true, if_true, if_false, reduceIte, Bool.false_eq_true, reduceCtorEq, Int.reduceNeg, v_lc, fun env => rngN w env (by omega)]
      rw [lcGo_map (φ := fun k : Nat => PV.int (k : Int)) (g := fun k => .int (l.getD k 0 * q.getD k 0)) (List.range w) []]
      · simp only [↓toB, RU, Nat.reduceAdd, Nat.reduceSub, Nat.reduceLT, Nat.reduceLeDiff, Nat.reduceEqDiff, true_and, and_true, if_true, if_false, reduceIte, Bool.false_eq_true, reduceCtorEq, Int.reduceNeg, asInts_map, ← dot_idx l q w h1 hq]
      · intro k hk
        have hk : k < w := List.mem_range.mp hk
        simp only [lcTurn, ↓toB, RU, Nat.reduceAdd, Nat.reduceSub, Nat.reduceLT, Nat.reduceLeDiff, Nat.reduceEqDiff, true_and, and_true, if_true, if_false, reduceIte, Bool.false_eq_true, reduceCtorEq, Int.reduceNeg, getI (r := l) (k := k) (by omega), getI (r := q) (k := k) (by omega), bo_mul _ _ (mul_small (getD_small (st l hl') k) (getD_small sq k))]
    have := lcGo_map (own := [10]) (φ := iR) (g := fun l => .int (dotL l q)) t [] go
    rcases h10 with rfl | ⟨p, rfl⟩
    · exact lc_val (by simp only [↓toB, RU, Nat.reduceAdd, Nat.reduceSub, Nat.reduceLT, Nat.reduceLeDiff, Nat.reduceEqDiff, true_and, and_true, if_true, if_false, reduceIte, Bool.false_eq_true, reduceCtorEq, Int.reduceNeg]; rfl) rfl this rfl
    · exact lc_val (by simp only [↓toB, RU, Nat.reduceAdd, Nat.reduceSub, Nat.reduceLT, Nat.reduceLeDiff, Nat.reduceEqDiff, true_and, and_true, if_true, if_false, reduceIte, Bool.false_eq_true, reduceCtorEq, Int.reduceNeg]; rfl) rfl this rfl
  simp only [↓toB, RU, Nat.reduceAdd, Nat.reduceSub, Nat.reduceLT, Nat.reduceLeDiff, Nat.reduceEqDiff, true_and, and_true, if_true, if_false, reduceIte, Bool.false_eq_true, reduceCtorEq, Int.reduceNeg, s_law_2_11, e1, e3, key]
theorem a12 {d : DS} (hd : d.ok) {w : Nat} (hw : w ≤ 5) (x0 x2 x3 x4 x5 x6 x7 x8 x9 x10 x11 x12 x14 x15 : Option Cell) : ∃ (mo : List (List Int)) (d' : DS), evS (pg.sem 40) s_law_2_12 [x0, dC d, x2, x3, x4, x5, x6, x7, x8, x9, x10, x11, x12, some (.fz (.int (w : Int))), x14, x15, none, none] =
    .ok (.nx, [x0, dC d', x2, x3, x4, x5, x6, x7, some (.fz (tR mo)), x9, x10, x11, x12, some (.fz (.int (w : Int))), x14, x15, none, none]) ∧ mo.length = w ∧ (∀ r ∈ mo, r.length = 3 ∧ ∀ x ∈ r, x.natAbs ≤ 5) ∧ d'.ok := by
  obtain ⟨t, d', e, h1, h2, h3⟩ := r_table 38 w 3 5 (by omega) (by decide) (by decide) hd
  refine ⟨t, d', ?_, h1, h2, h3⟩
  have e' : evF pg 40 (.fn "_law_table") [.own (.lst [.lst (d.xs.map .int), .int d.pos, .int d.big, .int d.seed]), .val (.int (w : Int)), .val (.int 3), .val (.int 5)] = .ok (.val (tR t)) (some (cellD d')) := e
  simp only [↓toB, RU, Nat.reduceAdd, Nat.reduceSub, Nat.reduceLT, Nat.reduceLeDiff, Nat.reduceEqDiff, true_and, and_true, if_true, if_false, reduceIte, Bool.false_eq_true, reduceCtorEq, Int.reduceNeg, s_law_2_12, dC, cellD, e']
theorem a13 (x0 x1 x2 x3 x4 x5 x6 x7 x8 x9 x10 x11 x12 x13 x14 x15 : Option Cell) : evS (pg.sem 40) s_law_2_13 [x0, x1, x2, x3, x4, x5, x6, x7, x8, x9, x10, x11, x12, x13, x14, x15, none, none] =
    .ok (.nx, [x0, x1, x2, x3, x4, x5, x6, x7, x8, some (.lst []), x10, x11, x12, x13, x14, x15, none, none]) := by
  simp only [↓toB, RU, Nat.reduceAdd, Nat.reduceSub, Nat.reduceLT, Nat.reduceLeDiff, Nat.reduceEqDiff, true_and, and_true, if_true, if_false, reduceIte, Bool.false_eq_true, reduceCtorEq, Int.reduceNeg, s_law_2_13]
theorem col_at (mo : List (List Int)) (a k : Nat) (hk : k < mo.length) (ha : ∀ r ∈ mo, a < r.length) : atI (mo.map iR) (k : Int) = some (iR (mo.getD k [])) ∧ atI ((mo.getD k []).map PV.int) (a : Int) = some (.int ((mo.map fun r => r.getD a 0).getD k 0)) := by
  have e : mo.getD k [] = mo[k] := by rw [List.getD_eq_getElem?_getD, List.getElem?_eq_getElem hk]; rfl
  refine ⟨ix_at (by rw [List.getElem?_map, List.getElem?_eq_getElem hk, e]; rfl), ?_⟩
  have e2 : (mo.map fun r => r.getD a 0).getD k 0 = mo[k].getD a 0 := by rw [List.getD_eq_getElem?_getD, List.getElem?_map, List.getElem?_eq_getElem hk]; rfl
  rw [e, e2]
  exact getI (ha _ (List.getElem_mem hk))
theorem small_of {r : List Int} {w m : Nat} (hl : r.length = w) (hw : w ≤ 1000) (hx : ∀ x ∈ r, x.natAbs ≤ m) (hm : m ≤ 1000000) : small r := ⟨by omega, fun x h => Nat.le_trans (hx x h) hm⟩
theorem mth_app (xs : List PV) (p : PV) (h : xs.length < sizeLine) : mthL "append" xs [p] = some (.non, xs ++ [p]) := by
  unfold mthL
  rw [if_pos rfl]
  show (if xs.length < sizeLine then some (PV.non, xs ++ [p]) else none) = _
  rw [if_pos h]
theorem mthV_eq (m : Str) (ts : Env → Res (List PV × Env)) (r : RV × Env) : mthV m ts r = match r.1 with
  | .loc j => match get r.2 j with
    | some (.lst _) => (ts r.2).bind fun q => match get q.2 j with
      | some (.lst xs) => (optR (mthL m xs q.1)).bind fun z => .ok (.val z.1, q.2.set j (some (.lst z.2)))
      | _ => .stuck
    | _ => .stuck
  | _ => .stuck := rfl
theorem rng3 (env : Env) : rngB ([.val (.int 3)], env) = .ok ((List.range 3).map fun (k : Nat) => PV.int (k : Int), env) := by
  rw [show (3 : Int) = ((3 : Nat) : Int) from rfl]
  exact rngN 3 env (by omega)
/-- a row of the product -/
def prodR (mo : List (List Int)) (l : List Int) : List Int := (turnL mo 3).map fun c => dotL l c
theorem a14_turn (mo : List (List Int)) (w : Nat) (hw : w ≤ 5) (hm : mo.length = w) (hr : ∀ r ∈ mo, r.length = 3 ∧ ∀ x ∈ r, x.natAbs ≤ 5) (l : List Int) (hl : l.length = w) (sl : small l) (ys : List PV) (hy : ys.length ≤ 10) (x0 x1 x2 x3 x4 x5 x6 x7 x11 x12 x14 x15 : Option Cell) :
    evS (pg.sem 40) s_law_2_14_1 [x0, x1, x2, x3, x4, x5, x6, x7, some (.fz (tR mo)), some (.lst ys), some (.fz (iR l)), x11, x12, some (.fz (.int (w : Int))), x14, x15, none, none] =
    .ok (.nx, [x0, x1, x2, x3, x4, x5, x6, x7, some (.fz (tR mo)), some (.lst (ys ++ [iR (prodR mo l)])), some (.fz (iR l)), x11, x12, some (.fz (.int (w : Int))), x14, x15, none, none]) := by
  have key : (ev (pg.sem 40) (.lc [16] (.nm 16) (.blt "range" (.cons (.con (.int (3))) .nil)) (.con (.bl true)) (.blt "sum" (.cons (.lc [17] (.nm 17) (.blt "range" (.cons (.var 13) .nil)) (.con (.bl true)) (.bop .mul (.ix (.var 10) (.var 17)) (.ix (.ix (.var 8) (.var 17)) (.var 16)))) .nil)))).e [x0, x1, x2, x3, x4, x5, x6, x7, some (.fz (tR mo)), some (.lst ys), some (.fz (iR l)), x11, x12, some (.fz (.int (w : Int))), x14, x15, none, none] =
      .ok (.new (.lst ((prodR mo l).map .int)), [x0, x1, x2, x3, x4, x5, x6, x7, some (.fz (tR mo)), some (.lst ys), some (.fz (iR l)), x11, x12, some (.fz (.int (w : Int))), x14, x15, none, none]) := by
    have go : ∀ a ∈ List.range 3, lcTurn (evTg (pg.sem 40) (.nm 16)) (ev (pg.sem 40) (.con (.bl true))).t (fun e1 => ((ev (pg.sem 40) (.blt "sum" (.cons (.lc [17] (.nm 17) (.blt "range" (.cons (.var 13) .nil)) (.con (.bl true)) (.bop .mul (.ix (.var 10) (.var 17)) (.ix (.ix (.var 8) (.var 17)) (.var 16)))) .nil))).e e1).bind fun q => optR (take q.1 q.2)) (fun e1 => wipeE e1 [16]) (PV.int (a : Int))
        [x0, x1, x2, x3, x4, x5, x6, x7, some (.fz (tR mo)), some (.lst ys), some (.fz (iR l)), x11, x12, some (.fz (.int (w : Int))), x14, x15, none, none] = .ok (some (.int (dotL l (mo.map fun r => r.getD a 0))), [x0, x1, x2, x3, x4, x5, x6, x7, some (.fz (tR mo)), some (.lst ys), some (.fz (iR l)), x11, x12, some (.fz (.int (w : Int))), x14, x15, none, none]) := by
      intro a ha
      have ha : a < 3 := List.mem_range.mp ha
      simp only [lcTurn, ↓toB, RU, Nat.reduceAdd, Nat.reduceSub, Nat.reduceLT, Nat.reduceLeDiff, Nat.reduceEqDiff, true_and, and_true, if_true, if_false, reduceIte, Bool.false_eq_true, reduceCtorEq, Int.reduceNeg, v_lc, fun env => rngN w env (by omega)]
      rw [lcGo_map (φ := fun k : Nat => PV.int (k : Int)) (g := fun k => .int (l.getD k 0 * (mo.map fun r => r.getD a 0).getD k 0)) (List.range w) []]
      · simp only [↓toB, RU, Nat.reduceAdd, Nat.reduceSub, Nat.reduceLT, Nat.reduceLeDiff, Nat.reduceEqDiff, true_and, and_true, if_true, if_false, reduceIte, Bool.false_eq_true, reduceCtorEq, Int.reduceNeg, asInts_map, ← dot_idx l (mo.map fun r => r.getD a 0) w hl (by rw [List.length_map]; exact hm)]
      · intro k hk
        have hk : k < w := List.mem_range.mp hk
        obtain ⟨e1, e2⟩ := col_at mo a k (by omega) fun r h => by rw [(hr r h).1]; exact ha
        have sc : small (mo.map fun r => r.getD a 0) := ⟨by rw [List.length_map]; omega, fun x hx => by
          obtain ⟨r, h1, rfl⟩ := List.mem_map.mp hx
          exact getD_small (small_of (hr r h1).1 (by omega) (hr r h1).2 (by omega)) a⟩
        simp only [lcTurn, ↓toB, RU, Nat.reduceAdd, Nat.reduceSub, Nat.reduceLT, Nat.reduceLeDiff, Nat.reduceEqDiff, true_and, and_true, if_true, if_false, reduceIte, Bool.false_eq_true, reduceCtorEq, Int.reduceNeg, getI (r := l) (k := k) (by omega), e1, e2, bo_mul _ _ (mul_small (getD_small sl k) (getD_small sc k))]
    have h2 := lcGo_map (own := [16]) (φ := fun k : Nat => PV.int (k : Int)) (g := fun a => .int (dotL l (mo.map fun r => r.getD a 0))) (List.range 3) [] go
    have e : (List.range 3).map (fun a => PV.int (dotL l (mo.map fun r => r.getD a 0))) = (prodR mo l).map .int := by
      unfold prodR turnL
      rw [List.map_map, List.map_map]
      rfl
    rw [li_app0, e] at h2
    exact lc_val (env1 := [x0, x1, x2, x3, x4, x5, x6, x7, some (.fz (tR mo)), some (.lst ys), some (.fz (iR l)), x11, x12, some (.fz (.int (w : Int))), x14, x15, none, none]) (by simp only [↓toB, RU, Nat.reduceAdd, Nat.reduceSub, Nat.reduceLT, Nat.reduceLeDiff, Nat.reduceEqDiff, true_and, and_true, if_true, if_false, reduceIte, Bool.false_eq_true, reduceCtorEq, Int.reduceNeg, rng3]) rfl h2 rfl
  simp only [↓toB, RU, Nat.reduceAdd, Nat.reduceSub, Nat.reduceLT, Nat.reduceLeDiff, Nat.reduceEqDiff, true_and, and_true, if_true, if_false, reduceIte, Bool.false_eq_true, reduceCtorEq, Int.reduceNeg, s_law_2_14_1, mthV_eq, key, mth_app _ _ (Nat.lt_of_le_of_lt hy (by decide))]
end PL
set_option Elab.async false
set_option linter.all false
set_option maxRecDepth 100000
set_option maxHeartbeats 4000000
namespace PL
open PySem PySem.Spec PyProof.Rows L2
theorem a14_go (mo : List (List Int)) (w : Nat) (hw : w ≤ 5) (hm : mo.length = w) (hr : ∀ r ∈ mo, r.length = 3 ∧ ∀ x ∈ r, x.natAbs ≤ 5) (x0 x1 x2 x3 x4 x5 x6 x7 x11 x12 x14 x15 : Option Cell) : ∀ (t : List (List Int)) (ys : List PV) (x10 : Option Cell), (∀ l ∈ t, l.length = w ∧ small l) → ys.length + t.length ≤ 10 →
    ∃ x10', (x10' = x10 ∨ ∃ p, x10' = some (.fz p)) ∧ forGo (evTg (pg.sem 40) (.nm 10)) (evSs (pg.sem 40) (.cons s_law_2_14_1 .nil)) (t.map iR) [x0, x1, x2, x3, x4, x5, x6, x7, some (.fz (tR mo)), some (.lst ys), x10, x11, x12, some (.fz (.int (w : Int))), x14, x15, none, none] =
    .ok (.nx, [x0, x1, x2, x3, x4, x5, x6, x7, some (.fz (tR mo)), some (.lst (ys ++ t.map fun l => iR (prodR mo l))), x10', x11, x12, some (.fz (.int (w : Int))), x14, x15, none, none])
  | [], ys, x10, _, _ => ⟨x10, .inl rfl, by rw [List.map_nil, List.map_nil, List.append_nil]; rfl⟩
  | l :: t, ys, x10, h, hl => by
    rw [List.length_cons] at hl
    obtain ⟨h1, h2⟩ := h l List.mem_cons_self
    obtain ⟨x10', e1, e2⟩ := a14_go mo w hw hm hr x0 x1 x2 x3 x4 x5 x6 x7 x11 x12 x14 x15 t (ys ++ [iR (prodR mo l)]) (some (.fz (iR l))) (fun m hm => h m (List.mem_cons_of_mem _ hm)) (by rw [List.length_append, List.length_singleton]; omega)
    refine ⟨x10', ?_, ?_⟩
    · rcases e1 with rfl | e1
      · exact .inr ⟨_, rfl⟩
      · exact .inr e1
    · rw [List.map_cons]
      have s1 := a14_turn mo w hw hm hr l h1 h2 ys (by omega) x0 x1 x2 x3 x4 x5 x6 x7 x11 x12 x14 x15
      show ((evTg (pg.sem 40) (.nm 10) (iR l) _).bind fun e1 => (evSs (pg.sem 40) (.cons s_law_2_14_1 .nil) e1).bind fun r => match r.1 with
        | .nx => forGo (evTg (pg.sem 40) (.nm 10)) (evSs (pg.sem 40) (.cons s_law_2_14_1 .nil)) (t.map iR) r.2
        | .ct => forGo (evTg (pg.sem 40) (.nm 10)) (evSs (pg.sem 40) (.cons s_law_2_14_1 .nil)) (t.map iR) r.2
        | .bk => .ok (.nx, r.2)
        | .rt v => .ok (.rt v, r.2)) = _
      simp only [↓toB, RU, Nat.reduceAdd, Nat.reduceSub, Nat.reduceLT, Nat.reduceLeDiff, Nat.reduceEqDiff, true_and, and_true, if_true, if_false, reduceIte, Bool.false_eq_true, reduceCtorEq, Int.reduceNeg, s1]
      rw [e2, List.append_assoc]
      rfl
theorem a14 (mo t : List (List Int)) (w : Nat) (hw : w ≤ 5) (hm : mo.length = w) (hr : ∀ r ∈ mo, r.length = 3 ∧ ∀ x ∈ r, x.natAbs ≤ 5) (ht : ∀ l ∈ t, l.length = w ∧ small l) (hl : t.length ≤ 10) (x0 x1 x2 x4 x5 x6 x7 x10 x11 x12 x14 x15 : Option Cell) :
    ∃ x10', (x10' = x10 ∨ ∃ p, x10' = some (.fz p)) ∧ evS (pg.sem 40) s_law_2_14 [x0, x1, x2, some (.fz (tR t)), x4, x5, x6, x7, some (.fz (tR mo)), some (.lst []), x10, x11, x12, some (.fz (.int (w : Int))), x14, x15, none, none] =
    .ok (.nx, [x0, x1, x2, some (.fz (tR t)), x4, x5, x6, x7, some (.fz (tR mo)), some (.lst (t.map fun l => iR (prodR mo l))), x10', x11, x12, some (.fz (.int (w : Int))), x14, x15, none, none]) := by
  obtain ⟨x10', e1, e2⟩ := a14_go mo w hw hm hr x0 x1 x2 (some (.fz (tR t))) x4 x5 x6 x7 x11 x12 x14 x15 t [] x10 ht (by rw [List.length_nil]; omega)
  refine ⟨x10', e1, ?_⟩
  simp only [↓toB, RU, Nat.reduceAdd, Nat.reduceSub, Nat.reduceLT, Nat.reduceLeDiff, Nat.reduceEqDiff, true_and, and_true, if_true, if_false, reduceIte, Bool.false_eq_true, reduceCtorEq, Int.reduceNeg, s_law_2_14, s_for]
  exact e2
theorem turn_small (mo : List (List Int)) (w : Nat) (hw : w ≤ 5) (hm : mo.length = w) (hr : ∀ r ∈ mo, r.length = 3 ∧ ∀ x ∈ r, x.natAbs ≤ 5) : ∀ c ∈ turnL mo 3, small c := by
  intro c hc
  obtain ⟨k, _, rfl⟩ := List.mem_map.mp hc
  exact ⟨by rw [List.length_map]; omega, fun x hx => by
    obtain ⟨r, h1, rfl⟩ := List.mem_map.mp hx
    exact getD_small (small_of (hr r h1).1 (by omega) (hr r h1).2 (by omega)) k⟩
theorem a15 (mo t : List (List Int)) (w : Nat) (hw : w ≤ 5) (hm : mo.length = w) (hr : ∀ r ∈ mo, r.length = 3 ∧ ∀ x ∈ r, x.natAbs ≤ 5) (ht : ∀ l ∈ t, l.length = w ∧ small l) (hl : t.length ≤ 10) (x0 x1 x2 x4 x5 x6 x7 x10 x11 x12 x13 x14 x15 : Option Cell) :
    evS (pg.sem 40) s_law_2_15 [x0, x1, x2, some (.fz (tR t)), x4, x5, x6, x7, some (.fz (tR mo)), some (.lst (t.map fun l => iR (prodR mo l))), x10, x11, x12, x13, x14, x15, none, none] =
    .ok (.nx, [x0, x1, x2, some (.fz (tR t)), x4, x5, x6, x7, some (.fz (tR mo)), some (.lst (t.map fun l => iR (prodR mo l))), x10, x11, x12, x13, x14, x15, none, none]) := by
  have e1 : evF pg 40 (.fn "product") [.val (tR t), .val (tR mo), .val (.int 3)] = .ok (.val (.tup (t.map fun l => iR (prodR mo l)))) none := by
    have := r_product 38 t mo 3 (by omega) (fun q hq => (ht q hq).2) (fun q hq => Nat.le_of_eq (hr q hq).1.symm) (turn_small mo w hw hm hr)
    rw [show tR (t.map fun q => (turnL mo 3).map fun c => dotL q c) = .tup (t.map fun l => iR (prodR mo l)) by unfold tR; rw [List.map_map]; rfl] at this
    exact this
  have e2 : evF pg 40 (.fn "_law_same") [.val (.tup (t.map fun l => iR (prodR mo l))), .val (.tup (t.map fun l => iR (prodR mo l)))] = .ok (.val (.bl true)) none := by
    have := sm3 (t.map fun l => prodR mo l) (by rw [List.length_map]; omega) (fun r hr' => by
      obtain ⟨l, _, rfl⟩ := List.mem_map.mp hr'
      unfold prodR turnL
      rw [List.length_map, List.length_map, List.length_range]
      omega)
    rw [show tR (t.map fun l => prodR mo l) = .tup (t.map fun l => iR (prodR mo l)) by unfold tR; rw [List.map_map]; rfl] at this
    exact this
  simp only [↓toB, RU, Nat.reduceAdd, Nat.reduceSub, Nat.reduceLT, Nat.reduceLeDiff, Nat.reduceEqDiff, true_and, and_true, if_true, if_false, reduceIte, Bool.false_eq_true, reduceCtorEq, Int.reduceNeg, s_law_2_15, e1, e2]
theorem seven {ps : List PV} {Q : PV → Prop} (h : ∀ p ∈ ps, Q p) {v : Nat} (hv : v < ps.length) : ∃ p, atI ps (v : Int) = some p ∧ Q p := ⟨ps[v], ix_at (List.getElem?_eq_getElem hv), h _ (List.getElem_mem hv)⟩
def badV (p : PV) : Prop := ∀ n, evF pg (n + 2) (.fn "is_table") [.val p] = .ok (.val (.bl false)) none
theorem blt_listT (xs : List PV) : bltV "list" [.tup xs] = some (.lst xs) := bltV_list _
theorem a16 {d : DS} (hd : d.ok) (t : List (List Int)) (w : Nat) (hg : goodT t w) (ht : t ≠ []) (x0 x2 x4 x5 x6 x7 x8 x9 x10 x11 x12 x13 x14 x15 : Option Cell) : ∃ (p : PV) (d' : DS), evS (pg.sem 40) s_law_2_16 [x0, dC d, x2, some (.fz (tR t)), x4, x5, x6, x7, x8, x9, x10, x11, x12, x13, x14, x15, none, none] =
    .ok (.nx, [x0, dC d', x2, some (.fz (tR t)), x4, x5, x6, x7, x8, x9, x10, some (.fz p), x12, x13, x14, x15, none, none]) ∧ badV p ∧ d'.ok := by
  obtain ⟨v, d1, e1, b1, k1⟩ := r_draw 39 hd (L := 7) (by decide)
  simp only [cellD, Nat.reduceAdd] at e1
  obtain ⟨r0, hr0', e5⟩ : ∃ r0 ∈ t, atI (t.map iR) 0 = some (iR r0) := by
    cases t with
    | nil => exact absurd rfl ht
    | cons r t' => exact ⟨r, List.mem_cons_self, at_head _ _⟩
  have hr0 := hg.1 r0 hr0'
  have hl := hg.2.1
  have hw := hg.2.2
  have e2 : PV.tup (t.map iR ++ [.tup (r0.map .int ++ [.int 1])]) = tR (t ++ [r0 ++ [1]]) := by
    unfold tR
    rw [List.map_append]
    show PV.tup (_ ++ [.tup (r0.map .int ++ [.int 1])]) = PV.tup (_ ++ [iR (r0 ++ [1])])
    unfold iR
    rw [List.map_append]
    rfl
  have hb : ∀ p ∈ [PV.non, .lst (t.map iR), .tup [.int 1], .tup (t.map iR ++ [.tup (r0.map .int ++ [.int 1])]), .tup [.tup [.bl true]], .tup [.tup [.str "1"]], .tup [.str "ab"]], badV p := by
    refine all_cons (fun n => r_isT_non n) (all_cons (fun n => r_isT_lst n _) (all_cons (fun n => r_isT_one n _ rfl) (all_cons (fun n => ?_) (all_cons (fun n => r_isT_two n _ (r_wh_bl n _)) (all_cons (fun n => r_isT_two n _ (r_wh_str n _)) (all_cons (fun n => r_isT_one n _ rfl) all_nil))))))
    rw [e2]
    exact r_isT_odd n hg ht _ (by rw [List.length_append, hr0]; rfl)
  obtain ⟨p, e3, e4⟩ := seven hb (v := v) (by show v < 7; omega)
  refine ⟨p, d1, ?_, e4, k1⟩
  have z1 : (r0.map PV.int).length + ([PV.int 1] : List PV).length ≤ sizeLine := sz1 (by rw [List.length_map, hr0]; show w + 1 ≤ _; omega)
  have z2 : (t.map iR).length + ([PV.tup (r0.map .int ++ [.int 1])] : List PV).length ≤ sizeLine := sz1 (by rw [List.length_map]; show t.length + 1 ≤ _; omega)
  simp only [↓toB, RU, Nat.reduceAdd, Nat.reduceSub, Nat.reduceLT, Nat.reduceLeDiff, Nat.reduceEqDiff, true_and, and_true, if_true, if_false, reduceIte, Bool.false_eq_true, reduceCtorEq, Int.reduceNeg, s_law_2_16, dC, blt_listT, bo_addt _ _ z1, bo_addt _ _ z2, e5, e1, e3]
theorem a17 {p : PV} (hp : badV p) (x0 x1 x2 x3 x4 x5 x6 x7 x8 x9 x10 x12 x13 x14 x15 : Option Cell) : evS (pg.sem 40) s_law_2_17 [x0, x1, x2, x3, x4, x5, x6, x7, x8, x9, x10, some (.fz p), x12, x13, x14, x15, none, none] =
    .ok (.nx, [x0, x1, x2, x3, x4, x5, x6, x7, x8, x9, x10, some (.fz p), x12, x13, x14, x15, none, none]) := by
  have e1 : evF pg 40 (.fn "is_table") [.val p] = .ok (.val (.bl false)) none := hp 38
  have e2 : evF pg 40 (.fn "_law_bad") [.val p, .val (.bl true)] = .ok (.val (.bl true)) none := r_bad1 34 (hp 36)
  have e3 : evF pg 40 (.fn "_law_bad") [.val p, .val (.bl false)] = .ok (.val (.bl true)) none := r_bad0 34 (hp 34)
  simp only [↓toB, RU, Nat.reduceAdd, Nat.reduceSub, Nat.reduceLT, Nat.reduceLeDiff, Nat.reduceEqDiff, true_and, and_true, if_true, if_false, reduceIte, Bool.false_eq_true, reduceCtorEq, Int.reduceNeg, s_law_2_17, e1, e2, e3, decide_true]
end PL
set_option Elab.async false
set_option linter.all false
set_option maxRecDepth 100000
set_option maxHeartbeats 4000000
namespace PL
open PySem PySem.Spec PyProof.Rows L2
theorem ss_step {F : Sem} {s : S} {ss : Ss} {env env' : Env} {r : Res (Fl × Env)} (h : evS F s env = .ok (.nx, env')) (h2 : evSs F ss env' = r) : evSs F (.cons s ss) env = r := by
  rw [ss_cons, h]
  exact h2
/-- between the turns -/
def LInv (x0 : Option Cell) (env : Env) : Prop := ∃ (d : DS) (x2 x3 x4 x5 x6 x7 x8 x9 x10 x11 x12 x13 x14 x15 : Option Cell), env = [x0, dC d, x2, x3, x4, x5, x6, x7, x8, x9, x10, x11, x12, x13, x14, x15, none, none] ∧ d.ok ∧ (x10 = none ∨ ∃ p, x10 = some (.fz p)) ∧ (x14 = none ∨ ∃ p, x14 = some (.fz p))
abbrev lawB : Ss := .cons s_law_2_1 (.cons s_law_2_2 (.cons s_law_2_3 (.cons s_law_2_4 (.cons s_law_2_5 (.cons s_law_2_6 (.cons s_law_2_7 (.cons s_law_2_8 (.cons s_law_2_9 (.cons s_law_2_10 (.cons s_law_2_11 (.cons s_law_2_12 (.cons s_law_2_13 (.cons s_law_2_14 (.cons s_law_2_15 (.cons s_law_2_16 (.cons s_law_2_17 .nil))))))))))))))))
theorem turn_ok (x0 : Option Cell) (env : Env) (h : LInv x0 env) : ∃ env', evSs (pg.sem 40) lawB env = .ok (.nx, env') ∧ LInv x0 env' := by
  obtain ⟨d, x2, x3, x4, x5, x6, x7, x8, x9, x10, x11, x12, x13, x14, x15, rfl, hd, h10, h14⟩ := h
  obtain ⟨h, w, d1, s1, hh1, hh2, hw1, hw2, k1⟩ := a1 hd x0 x2 x3 x4 x5 x6 x7 x8 x9 x10 x11 x12 x13 x14 x15
  obtain ⟨t, d2, s2, tl, tr, k2⟩ := a2 k1 hh2 hw2 x0 x2 x3 x4 x5 x6 x7 x8 x9 x10 x11 x14 x15
  have hg : goodT t w := ⟨fun r hr => (tr r hr).1, by omega, by omega⟩
  have st : ∀ r ∈ t, small r := fun r hr => small_of (tr r hr).1 (by omega) (tr r hr).2 (by omega)
  have s3 := a3 (d := d2) hg x0 x2 x4 x5 x6 x7 x8 x9 x10 x11 (some (.fz (.int (h : Int)))) x14 x15 h14
  obtain ⟨r, q, d3, s4, hr, ql, qs, k3⟩ := a4 k2 tl ⟨hh1, hh2⟩ hw2 x0 x2 x4 x5 x6 x7 x8 x9 x10 x11 x14 x15
  have rl := (tr r hr).1
  have sr := st r hr
  have sq : small q := small_of ql (by omega) qs (by omega)
  have rn : r ≠ [] := fun e => by rw [e] at rl; have : (0 : Nat) = w := rl; omega
  have s5 := a5 x0 (dC d3) x2 (some (.fz (tR t))) x4 x5 x6 x7 x8 x9 x10 x11 (some (.fz (.int (h : Int)))) (some (.fz (.int (w : Int)))) (some (.fz (iR r))) (some (.fz (iR q)))
  obtain ⟨p5, s6⟩ := a6 r rn x0 (dC d3) x2 (some (.fz (tR t))) x5 x6 x7 x8 x9 x10 x11 (some (.fz (.int (h : Int)))) (some (.fz (.int (w : Int)))) (some (.fz (iR q)))
  have s7 := a7 r q (by omega) (by omega) x0 (dC d3) x2 (some (.fz (tR t))) (some (.fz p5)) x6 x7 x8 x9 x10 x11 (some (.fz (.int (h : Int)))) (some (.fz (.int (w : Int))))
  have s8 := a8 r p5 x0 (dC d3) x2 (some (.fz (tR t))) (some (.fz (.int (gcdL r)))) x6 x7 x8 x9 x10 x11 (some (.fz (.int (h : Int)))) (some (.fz (.int (w : Int)))) (some (.fz (iR q)))
  have s9 := a9 r sr p5 x0 (dC d3) x2 (some (.fz (tR t))) x7 x8 x9 x10 x11 (some (.fz (.int (h : Int)))) (some (.fz (.int (w : Int)))) (some (.fz (iR q)))
  have s10 := a10 r q w rl ql hw2 sr sq x0 (dC d3) x2 (some (.fz (tR t))) (some (.fz (.int (gcdL r)))) (some (.fz p5)) (some (.lst ((r.filter fun x => !decide (x = 0)).map .int))) x8 x9 x10 x11 (some (.fz (.int (h : Int))))
  have s11 := a11 t q w hg.1 hg.2.1 ql hw2 st sq x0 (dC d3) x2 (some (.fz (.int (gcdL r)))) (some (.fz p5)) (some (.lst ((r.filter fun x => !decide (x = 0)).map .int))) (some (.fz (iR (leastL r)))) x8 x9 x10 x11 (some (.fz (.int (h : Int)))) (some (.fz (iR r))) h10
  obtain ⟨mo, d4, s12, ml, mr, k4⟩ := a12 k3 hw2 x0 x2 (some (.fz (tR t))) (some (.fz (.int (gcdL r)))) (some (.fz p5)) (some (.lst ((r.filter fun x => !decide (x = 0)).map .int))) (some (.fz (iR (leastL r)))) x8 x9 x10 x11 (some (.fz (.int (h : Int)))) (some (.fz (iR r))) (some (.fz (iR q)))
  have s13 := a13 x0 (dC d4) x2 (some (.fz (tR t))) (some (.fz (.int (gcdL r)))) (some (.fz p5)) (some (.lst ((r.filter fun x => !decide (x = 0)).map .int))) (some (.fz (iR (leastL r)))) (some (.fz (tR mo))) x9 x10 x11 (some (.fz (.int (h : Int)))) (some (.fz (.int (w : Int)))) (some (.fz (iR r))) (some (.fz (iR q)))
  obtain ⟨y10, hy10, s14⟩ := a14 mo t w hw2 ml mr (fun l hl => ⟨hg.1 l hl, st l hl⟩) hg.2.1 x0 (dC d4) x2 (some (.fz (.int (gcdL r)))) (some (.fz p5)) (some (.lst ((r.filter fun x => !decide (x = 0)).map .int))) (some (.fz (iR (leastL r)))) x10 x11 (some (.fz (.int (h : Int)))) (some (.fz (iR r))) (some (.fz (iR q)))
  have s15 := a15 mo t w hw2 ml mr (fun l hl => ⟨hg.1 l hl, st l hl⟩) hg.2.1 x0 (dC d4) x2 (some (.fz (.int (gcdL r)))) (some (.fz p5)) (some (.lst ((r.filter fun x => !decide (x = 0)).map .int))) (some (.fz (iR (leastL r)))) y10 x11 (some (.fz (.int (h : Int)))) (some (.fz (.int (w : Int)))) (some (.fz (iR r))) (some (.fz (iR q)))
  have tn : t ≠ [] := fun e => by rw [e] at tl; have : (0 : Nat) = h := tl; omega
  obtain ⟨pb, d5, s16, hb, k5⟩ := a16 k4 t w hg tn x0 x2 (some (.fz (.int (gcdL r)))) (some (.fz p5)) (some (.lst ((r.filter fun x => !decide (x = 0)).map .int))) (some (.fz (iR (leastL r)))) (some (.fz (tR mo))) (some (.lst (t.map fun l => iR (prodR mo l)))) y10 x11 (some (.fz (.int (h : Int)))) (some (.fz (.int (w : Int)))) (some (.fz (iR r))) (some (.fz (iR q)))
  have s17 := a17 hb x0 (dC d5) x2 (some (.fz (tR t))) (some (.fz (.int (gcdL r)))) (some (.fz p5)) (some (.lst ((r.filter fun x => !decide (x = 0)).map .int))) (some (.fz (iR (leastL r)))) (some (.fz (tR mo))) (some (.lst (t.map fun l => iR (prodR mo l)))) y10 (some (.fz (.int (h : Int)))) (some (.fz (.int (w : Int)))) (some (.fz (iR r))) (some (.fz (iR q)))
  refine ⟨_, ss_step s1 (ss_step s2 (ss_step s3 (ss_step s4 (ss_step s5 (ss_step s6 (ss_step s7 (ss_step s8 (ss_step s9 (ss_step s10 (ss_step s11 (ss_step s12 (ss_step s13 (ss_step s14 (ss_step s15 (ss_step s16 (ss_step s17 (ss_nil _ _))))))))))))))))), ?_⟩
  exact ⟨d5, x2, _, _, _, _, _, _, _, y10, _, _, _, _, _, rfl, k5, hy10.elim (fun e => e ▸ h10) .inr, .inr ⟨_, rfl⟩⟩
theorem rng6 (env : Env) : rngB ([.val (.int 6)], env) = .ok ((List.range 6).map fun (k : Nat) => PV.int (k : Int), env) := by
  rw [show (6 : Int) = ((6 : Nat) : Int) from rfl]
  exact rngN 6 env (by omega)
theorem the_law : ∀ ns : List Int, ns.length ≤ 63 → evF pg (40 + 1) (.fn "law") [.val (.scr ns)] = .ok (.val (.bl true)) none := by
  intro ns hn
  rw [c_law]
  have e1 : evF pg 40 (.fn "_law_draws") [.val (.scr ns)] = .ok (.new (cellD ⟨ns, 0, 0, 1⟩)) none := r_draws 39 ns
  have z1 : evS (pg.sem 40) s_law_1 [some (.fz (.scr ns)), none, none, none, none, none, none, none, none, none, none, none, none, none, none, none, none, none] = .ok (.nx, [some (.fz (.scr ns)), dC ⟨ns, 0, 0, 1⟩, none, none, none, none, none, none, none, none, none, none, none, none, none, none, none, none]) := by
    simp only [↓toB, RU, Nat.reduceAdd, Nat.reduceSub, Nat.reduceLT, Nat.reduceLeDiff, Nat.reduceEqDiff, true_and, and_true, if_true, if_false, reduceIte, Bool.false_eq_true, reduceCtorEq, Int.reduceNeg, s_law_1, e1, cellD]
  have i0 : LInv (some (.fz (.scr ns))) [some (.fz (.scr ns)), dC ⟨ns, 0, 0, 1⟩, none, none, none, none, none, none, none, none, none, none, none, none, none, none, none, none] :=
    ⟨⟨ns, 0, 0, 1⟩, none, none, none, none, none, none, none, none, none, none, none, none, none, none, rfl, ⟨hn, Int.le_refl 0, (by show (0 : Int) ≤ 1; decide), (by show (1 : Int) < 2147483647; decide)⟩, .inl rfl, .inl rfl⟩
  obtain ⟨env2, z2, i2⟩ := forGo_all (bind := evTg (pg.sem 40) (.nm 2)) (body := evSs (pg.sem 40) lawB) (items := (List.range 6).map fun (k : Nat) => PV.int (k : Int)) (P := LInv (some (.fz (.scr ns)))) (fun x _ env he => by
    obtain ⟨d, x2, x3, x4, x5, x6, x7, x8, x9, x10, x11, x12, x13, x14, x15, rfl, hd, h10, h14⟩ := he
    obtain ⟨env', t1, t2⟩ := turn_ok (some (.fz (.scr ns))) [some (.fz (.scr ns)), dC d, some (.fz x), x3, x4, x5, x6, x7, x8, x9, x10, x11, x12, x13, x14, x15, none, none] ⟨d, some (.fz x), x3, x4, x5, x6, x7, x8, x9, x10, x11, x12, x13, x14, x15, rfl, hd, h10, h14⟩
    refine ⟨env', ?_, t2⟩
    rw [← t1]
    rfl) i0
  have z3 : evS (pg.sem 40) s_law_2 [some (.fz (.scr ns)), dC ⟨ns, 0, 0, 1⟩, none, none, none, none, none, none, none, none, none, none, none, none, none, none, none, none] = .ok (.nx, env2) := by
    simp only [↓toB, RU, Nat.reduceAdd, Nat.reduceSub, Nat.reduceLT, Nat.reduceLeDiff, Nat.reduceEqDiff, true_and, and_true, if_true, if_false, reduceIte, Bool.false_eq_true, reduceCtorEq, Int.reduceNeg, s_law_2, s_for, rng6]
    exact z2
  have f1 : evF pg 40 (.fn "is_table") [.val (.tup [])] = .ok (.val (.bl true)) none := r_isT_good 38 (t := []) (w := 0) ⟨fun r h => (by cases h), (by decide), (by decide)⟩
  have f2 : evF pg 40 (.fn "is_whole") [.val (.int 3)] = .ok (.val (.bl true)) none := r_wh_int 39 3
  have f3 : evF pg 40 (.fn "is_whole") [.val (.bl true)] = .ok (.val (.bl false)) none := r_wh_bl 39 true
  have f4 : evF pg 40 (.fn "is_whole") [.val (.str "3")] = .ok (.val (.bl false)) none := r_wh_str 39 "3"
  have f5 : evF pg 40 (.fn "shared") [.val (.int 0), .val (.int 0)] = .ok (.val (.int 0)) none := r_shared 39 0 0
  have z4 : evS (pg.sem 40) s_law_3 env2 = .ok (.rt (.val (.bl true)), env2) := by
    simp only [↓toB, RU, Nat.reduceAdd, Nat.reduceSub, Nat.reduceLT, Nat.reduceLeDiff, Nat.reduceEqDiff, true_and, and_true, if_true, if_false, reduceIte, Bool.false_eq_true, reduceCtorEq, Int.reduceNeg, s_law_3, f1, f2, f3, f4, f5, decide_true]
  have all : evSs (pg.sem 40) d_law.body [some (.fz (.scr ns)), none, none, none, none, none, none, none, none, none, none, none, none, none, none, none, none, none] = .ok (.rt (.val (.bl true)), env2) := by
    refine ss_step z1 (ss_step z3 ?_)
    rw [ss_cons, z4]
    rfl
  rw [rd_eq, if_pos ⟨rfl, by decide⟩, show env0 d_law [.val (.scr ns)] = [some (.fz (.scr ns)), none, none, none, none, none, none, none, none, none, none, none, none, none, none, none, none, none] from rfl, all]
  rfl
end PL
namespace PL
open PySem PySem.Spec PyProof.Rows L2
theorem all_mk {l : PySem.W.OpenLaw} {w : World} {K : PySem.W.Frag} {h : Heap} {mg : Str → Option Value} {fa : Addr} (X : K.In h) (G : h.Ns mainGlobals mg) (hfa : mg "law" = some (.ref fa))
    (D_is_whole : DF K "is_whole" (topS 4) ["value"])
    (D_is_table : DF K "is_table" (topS 5) ["value"])
    (D_look_at_table : DF K "look_at_table" (topS 6) ["value"])
    (D_shared : DF K "shared" (topS 7) ["first", "other"])
    (D_shared_of : DF K "shared_of" (topS 8) ["row"])
    (D_least_row : DF K "least_row" (topS 9) ["row"])
    (D_turned : DF K "turned" (topS 10) ["table", "width"])
    (D_dot : DF K "dot" (topS 11) ["first", "other"])
    (D_times : DF K "times" (topS 12) ["table", "row"])
    (D_product : DF K "product" (topS 13) ["first", "other", "width"])
    (D_cleared : DF K "cleared" (topS 14) ["row", "head", "at"])
    (D_reduced : DF K "reduced" (topS 15) ["table"])
    (D_positive : DF K "positive" (topS 16) ["row"])
    (D_rank : DF K "rank" (topS 17) ["table"])
    (D__law_draws : DF K "_law_draws" (topS 19) ["script"])
    (D__law_draw : DF K "_law_draw" (topS 20) ["draws", "limit"])
    (D__law_same : DF K "_law_same" (topS 21) ["actual", "expected"])
    (D__law_table : DF K "_law_table" (topS 22) ["draws", "high", "wide", "most"])
    (D__law_shared : DF K "_law_shared" (topS 25) ["one", "two"])
    (D__law_bad : DF K "_law_bad" (topS 26) ["value", "looked"])
    (D_law : DF K "law" (topS 27) ["script"])
    (z_len : PySem.W.nsIn K mainGlobals "len" = some none)
    (z_abs : PySem.W.nsIn K mainGlobals "abs" = some none)
    (z_min : PySem.W.nsIn K mainGlobals "min" = some none)
    (z_max : PySem.W.nsIn K mainGlobals "max" = some none)
    (z_sum : PySem.W.nsIn K mainGlobals "sum" = some none)
    (z_all : PySem.W.nsIn K mainGlobals "all" = some none)
    (z_any : PySem.W.nsIn K mainGlobals "any" = some none)
    (z_tuple : PySem.W.nsIn K mainGlobals "tuple" = some none)
    (z_list : PySem.W.nsIn K mainGlobals "list" = some none)
    (z_int : PySem.W.nsIn K mainGlobals "int" = some none)
    (z_isinstance : PySem.W.nsIn K mainGlobals "isinstance" = some none)
    (z_bool : PySem.W.nsIn K mainGlobals "bool" = some none)
    (z_str : PySem.W.nsIn K mainGlobals "str" = some none)
    (z_dict : PySem.W.nsIn K mainGlobals "dict" = some none)
    (z_range : PySem.W.nsIn K mainGlobals "range" = some none)
    (z_zip : PySem.W.nsIn K mainGlobals "zip" = some none)
    (z_enumerate : PySem.W.nsIn K mainGlobals "enumerate" = some none)
    (E_FrameError : ExN K "FrameError")
    (E_BadRows : ExN K "BadRows")
    (S_0 : SubN K "FrameError" "FrameError" true)
    (S_1 : SubN K "FrameError" "BadRows" false)
    (S_2 : SubN K "BadRows" "FrameError" true)
    (S_3 : SubN K "BadRows" "BadRows" true)
    : ∃ fd : FuncData, (∀ (s : Shared) (u : Value), BindsTo s fd ⟨[u], []⟩ [("script", u)]) ∧ ∀ base : Heap, K.In base → base.Ns mainGlobals mg → FnOk l.prog w K mg base (L2.CX l.prog w) (40 + 1) fa fd ["script"] (spLaw K) := by
  have T : Top pg cfg K mg := {
    blts := all_cons (PySem.W.mg_none_of X G z_len) (all_cons (PySem.W.mg_none_of X G z_abs) (all_cons (PySem.W.mg_none_of X G z_min) (all_cons (PySem.W.mg_none_of X G z_max) (all_cons (PySem.W.mg_none_of X G z_sum) (all_cons (PySem.W.mg_none_of X G z_all) (all_cons (PySem.W.mg_none_of X G z_any) (all_cons (PySem.W.mg_none_of X G z_tuple) (all_cons (PySem.W.mg_none_of X G z_list) (all_cons (PySem.W.mg_none_of X G z_int) (all_cons (PySem.W.mg_none_of X G z_isinstance) (all_cons (PySem.W.mg_none_of X G z_bool) (all_cons (PySem.W.mg_none_of X G z_str) (all_cons (PySem.W.mg_none_of X G z_dict) (all_cons (PySem.W.mg_none_of X G z_range) (all_cons (PySem.W.mg_none_of X G z_zip) (all_cons (PySem.W.mg_none_of X G z_enumerate) (all_nil)))))))))))))))))
    defs := all_cons (D_is_whole.ok X G _ 60 sc_is_whole (by decide) tr_is_whole) (all_cons (D_is_table.ok X G _ 60 sc_is_table (by decide) tr_is_table) (all_cons (D_look_at_table.ok X G _ 60 sc_look_at_table (by decide) tr_look_at_table) (all_cons (D_shared.ok X G _ 60 sc_shared (by decide) tr_shared) (all_cons (D_shared_of.ok X G _ 60 sc_shared_of (by decide) tr_shared_of) (all_cons (D_least_row.ok X G _ 60 sc_least_row (by decide) tr_least_row) (all_cons (D_turned.ok X G _ 60 sc_turned (by decide) tr_turned) (all_cons (D_dot.ok X G _ 60 sc_dot (by decide) tr_dot) (all_cons (D_times.ok X G _ 60 sc_times (by decide) tr_times) (all_cons (D_product.ok X G _ 60 sc_product (by decide) tr_product) (all_cons (D_cleared.ok X G _ 60 sc_cleared (by decide) tr_cleared) (all_cons (D_reduced.ok X G _ 60 sc_reduced (by decide) tr_reduced) (all_cons (D_positive.ok X G _ 60 sc_positive (by decide) tr_positive) (all_cons (D_rank.ok X G _ 60 sc_rank (by decide) tr_rank) (all_cons (D__law_draws.ok X G _ 60 sc__law_draws (by decide) tr__law_draws) (all_cons (D__law_draw.ok X G _ 60 sc__law_draw (by decide) tr__law_draw) (all_cons (D__law_same.ok X G _ 60 sc__law_same (by decide) tr__law_same) (all_cons (D__law_table.ok X G _ 60 sc__law_table (by decide) tr__law_table) (all_cons (D__law_shared.ok X G _ 60 sc__law_shared (by decide) tr__law_shared) (all_cons (D__law_bad.ok X G _ 60 sc__law_bad (by decide) tr__law_bad) (all_cons (D_law.ok X G _ 60 sc_law (by decide) tr_law) (all_nil)))))))))))))))))))))
    con := fun x p h => by cases h
    excs := all_cons (E_FrameError.f X G) (all_cons (E_BadRows.f X G) (all_nil))
    subs := by
      intro C C' b h
      have h := sub_of h
      rcases h with ⟨rfl, rfl, rfl⟩ | ⟨rfl, rfl, rfl⟩ | ⟨rfl, rfl, rfl⟩ | ⟨rfl, rfl, rfl⟩
      · exact S_0.ok E_FrameError X G
      · exact S_1.ok E_BadRows X G
      · exact S_2.ok E_FrameError X G
      · exact S_3.ok E_BadRows X G
  }
  exact law_fn T 40 D_law X G hfa sc_law (by decide) tr_law the_law
end PL
open PySem PySem.W PyProof.Rows
set_option maxRecDepth 100000 in
set_option maxHeartbeats 0 in
theorem PySem.Challenge.cw_frameshold_k00_tables_and_least_rows_holds : PySem.Challenge.rw_frameshold_k00_tables_and_least_rows.Holds := by
  w_on; o_law; k_head; (case hw => w_witness2)
  k_fill
  refine PL.law_walk (l := PySem.Challenge.rw_frameshold_k00_tables_and_least_rows) (k := 40 + 1) rfl rfl ⟨rfl, by decide, by decide⟩ (fun w h Y => by first | exact PySem.W.km_in_of Y | exact PySem.W.kIn_of Y) ?F
  case F =>
    intro w mg fa h KX G hmg
    refine' PL.all_mk KX G hmg ?D_is_whole ?D_is_table ?D_look_at_table ?D_shared ?D_shared_of ?D_least_row ?D_turned ?D_dot ?D_times ?D_product ?D_cleared ?D_reduced ?D_positive ?D_rank ?D__law_draws ?D__law_draw ?D__law_same ?D__law_table ?D__law_shared ?D__law_bad ?D_law ?z_len ?z_abs ?z_min ?z_max ?z_sum ?z_all ?z_any ?z_tuple ?z_list ?z_int ?z_isinstance ?z_bool ?z_str ?z_dict ?z_range ?z_zip ?z_enumerate ?E_FrameError ?E_BadRows ?S_0 ?S_1 ?S_2 ?S_3
    (case D_is_whole => (refine' PL.df_mk ?a ?l ?c ?k fun _ _ _ _ _ _ us hl => (match us, hl with | [_], _ => rfl)); (case a => k_is); (case l => k_is); (case c => k_is); (case k => k_is))
    (case D_is_table => (refine' PL.df_mk ?a ?l ?c ?k fun _ _ _ _ _ _ us hl => (match us, hl with | [_], _ => rfl)); (case a => k_is); (case l => k_is); (case c => k_is); (case k => k_is))
    (case D_look_at_table => (refine' PL.df_mk ?a ?l ?c ?k fun _ _ _ _ _ _ us hl => (match us, hl with | [_], _ => rfl)); (case a => k_is); (case l => k_is); (case c => k_is); (case k => k_is))
    (case D_shared => (refine' PL.df_mk ?a ?l ?c ?k fun _ _ _ _ _ _ us hl => (match us, hl with | [_, _], _ => rfl)); (case a => k_is); (case l => k_is); (case c => k_is); (case k => k_is))
    (case D_shared_of => (refine' PL.df_mk ?a ?l ?c ?k fun _ _ _ _ _ _ us hl => (match us, hl with | [_], _ => rfl)); (case a => k_is); (case l => k_is); (case c => k_is); (case k => k_is))
    (case D_least_row => (refine' PL.df_mk ?a ?l ?c ?k fun _ _ _ _ _ _ us hl => (match us, hl with | [_], _ => rfl)); (case a => k_is); (case l => k_is); (case c => k_is); (case k => k_is))
    (case D_turned => (refine' PL.df_mk ?a ?l ?c ?k fun _ _ _ _ _ _ us hl => (match us, hl with | [_, _], _ => rfl)); (case a => k_is); (case l => k_is); (case c => k_is); (case k => k_is))
    (case D_dot => (refine' PL.df_mk ?a ?l ?c ?k fun _ _ _ _ _ _ us hl => (match us, hl with | [_, _], _ => rfl)); (case a => k_is); (case l => k_is); (case c => k_is); (case k => k_is))
    (case D_times => (refine' PL.df_mk ?a ?l ?c ?k fun _ _ _ _ _ _ us hl => (match us, hl with | [_, _], _ => rfl)); (case a => k_is); (case l => k_is); (case c => k_is); (case k => k_is))
    (case D_product => (refine' PL.df_mk ?a ?l ?c ?k fun _ _ _ _ _ _ us hl => (match us, hl with | [_, _, _], _ => rfl)); (case a => k_is); (case l => k_is); (case c => k_is); (case k => k_is))
    (case D_cleared => (refine' PL.df_mk ?a ?l ?c ?k fun _ _ _ _ _ _ us hl => (match us, hl with | [_, _, _], _ => rfl)); (case a => k_is); (case l => k_is); (case c => k_is); (case k => k_is))
    (case D_reduced => (refine' PL.df_mk ?a ?l ?c ?k fun _ _ _ _ _ _ us hl => (match us, hl with | [_], _ => rfl)); (case a => k_is); (case l => k_is); (case c => k_is); (case k => k_is))
    (case D_positive => (refine' PL.df_mk ?a ?l ?c ?k fun _ _ _ _ _ _ us hl => (match us, hl with | [_], _ => rfl)); (case a => k_is); (case l => k_is); (case c => k_is); (case k => k_is))
    (case D_rank => (refine' PL.df_mk ?a ?l ?c ?k fun _ _ _ _ _ _ us hl => (match us, hl with | [_], _ => rfl)); (case a => k_is); (case l => k_is); (case c => k_is); (case k => k_is))
    (case D__law_draws => (refine' PL.df_mk ?a ?l ?c ?k fun _ _ _ _ _ _ us hl => (match us, hl with | [_], _ => rfl)); (case a => k_is); (case l => k_is); (case c => k_is); (case k => k_is))
    (case D__law_draw => (refine' PL.df_mk ?a ?l ?c ?k fun _ _ _ _ _ _ us hl => (match us, hl with | [_, _], _ => rfl)); (case a => k_is); (case l => k_is); (case c => k_is); (case k => k_is))
    (case D__law_same => (refine' PL.df_mk ?a ?l ?c ?k fun _ _ _ _ _ _ us hl => (match us, hl with | [_, _], _ => rfl)); (case a => k_is); (case l => k_is); (case c => k_is); (case k => k_is))
    (case D__law_table => (refine' PL.df_mk ?a ?l ?c ?k fun _ _ _ _ _ _ us hl => (match us, hl with | [_, _, _, _], _ => rfl)); (case a => k_is); (case l => k_is); (case c => k_is); (case k => k_is))
    (case D__law_shared => (refine' PL.df_mk ?a ?l ?c ?k fun _ _ _ _ _ _ us hl => (match us, hl with | [_, _], _ => rfl)); (case a => k_is); (case l => k_is); (case c => k_is); (case k => k_is))
    (case D__law_bad => (refine' PL.df_mk ?a ?l ?c ?k fun _ _ _ _ _ _ us hl => (match us, hl with | [_, _], _ => rfl)); (case a => k_is); (case l => k_is); (case c => k_is); (case k => k_is))
    (case D_law => (refine' PL.df_mk ?a ?l ?c ?k fun _ _ _ _ _ _ us hl => (match us, hl with | [_], _ => rfl)); (case a => k_is); (case l => k_is); (case c => k_is); (case k => k_is))
    (case z_len => k_is)
    (case z_abs => k_is)
    (case z_min => k_is)
    (case z_max => k_is)
    (case z_sum => k_is)
    (case z_all => k_is)
    (case z_any => k_is)
    (case z_tuple => k_is)
    (case z_list => k_is)
    (case z_int => k_is)
    (case z_isinstance => k_is)
    (case z_bool => k_is)
    (case z_str => k_is)
    (case z_dict => k_is)
    (case z_range => k_is)
    (case z_zip => k_is)
    (case z_enumerate => k_is)
    (case E_FrameError => (refine' PL.exn_mk PySem.F.excBase_ValueError ?xaFrameError ?xqFrameError ?xkFrameError ?xbFrameError ?xtFrameError ?xiFrameError); (case xaFrameError => k_is); (case xqFrameError => k_exc); (case xkFrameError => k_is); (case xbFrameError => k_is); (case xtFrameError => k_is); (case xiFrameError => k_is))
    (case E_BadRows => (refine' PL.exn_mk PySem.F.excBase_ValueError ?xaBadRows ?xqBadRows ?xkBadRows ?xbBadRows ?xtBadRows ?xiBadRows); (case xaBadRows => k_is); (case xqBadRows => k_exc); (case xkBadRows => k_is); (case xbBadRows => k_is); (case xtBadRows => k_is); (case xiBadRows => k_is))
    (case S_0 => (refine' PL.subn_mk ?sa0 ?sb0 ?sc0); (case sa0 => k_is); (case sb0 => k_is); (case sc0 => first | rfl | k_is))
    (case S_1 => (refine' PL.subn_mk ?sa1 ?sb1 ?sc1); (case sa1 => k_is); (case sb1 => k_is); (case sc1 => first | rfl | k_is))
    (case S_2 => (refine' PL.subn_mk ?sa2 ?sb2 ?sc2); (case sa2 => k_is); (case sb2 => k_is); (case sc2 => first | rfl | k_is))
    (case S_3 => (refine' PL.subn_mk ?sa3 ?sb3 ?sc3); (case sa3 => k_is); (case sb3 => k_is); (case sc3 => first | rfl | k_is))

